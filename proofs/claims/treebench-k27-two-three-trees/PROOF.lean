import PyProof.Rows.All
import Wide.All
import OpenK.AllK
import Wide.FinOn
import HandS.ForMost
import HandS.ForExc
import HandS.ExcInit
import HandS.ExcField
import HandS.TryMany
import HandS.Defaults
import HandS.IsInst
import HandS.Conv
import HandS.Style
import HandS.TupAny
import HandS.TupMul
import HandS.Deep
import HandS.More
import HandS.DictComp
import KE.SortData
import KE.DatumOrd
import HandS.SortRule
import HandS.Flt
import KE.KSortedM
import KE.GoesEnum
import HandS.SetFor
import HandS.Small
import PyProof.DictUpdate
import PyProof.FactsAll.dict_3
import PyProof.FactsAll.dict_4
import HandS.Strs
import HandS.Head0
import HandS.Head1
import HandS.Head2
import HandS.HeadEnd
import HandS.HeadHook1
import HandS.HeadHook2
import HandS.Zip
import PySem.Challenge.RW_treebench_k27_two_three_trees
set_option Elab.async false
set_option linter.all false
set_option maxRecDepth 100000
namespace IR
open PySem PySem.Spec L2

/-- plain data; o: the list is owned by the one who holds it -/
inductive D where
  | non | bl (b : Bool) | int (i : Int) | str (x : Str)
  | tup (xs : List D) | lst (o : Bool) (xs : List D) | dct (o : Bool) (ks : List Key) (vs : List D)
  /-- the law's script -/
  | scr (ns : List Int)
  deriving Inhabited

mutual
/-- nothing owned within -/
def D.pure : D → Bool
  | .tup xs => D.pures xs
  | .lst o xs => !o && D.pures xs
  | .dct o _ vs => !o && D.pures vs
  | .non | .bl _ | .int _ | .str _ | .scr _ => true
def D.pures : List D → Bool
  | [] => true
  | x :: xs => x.pure && D.pures xs
end
mutual
def D.fz : D → D
  | .tup xs => .tup (D.fzs xs)
  | .lst _ xs => .lst false (D.fzs xs)
  | .dct _ ks vs => .dct false ks (D.fzs vs)
  | .non => .non | .bl b => .bl b | .int i => .int i | .str x => .str x | .scr ns => .scr ns
def D.fzs : List D → List D
  | [] => []
  | x :: xs => x.fz :: D.fzs xs
end
mutual
/-- no frozen list within -/
def D.own : D → Bool
  | .tup xs => D.owns xs
  | .lst o xs => o && D.owns xs
  | .dct o _ vs => o && D.owns vs
  | .scr _ => false
  | .non | .bl _ | .int _ | .str _ => true
def D.owns : List D → Bool
  | [] => true
  | x :: xs => x.own && D.owns xs
end

mutual
/-- in the heap H, of which F stays, the value v is d; f: the owned objects within -/
def Rep (K : PySem.W.Frag) (F H : Hp) : D → V → List Addr → Prop
  | .non, v, f => v = .non ∧ f = []
  | .bl b, v, f => v = .bl b ∧ f = []
  | .int i, v, f => v = .int i ∧ f = []
  | .str x, v, f => v = .str x ∧ f = []
  | .tup ds, v, f => ∃ a xs, v = .ref a ∧ SqT K F a xs ∧ Reps K F H ds xs f
  | .lst true ds, v, f => ∃ a xs g, v = .ref a ∧ H a = some (.lst xs) ∧ Reps K F H ds xs g ∧ a ∉ g ∧ f = a :: g
  | .scr ns, v, f => ∃ a, v = .ref a ∧ SqL K F a (ns.map V.int) ∧ f = []
  | .lst false ds, v, f => ∃ a xs, v = .ref a ∧ F a = some (.lst xs) ∧ Reps K F H ds xs [] ∧ f = []
  | .dct true ks ds, v, f => ∃ a kvs g, v = .ref a ∧ H a = some (.dK kvs) ∧ ks = kvs.map (·.1) ∧ Reps K F H ds (kvs.map (·.2)) g ∧ a ∉ g ∧ f = a :: g
  | .dct false ks ds, v, f => ∃ a kvs, v = .ref a ∧ Rd F a (.dK kvs) ∧ ks = kvs.map (·.1) ∧ Reps K F H ds (kvs.map (·.2)) [] ∧ f = []
def Reps (K : PySem.W.Frag) (F H : Hp) : List D → List V → List Addr → Prop
  | [], xs, f => xs = [] ∧ f = []
  | d :: ds, xs, f => ∃ x r f1 f2, xs = x :: r ∧ Rep K F H d x f1 ∧ Reps K F H ds r f2 ∧ (∀ a ∈ f1, a ∉ f2) ∧ f = f1 ++ f2
end

section
variable {K : PySem.W.Frag} {F F' H H' : Hp}
theorem seqT_mono {a : Addr} {xs : List V} (s : Same F F') (h : SqT K F a xs) : SqT K F' a xs := by
  rcases h with (h | ⟨o, h⟩) | h
  · exact .inl (.inl (s _ _ h))
  · exact .inl (.inr ⟨o, s _ _ h⟩)
  · exact .inr h
theorem rd_mono {a : Addr} {u : HO} (s : Same F F') (h : Rd F a u) : Rd F' a u := by
  rcases h with h | ⟨o, h⟩
  · exact .inl (s _ _ h)
  · exact .inr ⟨o, s _ _ h⟩

mutual
theorem Rep.mono (s : Same F F') : ∀ {d : D} {v : V} {f : List Addr}, (∀ a ∈ f, H' a = H a) → Rep K F H d v f → Rep K F' H' d v f
  | .non, _, _, _, h | .bl _, _, _, _, h | .int _, _, _, _, h | .str _, _, _, _, h => h
  | .tup ds, _, _, k, ⟨a, xs, e, hs, hr⟩ => ⟨a, xs, e, seqT_mono s hs, Reps.mono s k hr⟩
  | .lst true ds, _, _, k, ⟨a, xs, g, e, hs, hr, n, ef⟩ => ⟨a, xs, g, e, by rw [k a (by simp [ef])]; exact hs, Reps.mono s (fun b hb => k b (by simp [ef, hb])) hr, n, ef⟩
  | .scr ns, _, _, k, ⟨a, e, hs, ef⟩ => ⟨a, e, s.seq hs, ef⟩
  | .lst false ds, _, _, k, ⟨a, xs, e, hs, hr, ef⟩ => ⟨a, xs, e, s _ _ hs, Reps.mono s (fun b hb => absurd hb (by simp)) hr, ef⟩
  | .dct true ks ds, _, _, k, ⟨a, kvs, g, e, hs, ek, hr, n, ef⟩ => ⟨a, kvs, g, e, by rw [k a (by simp [ef])]; exact hs, ek, Reps.mono s (fun b hb => k b (by simp [ef, hb])) hr, n, ef⟩
  | .dct false ks ds, _, _, k, ⟨a, kvs, e, hs, ek, hr, ef⟩ => ⟨a, kvs, e, rd_mono s hs, ek, Reps.mono s (fun b hb => absurd hb (by simp)) hr, ef⟩
theorem Reps.mono (s : Same F F') : ∀ {ds : List D} {vs : List V} {f : List Addr}, (∀ a ∈ f, H' a = H a) → Reps K F H ds vs f → Reps K F' H' ds vs f
  | [], _, _, _, h => h
  | d :: ds, _, _, k, ⟨x, r, f1, f2, e, h1, h2, dj, ef⟩ => ⟨x, r, f1, f2, e, Rep.mono s (fun a ha => k a (by simp [ef, ha])) h1, Reps.mono s (fun a ha => k a (by simp [ef, ha])) h2, dj, ef⟩
end

/-- what may be owned -/
def MutO : HO → Bool
  | .lst _ => true
  | .dK _ => true
  | _ => false
mutual
theorem Rep.at : ∀ {d : D} {v : V} {f : List Addr}, Rep K F H d v f → ∀ a ∈ f, ∃ o, H a = some o ∧ MutO o = true
  | .non, _, _, h, a, ha | .bl _, _, _, h, a, ha | .int _, _, _, h, a, ha | .str _, _, _, h, a, ha => by rw [h.2] at ha; simp at ha
  | .tup ds, _, _, ⟨_, xs, e, hs, hr⟩, a, ha => Reps.at hr a ha
  | .lst true ds, _, _, ⟨b, xs, g, e, hs, hr, n, ef⟩, a, ha => by
    rw [ef] at ha
    rcases List.mem_cons.mp ha with q | q
    · exact ⟨_, by rw [q]; exact hs, rfl⟩
    · exact Reps.at hr a q
  | .scr ns, _, _, ⟨_, e, hs, ef⟩, a, ha => by rw [ef] at ha; simp at ha
  | .lst false ds, _, _, ⟨_, xs, e, hs, hr, ef⟩, a, ha => by rw [ef] at ha; simp at ha
  | .dct true ks ds, _, _, ⟨b, kvs, g, e, hs, ek, hr, n, ef⟩, a, ha => by
    rw [ef] at ha
    rcases List.mem_cons.mp ha with q | q
    · exact ⟨_, by rw [q]; exact hs, rfl⟩
    · exact Reps.at hr a q
  | .dct false ks ds, _, _, ⟨_, kvs, e, hs, ek, hr, ef⟩, a, ha => by rw [ef] at ha; simp at ha
theorem Reps.at : ∀ {ds : List D} {vs : List V} {f : List Addr}, Reps K F H ds vs f → ∀ a ∈ f, ∃ o, H a = some o ∧ MutO o = true
  | [], _, _, h, a, ha => by rw [h.2] at ha; simp at ha
  | d :: ds, _, _, ⟨x, r, f1, f2, e, h1, h2, dj, ef⟩, a, ha => by
    rw [ef] at ha
    rcases List.mem_append.mp ha with q | q
    · exact Rep.at h1 a q
    · exact Reps.at h2 a q
end
mutual
theorem Rep.nil_of_pure : ∀ {d : D} {v : V} {f : List Addr}, d.pure = true → Rep K F H d v f → f = []
  | .non, _, _, _, h | .bl _, _, _, _, h | .int _, _, _, _, h | .str _, _, _, _, h => h.2
  | .tup ds, _, _, p, ⟨_, xs, e, hs, hr⟩ => Reps.nil_of_pure (by simpa [D.pure] using p) hr
  | .lst true ds, _, _, p, _ => by simp [D.pure] at p
  | .scr ns, _, _, p, ⟨_, e, hs, ef⟩ => ef
  | .lst false ds, _, _, p, ⟨_, xs, e, hs, hr, ef⟩ => ef
  | .dct true ks ds, _, _, p, _ => by simp [D.pure] at p
  | .dct false ks ds, _, _, p, ⟨_, kvs, e, hs, ek, hr, ef⟩ => ef
theorem Reps.nil_of_pure : ∀ {ds : List D} {vs : List V} {f : List Addr}, D.pures ds = true → Reps K F H ds vs f → f = []
  | [], _, _, _, h => h.2
  | d :: ds, _, _, p, ⟨x, r, f1, f2, e, h1, h2, dj, ef⟩ => by
    have q : d.pure = true ∧ D.pures ds = true := by simpa [D.pures] using p
    rw [ef, Rep.nil_of_pure q.1 h1, Reps.nil_of_pure q.2 h2]; rfl
end
mutual
/-- frozen: what was owned stays -/
theorem Rep.fz (s : Same F F') : ∀ {d : D} {v : V} {f : List Addr}, (∀ a ∈ f, F' a = H a) → Rep K F H d v f → Rep K F' H' d.fz v []
  | .non, _, _, _, h | .bl _, _, _, _, h | .int _, _, _, _, h | .str _, _, _, _, h => ⟨h.1, rfl⟩
  | .tup ds, _, _, k, ⟨a, xs, e, hs, hr⟩ => ⟨a, xs, e, seqT_mono s hs, Reps.fz s k hr⟩
  | .lst true ds, _, _, k, ⟨a, xs, g, e, hs, hr, n, ef⟩ => ⟨a, xs, e, by rw [k a (by simp [ef])]; exact hs, Reps.fz s (fun b hb => k b (by simp [ef, hb])) hr, rfl⟩
  | .scr ns, _, _, k, ⟨a, e, hs, ef⟩ => ⟨a, e, s.seq hs, rfl⟩
  | .lst false ds, _, _, k, ⟨a, xs, e, hs, hr, ef⟩ => ⟨a, xs, e, s _ _ hs, Reps.fz s (fun b hb => absurd hb (by simp)) hr, rfl⟩
  | .dct true ks ds, _, _, k, ⟨a, kvs, g, e, hs, ek, hr, n, ef⟩ => ⟨a, kvs, e, .inl (by rw [k a (by simp [ef])]; exact hs), ek, Reps.fz s (fun b hb => k b (by simp [ef, hb])) hr, rfl⟩
  | .dct false ks ds, _, _, k, ⟨a, kvs, e, hs, ek, hr, ef⟩ => ⟨a, kvs, e, rd_mono s hs, ek, Reps.fz s (fun b hb => absurd hb (by simp)) hr, rfl⟩
theorem Reps.fz (s : Same F F') : ∀ {ds : List D} {vs : List V} {f : List Addr}, (∀ a ∈ f, F' a = H a) → Reps K F H ds vs f → Reps K F' H' (D.fzs ds) vs []
  | [], _, _, _, h => ⟨h.1, rfl⟩
  | d :: ds, _, _, k, ⟨x, r, f1, f2, e, h1, h2, dj, ef⟩ => ⟨x, r, [], [], e, Rep.fz s (fun a ha => k a (by simp [ef, ha])) h1, Reps.fz s (fun a ha => k a (by simp [ef, ha])) h2, by simp, rfl⟩
end
mutual
/-- no frozen list within: F may lose lists -/
theorem Rep.thaw (t : ∀ a xs, Rd F a (.tup xs) → Rd F' a (.tup xs)) : ∀ {d : D} {v : V} {f : List Addr}, d.own = true → Rep K F H d v f → Rep K F' H d v f
  | .non, _, _, _, h | .bl _, _, _, _, h | .int _, _, _, _, h | .str _, _, _, _, h => h
  | .tup ds, _, _, p, ⟨a, xs, e, hs, hr⟩ => ⟨a, xs, e, by rcases hs with hs | hs; exact .inl (t _ _ hs); exact .inr hs, Reps.thaw t (by simpa [D.own] using p) hr⟩
  | .lst true ds, _, _, p, ⟨a, xs, g, e, hs, hr, n, ef⟩ => ⟨a, xs, g, e, hs, Reps.thaw t (by simpa [D.own] using p) hr, n, ef⟩
  | .lst false ds, _, _, p, _ => by simp [D.own] at p
  | .dct true ks ds, _, _, p, ⟨a, kvs, g, e, hs, ek, hr, n, ef⟩ => ⟨a, kvs, g, e, hs, ek, Reps.thaw t (by simpa [D.own] using p) hr, n, ef⟩
  | .scr ns, _, _, p, _ => by simp [D.own] at p
  | .dct false ks ds, _, _, p, _ => by simp [D.own] at p
theorem Reps.thaw (t : ∀ a xs, Rd F a (.tup xs) → Rd F' a (.tup xs)) : ∀ {ds : List D} {vs : List V} {f : List Addr}, D.owns ds = true → Reps K F H ds vs f → Reps K F' H ds vs f
  | [], _, _, _, h => h
  | d :: ds, _, _, p, ⟨x, r, f1, f2, e, h1, h2, dj, ef⟩ => by
    have q : d.own = true ∧ D.owns ds = true := by simpa [D.owns] using p
    exact ⟨x, r, f1, f2, e, Rep.thaw t q.1 h1, Reps.thaw t q.2 h2, dj, ef⟩
end
mutual
theorem D.fz_pure : ∀ d : D, d.fz.pure = true
  | .non | .bl _ | .int _ | .str _ | .scr _ => rfl
  | .tup xs => by simp only [D.fz, D.pure]; exact D.fzs_pure xs
  | .lst _ xs => by simp only [D.fz, D.pure, D.fzs_pure xs]; rfl
  | .dct _ ks xs => by simp only [D.fz, D.pure, D.fzs_pure xs]; rfl
theorem D.fzs_pure : ∀ ds : List D, D.pures (D.fzs ds) = true
  | [] => rfl
  | d :: ds => by simp only [D.fzs, D.pures, D.fz_pure d, D.fzs_pure ds]; rfl
end
mutual
theorem D.fz_of_pure : ∀ d : D, d.pure = true → d.fz = d
  | .non, _ | .bl _, _ | .int _, _ | .str _, _ | .scr _, _ => rfl
  | .tup xs, p => by simp only [D.fz]; rw [D.fzs_of_pure xs (by simpa [D.pure] using p)]
  | .lst o xs, p => by
    have q : o = false ∧ D.pures xs = true := by simpa [D.pure] using p
    simp only [D.fz]; rw [D.fzs_of_pure xs q.2, q.1]
  | .dct o ks xs, p => by
    have q : o = false ∧ D.pures xs = true := by simpa [D.pure] using p
    simp only [D.fz]; rw [D.fzs_of_pure xs q.2, q.1]
theorem D.fzs_of_pure : ∀ ds : List D, D.pures ds = true → D.fzs ds = ds
  | [], _ => rfl
  | d :: ds, p => by
    have q : d.pure = true ∧ D.pures ds = true := by simpa [D.pures] using p
    simp only [D.fzs]; rw [D.fz_of_pure d q.1, D.fzs_of_pure ds q.2]
end
theorem Reps.length : ∀ {ds : List D} {vs : List V} {f : List Addr}, Reps K F H ds vs f → vs.length = ds.length
  | [], _, _, h => by rw [h.1]; rfl
  | d :: ds, _, _, ⟨x, r, f1, f2, e, h1, h2, dj, ef⟩ => by rw [e, List.length_cons, List.length_cons, Reps.length h2]
/-- pure data: the heap's changes do not matter -/
theorem Rep.keep {d : D} {v : V} (p : d.pure = true) (s : Same F F') {f : List Addr} (h : Rep K F H d v f) : Rep K F' H' d v f := by
  have e := Rep.nil_of_pure p h
  subst e
  exact h.mono s (fun a ha => absurd ha (by simp))
theorem Reps.keep {ds : List D} {vs : List V} (p : D.pures ds = true) (s : Same F F') {f : List Addr} (h : Reps K F H ds vs f) : Reps K F' H' ds vs f := by
  have e := Reps.nil_of_pure p h
  subst e
  exact h.mono s (fun a ha => absurd ha (by simp))
theorem Reps.get : ∀ {ds : List D} {vs : List V} {f : List Addr} {i : Nat} {d : D}, Reps K F H ds vs f → ds[i]? = some d → ∃ v g, vs[i]? = some v ∧ Rep K F H d v g ∧ ∀ a ∈ g, a ∈ f
  | [], _, _, _, _, h, e => by simp at e
  | d :: ds, _, _, 0, d', ⟨x, r, f1, f2, e, h1, h2, dj, ef⟩, ed => by
    have q : d = d' := by simpa using ed
    subst q
    exact ⟨x, f1, by rw [e]; rfl, h1, fun a ha => by rw [ef]; simp [ha]⟩
  | d :: ds, _, _, i + 1, d', ⟨x, r, f1, f2, e, h1, h2, dj, ef⟩, ed => by
    obtain ⟨v, g, q1, q2, q3⟩ := Reps.get (i := i) h2 (by simpa using ed)
    exact ⟨v, g, by rw [e]; simpa using q1, q2, fun a ha => by rw [ef]; simp [q3 a ha]⟩
theorem Reps.append : ∀ {ds : List D} {vs : List V} {f : List Addr} {es : List D} {us : List V} {g : List Addr}, Reps K F H ds vs f → Reps K F H es us g → (∀ a ∈ f, a ∉ g) → Reps K F H (ds ++ es) (vs ++ us) (f ++ g)
  | [], _, _, _, _, _, h, h', _ => by rw [h.1, h.2]; exact h'
  | d :: ds, _, _, es, us, g, ⟨x, r, f1, f2, e, h1, h2, dj, ef⟩, h', k => by
    subst e ef
    refine ⟨x, r ++ us, f1, f2 ++ g, rfl, h1, Reps.append h2 h' fun a ha => k a (by simp [ha]), fun a ha hb => ?_, by simp⟩
    rcases List.mem_append.mp hb with q | q
    · exact dj a ha q
    · exact k a (by simp [ha]) q
theorem Reps.one {d : D} {v : V} {f : List Addr} (h : Rep K F H d v f) : Reps K F H [d] [v] f := ⟨v, [], f, [], rfl, h, ⟨rfl, rfl⟩, by simp, by simp⟩
end
end IR
namespace IR
open PySem PySem.Spec L2

/-! ### the language -/
inductive O1 where | neg
  deriving DecidableEq
inductive O2 where | add | sub | mul | fdv | mod | pow | band | eq | ne | lt | le | gt | ge | is_ | isN | in_ | nin | idx
  deriving DecidableEq
inductive Bl where | len | abs | int | list | tuple | all | any | sum | min | max | sorted | lset | sset | lrange | trange
  deriving DecidableEq
inductive ItK where | e | rng | enm | zp
  deriving DecidableEq
inductive Tg where | nm (i : Nat) | tp (is : List Nat) | tn (i : Nat) (js : List Nat)
  deriving DecidableEq
/-- how a name that holds owned data is read: as an operand (looked at when it is used), kept by both (frozen), moved out -/
inductive Md where | opd | esc | mov
  deriving DecidableEq
inductive Lit where | non | bl (b : Bool) | int (i : Int) | str (x : Str)
  deriving DecidableEq
def Lit.d : Lit → D
  | .non => .non | .bl b => .bl b | .int i => .int i | .str x => .str x

inductive E where
  | var (i : Nat) | lit (c : Lit) | gl (n : Nat)
  | op1 (o : O1) (a : E) | op2 (o : O2) (a b : E) | bl (o : Bl) (es : E) | isi (one : Bool) (ts : List String) (a : E)
  | and (a b : E) | or (a b : E) | not (a : E) | ite (c a b : E) | chn (o1 o2 : O2) (a b c : E)
  | tup (es : E) | lst (es : E) | dct0 | dct1 (es : E) | dget (i : Nat) (es : E)
  | slc (a lo hi : E) | rev (a : E)
  | call (f : Nat) (es : E) | callK (f : Nat) (ks : List Nat) (es kws : E)
  | pop (i : Nat) (es : E)
  | lc (tg : Tg) (k : ItK) (it cond elt : E)
  | lc2 (tg1 : Tg) (k1 : ItK) (it1 c1 : E) (tg2 : Tg) (k2 : ItK) (it2 c2 elt : E)
  /-- a test's truth -/
  | tru (a : E)
  /-- what is told, kept for good -/
  | frz (a : E)
  | nil | cons (e es : E)

def E.len : E → Nat
  | .cons _ es => es.len + 1
  | _ => 0
inductive S where
  | nop | seq (a b : S)
  | set (i : Nat) (e : E) | unp (ts : E) (e : E) | sti (i : Nat) (k e : E) | swp (i : Nat) (k1 k2 e1 e2 : E)
  | exp (e : E) | app (i : Nat) (e : E) | ext (i : Nat) (e : E) | dupd (i j : Nat)
  | iff (c : E) (a b : S) | whl (c : E) (b : S) | for_ (tg : Tg) (k : ItK) (it : E) (b : S) | forD (tg : Tg) (i : Nat) (b : S) | brk | cont
  | ret (e : E) | rais (c : Nat) (es : E) | tryy (b : S) (hs : S) | hd (c : Nat) (o : Option Nat) (e : S) (r : S) | never

/-! ### values -/
abbrev Ev := List (Option D)
inductive Opd where | ref (i : Nat) | tmp (d : D)
def Opd.get (δ : Ev) : Opd → Option D
  | .ref i => (δ[i]?).join
  | .tmp d => some d
def gets (δ : Ev) : List Opd → Option (List D)
  | [] => some []
  | o :: os => match o.get δ, gets δ os with
    | some d, some ds => some (d :: ds)
    | _, _ => none

/-- temporary ones alone -/
def tmps : List Opd → Option (List D)
  | [] => some []
  | .tmp d :: os => (tmps os).map (d :: ·)
  | .ref _ :: _ => none

inductive R (α : Type) where
  | ok (a : α) (δ : Ev) | err (c : Nat) (g : List D) (δ : Ev) | stuck
def R.bind {α β : Type} (r : R α) (f : α → Ev → R β) : R β := match r with
  | .ok a δ => f a δ
  | .err c g δ => .err c g δ
  | .stuck => .stuck
def R.noerr {α : Type} (r : R α) : R α := match r with
  | .ok a δ => .ok a δ
  | .err _ _ _ => .stuck
  | .stuck => .stuck
def ofO {α : Type} (o : Option α) (δ : Ev) : R α := match o with
  | some a => .ok a δ
  | none => .stuck

/-! ### operators on data -/
mutual
def D.py : D → Option PyData
  | .non => some .none | .bl b => some (.bool b) | .int i => some (.int i) | .str x => some (.str x)
  | .tup xs => (D.pys xs).map .tuple
  | .lst _ xs => (D.pys xs).map .list
  | .dct _ _ _ => none
  | .scr _ => none
def D.pys : List D → Option (List PyData)
  | [] => some []
  | x :: xs => match x.py, D.pys xs with
    | some y, some ys => some (y :: ys)
    | _, _ => none
end
/-- == with an empty dict -/
def dEq0 : D → Option Bool
  | .dct _ [] _ => some true
  | .dct _ (_ :: _) _ => some false
  | .scr _ => none
  | _ => some false
def isD0 : D → Bool
  | .dct _ [] _ => true
  | _ => false
def dEq (a b : D) : Option Bool := if isD0 b then dEq0 a else match a.py, b.py with
  | some x, some y => if SeqAt.shaped x && SeqAt.shaped y then some (PyData.eqv x y) else none
  | _, _ => match a, b with
    | .lst _ xs, .lst _ ys => if xs.length = ys.length then none else some false
    | _, _ => none
def isFlat : D → Bool
  | .non | .bl _ | .int _ | .str _ => true
  | _ => false
def eqFlat : D → D → Bool
  | .non, .non => true
  | .bl a, .bl b => a == b
  | .bl a, .int b => (if a then 1 else 0) == b
  | .int a, .bl b => a == (if b then 1 else 0)
  | .int a, .int b => a == b
  | .str a, .str b => a == b
  | _, _ => false
def big : Nat := 1000000
/-- the place that an index of any sign means -/
def getI (xs : List D) (i : Int) : Option D := atI xs i
def run1 : O1 → D → Option D
  | .neg, .int i => some (.int (-i))
  | _, _ => none
def run2 : O2 → D → D → Option D
  | .add, .int i, .int j => some (.int (i + j))
  | .add, .lst _ xs, .lst _ ys => if D.pures xs && D.pures ys && decide (xs.length + ys.length ≤ big) then some (.lst true (xs ++ ys)) else none
  | .add, .tup xs, .tup ys => if D.pures xs && D.pures ys && decide (xs.length + ys.length ≤ big) then some (.tup (xs ++ ys)) else none
  | .sub, .int i, .int j => some (.int (i - j))
  | .mul, .int i, .int j => if (decide (-(2 ^ 64) < i) && decide (i < 2 ^ 64)) || (decide (-(2 ^ 64) < j) && decide (j < 2 ^ 64)) then some (.int (i * j)) else none
  | .mul, .lst _ xs, .int k => if D.pures xs && decide (0 ≤ k) && decide (k ≤ 1000) && decide (xs.length ≤ 1000) then some (.lst true (List.replicate k.toNat xs).flatten) else none
  | .mul, .tup xs, .int k => if D.pures xs && decide (xs ≠ []) && decide (0 ≤ k) && decide (k ≤ 1000) && decide (xs.length ≤ 1000) then some (.tup (List.replicate k.toNat xs).flatten) else none
  | .fdv, .int i, .int j => if decide (0 < j) && decide (j < 1073741824) then some (.int (i / j)) else none
  | .mod, .int i, .int j => if decide (0 < j) then some (.int (i % j)) else none
  | .pow, .int i, .int j => if decide (0 ≤ j) && decide (j ≤ 1000) && decide (i.natAbs < 2 ^ 64) then some (.int (i ^ j.toNat)) else none
  | .band, .int i, .int j => some (.int (Builtin.bitAnd i j))
  | .eq, a, b => (dEq a b).map .bl
  | .ne, a, b => (dEq a b).map fun k => .bl (!k)
  | .lt, .int i, .int j => some (.bl (decide (i < j)))
  | .le, .int i, .int j => some (.bl (decide (i ≤ j)))
  | .gt, .int i, .int j => some (.bl (decide (j < i)))
  | .ge, .int i, .int j => some (.bl (decide (j ≤ i)))
  | .is_, .bl a, .bl b => some (.bl (decide (a = b)))
  | .is_, .non, .non => some (.bl true)
  | .is_, .bl _, .non | .is_, .int _, .non | .is_, .str _, .non | .is_, .tup _, .non | .is_, .lst _ _, .non | .is_, .dct _ _ _, .non | .is_, .scr _, .non => some (.bl false)
  | .isN, .bl a, .bl b => some (.bl (!decide (a = b)))
  | .isN, .non, .non => some (.bl false)
  | .isN, .bl _, .non | .isN, .int _, .non | .isN, .str _, .non | .isN, .tup _, .non | .isN, .lst _ _, .non | .isN, .dct _ _ _, .non | .isN, .scr _, .non => some (.bl true)
  | .in_, x, .lst _ ys => if isFlat x && ys.all isFlat then some (.bl (ys.any fun y => eqFlat y x)) else none
  | .in_, x, .tup ys => if isFlat x && ys.all isFlat then some (.bl (ys.any fun y => eqFlat y x)) else none
  | .nin, x, .lst _ ys => if isFlat x && ys.all isFlat then some (.bl (!ys.any fun y => eqFlat y x)) else none
  | .nin, x, .tup ys => if isFlat x && ys.all isFlat then some (.bl (!ys.any fun y => eqFlat y x)) else none
  | .idx, .lst _ xs, .int i => match atI xs i with
    | some d => if d.pure then some d else none
    | none => none
  | .idx, .scr ns, .int i => (atI ns i).map .int
  | .idx, .tup xs, .int i => match atI xs i with
    | some d => if d.pure then some d else none
    | none => none
  | .idx, .str z, .int i => if decide (z.length ≤ big) then (atI z.cps.toList i).map fun c => .str ⟨#[c]⟩ else none
  | _, _, _ => none

def truD : D → Option Bool
  | .non => some false
  | .bl b => some b
  | .int i => some (i != 0)
  | .tup xs => some !xs.isEmpty
  | .lst _ xs => some !xs.isEmpty
  | _ => none
def tyN : D → String
  | .non => "NoneType" | .bl _ => "bool" | .int _ => "int" | .str _ => "str" | .tup _ => "tuple" | .lst _ _ => "list" | .dct _ _ _ => "dict" | .scr _ => "list"
def isT (t : String) (T : String) : Bool := t == T || (t == "bool" && T == "int")
def dInts : List D → Option (List Int)
  | [] => some []
  | .int i :: r => (dInts r).map (i :: ·)
  | _ :: _ => none
def dBls : List D → Option (List Bool)
  | [] => some []
  | .bl i :: r => (dBls r).map (i :: ·)
  | _ :: _ => none
def minI : List Int → Int
  | [] => 0
  | [x] => x
  | x :: r => min x (minI r)
def maxI : List Int → Int
  | [] => 0
  | [x] => x
  | x :: r => max x (maxI r)
def insI (x : Int) : List Int → List Int
  | [] => [x]
  | y :: r => if x ≤ y then x :: y :: r else y :: insI x r
def sortI : List Int → List Int
  | [] => []
  | x :: r => insI x (sortI r)
def cutD {α : Type} (xs : List α) (lo hi : Option Int) : List α := (xs.drop (HT.sIx xs.length 0 lo)).take (HT.sIx xs.length xs.length hi - HT.sIx xs.length 0 lo)
def rngD (a b : Int) : List D := (List.range (b - a).toNat).map fun (k : Nat) => D.int (a + k)
/-- pairs of whole numbers -/
def dPrs : List D → Option (List (Int × Int))
  | [] => some []
  | .tup [.int i, .int j] :: r => (dPrs r).map ((i, j) :: ·)
  | _ :: _ => none
def prD (p : Int × Int) : D := .tup [.int p.1, .int p.2]
def prLe (p q : Int × Int) : Bool := if p.1 = q.1 then decide (p.2 ≤ q.2) else decide (p.1 < q.1)
def insP (x : Int × Int) : List (Int × Int) → List (Int × Int)
  | [] => [x]
  | y :: r => if prLe x y then x :: y :: r else y :: insP x r
def sortP : List (Int × Int) → List (Int × Int)
  | [] => []
  | x :: r => insP x (sortP r)
def minP : List (Int × Int) → Int × Int
  | [] => (0, 0)
  | [x] => x
  | x :: r => if prLe x (minP r) then x else minP r
def insU (x : Int) : List Int → List Int
  | [] => [x]
  | y :: r => if x < y then x :: y :: r else if x = y then y :: r else y :: insU x r
/-- ascending, each once -/
def setI : List Int → List Int
  | [] => []
  | x :: r => insU x (setI r)
def runBl : Bl → List D → Option D
  | .len, [.lst _ xs] => some (.int xs.length)
  | .len, [.tup xs] => some (.int xs.length)
  | .len, [.scr xs] => some (.int xs.length)
  | .len, [.str z] => if decide (z.length ≤ big) then some (.int z.length) else none
  | .abs, [.int i] => some (.int (if i < 0 then -i else i))
  | .int, [.int i] => some (.int i)
  | .int, [.bl b] => some (.int (if b then 1 else 0))
  | .list, [.lst _ xs] => if D.pures xs then some (.lst true xs) else none
  | .list, [.tup xs] => if D.pures xs then some (.lst true xs) else none
  | .tuple, [.lst _ xs] => if D.pures xs then some (.tup xs) else none
  | .tuple, [.tup xs] => if D.pures xs then some (.tup xs) else none
  | .all, [.lst _ xs] => (dBls xs).map fun bs => .bl (bs.all id)
  | .any, [.lst _ xs] => (dBls xs).map fun bs => .bl (bs.any id)
  | .sum, [.lst _ xs] => (dInts xs).map fun ns => .int ns.sum
  | .min, [.int i, .int j] => some (.int (if j < i then j else i))
  | .max, [.int i, .int j] => some (.int (if j > i then j else i))
  | .max, [.int i, .int j, .int k] => some (.int (if k > (if j > i then j else i) then k else (if j > i then j else i)))
  | .min, [.int i, .int j, .int k] => some (.int (if k < (if j < i then j else i) then k else (if j < i then j else i)))
  | .min, [.lst _ xs] => match dInts xs with
    | some ns => if ns.isEmpty then none else some (.int (minI ns))
    | none => match dPrs xs with
      | some ps => if ps.isEmpty then none else some (prD (minP ps))
      | none => none
  | .max, [.lst _ xs] => match dInts xs with
    | some ns => if ns.isEmpty then none else some (.int (maxI ns))
    | none => none
  | .sorted, [.lst _ xs] => match dInts xs with
    | some ns => if decide (ns.length < 64) then some (.lst true ((sortI ns).map .int)) else none
    | none => match dPrs xs with
      | some ps => some (.lst true ((sortP ps).map prD))
      | none => none
  | .lset, [.lst _ xs] => match dInts xs with
    | some ns => if decide (ns.length < 64) then some (.int (PyProof.Rows.firstMet (fun i => ns.getD i 0) ns.length).length) else none
    | none => none
  | .lset, [.tup xs] => match dInts xs with
    | some ns => if decide (ns.length < 64) then some (.int (PyProof.Rows.firstMet (fun i => ns.getD i 0) ns.length).length) else none
    | none => none
  | .sset, [.lst _ xs] => match dInts xs with
    | some ns => if decide (ns.length < 64) then some (.lst true ((setI ns).map .int)) else none
    | none => none
  | .trange, [.int b] => if decide (b ≤ 100000) && decide (-100000 ≤ b) then some (.tup (rngD 0 b)) else none
  | .trange, [.int a, .int b] => if decide (b ≤ 100000) && decide (-100000 ≤ b) && decide (a ≤ 100000) && decide (-100000 ≤ a) then some (.tup (rngD a b)) else none
  | .lrange, [.int b] => if decide (b ≤ 100000) && decide (-100000 ≤ b) then some (.lst true (rngD 0 b)) else none
  | .lrange, [.int a, .int b] => if decide (b ≤ 100000) && decide (-100000 ≤ b) && decide (a ≤ 100000) && decide (-100000 ≤ a) then some (.lst true (rngD a b)) else none
  | _, _ => none
def runSl (d : D) (lo hi : Option Int) : Option D := match d with
  | .lst _ xs => if D.pures xs then some (.lst true (cutD xs lo hi)) else none
  | .tup xs => if D.pures xs then some (.tup (cutD xs lo hi)) else none
  | .scr ns => some (.lst true ((cutD ns lo hi).map .int))
  | .str z => if decide (z.length ≤ big) then some (.str ⟨(cutD z.cps.toList lo hi).toArray⟩) else none
  | _ => none

/-! ### what a loop walks -/
/-- how many turns a range with a step has -/
def stepN (a b c : Int) : Nat := if a < b then ((b - a - 1) / c + 1).toNat else 0
/-- each item with its place -/
def enumD (n : Nat) : List D → List D
  | [] => []
  | x :: xs => .tup [.int n, x] :: enumD (n + 1) xs
def zipD : List D → List D → List D
  | x :: xs, y :: ys => .tup [x, y] :: zipD xs ys
  | _, _ => []
/-- what may be a dict's key -/
def D.key : D → Option Key
  | .int i => some (.inl i)
  | .str x => some (.inr x)
  | _ => none
def keyD : Key → D
  | .inl i => .int i
  | .inr x => .str x
/-- what a dict holds at a key -/
def atKD (k : Key) : List Key → List D → Option D
  | l :: ks, v :: vs => if l = k then some v else atKD k ks vs
  | _, _ => none
def putKD (k : Key) (v : D) (ks : List Key) (vs : List D) : List Key × List D :=
  if (ks.any fun l => decide (l = k)) = true then (ks, List.zipWith (fun l w => if l = k then v else w) ks vs) else (ks ++ [k], vs ++ [v])
/-- a dict's entries put into another one -/
def mrgKD : List Key → List D → List Key → List D → List Key × List D
  | ks, vs, k :: ks2, d :: vs2 => mrgKD (putKD k d ks vs).1 (putKD k d ks vs).2 ks2 vs2
  | ks, vs, _, _ => (ks, vs)
def itemsD : List Key → List D → List D
  | k :: ks, v :: vs => .tup [keyD k, v] :: itemsD ks vs
  | _, _ => []
/-- how a walked thing is read -/
def kMd : ItK → Md
  | .enm => .esc
  | .zp => .esc
  | _ => .opd
inductive Src where | fix (xs : List D) | live (i : Nat)
def src (δ : Ev) : ItK → List Opd → Option Src
  | .e, [.ref i] => match (δ[i]?).join with
    | some (.lst true _) => some (.live i)
    | some (.lst false xs) => some (.fix xs)
    | some (.tup xs) => if D.pures xs then some (.fix xs) else none
    | _ => none
  | .e, [.tmp (.lst _ xs)] => some (.fix (D.fzs xs))
  | .e, [.tmp (.tup xs)] => some (.fix (D.fzs xs))
  | .enm, [.tmp (.lst _ xs)] => some (.fix (enumD 0 (D.fzs xs)))
  | .enm, [.tmp (.tup xs)] => some (.fix (enumD 0 (D.fzs xs)))
  | .zp, [.tmp (.lst _ xs), .tmp (.lst _ ys)] => some (.fix (zipD (D.fzs xs) (D.fzs ys)))
  | .rng, os => match gets δ os with
    | some [.int b] => if decide (b ≤ 100000) && decide (-100000 ≤ b) then some (.fix (rngD 0 b)) else none
    | some [.int a, .int b] => if decide (b ≤ 100000) && decide (-100000 ≤ b) && decide (a ≤ 100000) && decide (-100000 ≤ a) then some (.fix (rngD a b)) else none
    | some [.int a, .int b, .int c] => if decide (b ≤ 100000) && decide (-100000 ≤ b) && decide (a ≤ 100000) && decide (-100000 ≤ a) then
        (if c = -1 then some (.fix ((List.range (a - b).toNat).map fun (k : Nat) => D.int (a - k)))
         else if decide (1 ≤ c) && decide (c ≤ 1000) then some (.fix ((List.range (stepN a b c)).map fun (k : Nat) => D.int (a + k * c))) else none)
      else none
    | _ => none
  | _, _ => none
def bindT (δ : Ev) : Tg → D → Option Ev
  | .nm i, d => some (δ.set i (some d))
  | .tp is, .tup ds => if is.length = ds.length then some ((is.zip ds).foldl (fun δ p => δ.set p.1 (some p.2)) δ) else none
  | .tn i js, .tup [d, .tup ds] => if js.length = ds.length then some ((js.zip ds).foldl (fun δ p => δ.set p.1 (some p.2)) (δ.set i (some d))) else none
  | .tp _, _ => none
  | .tn _ _, _ => none
def Tg.own : Tg → List Nat
  | .nm i => [i]
  | .tp is => is
  | .tn i js => i :: js
def wipeE (δ : Ev) : List Nat → Ev
  | [] => δ
  | v :: vs => (wipeE δ vs).set v none
/-- the own slots as they were -/
def backE (δ0 δ : Ev) : List Nat → Ev
  | [] => δ
  | v :: vs => (backE δ0 δ vs).set v (δ0[v]?).join
/-- the item of a list that is walked as it stands -/
def liveAt (δ : Ev) (i k : Nat) : Option (Option D) := match (δ[i]?).join with
  | some (.lst _ xs) => match xs[k]? with
    | some x => if x.pure then some (some x) else none
    | none => some none
  | _ => none
def fuel : Nat := 100000

/-! ### defs, classes of errors -/
structure Fn where
  name : Str
  ps : List Str
  N : List Str
  io : List Bool
  body : S
structure Xc where
  name : Str
  fs : List Str
  sup : List Nat   -- the classes of the table that it is one of, itself too
structure Tab where
  fns : List Fn
  xcs : List Xc
  gls : List (Str × Lit)
  bls : List Str
  /-- calls with names: the def, how many by position, the names, the places of the parameters' values -/
  kws : List (Nat × Nat × List Str × List Nat)
inductive CR where | ok (d : D) (ios : List (Option D)) | err (c : Nat) (g : List D) | stuck
abbrev Calls := Nat → List D → CR

def setAll (δ : Ev) : List Nat → List (Option D) → Ev
  | i :: is, d :: ds => setAll (δ.set i d) is ds
  | _, _ => δ
/-- the slots of the arguments that are handed to be changed -/
def ioRefs : List Bool → List Opd → Option (List Nat)
  | true :: bs, .ref i :: os => (ioRefs bs os).map (i :: ·)
  | true :: _, .tmp _ :: _ => none
  | false :: bs, _ :: os => ioRefs bs os
  | [], [] => some []
  | _, _ => none
/-- the arguments' data: δ1 ahead of the taking out of those to be changed, δ2 behind -/
def argDs (δ1 δ2 : Ev) : List Bool → List Opd → Option (List D)
  | b :: bs, o :: os => match (if b then o.get δ1 else (o.get δ2).map D.fz), argDs δ1 δ2 bs os with
    | some d, some ds => some (d :: ds)
    | _, _ => none
  | [], [] => some []
  | _, _ => none
def fzSlots (δ : Ev) : List Opd → Ev
  | .ref i :: os => match (δ[i]?).join with
    | some d => fzSlots (if d.pure then δ else δ.set i (some d.fz)) os
    | none => fzSlots δ os
  | .tmp _ :: os => fzSlots δ os
  | [] => δ
def ownO : Option D → Bool
  | some d => d.own
  | none => true
def doCall0 (io : List Bool) (call : List D → CR) (os : List Opd) (δ1 : Ev) : R Opd :=
  match ioRefs io os with
  | none => .stuck
  | some rs => if rs.Nodup then
      match argDs δ1 (wipeE δ1 rs) io os with
      | none => .stuck
      | some ds => match call ds with
        | .stuck => .stuck
        | .err c g => .err c g (fzSlots (wipeE δ1 rs) os)
        | .ok d ios => if ios.length = rs.length then
            .ok (.tmp d) (setAll (if d.own && ios.all ownO then wipeE δ1 rs else fzSlots (wipeE δ1 rs) os) rs ios)
          else .stuck
    else .stuck

/-- what is handed to be changed, and stands in no slot, gets one for the call -/
def giveOs : List Bool → List Opd → Nat → List Opd × List D
  | true :: bs, .tmp d :: os, n => let p := giveOs bs os (n + 1); (.ref n :: p.1, d :: p.2)
  | _ :: bs, o :: os, n => let p := giveOs bs os n; (o :: p.1, p.2)
  | _, os, _ => (os, [])
def truncR (n : Nat) : R Opd → R Opd
  | .ok x δ => .ok x (δ.take n)
  | .err c g δ => .err c g (δ.take n)
  | .stuck => .stuck
def doCall (io : List Bool) (call : List D → CR) (os : List Opd) (δ1 : Ev) : R Opd := match (giveOs io os δ1.length).2 with
  | [] => doCall0 io call os δ1
  | d :: ds => truncR δ1.length (doCall0 io call (giveOs io os δ1.length).1 (δ1 ++ (d :: ds).map some))
/-- the things at places -/
def pickAt {α : Type} (xs : List α) : List Nat → Option (List α)
  | [] => some []
  | k :: ks => match xs[k]?, pickAt xs ks with
    | some x, some ys => some (x :: ys)
    | _, _ => none
def loopC (f : D → Ev → R (Option D)) : List D → List D → Ev → R (List D)
  | [], acc, δ => .ok acc δ
  | x :: xs, acc, δ => (f x δ).bind fun o δ' => if acc.length < big then loopC f xs (match o with | some d => acc ++ [d] | none => acc) δ' else .stuck
def loopA (f : D → List D → Ev → R (List D)) : List D → List D → Ev → R (List D)
  | [], acc, δ => .ok acc δ
  | x :: xs, acc, δ => (f x acc δ).bind fun acc' δ' => loopA f xs acc' δ'
def loopCL (f : D → Ev → R (Option D)) (i : Nat) : Nat → Nat → List D → Ev → R (List D)
  | 0, _, _, _ => .stuck
  | n + 1, k, acc, δ => match liveAt δ i k with
    | none => .stuck
    | some none => .ok acc δ
    | some (some x) => (f x δ).bind fun o δ' => if acc.length < big then loopCL f i n (k + 1) (match o with | some d => acc ++ [d] | none => acc) δ' else .stuck

section
variable (G : Tab) (call : Calls)
mutual
def ev (m : Md) : E → Ev → R Opd
  | .var i, δ => match (δ[i]?).join with
    | none => .stuck
    | some d => match m with
      | .opd => .ok (.ref i) δ
      | .esc => if d.pure then .ok (.tmp d) δ else .ok (.tmp d.fz) (δ.set i (some d.fz))
      | .mov => if d.pure then .ok (.tmp d) δ else .ok (.tmp d) (δ.set i none)
  | .lit c, δ => .ok (.tmp c.d) δ
  | .gl n, δ => match G.gls[n]? with
    | some p => .ok (.tmp p.2.d) δ
    | none => .stuck
  | .op1 o a, δ => (ev .opd a δ).bind fun x δ1 => match x.get δ1 with
    | some d => ofO ((run1 o d).map .tmp) δ1
    | none => .stuck
  | .op2 o a b, δ => (ev .opd a δ).bind fun x δ1 => (ev .opd b δ1).bind fun y δ2 => match x.get δ2, y.get δ2 with
    | some d, some e => ofO ((run2 o d e).map .tmp) δ2
    | _, _ => .stuck
  | .bl o es, δ => (evs .opd es δ).bind fun xs δ1 => match gets δ1 xs with
    | some ds => ofO ((runBl o ds).map .tmp) δ1
    | none => .stuck
  | .isi _ ts a, δ => (ev .opd a δ).bind fun x δ1 => match x.get δ1 with
    | some d => .ok (.tmp (.bl (ts.any (isT (tyN d))))) δ1
    | none => .stuck
  | .and a b, δ => (ev .opd a δ).bind fun x δ1 => match x.get δ1 with
    | some (.bl true) => (ev .opd b δ1).bind fun y δ2 => match y.get δ2 with
      | some (.bl c) => .ok (.tmp (.bl c)) δ2
      | _ => .stuck
    | some (.bl false) => .ok (.tmp (.bl false)) δ1
    | _ => .stuck
  | .or a b, δ => (ev .opd a δ).bind fun x δ1 => match x.get δ1 with
    | some (.bl false) => (ev .opd b δ1).bind fun y δ2 => match y.get δ2 with
      | some (.bl c) => .ok (.tmp (.bl c)) δ2
      | _ => .stuck
    | some (.bl true) => .ok (.tmp (.bl true)) δ1
    | _ => .stuck
  | .not a, δ => (ev .opd a δ).bind fun x δ1 => match x.get δ1 with
    | some (.bl c) => .ok (.tmp (.bl (!c))) δ1
    | _ => .stuck
  | .ite c a b, δ => (ev .opd c δ).bind fun x δ1 => match x.get δ1 with
    | some (.bl true) => ev m a δ1
    | some (.bl false) => ev m b δ1
    | _ => .stuck
  | .chn o1 o2 a b c, δ => (ev .opd a δ).bind fun x δ1 => (ev .opd b δ1).bind fun y δ2 => match x.get δ2, y.get δ2 with
    | some d, some e => match run2 o1 d e with
      | some (.bl true) => (ev .opd c δ2).bind fun z δ3 => match y.get δ3, z.get δ3 with
        | some e', some g => ofO ((run2 o2 e' g).map .tmp) δ3
        | _, _ => .stuck
      | some (.bl false) => .ok (.tmp (.bl false)) δ2
      | _ => .stuck
    | _, _ => .stuck
  | .tup es, δ => (evs (match m with | .mov => .mov | _ => .esc) es δ).bind fun xs δ1 => match tmps xs with
    | some ds => if ds.length ≤ big then .ok (.tmp (.tup ds)) δ1 else .stuck
    | none => .stuck
  | .lst es, δ => (evs (match m with | .mov => .mov | _ => .esc) es δ).bind fun xs δ1 => match tmps xs with
    | some ds => if ds.length ≤ big then .ok (.tmp (.lst true (D.fzs ds))) δ1 else .stuck
    | none => .stuck
  | .dct0, δ => .ok (.tmp (.dct true [] [])) δ
  | .dct1 es, δ => (evs .esc es δ).bind fun xs δ1 => match tmps xs with
    | some [d, e] => match d.key with
      | some k => .ok (.tmp (.dct true [k] [e.fz])) δ1
      | none => .stuck
    | _ => .stuck
  | .dget i es, δ => match (δ[i]?).join with
    | some (.dct _ _ _) => (evs .opd es δ).bind fun xs δ1 => match (δ1[i]?).join, gets δ1 xs with
      | some (.dct _ ks vs), some [d, e] => match d.key with
        | some k => match atKD k ks vs with
          | some v => if v.pure then .ok (.tmp v) δ1 else .stuck
          | none => if e.pure then .ok (.tmp e) δ1 else .stuck
        | none => .stuck
      | _, _ => .stuck
    | _ => .stuck
  | .slc a lo hi, δ => (ev .opd a δ).bind fun x δ1 => (evo lo δ1).bind fun l δ2 => (evo hi δ2).bind fun h δ3 => match x.get δ3 with
    | some d => ofO ((runSl d l h).map .tmp) δ3
    | none => .stuck
  | .rev a, δ => (ev .opd a δ).bind fun x δ1 => match x.get δ1 with
    | some (.lst _ xs) => if D.pures xs then .ok (.tmp (.lst true xs.reverse)) δ1 else .stuck
    | some (.tup xs) => if D.pures xs then .ok (.tmp (.tup xs.reverse)) δ1 else .stuck
    | _ => .stuck
  | .call f es, δ => (evs .opd es δ).bind fun xs δ1 => match G.fns[f]? with
    | some fn => doCall fn.io (call f) xs δ1
    | none => .stuck
  | .callK f ks es kws, δ => (evs .opd es δ).bind fun xs δ1 => (evs .opd kws δ1).bind fun zs δ2 => match G.fns[f]? with
    | some fn => if ks.Nodup then match pickAt (xs ++ zs) ks with
        | some ys => doCall fn.io (call f) ys δ2
        | none => .stuck
      else .stuck
    | none => .stuck
  | .pop i es, δ => match (δ[i]?).join with
   | some (.lst _ _) => (evs .opd es δ).bind fun xs δ1 => match (δ1[i]?).join with
    | some (.lst true ds) => match gets δ1 xs with
      | some [] => match ds.getLast? with
        | some d => if d.pure then .ok (.tmp d) (δ1.set i (some (.lst true ds.dropLast))) else .stuck
        | none => .stuck
      | some [.int k] => match ixN ds.length k with
        | some j => match ds[j]? with
          | some d => if d.pure && decide (ds.length ≤ big) then .ok (.tmp d) (δ1.set i (some (.lst true (ds.eraseIdx j)))) else .stuck
          | none => .stuck
        | none => .stuck
      | _ => .stuck
    | _ => .stuck
   | _ => .stuck
  | .lc tg k it cond elt, δ => (evs (kMd k) it δ).bind fun os δ1 => match src δ1 k os with
    | none => .stuck
    | some s =>
      let f : D → Ev → R (Option D) := fun x δ2 => match bindT (wipeE δ2 tg.own) tg x with
        | none => .stuck
        | some δ3 => R.noerr <| (evc cond δ3).bind fun c δ4 => if c then (ev .esc elt δ4).bind fun y δ5 => match y with
            | .tmp d => .ok (some d.fz) (wipeE δ5 tg.own)
            | .ref _ => .stuck
          else .ok none (wipeE δ4 tg.own)
      ((match s with
        | .fix xs => loopC f xs [] (wipeE δ1 tg.own)
        | .live i => if tg.own.contains i then .stuck else loopCL f i fuel 0 [] (wipeE δ1 tg.own))).bind fun ds δ6 => .ok (.tmp (.lst true ds)) (backE δ1 δ6 tg.own)
  | .lc2 tg1 k1 it1 c1 tg2 k2 it2 c2 elt, δ => (evs (kMd k1) it1 δ).bind fun os δ1 => match src δ1 k1 os with
    | some (.fix xs) =>
      let g : D → Ev → R (Option D) := fun x δ2 => match bindT (wipeE δ2 tg2.own) tg2 x with
        | none => .stuck
        | some δ3 => R.noerr <| (evc c2 δ3).bind fun c δ4 => if c then (ev .esc elt δ4).bind fun y δ5 => match y with
            | .tmp d => .ok (some d.fz) (wipeE δ5 tg2.own)
            | .ref _ => .stuck
          else .ok none (wipeE δ4 tg2.own)
      let f : D → List D → Ev → R (List D) := fun x acc δ2 => match bindT (wipeE δ2 (tg1.own ++ tg2.own)) tg1 x with
        | none => .stuck
        | some δ3 => R.noerr <| (evc c1 δ3).bind fun c δ4 => if c then (evs (kMd k2) it2 δ4).bind fun os2 δ5 => match src δ5 k2 os2 with
            | some (.fix ys) => (loopC g ys acc (wipeE δ5 tg2.own)).bind fun acc' δ6 => .ok acc' (wipeE δ6 (tg1.own ++ tg2.own))
            | _ => .stuck
          else .ok acc (wipeE δ4 (tg1.own ++ tg2.own))
      (loopA f xs [] (wipeE δ1 (tg1.own ++ tg2.own))).bind fun ds δ6 => .ok (.tmp (.lst true ds)) (backE δ1 δ6 (tg1.own ++ tg2.own))
    | _ => .stuck
  | .tru a, δ => (ev .opd a δ).bind fun x δ1 => match x.get δ1 with
    | some d => ofO ((truD d).map fun b => .tmp (.bl b)) δ1
    | none => .stuck
  | .frz a, δ => (ev .esc a δ).bind fun x δ1 => match x with
    | .tmp d => .ok (.tmp d.fz) δ1
    | .ref _ => .stuck
  | .nil, _ => .stuck
  | .cons _ _, _ => .stuck
def evs (m : Md) : E → Ev → R (List Opd)
  | .nil, δ => .ok [] δ
  | .cons e es, δ => (ev m e δ).bind fun x δ1 => (evs m es δ1).bind fun xs δ2 => .ok (x :: xs) δ2
  | _, _ => .stuck
/-- an end of a slice, that may be left out -/
def evo : E → Ev → R (Option Int)
  | .nil, δ => .ok none δ
  | .cons e .nil, δ => (ev .opd e δ).bind fun x δ1 => match x.get δ1 with
    | some (.int i) => .ok (some i) δ1
    | _ => .stuck
  | _, _ => .stuck
/-- a comprehension's test, that may be left out -/
def evc : E → Ev → R Bool
  | .nil, δ => .ok true δ
  | .cons e .nil, δ => (ev .opd e δ).bind fun x δ1 => match x.get δ1 with
    | some (.bl b) => .ok b δ1
    | _ => .stuck
  | _, _ => .stuck
end
def evB (e : E) (δ : Ev) : R Bool := (ev G call .opd e δ).bind fun x δ1 => match x.get δ1 with
  | some (.bl b) => .ok b δ1
  | _ => .stuck

/-! ### statements -/
/-- the slots that a walk locks -/
def lockOf : ItK → E → List Nat
  | .e, .cons (.var i) _ => [i]
  | _, _ => []
inductive Out where | nx (δ : Ev) | ret (d : D) (δ : Ev) | brk (δ : Ev) | ct (δ : Ev) | err (c : Nat) (g : List D) (δ : Ev) | stuck
def R.out {α : Type} (r : R α) (f : α → Ev → Out) : Out := match r with
  | .ok a δ => f a δ
  | .err c g δ => .err c g δ
  | .stuck => .stuck
def Out.seq (o : Out) (f : Ev → Out) : Out := match o with
  | .nx δ => f δ
  | .ret d δ => .ret d δ
  | .brk δ => .brk δ
  | .ct δ => .ct δ
  | .err c g δ => .err c g δ
  | .stuck => .stuck
/-- no error comes out -/
def Out.noerr : Out → Out
  | .err _ _ _ => .stuck
  | o => o
def whileN (t : Ev → R Bool) (b : Ev → Out) : Nat → Ev → Out
  | 0, _ => .stuck
  | n + 1, δ => (t δ).out fun c δ1 => if c then (match b δ1 with
      | .nx δ2 => whileN t b n δ2
      | .ct δ2 => whileN t b n δ2
      | .brk δ2 => .nx δ2
      | o => o) else .nx δ1
def loopF (f : D → Ev → Out) : List D → Ev → Out
  | [], δ => .nx δ
  | x :: xs, δ => match f x δ with
    | .nx δ2 => loopF f xs δ2
    | .ct δ2 => loopF f xs δ2
    | .brk δ2 => .nx δ2
    | o => o
def loopFL (f : D → Ev → Out) (i : Nat) : Nat → Nat → Ev → Out
  | 0, _, _ => .stuck
  | n + 1, k, δ => match liveAt δ i k with
    | none => .stuck
    | some none => .nx δ
    | some (some x) => match f x δ with
      | .nx δ2 => loopFL f i n (k + 1) δ2
      | .ct δ2 => loopFL f i n (k + 1) δ2
      | .brk δ2 => .nx δ2
      | o => o
/-- one store of an unpacking -/
def store1 (t : E) (d : D) (δ : Ev) : R Unit := match t with
  | .var i => .ok () (δ.set i (some d))
  | .op2 .idx (.var i) k => if ((δ[i]?).join).isSome then (ev G call .opd k δ).bind fun x δ1 => match x.get δ1, (δ1[i]?).join with
      | some (.int z), some (.lst true xs) => match ixN xs.length z with
        | some j => if D.pures xs && d.pure then .ok () (δ1.set i (some (.lst true (xs.set j d)))) else .stuck
        | none => .stuck
      | some dk, some (.dct true ks vs) => match dk.key with
        | some k => if D.pures vs && d.pure && decide (ks.length < big) && decide (ks.length = vs.length) then .ok () (δ1.set i (some (.dct true (putKD k d ks vs).1 (putKD k d ks vs).2))) else .stuck
        | none => .stuck
      | _, _ => .stuck
    else .stuck
  | _ => .stuck
/-- the stores of an unpacking, one after another -/
def stores : E → List D → Ev → R Unit
  | .nil, ds, δ => match ds with
    | [] => .ok () δ
    | _ :: _ => .stuck
  | .cons t ts, ds, δ => match ds with
    | [] => .stuck
    | d :: ds => (store1 G call t d δ).bind fun _ δ1 => stores ts ds δ1
  | _, _, _ => .stuck
/-- an except suite's expression: g the error's fields -/
def evH (g : List D) (δ : Ev) : E → Option D
  | .lit c => some c.d
  | .gl n => g[n]?
  | .var i => match (δ[i]?).join with
    | some d => if d.pure then some d else none
    | none => none
  | .tup es => match evHs g δ es with
    | some ds => if ds.length ≤ big then some (.tup ds) else none
    | none => none
  | _ => none
where evHs (g : List D) (δ : Ev) : E → Option (List D)
  | .nil => some []
  | .cons e es => match evH g δ e, evHs g δ es with
    | some d, some ds => some (d :: ds)
    | _, _ => none
  | _ => none
def subX (c ch : Nat) : Bool := match G.xcs[c]? with
  | some x => x.sup.contains ch
  | none => false
def asOff (δ : Ev) : Option Nat → Ev
  | some i => δ.set i none
  | none => δ
def asIn (δ : Ev) : Option Nat → Prop
  | some i => i < δ.length
  | none => True
instance (δ : Ev) (o : Option Nat) : Decidable (asIn δ o) := by cases o <;> simp only [asIn] <;> infer_instance
def handle (c : Nat) (g : List D) (δ : Ev) : S → Out
  | .hd ch o (.ret e) r => if ch < G.xcs.length ∧ asIn δ o then if subX G c ch then (match evH (if c = ch then g else []) (asOff δ o) e with
      | some d => .ret d (asOff δ o)
      | none => .stuck) else handle c g δ r else .stuck
  | .nop => .err c g δ
  | _ => .stuck
def run : S → Ev → Out
  | .nop, δ => .nx δ
  | .seq a b, δ => (run a δ).seq (run b)
  | .set i e, δ => (ev G call .esc e δ).out fun x δ1 => match x with
    | .tmp d => .nx (δ1.set i (some d))
    | .ref _ => .stuck
  | .unp ts e, δ => (ev G call .esc e δ).out fun x δ1 => match x with
    | .tmp (.tup ds) => if ds.length = ts.len then (stores G call ts ds δ1).out fun _ δ2 => .nx δ2 else .stuck
    | _ => .stuck
  | .sti i k e, δ => (ev G call .esc e δ).out fun x δ1 => match x with
    | .tmp d => (store1 G call (.op2 .idx (.var i) k) d δ1).out fun _ δ2 => .nx δ2
    | _ => .stuck
  | .swp _ _ _ _ _, _ => .stuck
  | .exp e, δ => (ev G call .opd e δ).out fun _ δ1 => .nx δ1
  | .app i e, δ => match (δ[i]?).join with
    | some (.lst _ _) => (ev G call .esc e δ).out fun x δ1 => match x, (δ1[i]?).join with
      | .tmp d, some (.lst true xs) => if xs.length < big then .nx (δ1.set i (some (.lst true (xs ++ [d.fz])))) else .stuck
      | _, _ => .stuck
    | _ => .stuck
  | .ext i e, δ => match (δ[i]?).join with
    | some (.lst _ _) => (ev G call .opd e δ).out fun x δ1 => match x.get δ1, (δ1[i]?).join with
      | some (.lst _ ys), some (.lst true xs) => if D.pures ys && decide (xs.length + ys.length ≤ big) then .nx (δ1.set i (some (.lst true (xs ++ ys)))) else .stuck
      | some (.tup ys), some (.lst true xs) => if D.pures ys && decide (xs.length + ys.length ≤ big) then .nx (δ1.set i (some (.lst true (xs ++ ys)))) else .stuck
      | _, _ => .stuck
    | _ => .stuck
  | .dupd i j, δ => match (δ[i]?).join, (δ[j]?).join with
    | some (.dct true ks vs), some (.dct true ks2 vs2) => if decide (i ≠ j) && D.pures vs && D.pures vs2 && decide (ks.length + ks2.length ≤ big) then .nx (δ.set i (some (.dct true (mrgKD ks vs ks2 vs2).1 (mrgKD ks vs ks2 vs2).2))) else .stuck
    | _, _ => .stuck
  | .iff c a b, δ => (evB G call c δ).out fun k δ1 => if k then run a δ1 else run b δ1
  | .whl c b, δ => whileN (evB G call c) (run b) fuel δ
  | .for_ tg k it b, δ => (evs G call (kMd k) it δ).out fun os δ1 => match src δ1 k os with
    | none => .stuck
    | some (.fix xs) => loopF (fun x δ2 => match bindT δ2 tg x with | some δ3 => run b δ3 | none => .stuck) xs δ1
    | some (.live i) => if i ∈ lockOf k it then loopFL (fun x δ2 => match bindT δ2 tg x with | some δ3 => run b δ3 | none => .stuck) i fuel 0 δ1 else .stuck
  | .forD tg i b, δ => match (δ[i]?).join with
    | some (.dct _ ks vs) => if D.pures vs then (loopF (fun x δ2 => match bindT δ2 tg x with | some δ3 => run b δ3 | none => .stuck) (itemsD ks vs) (δ.set i (some (.dct false ks vs)))).noerr else .stuck
    | _ => .stuck
  | .brk, δ => .brk δ
  | .cont, δ => .ct δ
  | .ret e, δ => (ev G call .mov e δ).out fun x δ1 => match x with
    | .tmp d => .ret d δ1
    | .ref _ => .stuck
  | .rais c es, δ => (evs G call .esc es δ).out fun xs δ1 => match tmps xs with
    | some ds => if D.pures ds && decide (ds.length ≤ 10) then .err c ds δ1 else .stuck
    | none => .stuck
  | .tryy b hs, δ => match run b δ with
    | .err c g δ1 => handle G c g δ1 hs
    | o => o
  | .hd _ _ _ _, _ => .stuck
  | .never, _ => .stuck
end

def iosOf (δ : Ev) : List Bool → Nat → List (Option D)
  | [], _ => []
  | true :: bs, i => (δ[i]?).join :: iosOf δ bs (i + 1)
  | false :: bs, i => iosOf δ bs (i + 1)
def runBody (G : Tab) (call : Calls) (fn : Fn) (ds : List D) : CR :=
  if ds.length = fn.ps.length then
    match run G call fn.body (ds.map some ++ List.replicate (fn.N.length - ds.length) none) with
    | .ret d δ => .ok d (iosOf δ fn.io 0)
    | .nx δ => .ok .non (iosOf δ fn.io 0)
    | .err c g _ => .err c g
    | _ => .stuck
  else .stuck
def callF (G : Tab) : Nat → Calls
  | 0, _, _ => .stuck
  | n + 1, k, ds => match G.fns[k]? with
    | some fn => runBody G (callF G n) fn ds
    | none => .stuck
end IR
namespace IR
open PySem PySem.Spec L2
/-! ### sorted(set(xs)) -/
theorem insU_mem (x : Int) : ∀ (ys : List Int) (k : Int), k ∈ insU x ys ↔ k = x ∨ k ∈ ys
  | [], k => by simp [insU]
  | y :: ys, k => by
    unfold insU
    split
    · simp
    · split
      · rename_i h; subst h; simp
      · simp [insU_mem x ys k]
        constructor
        · rintro (h | h | h) <;> simp [h]
        · rintro (h | h | h) <;> simp [h]
theorem insU_st (x : Int) : ∀ ys : List Int, ys.Pairwise (· < ·) → (insU x ys).Pairwise (· < ·)
  | [], _ => by simp [insU]
  | y :: ys, h => by
    obtain ⟨h1, h2⟩ := List.pairwise_cons.mp h
    unfold insU
    split
    · rename_i c
      refine List.pairwise_cons.mpr ⟨fun z hz => ?_, h⟩
      rcases List.mem_cons.mp hz with rfl | q
      · exact c
      · have := h1 z q; omega
    · split
      · exact h
      · rename_i c1 c2
        refine List.pairwise_cons.mpr ⟨fun z hz => ?_, insU_st x ys h2⟩
        rcases (insU_mem x ys z).mp hz with rfl | q
        · omega
        · exact h1 z q
theorem setI_mem : ∀ (xs : List Int) (k : Int), k ∈ setI xs ↔ k ∈ xs
  | [], k => by simp [setI]
  | x :: xs, k => by
    show k ∈ insU x (setI xs) ↔ _
    rw [insU_mem, setI_mem xs k, List.mem_cons]
theorem setI_st : ∀ xs : List Int, (setI xs).Pairwise (· < ·)
  | [] => by simp [setI]
  | x :: xs => insU_st x _ (setI_st xs)
theorem ascU : ∀ {xs ys : List Int}, xs.Pairwise (· < ·) → ys.Pairwise (· < ·) → (∀ k, k ∈ xs ↔ k ∈ ys) → xs = ys
  | [], [], _, _, _ => rfl
  | [], y :: ys, _, _, h => absurd ((h y).mpr (by simp)) (by simp)
  | x :: xs, [], _, _, h => absurd ((h x).mp (by simp)) (by simp)
  | x :: xs, y :: ys, h1, h2, h => by
    obtain ⟨a1, a2⟩ := List.pairwise_cons.mp h1
    obtain ⟨b1, b2⟩ := List.pairwise_cons.mp h2
    have e : x = y := by
      have p := (h x).mp (by simp)
      have q := (h y).mpr (by simp)
      rcases List.mem_cons.mp p with p | p
      · exact p
      · rcases List.mem_cons.mp q with q | q
        · exact q.symm
        · have := a1 y q; have := b1 x p; omega
    subst e
    rw [ascU a2 b2 fun k => ?_]
    have hk := h k
    simp only [List.mem_cons] at hk
    constructor
    · intro z
      have := a1 k z
      rcases hk.mp (.inr z) with q | q
      · omega
      · exact q
    · intro z
      have := b1 k z
      rcases hk.mpr (.inr z) with q | q
      · omega
      · exact q
theorem dedup_nodup (ms : List Int) : ∀ acc : List Int, acc.Nodup → (ms.foldl PyProof.Rows.step_dedup acc).Nodup ∧ ∀ k, k ∈ ms.foldl PyProof.Rows.step_dedup acc ↔ k ∈ acc ∨ k ∈ ms := by
  induction ms with
  | nil => intro acc h; exact ⟨h, fun k => by simp⟩
  | cons m ms ih =>
    intro acc h
    rw [List.foldl_cons]
    have st : (PyProof.Rows.step_dedup acc m).Nodup ∧ ∀ k, k ∈ PyProof.Rows.step_dedup acc m ↔ k ∈ acc ∨ k = m := by
      unfold PyProof.Rows.step_dedup
      split
      · rename_i c
        refine ⟨h, fun k => ⟨.inl, fun q => q.elim id fun e => ?_⟩⟩
        subst e
        simpa using c
      · rename_i c
        have c' : m ∉ acc := by simpa using c
        refine ⟨?_, fun k => by simp⟩
        rw [List.nodup_append]
        exact ⟨h, by simp, fun a ha b hb e => by simp at hb; subst hb; subst e; exact c' ha⟩
    obtain ⟨h1, h2⟩ := ih _ st.1
    exact ⟨h1, fun k => by rw [h2, st.2]; simp [or_assoc]⟩
theorem firstMet_count {ns : List Int} {ks : List Int} (hn : ks.Nodup) (hm : ∀ k, k ∈ ks ↔ k ∈ ns) : ks.length = (PyProof.Rows.firstMet (fun i => ns.getD i 0) ns.length).length := by
  have e : (List.range ns.length).map (fun i => ns.getD i 0) = ns := by
    apply List.ext_getElem
    · simp
    · intro i h1 h2
      simp [h2]
  obtain ⟨h1, h2⟩ := dedup_nodup ns [] List.nodup_nil
  have e2 : PyProof.Rows.firstMet (fun i => ns.getD i 0) ns.length = ns.foldl PyProof.Rows.step_dedup [] := by
    unfold PyProof.Rows.firstMet
    rw [e]
  rw [e2]
  have p : ks.Perm (ns.foldl PyProof.Rows.step_dedup []) := by
    rw [List.perm_iff_count]
    intro a
    rw [hn.count, h1.count]
    have : a ∈ ks ↔ a ∈ ns.foldl PyProof.Rows.step_dedup [] := by rw [hm, h2]; simp
    by_cases c : a ∈ ks
    · rw [if_pos c, if_pos (this.mp c)]
    · rw [if_neg c, if_neg fun z => c (this.mpr z)]
  exact p.length_eq
end IR
namespace IR
open PySem PySem.Spec L2

/-! ### the state that stands for the data -/
abbrev Fp := Nat → List Addr
def Own (fp : Fp) (a : Addr) : Prop := ∃ i, a ∈ fp i
structure Wd (K : PySem.W.Frag) (F H : Hp) (σ : St) (δ : Ev) (fp : Fp) : Prop where
  same : Same F H
  rep : ∀ i d, δ[i]? = some (some d) → ∃ v, σ[i]? = some (some v) ∧ Rep K F H d v (fp i)
  out : ∀ i, (∀ d, δ[i]? ≠ some (some d)) → fp i = []
  dj : ∀ i j, i ≠ j → ∀ a ∈ fp i, a ∉ fp j
  fr : ∀ i, ∀ a ∈ fp i, F a = none
  len : δ.length = σ.length

/-- what a part of the run may do: o the objects that it may change -/
structure Tr (F H : Hp) (o : Addr → Prop) (F' H' : Hp) (o' : Addr → Prop) : Prop where
  same : Same F F'
  frame : ∀ b u, H b = some u → ¬ o b → H' b = some u
  fresh : ∀ a, o' a → o a ∨ H a = none
  grow : ∀ a u, F a = none → H a = some u → MutO u = true → ¬ o a → F' a = none
theorem Tr.refl {F H : Hp} {o : Addr → Prop} : Tr F H o F H o := ⟨.refl _, fun _ _ h _ => h, fun _ h => .inl h, fun _ _ h _ _ _ => h⟩
theorem Tr.trans {F H F1 H1 F2 H2 : Hp} {o o1 o2 : Addr → Prop} (a : Tr F H o F1 H1 o1) (b : Tr F1 H1 o1 F2 H2 o2) : Tr F H o F2 H2 o2 := by
  have no : ∀ b u, H b = some u → ¬ o b → ¬ o1 b := fun b u h n q => by
    rcases a.fresh b q with z | z
    · exact n z
    · rw [h] at z; cases z
  refine ⟨a.same.trans b.same, fun c u h n => b.frame c u (a.frame c u h n) (no c u h n), fun c h => ?_, fun c u hf h m n => b.grow c u (a.grow c u hf h m n) (a.frame c u h n) m (no c u h n)⟩
  rcases b.fresh c h with z | z
  · exact a.fresh c z
  · cases e : H c with
    | none => exact .inr rfl
    | some u =>
      by_cases q : o c
      · exact .inl q
      · rw [a.frame c u e q] at z; cases z
theorem Tr.less {F H F' H' : Hp} {o o1 o' : Addr → Prop} (a : Tr F H o F' H' o') (l : ∀ b, o b → o1 b) : Tr F H o1 F' H' o' :=
  ⟨a.same, fun b u h n => a.frame b u h fun q => n (l b q), fun b h => (a.fresh b h).imp (l b) id, fun b u hf h m n => a.grow b u hf h m fun q => n (l b q)⟩
theorem Tr.to {F H F' H' : Hp} {o o' o2 : Addr → Prop} (a : Tr F H o F' H' o') (l : ∀ b, o2 b → o' b) : Tr F H o F' H' o2 :=
  ⟨a.same, a.frame, fun b h => a.fresh b (l b h), a.grow⟩
theorem Tr.nofresh {F H F' H' : Hp} {o o' : Addr → Prop} (t : Tr F H o F' H' o') {a : Addr} {u : HO} (h : H a = some u) (n : ¬ o a) : ¬ o' a := fun q => by
  rcases t.fresh a q with z | z
  · exact n z
  · rw [h] at z; cases z

/-- new objects alone -/
structure Ext (F H F' H' : Hp) : Prop where
  same : Same F F'
  low : Same F' H'
  keep : Same H H'
  old : ∀ a u, H a = some u → F' a = F a
theorem Ext.refl {F H : Hp} (s : Same F H) : Ext F H F H := ⟨.refl _, s, .refl _, fun _ _ _ => rfl⟩
theorem Ext.tr {F H F' H' : Hp} (e : Ext F H F' H') {o : Addr → Prop} : Tr F H o F' H' o :=
  ⟨e.same, fun b u h _ => e.keep b u h, fun _ h => .inl h, fun a u hf h _ _ => (e.old a u h).trans hf⟩
theorem Ext.trans {F H F1 H1 F2 H2 : Hp} (a : Ext F H F1 H1) (b : Ext F1 H1 F2 H2) : Ext F H F2 H2 :=
  ⟨a.same.trans b.same, b.low, a.keep.trans b.keep, fun c u h => (b.old c u (a.keep c u h)).trans (a.old c u h)⟩
/-- a new object that is not frozen -/
theorem Ext.upd {F H : Hp} (s : Same F H) {p : Addr} {o : HO} (n : H p = none) : Ext F H F (upd H p o) :=
  ⟨.refl _, fun b u h => by rw [upd_ne (ne_of_none (s b u h) n)]; exact s b u h, fun b u h => by rw [upd_ne (ne_of_none h n)]; exact h, fun _ _ _ => rfl⟩
/-- .. that is -/
theorem Ext.updF {F H : Hp} (s : Same F H) {p : Addr} {o : HO} (n : H p = none) : Ext F H (L2.upd F p o) (L2.upd H p o) := by
  have nF : F p = none := s.free n
  refine ⟨fun b u h => by rw [upd_ne (ne_of_none h nF)]; exact h, fun b u h => ?_, fun b u h => by rw [upd_ne (ne_of_none h n)]; exact h, fun b u h => upd_ne (ne_of_none h n)⟩
  by_cases e : b = p
  · subst e; rw [upd_same] at h ⊢; exact h
  · rw [upd_ne e] at h ⊢; exact s b u h

section
variable {K : PySem.W.Frag} {F H F' H' : Hp} {σ : St} {δ : Ev} {fp : Fp}
/-- behind new objects -/
theorem Wd.ext (w : Wd K F H σ δ fp) (e : Ext F H F' H') : Wd K F' H' σ δ fp where
  same := e.low
  rep := fun i d h => by
    obtain ⟨v, hv, r⟩ := w.rep i d h
    refine ⟨v, hv, r.mono e.same fun a ha => ?_⟩
    obtain ⟨u, hu, _⟩ := r.at a ha
    rw [hu]; exact e.keep a u hu
  out := w.out
  dj := w.dj
  fr := fun i a ha => by
    obtain ⟨v, hv, r⟩ | n : (∃ d v, σ[i]? = some (some v) ∧ Rep K F H d v (fp i)) ∨ fp i = [] := by
      by_cases h : ∃ d, δ[i]? = some (some d)
      · obtain ⟨d, h⟩ := h
        obtain ⟨v, hv⟩ := w.rep i d h
        exact .inl ⟨d, v, hv⟩
      · exact .inr (w.out i fun d q => h ⟨d, q⟩)
    · obtain ⟨_, r⟩ := r
      obtain ⟨u, hu, _⟩ := r.at a ha
      exact (e.old a u hu).trans (w.fr i a ha)
    · rw [n] at ha; simp at ha
  len := w.len
theorem Wd.own_at (w : Wd K F H σ δ fp) {a : Addr} (h : Own fp a) : ∃ u, H a = some u ∧ MutO u = true := by
  obtain ⟨i, ha⟩ := h
  by_cases q : ∃ d, δ[i]? = some (some d)
  · obtain ⟨d, q⟩ := q
    obtain ⟨v, hv, r⟩ := w.rep i d q
    exact r.at a ha
  · rw [w.out i fun d z => q ⟨d, z⟩] at ha; simp at ha

/-- a value that stands apart from the slots -/
structure Tm (K : PySem.W.Frag) (F H : Hp) (o : Addr → Prop) (d : D) (v : V) (f : List Addr) : Prop where
  rep : Rep K F H d v f
  fr : ∀ a ∈ f, F a = none
  off : ∀ a ∈ f, ¬ o a
theorem Tm.step {o o' : Addr → Prop} {d : D} {v : V} {f : List Addr} (t : Tm K F H o d v f) (r : Tr F H o F' H' o') : Tm K F' H' o' d v f where
  rep := t.rep.mono r.same fun a ha => by
    obtain ⟨u, hu, _⟩ := t.rep.at a ha
    rw [hu]; exact r.frame a u hu (t.off a ha)
  fr := fun a ha => by
    obtain ⟨u, hu, m⟩ := t.rep.at a ha
    exact r.grow a u (t.fr a ha) hu m (t.off a ha)
  off := fun a ha => by
    obtain ⟨u, hu, _⟩ := t.rep.at a ha
    exact r.nofresh hu (t.off a ha)
theorem Tm.pure {o : Addr → Prop} {d : D} {v : V} {f : List Addr} (p : d.pure = true) (r : Rep K F H d v f) : Tm K F H o d v [] := by
  have e := Rep.nil_of_pure p r
  subst e
  exact ⟨r, fun a h => absurd h (by simp), fun a h => absurd h (by simp)⟩

/-- an operand -/
def Od (K : PySem.W.Frag) (F H : Hp) (σ : St) (fp : Fp) : Opd → V → List Addr → Prop
  | .ref i, v, f => σ[i]? = some (some v) ∧ f = []
  | .tmp d, v, f => Tm K F H (Own fp) d v f
theorem Od.step {fp' : Fp} {x : Opd} {v : V} {f : List Addr} (t : Od K F H σ fp x v f) (r : Tr F H (Own fp) F' H' (Own fp')) : Od K F' H' σ fp' x v f := by
  cases x with
  | ref i => exact t
  | tmp d => exact Tm.step t r
theorem Od.at {x : Opd} {v : V} {f : List Addr} (t : Od K F H σ fp x v f) : ∀ a ∈ f, ∃ u, H a = some u ∧ MutO u = true := by
  cases x with
  | ref i => intro a ha; rw [t.2] at ha; simp at ha
  | tmp d => exact t.rep.at
/-- what is seen of an operand when it is used -/
theorem Od.see {x : Opd} {v : V} {f : List Addr} {d : D} (w : Wd K F H σ δ fp) (t : Od K F H σ fp x v f) (g : x.get δ = some d) : ∃ f', Rep K F H d v f' := by
  cases x with
  | ref i =>
    have e : δ[i]? = some (some d) := by
      have g' : (δ[i]?).join = some d := g
      cases q : δ[i]? with
      | none => rw [q] at g'; cases g'
      | some z => rw [q] at g'; simpa using g'
    obtain ⟨v', hv, r⟩ := w.rep i d e
    rw [t.1] at hv
    cases hv
    exact ⟨_, r⟩
  | tmp d' =>
    cases g
    exact ⟨f, t.rep⟩
/-- several operands, apart from one another -/
def Ods (K : PySem.W.Frag) (F H : Hp) (σ : St) (fp : Fp) : List Opd → List V → List Addr → Prop
  | [], vs, f => vs = [] ∧ f = []
  | x :: xs, vs, f => ∃ v r f1 f2, vs = v :: r ∧ Od K F H σ fp x v f1 ∧ Ods K F H σ fp xs r f2 ∧ (∀ a ∈ f1, a ∉ f2) ∧ f = f1 ++ f2
theorem Ods.step {fp' : Fp} (r : Tr F H (Own fp) F' H' (Own fp')) : ∀ {xs : List Opd} {vs : List V} {f : List Addr}, Ods K F H σ fp xs vs f → Ods K F' H' σ fp' xs vs f
  | [], _, _, h => h
  | x :: xs, _, _, ⟨v, q, f1, f2, e, h1, h2, dj, ef⟩ => ⟨v, q, f1, f2, e, h1.step r, Ods.step r h2, dj, ef⟩
theorem Ods.at : ∀ {xs : List Opd} {vs : List V} {f : List Addr}, Ods K F H σ fp xs vs f → ∀ a ∈ f, ∃ u, H a = some u ∧ MutO u = true
  | [], _, _, h, a, ha => by rw [h.2] at ha; simp at ha
  | x :: xs, _, _, ⟨v, q, f1, f2, e, h1, h2, dj, ef⟩, a, ha => by
    rw [ef] at ha
    rcases List.mem_append.mp ha with z | z
    · exact h1.at a z
    · exact Ods.at h2 a z
theorem Ods.fr : ∀ {xs : List Opd} {vs : List V} {f : List Addr}, Ods K F H σ fp xs vs f → ∀ a ∈ f, F a = none ∧ ¬ Own fp a
  | [], _, _, h, a, ha => by rw [h.2] at ha; simp at ha
  | x :: xs, _, _, ⟨v, q, f1, f2, e, h1, h2, dj, ef⟩, a, ha => by
    rw [ef] at ha
    rcases List.mem_append.mp ha with z | z
    · cases x with
      | ref i => rw [h1.2] at z; simp at z
      | tmp d => exact ⟨h1.fr a z, h1.off a z⟩
    · exact Ods.fr h2 a z
theorem Ods.length : ∀ {xs : List Opd} {vs : List V} {f : List Addr}, Ods K F H σ fp xs vs f → vs.length = xs.length
  | [], _, _, h => by rw [h.1]; rfl
  | x :: xs, _, _, ⟨v, q, f1, f2, e, h1, h2, dj, ef⟩ => by rw [e, List.length_cons, List.length_cons, Ods.length h2]
/-- values seen -/
def Vw (K : PySem.W.Frag) (F H : Hp) (d : D) (v : V) : Prop := ∃ f, Rep K F H d v f
inductive Vws (K : PySem.W.Frag) (F H : Hp) : List D → List V → Prop
  | nil : Vws K F H [] []
  | cons {d : D} {v : V} {ds : List D} {vs : List V} : Vw K F H d v → Vws K F H ds vs → Vws K F H (d :: ds) (v :: vs)
theorem Ods.see (w : Wd K F H σ δ fp) : ∀ {xs : List Opd} {vs : List V} {f : List Addr} {ds : List D}, Ods K F H σ fp xs vs f → gets δ xs = some ds → Vws K F H ds vs
  | [], _, _, ds, h, g => by
    have e : ds = [] := by simpa [gets] using g.symm
    rw [h.1, e]; exact .nil
  | x :: xs, _, _, ds, ⟨v, q, f1, f2, e, h1, h2, dj, ef⟩, g => by
    unfold gets at g
    split at g
    · rename_i d ds' gd gs
      cases g
      rw [e]
      exact .cons (h1.see w gd) (Ods.see w h2 gs)
    · cases g
/-- all of them temporary: one list -/
theorem Ods.reps : ∀ {xs : List Opd} {vs : List V} {f : List Addr} {ds : List D}, Ods K F H σ fp xs vs f → xs = ds.map .tmp → Reps K F H ds vs f
  | [], _, _, ds, h, e => by
    have q : ds = [] := by cases ds with | nil => rfl | cons _ _ => simp at e
    rw [q]; exact h
  | x :: xs, _, _, ds, ⟨v, q, f1, f2, ev, h1, h2, dj, ef⟩, e => by
    cases ds with
    | nil => simp at e
    | cons d ds =>
      simp only [List.map_cons, List.cons.injEq] at e
      obtain ⟨e1, e2⟩ := e
      subst e1
      exact ⟨v, q, f1, f2, ev, h1.rep, Ods.reps h2 e2, dj, ef⟩
theorem gets_tmp {δ : Ev} : ∀ ds : List D, gets δ (ds.map .tmp) = some ds
  | [] => rfl
  | d :: ds => by simp [gets, Opd.get, gets_tmp ds]
end
end IR
namespace IR
open PySem PySem.Spec L2

/-! ### what is asked of an outcome -/
def RG {α : Type} (r : R α) (ok : α → Ev → Prop) (er : Nat → List D → Ev → Prop) : Prop := match r with
  | .ok a δ => ok a δ
  | .err c g δ => er c g δ
  | .stuck => False
theorem RG.bind {α β : Type} {r : R α} {f : α → Ev → R β} {ok : β → Ev → Prop} {er : Nat → List D → Ev → Prop} (h : RG (r.bind f) ok er) : RG r (fun a δ => RG (f a δ) ok er) er := by
  cases r <;> exact h
theorem RG.mono {α : Type} {r : R α} {ok ok' : α → Ev → Prop} {er er' : Nat → List D → Ev → Prop} (h : RG r ok er) (a : ∀ x δ, ok x δ → ok' x δ) (b : ∀ c g δ, er c g δ → er' c g δ) : RG r ok' er' := by
  cases r with
  | ok x δ => exact a x δ h
  | err c g δ => exact b c g δ h
  | stuck => exact h
theorem RG.ofO {α : Type} {o : Option α} {δ : Ev} {ok : α → Ev → Prop} {er : Nat → List D → Ev → Prop} (h : RG (ofO o δ) ok er) : ∃ a, o = some a ∧ ok a δ := by
  cases o with
  | none => exact False.elim h
  | some a => exact ⟨a, rfl, h⟩

/-- a raised error: of the class c of the table, with the fields g -/
def ErrR (G : Tab) (A : Nat → Addr) (K : PySem.W.Frag) (F H : Hp) (c : Nat) (g : List D) (cls : Value) (d : Option Addr) : Prop :=
  ∃ xc, G.xcs[c]? = some xc ∧ cls = .ref (A c) ∧ g.length = xc.fs.length ∧ (xc.fs = [] ∧ d = none ∨ ∃ dd fs, d = some dd ∧ H dd = some (.xd fs) ∧
    ∀ (j : Nat) f e, xc.fs[j]? = some f → g[j]? = some e → ∃ v, fs.lookup f = some v ∧ Rep K F H e v [])

/-- what changed hands: the owned arguments, afterwards -/
def IoR (K : PySem.W.Frag) (F H : Hp) : List Bool → List V → List (Option D) → List Addr → Prop
  | true :: bs, v :: vs, o :: os, f => ∃ f1 f2, (match o with | some d => Rep K F H d v f1 | none => f1 = []) ∧ IoR K F H bs vs os f2 ∧ (∀ a ∈ f1, a ∉ f2) ∧ f = f1 ++ f2
  | false :: bs, _ :: vs, os, f => IoR K F H bs vs os f
  | [], [], [], f => f = []
  | _, _, _, _ => False
/-- the promise of a def -/
def spOf (G : Tab) (A : Nat → Addr) (K : PySem.W.Frag) (call : List D → CR) (fn : Fn) : Sp := fun vs H Q E => vs.length = fn.ps.length ∧
  ∃ F ds f, Same F H ∧ Reps K F H ds vs f ∧ (∀ a ∈ f, F a = none) ∧ (∀ (i : Nat) d, fn.io[i]? ≠ some true → ds[i]? = some d → d.pure = true) ∧
    match call ds with
    | .stuck => False
    | .err c g => ∀ F' H' cls d, Tr F H (· ∈ f) F' H' (fun _ => False) → Same F' H' → ErrR G A K F' H' c g cls d → E cls d H'
    | .ok d ios => ∀ F' H' v fv fi, Tr F H (· ∈ f) F' H' (fun a => a ∈ fv ∨ a ∈ fi) → Same F' H' → Rep K F' H' d v fv → IoR K F' H' fn.io vs ios fi → (∀ a ∈ fv, a ∉ fi) → (∀ a, a ∈ fv ∨ a ∈ fi → F' a = none) → Q v H'

/-! ### the surroundings -/
def gK {α : Type} (e : α) (ks : List Nat) (us ws : List α) : List α := ks.map fun k => ((us ++ ws)[k]?).getD e
/-- the promise of an __init__ that stores its parameters -/
def spInit (C : Addr) (fs : List Str) : Sp := fun vs H Q _ => ∃ a us, vs = .ref a :: us ∧ us.length = fs.length ∧ H a = some (exo a C none) ∧ ∀ d H', H d = none → d ≠ a → (∀ b, b ≠ a → b ≠ d → H' b = H b) → H' a = some (exo a C (some d)) → H' d = some (exd d (fs.zip us).reverse) → Q .non H'
/-- a class of errors -/
structure XcOk (G : Tab) (A : Nat → Addr) (P : Program) (w : World) (K : PySem.W.Frag) (mg : Str → Option Value) (base : Heap) (c : Nat) (x : Xc) : Prop where
  nm : mg x.name = some (.ref (A c))
  te : ∀ (ch : Nat) (y : Xc), G.xcs[ch]? = some y → PySem.W.exmOne K (.ref (A c)) (.ref (A ch)) = some (x.sup.contains ch)
  sub : PySem.W.subIn K (.ref (A c)) (.type "BaseException") = some true
  ty : PySem.W.typeIn K (.ref (A c)) = some (.type "type")
  kp : PySem.W.keepIn K (.ref (A c)) = true
  xf : x.fs ≠ [] → XfC K (A c) ∧ ∀ f ∈ x.fs, PySem.W.findIn K (.ref (A c)) f = some none
  mk0 : x.fs = [] → ∃ bmB B newId initId, ExcBaseFacts B newId initId bmB ∧ PySem.W.excIn K (A c) bmB newId = true
  mk1 : x.fs ≠ [] → OexC K (A c) ∧ ∃ fI fd, PySem.W.findIn K (.ref (A c)) "__init__" = some (some (.ref fI)) ∧ PySem.W.typeIn K (.ref fI) = some (.type "function") ∧ Binds K fd ("self" :: x.fs) [] ∧
    FnOk P w K mg base (L2.CX P w) 1 fI fd ("self" :: x.fs) (spInit (A c) x.fs)
/-- a constant of the top -/
def GlAt (mg : Str → Option Value) (x : Str) : Lit → Prop
  | .int i => ∃ t, mg x = some (.int i t)
  | .str z => ∃ t, mg x = some (.str z t)
  | _ => False
/-- how the table hangs together with what the top has left -/
structure Lk (G : Tab) (A : Nat → Addr) (call : Calls) (lvl : Nat) (P : Program) (w : World) (K : PySem.W.Frag) (mg : Str → Option Value) (base : Heap) : Prop where
  gl : ∀ (n : Nat) (p : Str × Lit), G.gls[n]? = some p → GlAt mg p.1 p.2
  bl : ∀ x ∈ G.bls, mg x = none
  two : 2 ≤ lvl
  xc : ∀ (c : Nat) (x : Xc), G.xcs[c]? = some x → XcOk G A P w K mg base c x
  fn : ∀ (k : Nat) (fn : Fn), G.fns[k]? = some fn → ∃ f fd, mg fn.name = some (.ref f) ∧ PySem.W.keepIn K (.ref f) = true ∧ Binds K fd fn.ps [] ∧ fn.io.length = fn.ps.length ∧
    FnOk P w K mg base (L2.CX P w) lvl f fd fn.ps (spOf G A K (call k) fn) ∧
    ∀ (n : Nat) (ns : List Str) (ks : List Nat), (k, n, ns, ks) ∈ G.kws → KBn K fd fn.ps n ns (gK .none ks) (gK V.non ks)
/-- the names that may be stored as cells -/
def fnB : Option Scope → Str → Bool
  | none, _ => true
  | some s, y => s.names.lookup y == some .cell
structure Xo (G : Tab) (A : Nat → Addr) (call : Calls) (lvl : Nat) (N : List Str) (sc : Scope) (fb : Option Scope) (X : Cx) (W : WX) : Prop where
  fn : ∀ y, fnB fb y = true → X.fn y = true
  kd : sc.kind = .function
  hN : X.N = N
  nd : N.Nodup
  sc : X.env.scope = sc
  calm : X.calm = true
  room : Room lvl X.A
  lk : Lk G A call lvl X.prog X.w X.K X.mg X.base
  tk : Takes X W

section
variable (G : Tab) (A : Nat → Addr) (call : Calls)
def PX (K : PySem.W.Frag) (σ : St) (F H : Hp) (fp : Fp) (W : WX) (c : Nat) (g : List D) (δ' : Ev) : Prop :=
  ∀ F' H' fp' cls d, Tr F H (Own fp) F' H' (Own fp') → Wd K F' H' σ δ' fp' → ErrR G A K F' H' c g cls d → W cls d σ H'
theorem PX.step {K : PySem.W.Frag} {σ : St} {F H F1 H1 : Hp} {fp fp1 : Fp} {W : WX} {c : Nat} {g : List D} {δ' : Ev} (h : PX G A K σ F H fp W c g δ') (t : Tr F H (Own fp) F1 H1 (Own fp1)) : PX G A K σ F1 H1 fp1 W c g δ' :=
  fun F' H' fp' cls d t' w e => h F' H' fp' cls d (t.trans t') w e
def PO (K : PySem.W.Frag) (σ : St) (F H : Hp) (fp : Fp) (Q : V → Hp → Prop) (x : Opd) (δ' : Ev) : Prop :=
  ∀ F' H' fp' v f, Tr F H (Own fp) F' H' (Own fp') → Wd K F' H' σ δ' fp' → Od K F' H' σ fp' x v f → (∀ a ∈ f, Own fp a ∨ H a = none) → Q v H'
theorem PO.step {K : PySem.W.Frag} {σ : St} {F H F1 H1 : Hp} {fp fp1 : Fp} {Q : V → Hp → Prop} {x : Opd} {δ' : Ev} (h : PO K σ F H fp Q x δ') (t : Tr F H (Own fp) F1 H1 (Own fp1)) : PO K σ F1 H1 fp1 Q x δ' :=
  fun F' H' fp' v f t' w o fr => h F' H' fp' v f (t.trans t') w o fun a ha => by
    rcases fr a ha with z | z
    · exact t.fresh a z
    · cases e : H a with
      | none => exact .inr rfl
      | some u =>
        by_cases q : Own fp a
        · exact .inl q
        · rw [t.frame a u e q] at z; cases z
/-- the reading of an expression -/
def tS (X : Cx) (W : WX) (m : Md) (ie : E) : TE := fun σ H Q => ∃ F δ fp, Wd X.K F H σ δ fp ∧ RG (ev G call m ie δ) (PO X.K σ F H fp Q) (PX G A X.K σ F H fp W)
/-- of a test -/
def PB (K : PySem.W.Frag) (σ : St) (F H : Hp) (fp : Fp) (Q : Bool → Hp → Prop) (b : Bool) (δ' : Ev) : Prop :=
  ∀ F' H' fp', Tr F H (Own fp) F' H' (Own fp') → Wd K F' H' σ δ' fp' → Q b H'
def tT (X : Cx) (W : WX) (ie : E) : TT := fun σ H Q => ∃ F δ fp, Wd X.K F H σ δ fp ∧ RG (evB G call ie δ) (PB X.K σ F H fp Q) (PX G A X.K σ F H fp W)
/-- of several operands -/
def POs (K : PySem.W.Frag) (σ : St) (F H : Hp) (fp : Fp) (Q : List V → Hp → Prop) (xs : List Opd) (δ' : Ev) : Prop :=
  ∀ F' H' fp' vs f, Tr F H (Own fp) F' H' (Own fp') → Wd K F' H' σ δ' fp' → Ods K F' H' σ fp' xs vs f → (∀ a ∈ f, Own fp a ∨ H a = none) → Q vs H'
def tA (X : Cx) (W : WX) (m : Md) (ie : E) : TA := fun σ H Q => ∃ F δ fp, Wd X.K F H σ δ fp ∧ RG (evs G call m ie δ) (POs X.K σ F H fp Q) (PX G A X.K σ F H fp W)
end
theorem pe_imp {X : Cx} {e : Expr} {t t' : TE} (h : PE X e t) (k : ∀ σ H Q, t' σ H Q → t σ H Q) : PE X e t' := ⟨fun pins s σ H Q I q => h.run pins s σ H Q I (k σ H Q q)⟩
theorem pt_imp {X : Cx} {e : Expr} {t t' : TT} (h : PT X e t) (k : ∀ σ H Q, t' σ H Q → t σ H Q) : PT X e t' := ⟨fun pins s σ H Q I q => h.run pins s σ H Q I (k σ H Q q)⟩
theorem pa_imp {X : Cx} {e : List Expr} {t t' : TA} (h : PA X e t) (k : ∀ σ H Q, t' σ H Q → t σ H Q) : PA X e t' := ⟨fun pos pins s σ H Q I q => h.run pos pins s σ H Q I (k σ H Q q)⟩

section
variable {G : Tab} {A : Nat → Addr} {call : Calls} {X : Cx} {W : WX}
theorem fresh_trans {F H F1 H1 : Hp} {o o1 : Addr → Prop} (t : Tr F H o F1 H1 o1) {a : Addr} (h : o1 a ∨ H1 a = none) : o a ∨ H a = none := by
  rcases h with z | z
  · exact t.fresh a z
  · cases e : H a with
    | none => exact .inr rfl
    | some u =>
      by_cases q : o a
      · exact .inl q
      · rw [t.frame a u e q] at z; cases z
/-- one operand, then something -/
theorem s1 {σ : St} {F H : Hp} {fp : Fp} {δ : Ev} {a : E} {β : Type} {f : Opd → Ev → R β} {ok : β → Ev → Prop} {Q : VK} (w : Wd X.K F H σ δ fp)
    (h : RG ((ev G call .opd a δ).bind f) ok (PX G A X.K σ F H fp W))
    (k : ∀ x δ1 F1 H1 fp1 v fv, Tr F H (Own fp) F1 H1 (Own fp1) → Wd X.K F1 H1 σ δ1 fp1 → Od X.K F1 H1 σ fp1 x v fv → (∀ a ∈ fv, Own fp a ∨ H a = none) → RG (f x δ1) ok (PX G A X.K σ F1 H1 fp1 W) → Q v H1) :
    tS G A call X W .opd a σ H Q :=
  ⟨F, δ, fp, w, h.bind.mono (fun x δ1 hr F1 H1 fp1 v fv t w1 od fr => k x δ1 F1 H1 fp1 v fv t w1 od fr (hr.mono (fun _ _ z => z) fun c g δ z => z.step (t := t))) fun _ _ _ z => z⟩
end
end IR
namespace IR
open PySem PySem.Spec L2
section
variable {G : Tab} {A : Nat → Addr} {call : Calls} {X : Cx} {W : WX}

/-! ### operators by data -/
/-- what follows a new value -/
def New (K : PySem.W.Frag) (F H : Hp) (d : D) (Q : VK) : Prop := ∀ F' H' v fv, Ext F H F' H' → Rep K F' H' d v fv → (∀ a ∈ fv, H a = none ∧ F' a = none) → Q v H'
def rD (K : PySem.W.Frag) (run : D → D → Option D) : R2 := fun x y H Q => ∃ F dx dy d, Same F H ∧ Vw K F H dx x ∧ Vw K F H dy y ∧ run dx dy = some d ∧ New K F H d Q
def rD1 (K : PySem.W.Frag) (run : D → Option D) : V → Hp → VK → Prop := fun x H Q => ∃ F dx d, Same F H ∧ Vw K F H dx x ∧ run dx = some d ∧ New K F H d Q
def rDs (K : PySem.W.Frag) (run : List D → Option D) : List V → Hp → VK → Prop := fun xs H Q => ∃ F ds d, Same F H ∧ Vws K F H ds xs ∧ run ds = some d ∧ New K F H d Q
theorem PO.new {σ : St} {F H F2 H2 : Hp} {fp fp2 : Fp} {Q : VK} {d : D} {δ2 : Ev} (h : PO X.K σ F H fp Q (.tmp d) δ2) (t : Tr F H (Own fp) F2 H2 (Own fp2)) (w2 : Wd X.K F2 H2 σ δ2 fp2) : New X.K F2 H2 d Q := by
  intro F' H' v fv ex rep new
  refine h F' H' fp2 v fv (t.trans ex.tr) (w2.ext ex) ⟨rep, fun a ha => (new a ha).2, fun a ha z => ?_⟩ fun a ha => fresh_trans t (.inr (new a ha).1)
  obtain ⟨u, hu, _⟩ := w2.own_at z
  rw [(new a ha).1] at hu; cases hu
theorem New.flat {K : PySem.W.Frag} {F H : Hp} {d : D} {Q : VK} (n : New K F H d Q) (s : Same F H) {v : V} (r : Rep K F H d v []) : Q v H := n F H v [] (.refl s) r fun _ h => absurd h (by simp)

theorem s_op2 {o : O2} {a b : E} {m : Md} {σ : St} {H : Hp} {Q : VK} (h : tS G A call X W m (.op2 o a b) σ H Q) : tOp (rD X.K (run2 o)) (tS G A call X W .opd a) (tS G A call X W .opd b) σ H Q := by
  obtain ⟨F, δ, fp, w, h⟩ := h
  simp only [ev] at h
  refine s1 w h fun x δ1 F1 H1 fp1 v fv t1 w1 o1 fr1 h1 => ?_
  refine s1 w1 h1 fun y δ2 F2 H2 fp2 u fu t2 w2 o2 fr2 h2 => ?_
  have o1' := o1.step t2
  split at h2
  · rename_i d e gx gy
    obtain ⟨z, ez, h3⟩ := RG.ofO h2
    obtain ⟨r, er, rfl⟩ := Option.map_eq_some_iff.mp ez
    exact ⟨F2, d, e, r, w2.same, o1'.see w2 gx, o2.see w2 gy, er, h3.new (t1.trans t2) w2⟩
  · exact False.elim h2
theorem s_op1 {o : O1} {a : E} {m : Md} {σ : St} {H : Hp} {Q : VK} (h : tS G A call X W m (.op1 o a) σ H Q) : tUn (rD1 X.K (run1 o)) (tS G A call X W .opd a) σ H Q := by
  obtain ⟨F, δ, fp, w, h⟩ := h
  simp only [ev] at h
  refine s1 w h fun x δ1 F1 H1 fp1 v fv t1 w1 o1 fr1 h1 => ?_
  split at h1
  · rename_i d gx
    obtain ⟨z, ez, h3⟩ := RG.ofO h1
    obtain ⟨r, er, rfl⟩ := Option.map_eq_some_iff.mp ez
    exact ⟨F1, d, r, w1.same, o1.see w1 gx, er, h3.new t1 w1⟩
  · exact False.elim h1

/-! ### tests -/
theorem tT_tS {ie : E} {σ : St} {H : Hp} {Q : Bool → Hp → Prop} (h : tT G A call X W ie σ H Q) : tS G A call X W .opd ie σ H fun x H' => ∃ k, x = .bl k ∧ Q k H' := by
  obtain ⟨F, δ, fp, w, h⟩ := h
  unfold evB at h
  refine s1 w h fun x δ1 F1 H1 fp1 v fv t1 w1 o1 fr1 h1 => ?_
  split at h1
  · rename_i b gx
    obtain ⟨f', r⟩ := o1.see w1 gx
    exact ⟨b, r.1, h1 F1 H1 fp1 t1 w1⟩
  · exact False.elim h1
theorem pt_plain {e : Expr} {ie : E} (h : PE X e (tS G A call X W .opd ie)) (he : ∀ whole, isTrue e X.env whole = (do let v ← whole; standAt e.pos; holding [v] (truthy v))) : PT X e (tT G A call X W ie) :=
  pt_imp (pt_val h he) fun _ _ _ q => tT_tS q
theorem s_not {a : E} {m : Md} {σ : St} {H : Hp} {Q : VK} (h : tS G A call X W m (.not a) σ H Q) : tNotV (tS G A call X W .opd a) σ H Q := by
  obtain ⟨F, δ, fp, w, h⟩ := h
  simp only [ev] at h
  refine s1 w h fun x δ1 F1 H1 fp1 v fv t1 w1 o1 fr1 h1 => ?_
  split at h1
  · rename_i c gx
    obtain ⟨f', r⟩ := o1.see w1 gx
    exact ⟨c, r.1, (PO.new h1 t1 w1).flat w1.same ⟨rfl, rfl⟩⟩
  · exact False.elim h1
theorem RG.evB_iff {a : E} {δ : Ev} {ok : Bool → Ev → Prop} {er : Nat → List D → Ev → Prop} : RG (evB G call a δ) ok er ↔ RG (ev G call .opd a δ) (fun x δ1 => ∃ b, x.get δ1 = some (.bl b) ∧ ok b δ1) er := by
  unfold evB
  cases ev G call .opd a δ with
  | ok x δ1 =>
    show RG (match x.get δ1 with | some (.bl b) => R.ok b δ1 | _ => R.stuck) ok er ↔ ∃ b, x.get δ1 = some (.bl b) ∧ ok b δ1
    constructor
    · intro h
      split at h
      · rename_i b gx; exact ⟨b, gx, h⟩
      · exact False.elim h
    · rintro ⟨b, gx, h⟩
      rw [gx]; exact h
  | err c g δ => exact Iff.rfl
  | stuck => exact Iff.rfl
theorem t_not {a : E} {σ : St} {H : Hp} {Q : Bool → Hp → Prop} (h : tT G A call X W (.not a) σ H Q) : tNot (tT G A call X W a) σ H Q := by
  obtain ⟨F, δ, fp, w, h⟩ := h
  refine ⟨F, δ, fp, w, ?_⟩
  rw [RG.evB_iff] at h ⊢
  simp only [ev] at h
  refine h.bind.mono (fun x δ1 hr => ?_) fun _ _ _ z => z
  split at hr
  · rename_i c gx
    obtain ⟨b, e, hr⟩ := hr
    cases e
    exact ⟨c, gx, hr⟩
  · exact False.elim hr
theorem t_and {a b : E} {σ : St} {H : Hp} {Q : Bool → Hp → Prop} (h : tT G A call X W (.and a b) σ H Q) : tAnd (tT G A call X W a) (tT G A call X W b) σ H Q := by
  obtain ⟨F, δ, fp, w, h⟩ := h
  refine ⟨F, δ, fp, w, ?_⟩
  rw [RG.evB_iff] at h ⊢
  simp only [ev] at h
  refine h.bind.mono (fun x δ1 hr => ?_) fun _ _ _ z => z
  split at hr
  · rename_i gx
    refine ⟨true, gx, fun F1 H1 fp1 t1 w1 => ?_⟩
    dsimp only
    rw [if_pos rfl]
    refine ⟨F1, δ1, fp1, w1, ?_⟩
    rw [RG.evB_iff]
    refine hr.bind.mono (fun y δ2 h2 => ?_) fun c g δ z => z.step (t := t1)
    split at h2
    · rename_i c gy
      obtain ⟨b, e, h2⟩ := h2
      cases e
      exact ⟨c, gy, fun F2 H2 fp2 t2 w2 => h2 F2 H2 fp2 (t1.trans t2) w2⟩
    · exact False.elim h2
  · rename_i gx
    refine ⟨false, gx, fun F1 H1 fp1 t1 w1 => ?_⟩
    dsimp only
    rw [if_neg Bool.false_ne_true]
    obtain ⟨b, e, hr⟩ := hr
    cases e
    exact hr F1 H1 fp1 t1 w1
  · exact False.elim hr
theorem t_or {a b : E} {σ : St} {H : Hp} {Q : Bool → Hp → Prop} (h : tT G A call X W (.or a b) σ H Q) : tOr (tT G A call X W a) (tT G A call X W b) σ H Q := by
  obtain ⟨F, δ, fp, w, h⟩ := h
  refine ⟨F, δ, fp, w, ?_⟩
  rw [RG.evB_iff] at h ⊢
  simp only [ev] at h
  refine h.bind.mono (fun x δ1 hr => ?_) fun _ _ _ z => z
  split at hr
  · rename_i gx
    refine ⟨false, gx, fun F1 H1 fp1 t1 w1 => ?_⟩
    dsimp only
    rw [if_neg Bool.false_ne_true]
    refine ⟨F1, δ1, fp1, w1, ?_⟩
    rw [RG.evB_iff]
    refine hr.bind.mono (fun y δ2 h2 => ?_) fun c g δ z => z.step (t := t1)
    split at h2
    · rename_i c gy
      obtain ⟨b, e, h2⟩ := h2
      cases e
      exact ⟨c, gy, fun F2 H2 fp2 t2 w2 => h2 F2 H2 fp2 (t1.trans t2) w2⟩
    · exact False.elim h2
  · rename_i gx
    refine ⟨true, gx, fun F1 H1 fp1 t1 w1 => ?_⟩
    dsimp only
    rw [if_pos rfl]
    obtain ⟨b, e, hr⟩ := hr
    cases e
    exact hr F1 H1 fp1 t1 w1
  · exact False.elim hr
theorem s_and {a b : E} {m : Md} {σ : St} {H : Hp} {Q : VK} (h : tS G A call X W m (.and a b) σ H Q) : tAndV (tS G A call X W .opd a) (fun σ H Q => tS G A call X W .opd b σ H fun y H1 => ∃ c, y = .bl c ∧ Q (.bl c) H1) σ H Q := by
  obtain ⟨F, δ, fp, w, h⟩ := h
  simp only [ev] at h
  refine s1 w h fun x δ1 F1 H1 fp1 v fv t1 w1 o1 fr1 h1 => ?_
  split at h1
  · rename_i gx
    obtain ⟨f', r⟩ := o1.see w1 gx
    refine ⟨true, r.1, ?_⟩
    rw [if_pos rfl]
    refine s1 w1 h1 fun y δ2 F2 H2 fp2 u fu t2 w2 o2 fr2 h2 => ?_
    split at h2
    · rename_i c gy
      obtain ⟨f2, r2⟩ := o2.see w2 gy
      exact ⟨c, r2.1, (PO.new h2 (t1.trans t2) w2).flat w2.same ⟨rfl, rfl⟩⟩
    · exact False.elim h2
  · rename_i gx
    obtain ⟨f', r⟩ := o1.see w1 gx
    refine ⟨false, r.1, ?_⟩
    rw [if_neg Bool.false_ne_true]
    exact (PO.new h1 t1 w1).flat w1.same ⟨rfl, rfl⟩
  · exact False.elim h1
theorem s_or {a b : E} {m : Md} {σ : St} {H : Hp} {Q : VK} (h : tS G A call X W m (.or a b) σ H Q) : tOrV (tS G A call X W .opd a) (fun σ H Q => tS G A call X W .opd b σ H fun y H1 => ∃ c, y = .bl c ∧ Q (.bl c) H1) σ H Q := by
  obtain ⟨F, δ, fp, w, h⟩ := h
  simp only [ev] at h
  refine s1 w h fun x δ1 F1 H1 fp1 v fv t1 w1 o1 fr1 h1 => ?_
  split at h1
  · rename_i gx
    obtain ⟨f', r⟩ := o1.see w1 gx
    refine ⟨false, r.1, ?_⟩
    rw [if_neg Bool.false_ne_true]
    refine s1 w1 h1 fun y δ2 F2 H2 fp2 u fu t2 w2 o2 fr2 h2 => ?_
    split at h2
    · rename_i c gy
      obtain ⟨f2, r2⟩ := o2.see w2 gy
      exact ⟨c, r2.1, (PO.new h2 (t1.trans t2) w2).flat w2.same ⟨rfl, rfl⟩⟩
    · exact False.elim h2
  · rename_i gx
    obtain ⟨f', r⟩ := o1.see w1 gx
    refine ⟨true, r.1, ?_⟩
    rw [if_pos rfl]
    exact (PO.new h1 t1 w1).flat w1.same ⟨rfl, rfl⟩
  · exact False.elim h1
end
end IR
namespace IR
open PySem PySem.Spec L2
/-! ### == with a dict of something that is none -/
theorem slot1 (a b : Value) : slotArgs "__eq__" 1 { pos := [a, b] } = pure (a, [b]) := rfl
theorem dslot (a : Addr) (b : Value) : Builtin.Dict.dictSlotArgs "__eq__" { pos := [.ref a, b] } = pure (.ref a, b) := rfl
theorem isI_ref {M : Model} {A : Around} {E : Value → Shared → Prop} {s : Shared} {a : Addr} {o : Obj} {T B : String} {Q : Bool → Shared → Prop} (h : s.heap.get? a = some o) (hc : o.cls = .type T) (hs : isSubtype (.type T) (.type B) = pure false) (q : Q false s) :
    wpAny M A (PySem.isInstance (.ref a) (.type B)) Q E s := by
  refine wpAny_bind (wpAny_typeOf_ref h ?_)
  rw [hc, hs]
  exact wpAny_pure q
section
variable {l : Addr} {es : Array DictEntry} {n : Nat} {dd : Option Addr} {sl : Array (Option Value)}
def DictAt (s : Shared) (l : Addr) : Prop := ∃ dd es n sl, s.heap.get? l = some { cls := .type "dict", dict := dd, data := .dict es n, slots := sl }
theorem t_int (b : Int) (u : Tok) : Meets (Builtin.«int.__eq__» { pos := [Value.int b u, Value.ref l] }) fun x R s => DictAt s l ∧ R (.ok (.ret .notImplemented)) s :=
  Meets.of_wp fun prog w A R s h => by
    obtain ⟨hp, g, d, tk, os⟩ := s
    obtain ⟨⟨dd, es, n, sl, hl⟩, h⟩ := h
    refine wpAny_bind ?_
    rw [slot1]
    refine wpAny_pure ?_
    refine wpAny_bind ?_
    show wpAny _ _ (pure b) _ _ _
    refine wpAny_pure ?_
    refine wpAny_bind ?_
    show wpAny _ _ (asInt? (.ref l)) _ _ _
    unfold asInt?
    refine wpAny_bind (wpAny_load hl ?_)
    refine wpAny_pure ?_
    refine wpAny_bind (wpAny_rule ?_)
    exact wpAny_pure ⟨_, rfl, h⟩
theorem t_bool (b : Bool) : Meets (Builtin.«int.__eq__» { pos := [Value.bool b, Value.ref l] }) fun x R s => DictAt s l ∧ R (.ok (.ret .notImplemented)) s :=
  Meets.of_wp fun prog w A R s h => by
    obtain ⟨hp, g, d, tk, os⟩ := s
    obtain ⟨⟨dd, es, n, sl, hl⟩, h⟩ := h
    refine wpAny_bind ?_
    rw [slot1]
    refine wpAny_pure ?_
    refine wpAny_bind ?_
    show wpAny _ _ (pure (if b = true then 1 else 0)) _ _ _
    refine wpAny_pure ?_
    refine wpAny_bind ?_
    show wpAny _ _ (asInt? (.ref l)) _ _ _
    unfold asInt?
    refine wpAny_bind (wpAny_load hl ?_)
    refine wpAny_pure ?_
    refine wpAny_bind (wpAny_rule ?_)
    exact wpAny_pure ⟨_, rfl, h⟩
theorem t_dict {x : Value} : Meets (Builtin.«dict.__eq__» { pos := [Value.ref l, x] }) fun A R s => (∀ (prog : Program) (w : World) (A : Around) (E : Value → Shared → Prop) (Q : Bool → Shared → Prop), Q false s → wpAny (model prog w) A (PySem.isInstance x (.type "dict")) Q E s) ∧ R (.ok (.ret .notImplemented)) s :=
  Meets.of_wp fun prog w A R s h => by
    obtain ⟨hi, h⟩ := h
    refine wpAny_bind ?_
    rw [dslot]
    refine wpAny_pure ?_
    refine wpAny_bind ?_
    refine hi _ _ _ _ _ ?_
    refine wpAny_ite_true rfl ?_
    refine wpAny_bind (wpAny_rule ?_)
    exact wpAny_pure ⟨_, rfl, h⟩
theorem t_non : Meets (Builtin.«NoneType.__eq__» { pos := [Value.none, Value.ref l] }) fun A R s => R (.ok (.ret .notImplemented)) s :=
  Meets.of_wp fun prog w A R s h => by
    refine wpAny_bind ?_
    rw [slot1]
    refine wpAny_pure ?_
    exact wpAny_pure ⟨_, rfl, h⟩
theorem sslot (b : Str) (u : Tok) (v : Value) : Builtin.Str.strSlot "__eq__" 1 { pos := [Value.str b u, v] } = pure (.str b u, b, [v]) := rfl
theorem t_str (b : Str) (u : Tok) : Meets (Builtin.«str.__eq__» { pos := [Value.str b u, Value.ref l] }) fun x R s => DictAt s l ∧ R (.ok (.ret .notImplemented)) s :=
  Meets.of_wp fun prog w A R s h => by
    obtain ⟨hp, g, d, tk, os⟩ := s
    obtain ⟨⟨dd, es, n, sl, hl⟩, h⟩ := h
    refine wpAny_bind ?_
    rw [sslot]
    refine wpAny_pure ?_
    refine wpAny_bind ?_
    show wpAny _ _ (asStr? (.ref l)) _ _ _
    unfold asStr?
    refine wpAny_bind (wpAny_load hl ?_)
    refine wpAny_pure ?_
    refine wpAny_bind (wpAny_rule ?_)
    exact wpAny_pure ⟨_, rfl, h⟩
theorem t_list {l2 : Addr} : Meets (Builtin.«list.__eq__» { pos := [Value.ref l2, Value.ref l] }) fun x R s => DictAt s l ∧ R (.ok (.ret .notImplemented)) s :=
  Meets.of_wp fun prog w A R s h => by
    obtain ⟨⟨dd, es, n, sl, hl⟩, h⟩ := h
    refine wpAny_bind ?_
    rw [slot1]
    refine wpAny_pure ?_
    refine wpAny_bind (isI_ref hl rfl F.sub_dict_list ?_)
    refine wpAny_ite_true rfl ?_
    exact wpAny_pure ⟨_, rfl, h⟩
theorem t_tuple {l2 : Addr} : Meets (Builtin.«tuple.__eq__» { pos := [Value.ref l2, Value.ref l] }) fun x R s => DictAt s l ∧ R (.ok (.ret .notImplemented)) s :=
  Meets.of_wp fun prog w A R s h => by
    obtain ⟨⟨dd, es, n, sl, hl⟩, h⟩ := h
    refine wpAny_bind ?_
    rw [slot1]
    refine wpAny_pure ?_
    refine wpAny_bind (isI_ref hl rfl F.sub_dict_tuple ?_)
    refine wpAny_ite_true rfl ?_
    exact wpAny_pure ⟨_, rfl, h⟩
end
/-- it is no dict -/
def NoD (K : PySem.W.Frag) (H : Hp) : V → Prop
  | .non => True
  | .bl _ => True
  | .int _ => True
  | .str _ => True
  | .ref a => (∃ xs, SqL K H a xs) ∨ ∃ xs, SqT K H a xs
  | _ => False
theorem op_eq_d0 {X : Cx} (hu : X.A.units < cLine) : OpR X (compareOp .Eq) (fun x y H Q => ∃ l kvs, y = .ref l ∧ Rd H l (.dK kvs) ∧ NoD X.K H x ∧ Q (.bl false) H) := by
  intro pins s σ H x y v u Q I rx ry h
  obtain ⟨l, kvs, rfl, hl, nd, q⟩ := h
  obtain rfl : u = Value.ref l := ry
  obtain ⟨_, _, va, _, ⟨o, es, ep, ho, hex, hd, _⟩⟩ : kvs.length ≤ sizeLine ∧ (l == sysModules) = false ∧ ∃ vs, KV kvs vs ∧ Heap.DictOf (mixKind X.prog X.w) s.heap l vs := dk_rd I.hok hl
  have ce : o.cls = .type "dict" := hex.1
  obtain ⟨oc, od, data, osl⟩ := o
  subst ce; subst hd
  have dA : DictAt s l := ⟨_, _, _, _, ho⟩
  have tl : Shared.TypeIs s (.ref l) "dict" := ⟨_, ho, rfl⟩
  have fin : EP X pins σ Q (.bool false) s := fin_bl I q rfl
  show wpAny _ _ (richCompare .Eq v (.ref l)) _ _ _
  have back : ∀ {x : Value} {E : Value → Shared → Prop}, (∀ (prog : Program) (w : World) (A : Around) (E : Value → Shared → Prop) (Q : Bool → Shared → Prop), Q false s → wpAny (model prog w) A (PySem.isInstance x (.type "dict")) Q E s) → ∀ Q' : Value → Shared → Prop, Q' .notImplemented s → wpAny (model X.prog X.w) X.A (PySem.call (.builtin "dict.__eq__") [.ref l, x]) Q' E s := fun {x E} hi Q' hq =>
    call_meets PySem.F.slot_dict_eq_refl tl PySem.F.entry_dict_eq (PySem.F.args_dict_eq_2 _ _) t_dict ⟨hi, hq⟩
  have isI : ∀ {x : Value} {T : String}, typeOf x = pure (.type T) → isSubtype (.type T) (.type "dict") = pure false → ∀ (prog : Program) (w : World) (A : Around) (E : Value → Shared → Prop) (Q : Bool → Shared → Prop), Q false s → wpAny (model prog w) A (PySem.isInstance x (.type "dict")) Q E s := fun {x T} e1 e2 prog w A E Q hq => by
    unfold PySem.isInstance
    rw [e1]
    refine wpAny_bind (wpAny_pure ?_)
    rw [e2]
    exact wpAny_pure hq
  cases x with
  | non =>
    obtain rfl : v = Value.none := rx
    exact SeqAt.rc_eq_decline_or (Ta := "NoneType") (Tb := "dict") rfl tl (by decide) PySem.F.sub_dict_NoneType PySem.F.slot_NoneType_eq PySem.F.slot_dict_eq_refl (fun Q' hq => call_meets PySem.F.slot_NoneType_eq rfl PySem.F.entry_NoneType_eq (PySem.F.args_NoneType_eq_2 _ _) t_non hq) (back (isI rfl PySem.F.sub_NoneType_dict)) (fun Q' hq => wpAny_pure hq) (.inr hu) fin
  | bl b =>
    obtain rfl : v = Value.bool b := rx
    exact SeqAt.rc_eq_decline_or (Ta := "bool") (Tb := "dict") rfl tl (by decide) PySem.F.sub_dict_bool PySem.F.slot_bool_eq PySem.F.slot_dict_eq_refl (fun Q' hq => call_meets PySem.F.slot_bool_eq rfl PySem.F.entry_int_eq (PySem.F.args_int_eq_2 _ _) (t_bool b) ⟨dA, hq⟩) (back (isI rfl PySem.F.sub_bool_dict)) (fun Q' hq => wpAny_pure hq) (.inr hu) fin
  | int i =>
    obtain ⟨t, rfl⟩ : ∃ t, v = Value.int i t := rx
    exact SeqAt.rc_eq_decline_or (Ta := "int") (Tb := "dict") rfl tl (by decide) PySem.F.sub_dict_int PySem.F.slot_int_eq PySem.F.slot_dict_eq_refl (fun Q' hq => call_meets PySem.F.slot_int_eq rfl PySem.F.entry_int_eq (PySem.F.args_int_eq_2 _ _) (t_int i t) ⟨dA, hq⟩) (back (isI rfl PySem.F.sub_int_dict)) (fun Q' hq => wpAny_pure hq) (.inr hu) fin
  | str z =>
    obtain ⟨t, rfl⟩ : ∃ t, v = Value.str z t := rx
    exact SeqAt.rc_eq_decline_or (Ta := "str") (Tb := "dict") rfl tl (by decide) PySem.F.sub_dict_str PySem.F.slot_str_eq PySem.F.slot_dict_eq_refl (fun Q' hq => call_meets PySem.F.slot_str_eq rfl PySem.F.entry_str_eq (PySem.F.args_str_eq_2 _ _) (t_str z t) ⟨dA, hq⟩) (back (isI rfl PySem.F.sub_str_dict)) (fun Q' hq => wpAny_pure hq) (.inr hu) fin
  | ref a =>
    obtain rfl : v = Value.ref a := rx
    rcases nd with ⟨xs, hs⟩ | ⟨xs, hs⟩
    · obtain ⟨its, _, ⟨o2, n2, h2, c2, _, d2⟩, _⟩ := I.list hs
      have ne : a ≠ l := fun z => by rw [z, ho] at h2; cases h2; exact absurd c2 (by simp)
      have ta : Shared.TypeIs s (.ref a) "list" := ⟨_, h2, c2⟩
      exact SeqAt.rc_eq_decline_or (Ta := "list") (Tb := "dict") ta tl (by decide) PySem.F.sub_dict_list PySem.F.slot_list_eq PySem.F.slot_dict_eq_refl (fun Q' hq => call_meets PySem.F.slot_list_eq ta PySem.F.entry_list_eq (PySem.F.args_list_eq_2 _ _) t_list ⟨dA, hq⟩) (back fun prog w A E Q hq => isI_ref h2 c2 PySem.F.sub_list_dict hq)
        (fun Q' hq => SeqAt.wpAny_isSame_ref_other' ne h2 ho (by simp) hq) (.inr hu) fin
    · obtain ⟨its, _, it, _⟩ := I.tuple hs
      obtain ⟨o2, h2, c2, n2, d2⟩ : Heap.IsTuple s.heap a its.toArray := it
      have ne : a ≠ l := fun z => by rw [z, ho] at h2; cases h2; exact absurd c2 (by simp)
      have ta : Shared.TypeIs s (.ref a) "tuple" := ⟨_, h2, c2⟩
      exact SeqAt.rc_eq_decline_or (Ta := "tuple") (Tb := "dict") ta tl (by decide) PySem.F.sub_dict_tuple PySem.F.slot_tuple_eq PySem.F.slot_dict_eq_refl (fun Q' hq => call_meets PySem.F.slot_tuple_eq ta PySem.F.entry_tuple_eq (PySem.F.args_tuple_eq_2 _ _) t_tuple ⟨dA, hq⟩) (back fun prog w A E Q hq => isI_ref h2 c2 PySem.F.sub_tuple_dict hq)
        (fun Q' hq => SeqAt.wpAny_isSame_ref_other' ne h2 ho (by simp) hq) (.inr hu) fin
  | _ => exact False.elim nd
end IR
namespace IR
open PySem PySem.Spec L2
/-! ### != with a dict of something that is none -/
theorem slot1N (a b : Value) : slotArgs "__ne__" 1 { pos := [a, b] } = pure (a, [b]) := rfl
theorem dslotN (a : Addr) (b : Value) : Builtin.Dict.dictSlotArgs "__ne__" { pos := [.ref a, b] } = pure (.ref a, b) := rfl
section
variable {l : Addr} {es : Array DictEntry} {n : Nat} {dd : Option Addr} {sl : Array (Option Value)}
theorem t_intN (b : Int) (u : Tok) : Meets (Builtin.«int.__ne__» { pos := [Value.int b u, Value.ref l] }) fun x R s => DictAt s l ∧ R (.ok (.ret .notImplemented)) s :=
  Meets.of_wp fun prog w A R s h => by
    obtain ⟨hp, g, d, tk, os⟩ := s
    obtain ⟨⟨dd, es, n, sl, hl⟩, h⟩ := h
    refine wpAny_bind ?_
    rw [slot1N]
    refine wpAny_pure ?_
    refine wpAny_bind ?_
    show wpAny _ _ (pure b) _ _ _
    refine wpAny_pure ?_
    refine wpAny_bind ?_
    show wpAny _ _ (asInt? (.ref l)) _ _ _
    unfold asInt?
    refine wpAny_bind (wpAny_load hl ?_)
    refine wpAny_pure ?_
    refine wpAny_bind (wpAny_rule ?_)
    exact wpAny_pure ⟨_, rfl, h⟩
theorem t_boolN (b : Bool) : Meets (Builtin.«int.__ne__» { pos := [Value.bool b, Value.ref l] }) fun x R s => DictAt s l ∧ R (.ok (.ret .notImplemented)) s :=
  Meets.of_wp fun prog w A R s h => by
    obtain ⟨hp, g, d, tk, os⟩ := s
    obtain ⟨⟨dd, es, n, sl, hl⟩, h⟩ := h
    refine wpAny_bind ?_
    rw [slot1N]
    refine wpAny_pure ?_
    refine wpAny_bind ?_
    show wpAny _ _ (pure (if b = true then 1 else 0)) _ _ _
    refine wpAny_pure ?_
    refine wpAny_bind ?_
    show wpAny _ _ (asInt? (.ref l)) _ _ _
    unfold asInt?
    refine wpAny_bind (wpAny_load hl ?_)
    refine wpAny_pure ?_
    refine wpAny_bind (wpAny_rule ?_)
    exact wpAny_pure ⟨_, rfl, h⟩
theorem t_dictN {x : Value} : Meets (Builtin.«dict.__ne__» { pos := [Value.ref l, x] }) fun A R s => (∀ (prog : Program) (w : World) (A : Around) (E : Value → Shared → Prop) (Q : Bool → Shared → Prop), Q false s → wpAny (model prog w) A (PySem.isInstance x (.type "dict")) Q E s) ∧ R (.ok (.ret .notImplemented)) s :=
  Meets.of_wp fun prog w A R s h => by
    obtain ⟨hi, h⟩ := h
    refine wpAny_bind ?_
    rw [dslotN]
    refine wpAny_pure ?_
    refine wpAny_bind ?_
    refine hi _ _ _ _ _ ?_
    refine wpAny_ite_true rfl ?_
    refine wpAny_bind (wpAny_rule ?_)
    exact wpAny_pure ⟨_, rfl, h⟩
theorem t_nonN : Meets (Builtin.«NoneType.__ne__» { pos := [Value.none, Value.ref l] }) fun A R s => R (.ok (.ret .notImplemented)) s :=
  Meets.of_wp fun prog w A R s h => by
    refine wpAny_bind ?_
    rw [slot1N]
    refine wpAny_pure ?_
    exact wpAny_pure ⟨_, rfl, h⟩
theorem sslotN (b : Str) (u : Tok) (v : Value) : Builtin.Str.strSlot "__ne__" 1 { pos := [Value.str b u, v] } = pure (.str b u, b, [v]) := rfl
theorem t_strN (b : Str) (u : Tok) : Meets (Builtin.«str.__ne__» { pos := [Value.str b u, Value.ref l] }) fun x R s => DictAt s l ∧ R (.ok (.ret .notImplemented)) s :=
  Meets.of_wp fun prog w A R s h => by
    obtain ⟨hp, g, d, tk, os⟩ := s
    obtain ⟨⟨dd, es, n, sl, hl⟩, h⟩ := h
    refine wpAny_bind ?_
    rw [sslotN]
    refine wpAny_pure ?_
    refine wpAny_bind ?_
    show wpAny _ _ (asStr? (.ref l)) _ _ _
    unfold asStr?
    refine wpAny_bind (wpAny_load hl ?_)
    refine wpAny_pure ?_
    refine wpAny_bind (wpAny_rule ?_)
    exact wpAny_pure ⟨_, rfl, h⟩
theorem t_listN {l2 : Addr} : Meets (Builtin.«list.__ne__» { pos := [Value.ref l2, Value.ref l] }) fun x R s => DictAt s l ∧ R (.ok (.ret .notImplemented)) s :=
  Meets.of_wp fun prog w A R s h => by
    obtain ⟨⟨dd, es, n, sl, hl⟩, h⟩ := h
    refine wpAny_bind ?_
    rw [slot1N]
    refine wpAny_pure ?_
    refine wpAny_bind (isI_ref hl rfl F.sub_dict_list ?_)
    refine wpAny_ite_true rfl ?_
    exact wpAny_pure ⟨_, rfl, h⟩
theorem t_tupleN {l2 : Addr} : Meets (Builtin.«tuple.__ne__» { pos := [Value.ref l2, Value.ref l] }) fun x R s => DictAt s l ∧ R (.ok (.ret .notImplemented)) s :=
  Meets.of_wp fun prog w A R s h => by
    obtain ⟨⟨dd, es, n, sl, hl⟩, h⟩ := h
    refine wpAny_bind ?_
    rw [slot1N]
    refine wpAny_pure ?_
    refine wpAny_bind (isI_ref hl rfl F.sub_dict_tuple ?_)
    refine wpAny_ite_true rfl ?_
    exact wpAny_pure ⟨_, rfl, h⟩
end
theorem op_ne_d0 {X : Cx} (hu : X.A.units < cLine) : OpR X (compareOp .NotEq) (fun x y H Q => ∃ l kvs, y = .ref l ∧ Rd H l (.dK kvs) ∧ NoD X.K H x ∧ Q (.bl true) H) := by
  intro pins s σ H x y v u Q I rx ry h
  obtain ⟨l, kvs, rfl, hl, nd, q⟩ := h
  obtain rfl : u = Value.ref l := ry
  obtain ⟨_, _, va, _, ⟨o, es, ep, ho, hex, hd, _⟩⟩ : kvs.length ≤ sizeLine ∧ (l == sysModules) = false ∧ ∃ vs, KV kvs vs ∧ Heap.DictOf (mixKind X.prog X.w) s.heap l vs := dk_rd I.hok hl
  have ce : o.cls = .type "dict" := hex.1
  obtain ⟨oc, od, data, osl⟩ := o
  subst ce; subst hd
  have dA : DictAt s l := ⟨_, _, _, _, ho⟩
  have tl : Shared.TypeIs s (.ref l) "dict" := ⟨_, ho, rfl⟩
  have fin : EP X pins σ Q (.bool true) s := fin_bl I q rfl
  show wpAny _ _ (richCompare .NotEq v (.ref l)) _ _ _
  have back : ∀ {x : Value} {E : Value → Shared → Prop}, (∀ (prog : Program) (w : World) (A : Around) (E : Value → Shared → Prop) (Q : Bool → Shared → Prop), Q false s → wpAny (model prog w) A (PySem.isInstance x (.type "dict")) Q E s) → ∀ Q' : Value → Shared → Prop, Q' .notImplemented s → wpAny (model X.prog X.w) X.A (PySem.call (.builtin "dict.__ne__") [.ref l, x]) Q' E s := fun {x E} hi Q' hq =>
    call_meets PySem.F.slot_dict_ne_refl tl PySem.F.entry_dict_ne (PySem.F.args_dict_ne_2 _ _) t_dictN ⟨hi, hq⟩
  have isI : ∀ {x : Value} {T : String}, typeOf x = pure (.type T) → isSubtype (.type T) (.type "dict") = pure false → ∀ (prog : Program) (w : World) (A : Around) (E : Value → Shared → Prop) (Q : Bool → Shared → Prop), Q false s → wpAny (model prog w) A (PySem.isInstance x (.type "dict")) Q E s := fun {x T} e1 e2 prog w A E Q hq => by
    unfold PySem.isInstance
    rw [e1]
    refine wpAny_bind (wpAny_pure ?_)
    rw [e2]
    exact wpAny_pure hq
  cases x with
  | non =>
    obtain rfl : v = Value.none := rx
    exact SeqAt.rc_ne_decline_or (Ta := "NoneType") (Tb := "dict") rfl tl (by decide) PySem.F.sub_dict_NoneType PySem.F.slot_NoneType_ne PySem.F.slot_dict_ne_refl (fun Q' hq => call_meets PySem.F.slot_NoneType_ne rfl PySem.F.entry_NoneType_ne (PySem.F.args_NoneType_ne_2 _ _) t_nonN hq) (back (isI rfl PySem.F.sub_NoneType_dict)) (fun Q' hq => wpAny_pure hq) (.inr hu) fin
  | bl b =>
    obtain rfl : v = Value.bool b := rx
    exact SeqAt.rc_ne_decline_or (Ta := "bool") (Tb := "dict") rfl tl (by decide) PySem.F.sub_dict_bool PySem.F.slot_bool_ne PySem.F.slot_dict_ne_refl (fun Q' hq => call_meets PySem.F.slot_bool_ne rfl PySem.F.entry_int_ne (PySem.F.args_int_ne_2 _ _) (t_boolN b) ⟨dA, hq⟩) (back (isI rfl PySem.F.sub_bool_dict)) (fun Q' hq => wpAny_pure hq) (.inr hu) fin
  | int i =>
    obtain ⟨t, rfl⟩ : ∃ t, v = Value.int i t := rx
    exact SeqAt.rc_ne_decline_or (Ta := "int") (Tb := "dict") rfl tl (by decide) PySem.F.sub_dict_int PySem.F.slot_int_ne PySem.F.slot_dict_ne_refl (fun Q' hq => call_meets PySem.F.slot_int_ne rfl PySem.F.entry_int_ne (PySem.F.args_int_ne_2 _ _) (t_intN i t) ⟨dA, hq⟩) (back (isI rfl PySem.F.sub_int_dict)) (fun Q' hq => wpAny_pure hq) (.inr hu) fin
  | str z =>
    obtain ⟨t, rfl⟩ : ∃ t, v = Value.str z t := rx
    exact SeqAt.rc_ne_decline_or (Ta := "str") (Tb := "dict") rfl tl (by decide) PySem.F.sub_dict_str PySem.F.slot_str_ne PySem.F.slot_dict_ne_refl (fun Q' hq => call_meets PySem.F.slot_str_ne rfl PySem.F.entry_str_ne (PySem.F.args_str_ne_2 _ _) (t_strN z t) ⟨dA, hq⟩) (back (isI rfl PySem.F.sub_str_dict)) (fun Q' hq => wpAny_pure hq) (.inr hu) fin
  | ref a =>
    obtain rfl : v = Value.ref a := rx
    rcases nd with ⟨xs, hs⟩ | ⟨xs, hs⟩
    · obtain ⟨its, _, ⟨o2, n2, h2, c2, _, d2⟩, _⟩ := I.list hs
      have ne : a ≠ l := fun z => by rw [z, ho] at h2; cases h2; exact absurd c2 (by simp)
      have ta : Shared.TypeIs s (.ref a) "list" := ⟨_, h2, c2⟩
      exact SeqAt.rc_ne_decline_or (Ta := "list") (Tb := "dict") ta tl (by decide) PySem.F.sub_dict_list PySem.F.slot_list_ne PySem.F.slot_dict_ne_refl (fun Q' hq => call_meets PySem.F.slot_list_ne ta PySem.F.entry_list_ne (PySem.F.args_list_ne_2 _ _) t_listN ⟨dA, hq⟩) (back fun prog w A E Q hq => isI_ref h2 c2 PySem.F.sub_list_dict hq)
        (fun Q' hq => SeqAt.wpAny_isSame_ref_other' ne h2 ho (by simp) hq) (.inr hu) fin
    · obtain ⟨its, _, it, _⟩ := I.tuple hs
      obtain ⟨o2, h2, c2, n2, d2⟩ : Heap.IsTuple s.heap a its.toArray := it
      have ne : a ≠ l := fun z => by rw [z, ho] at h2; cases h2; exact absurd c2 (by simp)
      have ta : Shared.TypeIs s (.ref a) "tuple" := ⟨_, h2, c2⟩
      exact SeqAt.rc_ne_decline_or (Ta := "tuple") (Tb := "dict") ta tl (by decide) PySem.F.sub_dict_tuple PySem.F.slot_tuple_ne PySem.F.slot_dict_ne_refl (fun Q' hq => call_meets PySem.F.slot_tuple_ne ta PySem.F.entry_tuple_ne (PySem.F.args_tuple_ne_2 _ _) t_tupleN ⟨dA, hq⟩) (back fun prog w A E Q hq => isI_ref h2 c2 PySem.F.sub_tuple_dict hq)
        (fun Q' hq => SeqAt.wpAny_isSame_ref_other' ne h2 ho (by simp) hq) (.inr hu) fin
  | _ => exact False.elim nd
end IR
namespace IR
open PySem PySem.Spec PyProof.Rows L2
/-! ### a tuple times 1, and times none -/
/-- the same object -/
theorem tmul_one (a : Addr) (vs : Array Value) (nl : Nat) (dq : Option Addr) (so : Array (Option Value)) (tk : Tok) :
    Meets (Builtin.«tuple.__mul__» ⟨[.ref a, .int 1 tk], []⟩) (fun _ R s => s.heap.get? a = some { cls := .type "tuple", dict := dq, data := .seq vs nl, slots := so } ∧ R (.ok (.ret (.ref a))) s) :=
  .of_wp fun prog w A R s h => by
    obtain ⟨hp, g, dd, tt, os⟩ := s
    obtain ⟨hl, h⟩ := h
    have f1 := AutoSeq1.idx_int
    have ht : Shared.TypeIs { heap := hp, gens := g, drawn := dd, toks := tt, os := os } (.ref a) "tuple" := ⟨_, hl, rfl⟩
    have e1 : (vs.isEmpty || (1 : Int) == 1) = true := by cases vs.isEmpty <;> rfl
    wp_walk using wpAny_loadPart' hl
    repeat (first
      | (refine wpAny_ite_true (decide_eq_true (by rw [e1])) ?_; wp_walk using wpAny_loadPart' hl))
    exact ⟨_, rfl, h⟩
/-- an empty one -/
theorem tmul_none (a : Addr) (vs : Array Value) (nl : Nat) (dq : Option Addr) (so : Array (Option Value)) (tk : Tok) (ne : vs.isEmpty = false) :
    Meets (Builtin.«tuple.__mul__» ⟨[.ref a, .int 0 tk], []⟩) (fun _ R s => s.heap.get? a = some { cls := .type "tuple", dict := dq, data := .seq vs nl, slots := so } ∧
      R (.ok (.ret (.ref s.heap.objs.size))) { s with heap := s.heap.push { cls := .type "tuple", data := .seq #[] } }) :=
  .of_wp fun prog w A R s h => by
    obtain ⟨hp, g, dd, tt, os⟩ := s
    obtain ⟨hl, h⟩ := h
    have f1 := AutoSeq1.idx_int
    have e1 : (vs.isEmpty || (0 : Int) == 1) = false := by rw [ne]; rfl
    have e2 : (decide ((0 : Int) ≤ 0) || vs.isEmpty) = true := by rw [ne]; rfl
    wp_walk using wpAny_loadPart' hl
    repeat (first
      | (refine wpAny_ite_false (decide_eq_false (by rw [e1]; exact Bool.false_ne_true)) ?_; wp_walk using wpAny_loadPart' hl)
      | (refine wpAny_ite_true (decide_eq_true (by rw [e2])) ?_; wp_walk using wpAny_loadPart' hl))
    exact ⟨_, rfl, h⟩
def rRep01 (K : PySem.W.Frag) : R2 := fun x y H Q => ∃ l k xs, x = .ref l ∧ y = .int k ∧ SqT K H l xs ∧ xs ≠ [] ∧ ((k = 1 ∧ Q (.ref l) H) ∨ (k = 0 ∧ ∀ p, H p = none → Q (.ref p) (upd H p (.tup []))))
theorem op_rep01 {X : Cx} : OpR X (binaryOp .Mult) (rRep01 X.K) := by
  intro pins s σ H x y v u Q I rx ry h
  obtain ⟨l, k, xs, rfl, rfl, hT, hne, h⟩ := h
  cases rx
  obtain ⟨t, rfl⟩ := ry
  obtain ⟨its, r, ⟨⟨cls, dq, data, so⟩, ho, hc, n, hd⟩, hs⟩ := I.tuple hT
  simp only at hc hd
  subst hc hd
  have hi : its.toArray.isEmpty = false := by
    cases its with
    | nil => exact absurd (List.eq_nil_of_length_eq_zero r.length) hne
    | cons a b => rfl
  rcases h with ⟨rfl, q⟩ | ⟨rfl, q⟩
  · exact wpAny_binaryOp_repeat_ref (T := "tuple") (U := "int") (by decide) ⟨_, ho, rfl⟩ (fun s' => typeIs_int s' 1 t) noFill_tuple_mul F.fills_int_mul F.slot_int_rmul repeat_tuple F.slot_int_index.lookup
      (call_meets F.slot_int_rmul (typeIs_int s 1 t) F.entry_int_rmul (F.args_int_rmul_2 _ _) (int_rmul_tuple 1 t l its.toArray n dq so)
        ⟨ho, rfl, ⟨_, ho, rfl⟩, call_meets F.slot_tuple_mul ⟨_, ho, rfl⟩ F.entry_tuple_mul (F.args_tuple_mul_2 _ _) (tmul_one l its.toArray n dq so t) ⟨ho, .ref l, H, I, rfl, q⟩⟩)
  · refine wpAny_binaryOp_repeat_ref (T := "tuple") (U := "int") (by decide) ⟨_, ho, rfl⟩ (fun s' => typeIs_int s' 0 t) noFill_tuple_mul F.fills_int_mul F.slot_int_rmul repeat_tuple F.slot_int_index.lookup
      (call_meets F.slot_int_rmul (typeIs_int s 0 t) F.entry_int_rmul (F.args_int_rmul_2 _ _) (int_rmul_tuple 0 t l its.toArray n dq so)
        ⟨ho, rfl, ⟨_, ho, rfl⟩, call_meets F.slot_tuple_mul ⟨_, ho, rfl⟩ F.entry_tuple_mul (F.args_tuple_mul_2 _ _) (tmul_none l its.toArray n dq so t hi) ⟨ho, ?_⟩⟩)
    exact ⟨.ref s.heap.objs.size, _, I.laid (t' := s.toks) (o := .tup []) (fun b ob e => Heap.get?_push_of_some _ e) (Nat.le_refl _) ⟨by simp, [], .nil, IsTup.new _ _⟩, rfl, q _ (I.hok.fresh (Nat.le_refl _))⟩
end IR
namespace IR
open PySem PySem.Spec L2
section
variable {G : Tab} {A : Nat → Addr} {call : Calls} {X : Cx} {W : WX}

theorem opR_imp {f : Value → Value → Sem Value} {r r' : R2} (h : OpR X f r) (k : ∀ x y H Q, r' x y H Q → r x y H Q) : OpR X f r' := fun pins s σ H x y v u Q I rx ry q => h pins s σ H x y v u Q I rx ry (k x y H Q q)
theorem unR_imp {f : Value → Sem Value} {r r' : V → Hp → VK → Prop} (h : UnR X f r) (k : ∀ x H Q, r' x H Q → r x H Q) : UnR X f r' := fun pins s σ H x v Q I rx q => h pins s σ H x v Q I rx (k x H Q q)
theorem callR_imp {f : Value} {r r' : List V → Hp → VK → Prop} (h : CallR X f r) (k : ∀ xs H Q, r' xs H Q → r xs H Q) : CallR X f r' := fun pins s σ H xs us Q I rx q => h pins s σ H xs us Q I rx (k xs H Q q)

theorem big_line {n : Nat} (h : n ≤ big) : n ≤ sizeLine := by rw [sizeLine_eq]; unfold big at h; omega
theorem big_lt {n : Nat} (h : n < big) : n < sizeLine := by rw [sizeLine_eq]; unfold big at h; omega

/-! ### what is seen -/
theorem Vw.int {K : PySem.W.Frag} {F H : Hp} {i : Int} {v : V} (h : Vw K F H (.int i) v) : v = .int i := let ⟨_, r⟩ := h; r.1
theorem Vw.bl {K : PySem.W.Frag} {F H : Hp} {b : Bool} {v : V} (h : Vw K F H (.bl b) v) : v = .bl b := let ⟨_, r⟩ := h; r.1
theorem Vw.str {K : PySem.W.Frag} {F H : Hp} {b : Str} {v : V} (h : Vw K F H (.str b) v) : v = .str b := let ⟨_, r⟩ := h; r.1
theorem Vw.non {K : PySem.W.Frag} {F H : Hp} {v : V} (h : Vw K F H .non v) : v = .non := let ⟨_, r⟩ := h; r.1
theorem Vw.lst {K : PySem.W.Frag} {F H : Hp} {o : Bool} {ds : List D} {v : V} (s : Same F H) (h : Vw K F H (.lst o ds) v) : ∃ a xs g, v = .ref a ∧ H a = some (.lst xs) ∧ Reps K F H ds xs g := by
  obtain ⟨f, r⟩ := h
  cases o with
  | true => obtain ⟨a, xs, g, e, ha, hr, _⟩ := r; exact ⟨a, xs, g, e, ha, hr⟩
  | false => obtain ⟨a, xs, e, ha, hr, _⟩ := r; exact ⟨a, xs, [], e, s _ _ ha, hr⟩
theorem Vw.tup {K : PySem.W.Frag} {F H : Hp} {ds : List D} {v : V} (s : Same F H) (h : Vw K F H (.tup ds) v) : ∃ a xs g, v = .ref a ∧ SqT K F a xs ∧ SqT K H a xs ∧ Reps K F H ds xs g := by
  obtain ⟨f, a, xs, e, ha, hr⟩ := h
  exact ⟨a, xs, f, e, ha, seqT_mono s ha, hr⟩
theorem Vw.scr {K : PySem.W.Frag} {F H : Hp} {ns : List Int} {v : V} (s : Same F H) (h : Vw K F H (.scr ns) v) : ∃ a, v = .ref a ∧ SqL K H a (ns.map V.int) := by
  obtain ⟨f, a, e, ha, _⟩ := h
  exact ⟨a, e, s.seq ha⟩

/-- a flat value -/
theorem New.int {K : PySem.W.Frag} {F H : Hp} {i : Int} {Q : VK} (n : New K F H (.int i) Q) (s : Same F H) : Q (.int i) H := n.flat s ⟨rfl, rfl⟩
theorem New.bl {K : PySem.W.Frag} {F H : Hp} {i : Bool} {Q : VK} (n : New K F H (.bl i) Q) (s : Same F H) : Q (.bl i) H := n.flat s ⟨rfl, rfl⟩
theorem New.str {K : PySem.W.Frag} {F H : Hp} {i : Str} {Q : VK} (n : New K F H (.str i) Q) (s : Same F H) : Q (.str i) H := n.flat s ⟨rfl, rfl⟩
/-- a new list of what stands already -/
theorem New.lst {K : PySem.W.Frag} {F H : Hp} {ds : List D} {xs : List V} {g : List Addr} {Q : VK} (n : New K F H (.lst true ds) Q) (s : Same F H) (p : D.pures ds = true) (r : Reps K F H ds xs g) : ∀ q, H q = none → Q (.ref q) (upd H q (.lst xs)) := fun q hq =>
  n F _ (.ref q) [q] (Ext.upd s hq) ⟨q, xs, [], rfl, upd_same, (by
    have e := Reps.nil_of_pure p r
    rw [e] at r
    exact r.keep p (.refl _)), by simp, rfl⟩ fun a ha => by
      have e : a = q := by simpa using ha
      rw [e]; exact ⟨hq, s.free hq⟩
theorem New.tup {K : PySem.W.Frag} {F H : Hp} {ds : List D} {xs : List V} {g : List Addr} {Q : VK} (n : New K F H (.tup ds) Q) (s : Same F H) (p : D.pures ds = true) (r : Reps K F H ds xs g) : ∀ q, H q = none → Q (.ref q) (upd H q (.tup xs)) := fun q hq =>
  n _ _ (.ref q) [] (Ext.updF s hq) ⟨q, xs, rfl, .of upd_same, (by
    have e := Reps.nil_of_pure p r
    rw [e] at r
    exact r.keep p (Ext.updF s hq).same)⟩ fun a ha => absurd ha (by simp)
/-- a tuple that stands already -/
theorem New.tupAt {K : PySem.W.Frag} {F H : Hp} {ds : List D} {xs : List V} {g : List Addr} {a : Addr} {Q : VK} (n : New K F H (.tup ds) Q) (s : Same F H) (p : D.pures ds = true) (r : Reps K F H ds xs g) (ha : SqT K F a xs) : Q (.ref a) H := by
  have e := Reps.nil_of_pure p r
  rw [e] at r
  exact n F H (.ref a) [] (.refl s) ⟨a, xs, rfl, ha, r⟩ fun a ha => absurd ha (by simp)
theorem New.pure {K : PySem.W.Frag} {F H : Hp} {d : D} {v : V} {f : List Addr} {Q : VK} (n : New K F H d Q) (s : Same F H) (p : d.pure = true) (r : Rep K F H d v f) : Q v H := by
  have e := Rep.nil_of_pure p r
  rw [e] at r
  exact n.flat s r
theorem pures_append : ∀ {xs ys : List D}, D.pures (xs ++ ys) = (D.pures xs && D.pures ys)
  | [], ys => rfl
  | x :: xs, ys => by simp [D.pures, pures_append (xs := xs) (ys := ys), Bool.and_assoc]
theorem pures_all : ∀ {xs : List D}, D.pures xs = true ↔ ∀ x ∈ xs, x.pure = true
  | [] => by simp [D.pures]
  | x :: xs => by simp [D.pures, pures_all (xs := xs)]
theorem Reps.cat {K : PySem.W.Frag} {F H : Hp} {ds es : List D} {xs ys : List V} {f g : List Addr} (p : D.pures ds = true) (q : D.pures es = true) (a : Reps K F H ds xs f) (b : Reps K F H es ys g) : Reps K F H (ds ++ es) (xs ++ ys) [] := by
  have e1 := Reps.nil_of_pure p a
  have e2 := Reps.nil_of_pure q b
  subst e1; subst e2
  exact a.append b (by simp)
theorem Reps.rep {K : PySem.W.Frag} {F H : Hp} {ds : List D} {xs : List V} {f : List Addr} (p : D.pures ds = true) (a : Reps K F H ds xs f) : ∀ n : Nat, Reps K F H (List.replicate n ds).flatten (List.replicate n xs).flatten []
  | 0 => ⟨rfl, rfl⟩
  | n + 1 => by
    rw [List.replicate_succ, List.replicate_succ, List.flatten_cons, List.flatten_cons]
    have q : D.pures (List.replicate n ds).flatten = true := by
      rw [pures_all]
      intro x hx
      obtain ⟨l, hl, hx⟩ := List.mem_flatten.mp hx
      rw [List.eq_of_mem_replicate hl] at hx
      exact pures_all.mp p x hx
    exact Reps.cat p q a (Reps.rep p a n)
theorem pures_rep {ds : List D} (p : D.pures ds = true) (n : Nat) : D.pures (List.replicate n ds).flatten = true := by
  rw [pures_all]
  intro x hx
  obtain ⟨l, hl, hx⟩ := List.mem_flatten.mp hx
  rw [List.eq_of_mem_replicate hl] at hx
  exact pures_all.mp p x hx

/-! ### arithmetic -/
theorem o_add : OpR X (binaryOp .Add) (rD X.K (run2 .add)) := by
  refine opR_imp (op_add.or (op_cat.or op_catA)) fun x y H Q h => ?_
  obtain ⟨F, dx, dy, d, s, hx, hy, e, n⟩ := h
  cases dx <;> cases dy <;> simp only [run2, Option.some.injEq, reduceCtorEq, Option.ite_none_right_eq_some, Bool.and_eq_true, decide_eq_true_eq] at e
  · rename_i i j
    subst e
    exact .inl ⟨i, j, hx.int, hy.int, n.int s⟩
  · rename_i xs ys
    obtain ⟨⟨⟨p1, p2⟩, hl⟩, rfl⟩ := e
    obtain ⟨a, us, g1, rfl, ha, ha', r1⟩ := hx.tup s
    obtain ⟨b, ws, g2, rfl, hb, hb', r2⟩ := hy.tup s
    have l1 := r1.length
    have l2 := r2.length
    refine .inr (.inr ⟨a, b, us, ws, rfl, rfl, ha', hb', big_line (by omega), fun z => ?_, fun _ z => ?_, fun _ _ => ?_⟩)
    · have z' : xs = [] := List.eq_nil_of_length_eq_zero (by rw [← l1, z]; rfl)
      subst z'
      exact n.tupAt s (by simpa using p2) r2 hb
    · have z' : ys = [] := List.eq_nil_of_length_eq_zero (by rw [← l2, z]; rfl)
      subst z'
      rw [List.append_nil] at n
      exact n.tupAt s p1 r1 ha
    · exact n.tup s (by rw [pures_append, p1, p2]; rfl) (r1.cat p1 p2 r2)
  · rename_i o1 xs o2 ys
    obtain ⟨⟨⟨p1, p2⟩, hl⟩, rfl⟩ := e
    obtain ⟨a, us, g1, rfl, ha, r1⟩ := hx.lst s
    obtain ⟨b, ws, g2, rfl, hb, r2⟩ := hy.lst s
    have l1 := r1.length
    have l2 := r2.length
    exact .inr (.inl ⟨a, b, us, ws, rfl, rfl, ha, hb, big_line (by omega), n.lst s (by rw [pures_append, p1, p2]; rfl) (r1.cat p1 p2 r2)⟩)

theorem o_sub : OpR X (binaryOp .Sub) (rD X.K (run2 .sub)) := by
  refine opR_imp op_sub fun x y H Q h => ?_
  obtain ⟨F, dx, dy, d, s, hx, hy, e, n⟩ := h
  cases dx <;> cases dy <;> simp only [run2, Option.some.injEq, reduceCtorEq] at e
  subst e
  exact ⟨_, _, hx.int, hy.int, n.int s⟩
theorem o_fdv : OpR X (binaryOp .FloorDiv) (rD X.K (run2 .fdv)) := by
  refine opR_imp op_fdiv fun x y H Q h => ?_
  obtain ⟨F, dx, dy, d, s, hx, hy, e, n⟩ := h
  cases dx <;> cases dy <;> simp only [run2, Option.some.injEq, reduceCtorEq, Option.ite_none_right_eq_some, Bool.and_eq_true, decide_eq_true_eq] at e
  obtain ⟨⟨h1, h2⟩, rfl⟩ := e
  exact ⟨_, _, hx.int, hy.int, ⟨h1, h2⟩, n.int s⟩
theorem o_mod : OpR X (binaryOp .Mod) (rD X.K (run2 .mod)) := by
  refine opR_imp op_mod fun x y H Q h => ?_
  obtain ⟨F, dx, dy, d, s, hx, hy, e, n⟩ := h
  cases dx <;> cases dy <;> simp only [run2, Option.some.injEq, reduceCtorEq, Option.ite_none_right_eq_some, Bool.and_eq_true, decide_eq_true_eq] at e
  obtain ⟨h1, rfl⟩ := e
  exact ⟨_, _, hx.int, hy.int, h1, n.int s⟩
theorem o_pow : OpR X (binaryOp .Pow) (rD X.K (run2 .pow)) := by
  refine opR_imp op_pow fun x y H Q h => ?_
  obtain ⟨F, dx, dy, d, s, hx, hy, e, n⟩ := h
  cases dx <;> cases dy <;> simp only [run2, Option.some.injEq, reduceCtorEq, Option.ite_none_right_eq_some, Bool.and_eq_true, decide_eq_true_eq] at e
  obtain ⟨⟨⟨h1, h2⟩, h3⟩, rfl⟩ := e
  exact ⟨_, _, hx.int, hy.int, ⟨h1, by omega, h3⟩, n.int s⟩
theorem o_band : OpR X (binaryOp .BitAnd) (rD X.K (run2 .band)) := by
  refine opR_imp op_and fun x y H Q h => ?_
  obtain ⟨F, dx, dy, d, s, hx, hy, e, n⟩ := h
  cases dx <;> cases dy <;> simp only [run2, Option.some.injEq, reduceCtorEq] at e
  subst e
  exact ⟨_, _, hx.int, hy.int, n.int s⟩
theorem o_mul : OpR X (binaryOp .Mult) (rD X.K (run2 .mul)) := by
  refine opR_imp (op_mul.or (op_rep.or (op_repT.or op_rep01))) fun x y H Q h => ?_
  obtain ⟨F, dx, dy, d, s, hx, hy, e, n⟩ := h
  cases dx <;> cases dy <;> simp only [run2, Option.some.injEq, reduceCtorEq, Option.ite_none_right_eq_some, Bool.and_eq_true, Bool.or_eq_true, decide_eq_true_eq] at e
  · obtain ⟨h1, rfl⟩ := e
    exact .inl ⟨_, _, hx.int, hy.int, h1, n.int s⟩
  · rename_i xs k
    obtain ⟨⟨⟨⟨p, h1⟩, h2⟩, h3⟩, hl⟩ := e.1
    have e := e.2
    subst e
    obtain ⟨a, us, g1, rfl, ha, ha', r1⟩ := hx.tup s
    have l1 := r1.length
    have une : us ≠ [] := fun z => h1 (List.eq_nil_of_length_eq_zero (by rw [← l1, z]; rfl))
    by_cases k1 : k = 1
    · subst k1
      refine .inr (.inr (.inr ⟨a, 1, us, rfl, hy.int, ha', une, .inl ⟨rfl, ?_⟩⟩))
      have e1 : (List.replicate (1 : Int).toNat xs).flatten = xs := by show (List.replicate 1 xs).flatten = xs; simp
      rw [e1] at n
      exact n.tupAt s p r1 ha
    by_cases k0 : k = 0
    · subst k0
      exact .inr (.inr (.inr ⟨a, 0, us, rfl, hy.int, ha', une, .inr ⟨rfl, n.tup s rfl (Reps.rep p r1 0)⟩⟩))
    refine .inr (.inr (.inl ⟨a, k, us, rfl, hy.int, ha', une, by omega, h3, by omega, ?_⟩))
    exact n.tup s (pures_rep p _) (r1.rep p _)
  · rename_i o xs k
    obtain ⟨⟨⟨p, h1⟩, h2⟩, hl⟩ := e.1
    have e := e.2
    subst e
    obtain ⟨a, us, g1, rfl, ha, r1⟩ := hx.lst s
    have l1 := r1.length
    refine .inr (.inl ⟨a, k, us, rfl, hy.int, ha, by omega, by omega, ?_, ?_⟩)
    · rw [l1, sizeLine_eq]
      have q : xs.length * k.toNat ≤ 1000 * 1000 := Nat.mul_le_mul (by omega) (by omega)
      omega
    · exact n.lst s (pures_rep p _) (r1.rep p _)

/-! ### == -/
mutual
theorem dp_of {K : PySem.W.Frag} {F H : Hp} (s : Same F H) : ∀ {d : D} {p : PyData} {v : V} {f : List Addr}, d.py = some p → Rep K F H d v f → Dp K H v p
  | .non, p, v, _, e, h => by
    simp only [D.py, Option.some.injEq] at e; subst e; rw [h.1]; exact .non
  | .bl b, p, v, _, e, h => by
    simp only [D.py, Option.some.injEq] at e; subst e; rw [h.1]; exact .bl b
  | .int b, p, v, _, e, h => by
    simp only [D.py, Option.some.injEq] at e; subst e; rw [h.1]; exact .int b
  | .str b, p, v, _, e, h => by
    simp only [D.py, Option.some.injEq] at e; subst e; rw [h.1]; exact .str b
  | .tup ds, p, v, _, e, h => by
    obtain ⟨a, xs, rfl, ha, hr⟩ := h
    simp only [D.py] at e
    obtain ⟨ps, ep, rfl⟩ := Option.map_eq_some_iff.mp e
    exact .tup (seqT_mono s ha) (dps_of s ep hr)
  | .lst true ds, p, v, _, e, h => by
    obtain ⟨a, xs, g, rfl, ha, hr, _⟩ := h
    simp only [D.py] at e
    obtain ⟨ps, ep, rfl⟩ := Option.map_eq_some_iff.mp e
    exact .lst (.of ha) (dps_of s ep hr)
  | .lst false ds, p, v, _, e, h => by
    obtain ⟨a, xs, rfl, ha, hr, _⟩ := h
    simp only [D.py] at e
    obtain ⟨ps, ep, rfl⟩ := Option.map_eq_some_iff.mp e
    exact .lst (.of (s _ _ ha)) (dps_of s ep hr)
  | .dct _ _ _, p, v, _, e, h => by simp [D.py] at e
  | .scr _, p, v, _, e, h => by simp [D.py] at e
theorem dps_of {K : PySem.W.Frag} {F H : Hp} (s : Same F H) : ∀ {ds : List D} {ps : List PyData} {vs : List V} {f : List Addr}, D.pys ds = some ps → Reps K F H ds vs f → DpAll K H vs ps
  | [], ps, vs, _, e, h => by
    simp only [D.pys, Option.some.injEq] at e; subst e; rw [h.1]; exact .nil
  | d :: ds, ps, vs, _, e, h => by
    obtain ⟨x, r, f1, f2, rfl, h1, h2, _⟩ := h
    unfold D.pys at e
    split at e
    · rename_i y ys e1 e2
      cases e
      exact .cons (dp_of s e1 h1) (dps_of s e2 h2)
    · cases e
end
theorem Vw.noD {K : PySem.W.Frag} {F H : Hp} {d : D} {v : V} (s : Same F H) (h : Vw K F H d v) (e : dEq0 d = some false) (nd : ∀ o ks ds, d ≠ .dct o ks ds) : NoD K H v := by
  cases d with
  | non => rw [h.non]; exact trivial
  | bl b => rw [h.bl]; exact trivial
  | int b => rw [h.int]; exact trivial
  | str b => rw [h.str]; exact trivial
  | tup ds =>
    obtain ⟨a, us, g, rfl, _, ha, r⟩ := h.tup s
    exact .inr ⟨us, ha⟩
  | lst o ds =>
    obtain ⟨a, us, g, rfl, ha, r⟩ := h.lst s
    exact .inl ⟨us, .of ha⟩
  | dct o ks ds => exact absurd rfl (nd _ _ _)
  | scr ns => simp [dEq0] at e
theorem Vw.dct {K : PySem.W.Frag} {F H : Hp} {o : Bool} {ks : List Key} {ds : List D} {v : V} (s : Same F H) (h : Vw K F H (.dct o ks ds) v) : ∃ a kvs g, v = .ref a ∧ Rd H a (.dK kvs) ∧ ks = kvs.map (·.1) ∧ Reps K F H ds (kvs.map (·.2)) g := by
  obtain ⟨f, r⟩ := h
  cases o with
  | true =>
    obtain ⟨a, kvs, g, rfl, ha, e, hr, _⟩ := r
    exact ⟨a, kvs, g, rfl, .inl ha, e, hr⟩
  | false =>
    obtain ⟨a, kvs, rfl, ha, e, hr, _⟩ := r
    exact ⟨a, kvs, [], rfl, rd_mono s ha, e, hr⟩
theorem Vw.dct0 {K : PySem.W.Frag} {F H : Hp} {o : Bool} {ds : List D} {v : V} (s : Same F H) (h : Vw K F H (.dct o [] ds) v) : ∃ a, v = .ref a ∧ Rd H a (.dK []) := by
  obtain ⟨a, kvs, g, rfl, ha, e, _⟩ := h.dct s
  have e2 : kvs = [] := by cases kvs with | nil => rfl | cons _ _ => simp at e
  exact ⟨a, rfl, by rw [e2] at ha; exact ha⟩
/-- a dict and an empty one -/
theorem op_eqD0 (hu : X.A.units < cLine) : OpR X (compareOp .Eq) (fun x y H Q => ∃ a b ks, x = .ref a ∧ y = .ref b ∧ Rd H a (.dK ks) ∧ Rd H b (.dK []) ∧ Q (.bl ks.isEmpty) H) := by
  intro pins s σ H x y v u Q I rx ry h
  obtain ⟨a, b, ks, rfl, rfl, ea, eb, q⟩ := h
  obtain rfl : v = Value.ref a := rx
  obtain rfl : u = Value.ref b := ry
  obtain ⟨_, ya, va, ra, da⟩ := dk_rd I.hok ea
  obtain ⟨_, yb, vb, rb, db⟩ := dk_rd I.hok eb
  cases rb
  cases ra with
  | nil => exact PySem.W.keq_eq (knd := mixKind X.prog X.w) (r := true) ya yb da db hu (fun _ => hits_all .nil .nil (by simp)) (fin_bl I q (by simp))
  | cons _ _ => exact PySem.W.keq_eq (knd := mixKind X.prog X.w) (r := true) ya yb da db hu (fun e => absurd e (by simp)) (fin_bl I q (by simp))
theorem op_neD0 (hu : X.A.units < cLine) : OpR X (compareOp .NotEq) (fun x y H Q => ∃ a b ks, x = .ref a ∧ y = .ref b ∧ Rd H a (.dK ks) ∧ Rd H b (.dK []) ∧ Q (.bl !ks.isEmpty) H) := by
  intro pins s σ H x y v u Q I rx ry h
  obtain ⟨a, b, ks, rfl, rfl, ea, eb, q⟩ := h
  obtain rfl : v = Value.ref a := rx
  obtain rfl : u = Value.ref b := ry
  obtain ⟨_, ya, va, ra, da⟩ := dk_rd I.hok ea
  obtain ⟨_, yb, vb, rb, db⟩ := dk_rd I.hok eb
  cases rb
  cases ra with
  | nil => exact PySem.W.keq_ne (knd := mixKind X.prog X.w) (r := true) ya yb da db hu (fun _ => hits_all .nil .nil (by simp)) (fin_bl I q (by simp))
  | cons _ _ => exact PySem.W.keq_ne (knd := mixKind X.prog X.w) (r := true) ya yb da db hu (fun e => absurd e (by simp)) (fin_bl I q (by simp))
theorem isD0_of {d : D} (h : isD0 d = true) : ∃ o ds, d = .dct o [] ds := by
  cases d with
  | dct o ks ds =>
    cases ks with
    | nil => exact ⟨o, ds, rfl⟩
    | cons _ _ => simp [isD0] at h
  | _ => simp [isD0] at h
/-- what is no dict, and what is -/
theorem dEq0_cases {d : D} {b : Bool} (h : dEq0 d = some b) : (∃ o ks ds, d = .dct o ks ds ∧ b = ks.isEmpty) ∨ (b = false ∧ ∀ o ks ds, d ≠ .dct o ks ds) := by
  cases d with
  | dct o ks ds =>
    refine .inl ⟨o, ks, ds, rfl, ?_⟩
    cases ks <;> simp [dEq0] at h <;> simp [h]
  | scr _ => simp [dEq0] at h
  | _ =>
    simp [dEq0] at h
    exact .inr ⟨by first | exact h | exact h.symm, fun _ _ _ z => by cases z⟩
/-- lists of unlike lengths -/
def rEqLen (K : PySem.W.Frag) (k : Bool) : R2 := fun x y H Q => ∃ a b xs ys, x = .ref a ∧ y = .ref b ∧ SqL K H a xs ∧ SqL K H b ys ∧ xs.length ≠ ys.length ∧ Q (.bl k) H
theorem op_eqLen (hu : X.A.units < cLine) : OpR X (compareOp .Eq) (rEqLen X.K false) := by
  intro pins s σ H x y v u Q I rx ry h
  obtain ⟨a, b, xs, ys, rfl, rfl, ha, hb, hne, q⟩ := h
  obtain ⟨its, rv, hl, _⟩ := I.list ha
  obtain ⟨its2, rv2, hl2, _⟩ := I.list hb
  cases rx; cases ry
  exact SeqAt.eq_list_lengthsAt hl.isList hl2.isList (by simp [← rv.length, ← rv2.length, hne]) hu ⟨.bl false, H, I, rfl, q⟩
theorem op_neLen (hu : X.A.units < cLine) : OpR X (compareOp .NotEq) (rEqLen X.K true) := by
  intro pins s σ H x y v u Q I rx ry h
  obtain ⟨a, b, xs, ys, rfl, rfl, ha, hb, hne, q⟩ := h
  obtain ⟨its, rv, hl, _⟩ := I.list ha
  obtain ⟨its2, rv2, hl2, _⟩ := I.list hb
  cases rx; cases ry
  exact SeqAt.RcNeAt.lists_lengths hl.isList hl2.isList (by simp [← rv.length, ← rv2.length, hne]) hu _ _ _ _ ⟨.bl true, H, I, rfl, q⟩
theorem o_eq (hu : X.A.units + 64 < cLine) : OpR X (compareOp .Eq) (rD X.K (run2 .eq)) := by
  refine opR_imp (((op_eqD hu).or ((op_eqD0 (by omega)).or (op_eq_d0 (by omega)))).or (op_eqLen (by omega))) fun x y H Q h => ?_
  obtain ⟨F, dx, dy, d, s, ⟨f1, hx⟩, ⟨f2, hy⟩, e, n⟩ := h
  simp only [run2] at e
  obtain ⟨b, eb, rfl⟩ := Option.map_eq_some_iff.mp e
  unfold dEq at eb
  split at eb
  · rename_i hd
    obtain ⟨o, ds, rfl⟩ := isD0_of hd
    obtain ⟨l, rfl, hl⟩ := Vw.dct0 s ⟨f2, hy⟩
    rcases dEq0_cases eb with ⟨o2, ks2, ds2, rfl, rfl⟩ | ⟨rfl, nd⟩
    · obtain ⟨l2, kvs, g, rfl, hl2, ek, _⟩ := Vw.dct s ⟨f1, hx⟩
      refine .inl (.inr (.inl ⟨l2, l, kvs, rfl, rfl, hl2, hl, ?_⟩))
      have en : kvs.isEmpty = ks2.isEmpty := by rw [ek]; cases kvs <;> rfl
      rw [en]
      exact n.bl s
    · exact .inl (.inr (.inr ⟨l, [], rfl, hl, Vw.noD s ⟨f1, hx⟩ eb nd, n.bl s⟩))
  · split at eb
    · rename_i p q e1 e2
      split at eb
      · rename_i sh
        cases eb
        rw [Bool.and_eq_true] at sh
        exact .inl (.inl ⟨p, q, dp_of s e1 hx, dp_of s e2 hy, sh.1, sh.2, n.bl s⟩)
      · cases eb
    · split at eb
      · rename_i o xs o' ys _ _
        split at eb
        · cases eb
        · rename_i hne
          cases eb
          obtain ⟨a1, us, g, rfl, ha, r⟩ := Vw.lst s ⟨f1, hx⟩
          obtain ⟨a2, us2, g2, rfl, ha2, r2⟩ := Vw.lst s ⟨f2, hy⟩
          exact .inr ⟨a1, a2, us, us2, rfl, rfl, .of ha, .of ha2, by rw [r.length, r2.length]; exact hne, n.bl s⟩
      · cases eb
theorem o_ne (hu : X.A.units + 64 < cLine) : OpR X (compareOp .NotEq) (rD X.K (run2 .ne)) := by
  refine opR_imp (((op_neD hu).or ((op_neD0 (by omega)).or (op_ne_d0 (by omega)))).or (op_neLen (by omega))) fun x y H Q h => ?_
  obtain ⟨F, dx, dy, d, s, ⟨f1, hx⟩, ⟨f2, hy⟩, e, n⟩ := h
  simp only [run2] at e
  obtain ⟨b, eb, rfl⟩ := Option.map_eq_some_iff.mp e
  unfold dEq at eb
  split at eb
  · rename_i hd
    obtain ⟨o, ds, rfl⟩ := isD0_of hd
    obtain ⟨l, rfl, hl⟩ := Vw.dct0 s ⟨f2, hy⟩
    rcases dEq0_cases eb with ⟨o2, ks2, ds2, rfl, rfl⟩ | ⟨rfl, nd⟩
    · obtain ⟨l2, kvs, g, rfl, hl2, ek, _⟩ := Vw.dct s ⟨f1, hx⟩
      refine .inl (.inr (.inl ⟨l2, l, kvs, rfl, rfl, hl2, hl, ?_⟩))
      have en : kvs.isEmpty = ks2.isEmpty := by rw [ek]; cases kvs <;> rfl
      rw [en]
      exact n.bl s
    · exact .inl (.inr (.inr ⟨l, [], rfl, hl, Vw.noD s ⟨f1, hx⟩ eb nd, n.bl s⟩))
  · split at eb
    · rename_i p q e1 e2
      split at eb
      · rename_i sh
        cases eb
        rw [Bool.and_eq_true] at sh
        exact .inl (.inl ⟨p, q, dp_of s e1 hx, dp_of s e2 hy, sh.1, sh.2, n.bl s⟩)
      · cases eb
    · split at eb
      · rename_i o xs o' ys _ _
        split at eb
        · cases eb
        · rename_i hne
          cases eb
          obtain ⟨a1, us, g, rfl, ha, r⟩ := Vw.lst s ⟨f1, hx⟩
          obtain ⟨a2, us2, g2, rfl, ha2, r2⟩ := Vw.lst s ⟨f2, hy⟩
          exact .inr ⟨a1, a2, us, us2, rfl, rfl, .of ha, .of ha2, by rw [r.length, r2.length]; exact hne, n.bl s⟩
      · cases eb
/-! ### order -/
theorem o_lt : OpR X (compareOp .Lt) (rD X.K (run2 .lt)) := by
  refine opR_imp op_lt fun x y H Q h => ?_
  obtain ⟨F, dx, dy, d, s, hx, hy, e, n⟩ := h
  cases dx <;> cases dy <;> simp only [run2, Option.some.injEq, reduceCtorEq] at e
  subst e
  exact ⟨_, _, hx.int, hy.int, n.bl s⟩
theorem o_le : OpR X (compareOp .LtE) (rD X.K (run2 .le)) := by
  refine opR_imp op_le fun x y H Q h => ?_
  obtain ⟨F, dx, dy, d, s, hx, hy, e, n⟩ := h
  cases dx <;> cases dy <;> simp only [run2, Option.some.injEq, reduceCtorEq] at e
  subst e
  exact ⟨_, _, hx.int, hy.int, n.bl s⟩
theorem o_gt : OpR X (compareOp .Gt) (rD X.K (run2 .gt)) := by
  refine opR_imp op_gt fun x y H Q h => ?_
  obtain ⟨F, dx, dy, d, s, hx, hy, e, n⟩ := h
  cases dx <;> cases dy <;> simp only [run2, Option.some.injEq, reduceCtorEq] at e
  subst e
  exact ⟨_, _, hx.int, hy.int, n.bl s⟩
theorem o_ge : OpR X (compareOp .GtE) (rD X.K (run2 .ge)) := by
  refine opR_imp op_ge fun x y H Q h => ?_
  obtain ⟨F, dx, dy, d, s, hx, hy, e, n⟩ := h
  cases dx <;> cases dy <;> simp only [run2, Option.some.injEq, reduceCtorEq] at e
  subst e
  exact ⟨_, _, hx.int, hy.int, n.bl s⟩
/-! ### is -/
def isNonD : D → Bool
  | .non => true
  | _ => false
theorem Vw.isNon {K : PySem.W.Frag} {F H : Hp} {d : D} {v : V} (h : Vw K F H d v) : decide (v = .non) = isNonD d := by
  obtain ⟨f, r⟩ := h
  cases d with
  | non => rw [r.1]; rfl
  | bl b => rw [r.1]; rfl
  | int b => rw [r.1]; rfl
  | str b => rw [r.1]; rfl
  | tup ds => obtain ⟨a, xs, rfl, _⟩ := r; rfl
  | lst o ds => cases o <;> (obtain ⟨a, xs, h⟩ := r; first | (obtain ⟨rfl, _⟩ := h; rfl) | (obtain ⟨g, rfl, _⟩ := h; rfl))
  | dct o ks ds => cases o <;> (obtain ⟨a, xs, h⟩ := r; first | (obtain ⟨rfl, _⟩ := h; rfl) | (obtain ⟨g, rfl, _⟩ := h; rfl))
  | scr ns => obtain ⟨a, rfl, _⟩ := r; rfl
theorem o_is : OpR X (compareOp .Is) (rD X.K (run2 .is_)) := by
  refine opR_imp (op_isBl.or op_isN) fun x y H Q h => ?_
  obtain ⟨F, dx, dy, d, s, hx, hy, e, n⟩ := h
  cases dy with
  | bl b =>
    cases dx <;> simp only [run2, Option.some.injEq, reduceCtorEq] at e
    subst e
    exact .inl ⟨_, _, hx.bl, hy.bl, n.bl s⟩
  | non =>
    refine .inr ⟨hy.non, ?_⟩
    rw [hx.isNon]
    cases dx <;> simp only [run2, Option.some.injEq, reduceCtorEq] at e <;> (subst e; exact n.bl s)
  | _ => cases dx <;> simp only [run2, Option.some.injEq, reduceCtorEq] at e
theorem o_isN : OpR X (compareOp .IsNot) (rD X.K (run2 .isN)) := by
  refine opR_imp (op_notBl.or op_notN) fun x y H Q h => ?_
  obtain ⟨F, dx, dy, d, s, hx, hy, e, n⟩ := h
  cases dy with
  | bl b =>
    cases dx <;> simp only [run2, Option.some.injEq, reduceCtorEq] at e
    subst e
    exact .inl ⟨_, _, hx.bl, hy.bl, n.bl s⟩
  | non =>
    refine .inr ⟨hy.non, ?_⟩
    rw [hx.isNon]
    cases dx <;> simp only [run2, Option.some.injEq, reduceCtorEq] at e <;> (subst e; exact n.bl s)
  | _ => cases dx <;> simp only [run2, Option.some.injEq, reduceCtorEq] at e
/-! ### in -/
theorem flat_of {K : PySem.W.Frag} {F H : Hp} {d : D} {v : V} (h : Vw K F H d v) (p : isFlat d = true) : flatV v = true := by
  obtain ⟨f, r⟩ := h
  cases d <;> simp only [isFlat, Bool.false_eq_true] at p <;> (rw [r.1]; rfl)
theorem eqFlat_of {K : PySem.W.Frag} {F H : Hp} {d e : D} {v u : V} (h : Vw K F H d v) (h' : Vw K F H e u) (p : isFlat d = true) (q : isFlat e = true) : eqV v u = eqFlat d e := by
  obtain ⟨f, r⟩ := h
  obtain ⟨f', r'⟩ := h'
  cases d <;> simp only [isFlat, Bool.false_eq_true] at p <;> cases e <;> simp only [isFlat, Bool.false_eq_true] at q <;> rw [r.1, r'.1] <;> rfl
theorem flats_of {K : PySem.W.Frag} {F H : Hp} {x : D} {u : V} (hx : Vw K F H x u) (q : isFlat x = true) : ∀ {ds : List D} {vs : List V} {g : List Addr}, Reps K F H ds vs g → ds.all isFlat = true → vs.all flatV = true ∧ inV u vs = ds.any fun y => eqFlat y x
  | [], _, _, h, _ => by rw [h.1]; exact ⟨rfl, rfl⟩
  | d :: ds, _, _, ⟨v, r, f1, f2, e, h1, h2, _⟩, p => by
    subst e
    rw [List.all_cons, Bool.and_eq_true] at p
    obtain ⟨i1, i2⟩ := flats_of hx q h2 p.2
    refine ⟨by rw [List.all_cons, flat_of ⟨_, h1⟩ p.1, i1]; rfl, ?_⟩
    unfold inV at i2 ⊢
    rw [List.any_cons, List.any_cons, i2, eqFlat_of ⟨_, h1⟩ hx p.1 q]
theorem o_in : OpR X (compareOp .In) (rD X.K (run2 .in_)) := by
  refine opR_imp op_in_seq fun x y H Q h => ?_
  obtain ⟨F, dx, dy, d, s, hx, hy, e, n⟩ := h
  cases dy <;> simp only [run2, Option.some.injEq, reduceCtorEq, Option.ite_none_right_eq_some, Bool.and_eq_true] at e
  · obtain ⟨⟨p, q⟩, rfl⟩ := e
    obtain ⟨a, us, g, rfl, ha, ha', r⟩ := hy.tup s
    obtain ⟨i1, i2⟩ := flats_of hx p r q
    refine ⟨a, us, rfl, .inr ha', flat_of hx p, i1, ?_⟩
    rw [if_neg Bool.false_ne_true, i2]
    exact n.bl s
  · obtain ⟨⟨p, q⟩, rfl⟩ := e
    obtain ⟨a, us, g, rfl, ha, r⟩ := hy.lst s
    obtain ⟨i1, i2⟩ := flats_of hx p r q
    refine ⟨a, us, rfl, .inl (.of ha), flat_of hx p, i1, ?_⟩
    rw [if_neg Bool.false_ne_true, i2]
    exact n.bl s
theorem o_nin : OpR X (compareOp .NotIn) (rD X.K (run2 .nin)) := by
  refine opR_imp op_notIn_seq fun x y H Q h => ?_
  obtain ⟨F, dx, dy, d, s, hx, hy, e, n⟩ := h
  cases dy <;> simp only [run2, Option.some.injEq, reduceCtorEq, Option.ite_none_right_eq_some, Bool.and_eq_true] at e
  · obtain ⟨⟨p, q⟩, rfl⟩ := e
    obtain ⟨a, us, g, rfl, ha, ha', r⟩ := hy.tup s
    obtain ⟨i1, i2⟩ := flats_of hx p r q
    refine ⟨a, us, rfl, .inr ha', flat_of hx p, i1, ?_⟩
    rw [if_pos rfl, i2]
    exact n.bl s
  · obtain ⟨⟨p, q⟩, rfl⟩ := e
    obtain ⟨a, us, g, rfl, ha, r⟩ := hy.lst s
    obtain ⟨i1, i2⟩ := flats_of hx p r q
    refine ⟨a, us, rfl, .inl (.of ha), flat_of hx p, i1, ?_⟩
    rw [if_pos rfl, i2]
    exact n.bl s
/-! ### a subscript -/
theorem ixR_imp {r r' : R2} (h : IxR X r) (k : ∀ x y H Q, r' x y H Q → r x y H Q) : IxR X r' := fun value slice pins s σ H x y v u Q I rx ry q hs => h value slice pins s σ H x y v u Q I rx ry (k x y H Q q) hs
theorem Reps.atI {K : PySem.W.Frag} {F H : Hp} {ds : List D} {vs : List V} {f : List Addr} {i : Int} {d : D} (r : Reps K F H ds vs f) (e : atI ds i = some d) : ∃ v g, L2.atI vs i = some v ∧ Rep K F H d v g := by
  unfold L2.atI at e ⊢
  rw [r.length]
  cases q : ixN ds.length i with
  | none => rw [q] at e; cases e
  | some j =>
    rw [q] at e
    obtain ⟨v, g, h1, h2, _⟩ := r.get e
    exact ⟨v, g, h1, h2⟩
theorem atI_map {α β : Type} (f : α → β) (xs : List α) (i : Int) : L2.atI (xs.map f) i = (L2.atI xs i).map f := by
  unfold L2.atI
  rw [List.length_map]
  cases ixN xs.length i with
  | none => rfl
  | some j => simp
theorem o_idx : IxR X (rD X.K (run2 .idx)) := by
  refine ixR_imp ix_seq fun x y H Q h => ?_
  obtain ⟨F, dx, dy, d, s, hx, hy, e, n⟩ := h
  cases dx <;> cases dy <;> simp only [run2, reduceCtorEq] at e
  · rename_i z i
    split at e
    · rename_i hz
      obtain ⟨c, ec, rfl⟩ := Option.map_eq_some_iff.mp e
      exact .inr (.inr ⟨z, i, c, hx.str, hy.int, big_line (of_decide_eq_true hz), ec, n.str s⟩)
    · cases e
  · rename_i xs i
    obtain ⟨a, us, g, rfl, ha, ha', r⟩ := hx.tup s
    split at e
    · rename_i d' ed
      split at e
      · rename_i p
        cases e
        obtain ⟨v, g', h1, h2⟩ := r.atI ed
        exact .inr (.inl ⟨a, us, i, v, rfl, hy.int, ha', h1, n.pure s p h2⟩)
      · cases e
    · cases e
  · rename_i o xs i
    obtain ⟨a, us, g, rfl, ha, r⟩ := hx.lst s
    split at e
    · rename_i d' ed
      split at e
      · rename_i p
        cases e
        obtain ⟨v, g', h1, h2⟩ := r.atI ed
        exact .inl ⟨a, us, i, v, rfl, hy.int, .of ha, h1, n.pure s p h2⟩
      · cases e
    · cases e
  · rename_i ns i
    obtain ⟨a, rfl, ha⟩ := hx.scr s
    obtain ⟨k, ek, rfl⟩ := Option.map_eq_some_iff.mp e
    exact .inl ⟨a, _, i, .int k, rfl, hy.int, ha, by rw [atI_map, ek]; rfl, n.int s⟩
theorem o_neg : UnR X (unaryOp .USub) (rD1 X.K (run1 .neg)) := by
  refine unR_imp un_neg fun x H Q h => ?_
  obtain ⟨F, dx, d, s, hx, e, n⟩ := h
  cases dx <;> simp only [run1, Option.some.injEq, reduceCtorEq] at e
  subst e
  exact ⟨_, hx.int, n.int s⟩
end
end IR
namespace IR
open PySem PySem.Spec L2
section
variable {G : Tab} {A : Nat → Addr} {call : Calls} {X : Cx} {W : WX}

/-- operands, then something -/
theorem sA {σ : St} {F H : Hp} {fp : Fp} {δ : Ev} {m : Md} {a : E} {β : Type} {f : List Opd → Ev → R β} {ok : β → Ev → Prop} {Q : List V → Hp → Prop} (w : Wd X.K F H σ δ fp)
    (h : RG ((evs G call m a δ).bind f) ok (PX G A X.K σ F H fp W))
    (k : ∀ xs δ1 F1 H1 fp1 vs fv, Tr F H (Own fp) F1 H1 (Own fp1) → Wd X.K F1 H1 σ δ1 fp1 → Ods X.K F1 H1 σ fp1 xs vs fv → (∀ a ∈ fv, Own fp a ∨ H a = none) → RG (f xs δ1) ok (PX G A X.K σ F1 H1 fp1 W) → Q vs H1) :
    tA G A call X W m a σ H Q :=
  ⟨F, δ, fp, w, h.bind.mono (fun xs δ1 hr F1 H1 fp1 vs fv t w1 od fr => k xs δ1 F1 H1 fp1 vs fv t w1 od fr (hr.mono (fun _ _ z => z) fun c g δ z => z.step (t := t))) fun _ _ _ z => z⟩
theorem s_bl {o : Bl} {es : E} {m : Md} {σ : St} {H : Hp} {Q : VK} (h : tS G A call X W m (.bl o es) σ H Q) : tCB (rDs X.K (runBl o)) (tA G A call X W .opd es) σ H Q := by
  obtain ⟨F, δ, fp, w, h⟩ := h
  simp only [ev] at h
  refine sA w h fun xs δ1 F1 H1 fp1 vs fv t1 w1 o1 fr1 h1 => ?_
  split at h1
  · rename_i ds gx
    obtain ⟨z, ez, h3⟩ := RG.ofO h1
    obtain ⟨r, er, rfl⟩ := Option.map_eq_some_iff.mp ez
    exact ⟨F1, ds, r, w1.same, o1.see w1 gx, er, h3.new t1 w1⟩
  · exact False.elim h1

/-! ### built-in functions by data -/
theorem Vws.one {K : PySem.W.Frag} {F H : Hp} {d : D} {vs : List V} (h : Vws K F H [d] vs) : ∃ v, vs = [v] ∧ Vw K F H d v := by
  cases h with
  | cons a b => cases b; exact ⟨_, rfl, a⟩
theorem Vws.two {K : PySem.W.Frag} {F H : Hp} {d e : D} {vs : List V} (h : Vws K F H [d, e] vs) : ∃ v u, vs = [v, u] ∧ Vw K F H d v ∧ Vw K F H e u := by
  cases h with
  | cons a b =>
    cases b with
    | cons c d => cases d; exact ⟨_, _, rfl, a, c⟩
theorem Reps.ints {K : PySem.W.Frag} {F H : Hp} : ∀ {ds : List D} {vs : List V} {f : List Addr} {ns : List Int}, Reps K F H ds vs f → dInts ds = some ns → vs = ns.map V.int
  | [], _, _, ns, h, e => by
    simp only [dInts, Option.some.injEq] at e; subst e; rw [h.1]; rfl
  | d :: ds, _, _, ns, ⟨x, r, f1, f2, ev, h1, h2, _⟩, e => by
    cases d <;> simp only [dInts, reduceCtorEq] at e
    obtain ⟨ms, em, rfl⟩ := Option.map_eq_some_iff.mp e
    rw [ev, h1.1, Reps.ints h2 em]; rfl
theorem Reps.bls {K : PySem.W.Frag} {F H : Hp} : ∀ {ds : List D} {vs : List V} {f : List Addr} {ns : List Bool}, Reps K F H ds vs f → dBls ds = some ns → vs = ns.map V.bl
  | [], _, _, ns, h, e => by
    simp only [dBls, Option.some.injEq] at e; subst e; rw [h.1]; rfl
  | d :: ds, _, _, ns, ⟨x, r, f1, f2, ev, h1, h2, _⟩, e => by
    cases d <;> simp only [dBls, reduceCtorEq] at e
    obtain ⟨ms, em, rfl⟩ := Option.map_eq_some_iff.mp e
    rw [ev, h1.1, Reps.bls h2 em]; rfl
theorem reps_ints {K : PySem.W.Frag} {F H : Hp} : ∀ ns : List Int, Reps K F H (ns.map D.int) (ns.map V.int) []
  | [] => ⟨rfl, rfl⟩
  | n :: ns => ⟨_, _, [], [], rfl, ⟨rfl, rfl⟩, reps_ints ns, by simp, rfl⟩
theorem pures_ints : ∀ ns : List Int, D.pures (ns.map D.int) = true
  | [] => rfl
  | n :: ns => by simp [D.pures, D.pure, pures_ints ns]
theorem minI_mem : ∀ {ns : List Int}, ns ≠ [] → minI ns ∈ ns ∧ ∀ y ∈ ns, minI ns ≤ y
  | [], h => absurd rfl h
  | [x], _ => by simp [minI]
  | x :: y :: r, _ => by
    obtain ⟨h1, h2⟩ := minI_mem (ns := y :: r) (by simp)
    refine ⟨?_, fun z hz => ?_⟩
    · show min x (minI (y :: r)) ∈ _
      by_cases q : x ≤ minI (y :: r)
      · rw [Int.min_eq_left q]; simp
      · rw [Int.min_eq_right (by omega)]; exact List.mem_cons_of_mem _ h1
    · show min x (minI (y :: r)) ≤ z
      rcases List.mem_cons.mp hz with e | e
      · subst e; exact Int.min_le_left _ _
      · exact Int.le_trans (Int.min_le_right _ _) (h2 z e)
theorem maxI_mem : ∀ {ns : List Int}, ns ≠ [] → maxI ns ∈ ns ∧ ∀ y ∈ ns, y ≤ maxI ns
  | [], h => absurd rfl h
  | [x], _ => by simp [maxI]
  | x :: y :: r, _ => by
    obtain ⟨h1, h2⟩ := maxI_mem (ns := y :: r) (by simp)
    refine ⟨?_, fun z hz => ?_⟩
    · show max x (maxI (y :: r)) ∈ _
      by_cases q : maxI (y :: r) ≤ x
      · rw [Int.max_eq_left q]; simp
      · rw [Int.max_eq_right (by omega)]; exact List.mem_cons_of_mem _ h1
    · show z ≤ max x (maxI (y :: r))
      rcases List.mem_cons.mp hz with e | e
      · subst e; exact Int.le_max_left _ _
      · exact Int.le_trans (h2 z e) (Int.le_max_right _ _)
theorem insI_perm (x : Int) : ∀ ns : List Int, (insI x ns).Perm (x :: ns)
  | [] => .refl _
  | y :: r => by
    unfold insI
    split
    · exact .refl _
    · exact (List.Perm.cons y (insI_perm x r)).trans (.swap x y r)
theorem sortI_perm : ∀ ns : List Int, (sortI ns).Perm ns
  | [] => .refl _
  | x :: r => (insI_perm x (sortI r)).trans (.cons x (sortI_perm r))
theorem insI_sorted (x : Int) : ∀ {ns : List Int}, ns.Pairwise (· ≤ ·) → (insI x ns).Pairwise (· ≤ ·)
  | [], _ => by simp [insI]
  | y :: r, h => by
    unfold insI
    rw [List.pairwise_cons] at h
    split
    · rename_i q
      rw [List.pairwise_cons, List.pairwise_cons]
      refine ⟨fun z hz => ?_, h⟩
      rcases List.mem_cons.mp hz with e | e
      · subst e; exact q
      · exact Int.le_trans q (h.1 z e)
    · rename_i q
      rw [List.pairwise_cons]
      refine ⟨fun z hz => ?_, insI_sorted x h.2⟩
      rcases List.mem_cons.mp ((insI_perm x r).mem_iff.mp hz) with e | e
      · subst e; omega
      · exact h.1 z e
theorem sortI_sorted : ∀ ns : List Int, (sortI ns).Pairwise (· ≤ ·)
  | [] => .nil
  | x :: r => insI_sorted x (sortI_sorted r)

theorem b_len : CallR X (.builtin "len") (rDs X.K (runBl .len)) := by
  refine callR_imp (call_len_seq.or call_len_str) fun xs H Q h => ?_
  obtain ⟨F, ds, d, s, hx, e, n⟩ := h
  unfold runBl at e
  split at e <;> (try contradiction) <;> (try simp only [Option.some.injEq, reduceCtorEq, Option.ite_none_right_eq_some, decide_eq_true_eq] at e)
  · subst e
    obtain ⟨v, rfl, hv⟩ := hx.one
    obtain ⟨a, us, g, rfl, ha, r⟩ := hv.lst s
    exact .inl ⟨a, us, rfl, .inl (.of ha), by rw [r.length]; exact n.int s⟩
  · subst e
    obtain ⟨v, rfl, hv⟩ := hx.one
    obtain ⟨a, us, g, rfl, _, ha, r⟩ := hv.tup s
    exact .inl ⟨a, us, rfl, .inr ha, by rw [r.length]; exact n.int s⟩
  · subst e
    obtain ⟨v, rfl, hv⟩ := hx.one
    obtain ⟨a, rfl, ha⟩ := hv.scr s
    exact .inl ⟨a, _, rfl, .inl ha, by rw [List.length_map]; exact n.int s⟩
  · obtain ⟨hz, rfl⟩ := e
    obtain ⟨v, rfl, hv⟩ := hx.one
    exact .inr ⟨_, by rw [hv.str], big_line hz, n.int s⟩
theorem b_abs : CallR X (.builtin "abs") (rDs X.K (runBl .abs)) := by
  refine callR_imp call_abs fun xs H Q h => ?_
  obtain ⟨F, ds, d, s, hx, e, n⟩ := h
  unfold runBl at e
  split at e <;> (try contradiction) <;> (try simp only [Option.some.injEq, reduceCtorEq, Option.ite_none_right_eq_some, decide_eq_true_eq] at e)
  subst e
  obtain ⟨v, rfl, hv⟩ := hx.one
  exact ⟨_, by rw [hv.int], n.int s⟩
theorem b_int : CallR X (.type "int") (rDs X.K (runBl .int)) := by
  refine callR_imp call_int1 fun xs H Q h => ?_
  obtain ⟨F, ds, d, s, hx, e, n⟩ := h
  unfold runBl at e
  split at e <;> (try contradiction) <;> (try simp only [Option.some.injEq, reduceCtorEq, Option.ite_none_right_eq_some, decide_eq_true_eq] at e)
  · subst e
    obtain ⟨v, rfl, hv⟩ := hx.one
    exact .inl ⟨_, by rw [hv.int], n.int s⟩
  · subst e
    obtain ⟨v, rfl, hv⟩ := hx.one
    exact .inr ⟨_, by rw [hv.bl], n.int s⟩
theorem b_list : CallR X (.type "list") (rDs X.K (runBl .list)) := by
  refine callR_imp call_list_of fun xs H Q h => ?_
  obtain ⟨F, ds, d, s, hx, e, n⟩ := h
  unfold runBl at e
  split at e <;> (try contradiction) <;> (try simp only [Option.some.injEq, reduceCtorEq, Option.ite_none_right_eq_some, decide_eq_true_eq] at e)
  · obtain ⟨p, rfl⟩ := e
    obtain ⟨v, rfl, hv⟩ := hx.one
    obtain ⟨a, us, g, rfl, ha, r⟩ := hv.lst s
    exact ⟨a, us, rfl, .inl (.of ha), n.lst s p r⟩
  · obtain ⟨p, rfl⟩ := e
    obtain ⟨v, rfl, hv⟩ := hx.one
    obtain ⟨a, us, g, rfl, _, ha, r⟩ := hv.tup s
    exact ⟨a, us, rfl, .inr ha, n.lst s p r⟩
theorem b_tuple : CallR X (.type "tuple") (rDs X.K (runBl .tuple)) := by
  refine callR_imp call_tuple_of fun xs H Q h => ?_
  obtain ⟨F, ds, d, s, hx, e, n⟩ := h
  unfold runBl at e
  split at e <;> (try contradiction) <;> (try simp only [Option.some.injEq, reduceCtorEq, Option.ite_none_right_eq_some, decide_eq_true_eq] at e)
  · obtain ⟨p, rfl⟩ := e
    obtain ⟨v, rfl, hv⟩ := hx.one
    obtain ⟨a, us, g, rfl, ha, r⟩ := hv.lst s
    exact ⟨a, us, rfl, .inl ⟨.of ha, n.tup s p r⟩⟩
  · obtain ⟨p, rfl⟩ := e
    obtain ⟨v, rfl, hv⟩ := hx.one
    obtain ⟨a, us, g, rfl, hf, ha, r⟩ := hv.tup s
    exact ⟨a, us, rfl, .inr ⟨ha, n.tupAt s p r hf⟩⟩
theorem b_all (hc : X.calm = true) : CallR X (.builtin "all") (rDs X.K (runBl .all)) := by
  refine callR_imp (cr_all hc) fun xs H Q h => ?_
  obtain ⟨F, ds, d, s, hx, e, n⟩ := h
  unfold runBl at e
  split at e <;> (try contradiction) <;> (try simp only [Option.some.injEq, reduceCtorEq, Option.map_eq_some_iff] at e)
  obtain ⟨bs, eb, rfl⟩ := e
  obtain ⟨v, rfl, hv⟩ := hx.one
  obtain ⟨a, us, g, rfl, ha, r⟩ := hv.lst s
  exact ⟨a, bs, rfl, .of (by rw [← r.bls eb]; exact ha), n.bl s⟩
theorem b_any (hc : X.calm = true) : CallR X (.builtin "any") (rDs X.K (runBl .any)) := by
  refine callR_imp (cr_any hc) fun xs H Q h => ?_
  obtain ⟨F, ds, d, s, hx, e, n⟩ := h
  unfold runBl at e
  split at e <;> (try contradiction) <;> (try simp only [Option.some.injEq, reduceCtorEq, Option.map_eq_some_iff] at e)
  obtain ⟨bs, eb, rfl⟩ := e
  obtain ⟨v, rfl, hv⟩ := hx.one
  obtain ⟨a, us, g, rfl, ha, r⟩ := hv.lst s
  exact ⟨a, bs, rfl, .of (by rw [← r.bls eb]; exact ha), n.bl s⟩
theorem b_sum (hc : X.calm = true) : CallR X (.builtin "sum") (rDs X.K (runBl .sum)) := by
  refine callR_imp (cr_sum hc) fun xs H Q h => ?_
  obtain ⟨F, ds, d, s, hx, e, n⟩ := h
  unfold runBl at e
  split at e <;> (try contradiction) <;> (try simp only [Option.some.injEq, reduceCtorEq, Option.map_eq_some_iff] at e)
  obtain ⟨ns, eb, rfl⟩ := e
  obtain ⟨v, rfl, hv⟩ := hx.one
  obtain ⟨a, us, g, rfl, ha, r⟩ := hv.lst s
  exact ⟨a, ns, rfl, .of (by rw [← r.ints eb]; exact ha), n.int s⟩
theorem prLe_total (p q : Int × Int) : prLe p q = true ∨ prLe q p = true := by
  unfold prLe
  by_cases h : p.1 = q.1
  · rw [if_pos h, if_pos h.symm, decide_eq_true_eq, decide_eq_true_eq]; omega
  · rw [if_neg h, if_neg (fun z => h z.symm), decide_eq_true_eq, decide_eq_true_eq]; omega
theorem prLe_trans {p q r : Int × Int} (a : prLe p q = true) (b : prLe q r = true) : prLe p r = true := by
  obtain ⟨p1, p2⟩ := p; obtain ⟨q1, q2⟩ := q; obtain ⟨r1, r2⟩ := r
  unfold prLe at *
  simp only at *
  by_cases h1 : p1 = q1
  · subst h1
    by_cases h2 : p1 = r1
    · subst h2; simp at *; omega
    · simp [h2] at *; omega
  · by_cases h2 : q1 = r1
    · subst h2; simp [h1] at *; omega
    · by_cases h3 : p1 = r1
      · subst h3; simp [h1, h2] at *; omega
      · simp [h1, h2, h3] at *; omega
theorem prLe_anti {p q : Int × Int} (a : prLe p q = true) (b : prLe q p = true) : p = q := by
  obtain ⟨p1, p2⟩ := p; obtain ⟨q1, q2⟩ := q
  unfold prLe at *
  simp only at *
  by_cases h1 : p1 = q1
  · subst h1; simp at *; omega
  · simp [h1, Ne.symm h1] at *; omega
theorem insP_perm (x : Int × Int) : ∀ ys, (insP x ys).Perm (x :: ys)
  | [] => .refl _
  | y :: r => by
    unfold insP
    split
    · exact .refl _
    · exact ((insP_perm x r).cons y).trans (.swap _ _ _)
theorem sortP_perm : ∀ xs, (sortP xs).Perm xs
  | [] => .refl _
  | x :: r => (insP_perm x (sortP r)).trans ((sortP_perm r).cons x)
theorem insP_sorted (x : Int × Int) : ∀ ys : List (Int × Int), ys.Pairwise (fun a b => prLe a b = true) → (insP x ys).Pairwise (fun a b => prLe a b = true)
  | [], _ => by simp [insP]
  | y :: r, h => by
    unfold insP
    have h' := List.pairwise_cons.mp h
    split
    · rename_i c
      refine List.pairwise_cons.mpr ⟨fun z hz => ?_, h⟩
      rcases List.mem_cons.mp hz with rfl | hz
      · exact c
      · exact prLe_trans c (h'.1 z hz)
    · rename_i c
      refine List.pairwise_cons.mpr ⟨fun z hz => ?_, insP_sorted x r h'.2⟩
      rcases List.mem_cons.mp ((insP_perm x r).mem_iff.mp hz) with rfl | hz
      · exact (prLe_total y z).resolve_right c
      · exact h'.1 z hz
theorem sortP_sorted : ∀ xs, (sortP xs).Pairwise (fun a b => prLe a b = true)
  | [] => .nil
  | x :: r => insP_sorted x _ (sortP_sorted r)
theorem sortedP_uniq : ∀ {xs ys : List (Int × Int)}, xs.Perm ys → xs.Pairwise (fun a b => prLe a b = true) → ys.Pairwise (fun a b => prLe a b = true) → xs = ys
  | [], ys, p, _, _ => by rw [p.symm.eq_nil]
  | x :: xs, [], p, _, _ => absurd p.eq_nil (by simp)
  | x :: xs, y :: ys, p, hx, hy => by
    rw [List.pairwise_cons] at hx hy
    have e : x = y := by
      have h1 := p.mem_iff (a := x)
      have h2 := p.mem_iff (a := y)
      simp at h1 h2
      rcases h1 with h1 | h1
      · exact h1
      · rcases h2 with h2 | h2
        · exact h2.symm
        · exact prLe_anti (hx.1 y h2) (hy.1 x h1)
    subst e
    rw [sortedP_uniq p.cons_inv hx.2 hy.2]
theorem dPrs_eq : ∀ {xs : List D} {ps : List (Int × Int)}, dPrs xs = some ps → xs = ps.map prD
  | [], ps, h => by simp only [dPrs, Option.some.injEq] at h; subst h; rfl
  | x :: xs, ps, h => by
    unfold dPrs at h
    split at h
    · rename_i e; cases e
    · rename_i i j r e
      cases e
      obtain ⟨qs, e1, rfl⟩ := Option.map_eq_some_iff.mp h
      rw [dPrs_eq e1]; rfl
    · cases h

def pdP (p : Int × Int) : PyData := .tuple [.int p.1, .int p.2]
theorem pdP_toD (p : Int × Int) : pdP p = PySem.W.Datum.toD p := rfl
theorem pys_prD : ∀ ps : List (Int × Int), D.pys (ps.map prD) = some (ps.map pdP)
  | [] => rfl
  | p :: ps => by
    have ih := pys_prD ps
    simp only [List.map_cons, D.pys, ih]
    rfl
theorem Reps.prs {K : PySem.W.Frag} {F H : Hp} (s : Same F H) {xs : List D} {ps : List (Int × Int)} {us : List V} {g : List Addr} (h : Reps K F H xs us g) (e : dPrs xs = some ps) : DpAll K H us (ps.map pdP) ∧ us.length = ps.length := by
  have e' := dPrs_eq e
  subst e'
  exact ⟨dps_of s (pys_prD ps) h, by rw [h.length]; simp⟩
theorem dpAll_at {K : PySem.W.Frag} {H : Hp} : ∀ {us : List V} {ps : List PyData}, DpAll K H us ps → ∀ (i : Nat) (v : V), us[i]? = some v → ∃ p, ps[i]? = some p ∧ Dp K H v p
  | _, _, .nil, i, v, h => by simp at h
  | _, _, .cons h1 h2, 0, v, h => by
    simp at h; subst h
    exact ⟨_, rfl, h1⟩
  | _, _, .cons h1 h2, i + 1, v, h => by
    obtain ⟨p, e, q⟩ := dpAll_at h2 i v (by simpa using h)
    exact ⟨p, by simpa using e, q⟩
/-- sorted(xs) of pairs -/
def rSortPr (K : PySem.W.Frag) : List V → Hp → VK → Prop := fun vs H Q => ∃ (a : Addr) (xs : List V) (ps : List (Int × Int)), vs = [V.ref a] ∧ SqL K H a xs ∧ DpAll K H xs (ps.map pdP) ∧ xs.length = ps.length ∧
  ∀ (zs : List (V × (Int × Int))) (p : Addr), zs.Perm (xs.zip ps) → (zs.map (·.2)).Pairwise (fun a b => prLe a b = true) → H p = none → Q (.ref p) (upd H p (.lst (zs.map (·.1))))
theorem alike_pr (p q : Int × Int) : PySem.W.alike (pdP p) (pdP q) = true := by simp [pdP, PySem.W.alike, PySem.W.alikeAll]
theorem zip_each {α β γ : Type} {R : α → β × γ → Prop} : ∀ {us : List α} {xs : List β} {ps : List γ}, xs.length = ps.length → us.length = xs.length → (∀ (i : Nat) u x p, us[i]? = some u → xs[i]? = some x → ps[i]? = some p → R u (x, p)) → PySem.W.EachIs R us (xs.zip ps)
  | [], [], [], _, _, _ => .nil
  | u :: us, x :: xs, p :: ps, h1, h2, k => by
    rw [List.zip_cons_cons]
    exact .cons (k 0 u x p rfl rfl rfl) (zip_each (by simpa using h1) (by simpa using h2) fun i u x p a b c => k (i + 1) u x p (by simpa using a) (by simpa using b) (by simpa using c))
  | [], x :: xs, _, _, h2, _ => by simp at h2
  | u :: us, [], _, _, h2, _ => by simp at h2
  | _, [], p :: ps, h1, _, _ => by simp at h1
  | _, x :: xs, [], h1, _, _ => by simp at h1
theorem each_vals {us : List Value} {zs : List (V × (Int × Int))} (h : PySem.W.EachIs (fun u (b : V × (Int × Int)) => RelV b.1 u) us zs) : Vals (zs.map (·.1)) us := by
  generalize hR : (fun u (b : V × (Int × Int)) => RelV b.1 u) = R at h
  induction h with
  | nil => exact .nil
  | cons a _ ih => subst hR; exact .cons a ih
theorem cr_sortPr (hu : X.A.units + 64 < cLine) : CallR X (.builtin "sorted") (rSortPr X.K) := by
  intro pins s σ H vs us Q I r h
  obtain ⟨a, xs, ps, rfl, hs, hd, hlen, q⟩ := h
  obtain ⟨its, rv, hl, hz⟩ := I.list hs
  rw [Vals.ref1 r]
  have hit : its.length = xs.length := rv.length.symm
  have hdp : ∀ (i : Nat) (v : V) (p : Int × Int), xs[i]? = some v → ps[i]? = some p → Dp X.K H v (pdP p) := fun i v p e1 e2 => by
    obtain ⟨d, e3, h3⟩ := dpAll_at hd i v e1
    rw [List.getElem?_map, e2] at e3
    cases e3
    exact h3
  refine PySem.W.sorted_data (R := fun u (b : V × (Int × Int)) => RelV b.1 u) (enc := fun b => pdP b.2) (bs := xs.zip ps) (vs := its) hl.isList (zip_each hlen hit fun i u x p e1 e2 e3 => ?_) (zip_each hlen hit fun i u x p e1 e2 e3 => ?_) (fun d hd' d' hd'' => ?_) (.inl fun d hd' => ?_) ?_ (fun b hb => ?_) fun out h1 h2 => ?_
  · obtain ⟨u', e4, h4⟩ := rv.get e2
    rw [e1] at e4; cases e4; exact h4
  · obtain ⟨u', e4, h4⟩ := rv.get e2
    rw [e1] at e4; cases e4
    exact Dp.reads I _ _ _ (hdp i x p e2 e3) h4
  · obtain ⟨b, _, rfl⟩ := List.mem_map.mp hd'
    obtain ⟨b', _, rfl⟩ := List.mem_map.mp hd''
    exact alike_pr _ _
  · obtain ⟨b, _, rfl⟩ := List.mem_map.mp hd'
    exact ⟨_, _, rfl⟩
  · rw [List.length_zip, hlen, Nat.min_self, ← hlen]; exact hz
  · show X.A.units + 2 + (pdP b.2).depth < cLine
    simp [pdP, PyData.depth, PyData.depthAll]; omega
  · have ele : PySem.W.dataLe false (fun b : V × (Int × Int) => pdP b.2) = fun p q => prLe p.2 q.2 := by
      have e := PySem.W.dataLe_ii (β := V × (Int × Int)) (fun b => b.2.1) (fun b => b.2.2)
      refine Eq.trans e ?_
      funext p q
      unfold prLe
      by_cases h : p.2.1 = q.2.1 <;> simp [h]
    rw [ele] at h2
    have hp := List.mergeSort_perm (xs.zip ps) (fun p q => prLe p.2 q.2)
    have hs' := List.pairwise_mergeSort (le := fun p q : V × (Int × Int) => prLe p.2 q.2) (fun a b c h1 h2 => prLe_trans h1 h2) (fun a b => by rcases prLe_total a.2 b.2 with h | h <;> simp [h]) (xs.zip ps)
    generalize (xs.zip ps).mergeSort (fun p q => prLe p.2 q.2) = zs at h2 hp hs'
    obtain ⟨ep, he'⟩ := PyProof.Rows.sortedAll_at s.heap its out.toArray
    have hlz : (zs.map (·.1)).length ≤ sizeLine := by
      rw [List.length_map, hp.length_eq, List.length_zip, hlen, Nat.min_self, ← hlen]; exact hz
    refine ⟨.ref _, upd H (s.heap.objs.size + 1) (.lst (zs.map (·.1))), I.laid (t' := s.toks) (fun _ _ => PyProof.Rows.sortedAll_old) (Nat.le_succ _) ⟨hlz, out, ep, each_vals h2, he'⟩, rfl, q zs _ hp (by rw [List.pairwise_map]; exact hs') (I.hok.fresh (Nat.le_succ _))⟩
/-- min(xs) of pairs: one of them -/
def rMinPr (K : PySem.W.Frag) : List V → Hp → VK → Prop := fun vs H Q => ∃ (a : Addr) (xs : List V) (ps : List (Int × Int)), vs = [V.ref a] ∧ SqL K H a xs ∧ DpAll K H xs (ps.map pdP) ∧ ps ≠ [] ∧
  ∀ (i : Nat) (v : V) (p : Int × Int), xs[i]? = some v → ps[i]? = some p → (∀ q ∈ ps, prLe p q = true) → Q v H
theorem minOf_le (x : Int × Int) : ∀ (xs : List (Int × Int)), (∀ q ∈ x :: xs, prLe (PySem.W.minOf x xs) q = true) := by
  have step : ∀ (xs : List (Int × Int)) (a : Int × Int), prLe (xs.foldl (fun a y => if PySem.W.DatumOrd.lt y a = true then y else a) a) a = true ∧ ∀ q ∈ xs, prLe (xs.foldl (fun a y => if PySem.W.DatumOrd.lt y a = true then y else a) a) q = true := by
    have lt : ∀ a b : Int × Int, PySem.W.DatumOrd.lt a b = true ↔ prLe b a = false := fun a b => by
      rw [← PySem.W.DatumOrd.lt_eq]
      show PySem.W.dataLt (.tuple [.int a.1, .int a.2]) (.tuple [.int b.1, .int b.2]) = true ↔ _
      rw [PySem.W.dataLt_ii, decide_eq_true_eq]
      unfold prLe
      by_cases h : b.1 = a.1
      · rw [if_pos h, decide_eq_false_iff_not]; omega
      · rw [if_neg h, decide_eq_false_iff_not]; omega
    intro xs
    induction xs with
    | nil => intro a; exact ⟨(prLe_total a a).elim id id, by simp⟩
    | cons y ys ih =>
      intro a
      rw [List.foldl_cons]
      by_cases c : PySem.W.DatumOrd.lt y a = true
      · rw [if_pos c]
        obtain ⟨h1, h2⟩ := ih y
        have ya : prLe y a = true := (prLe_total y a).resolve_right (by rw [(lt y a).mp c]; simp)
        exact ⟨prLe_trans h1 ya, fun q hq => by
          rcases List.mem_cons.mp hq with rfl | hq
          · exact h1
          · exact h2 q hq⟩
      · rw [if_neg c]
        obtain ⟨h1, h2⟩ := ih a
        have ay : prLe a y = true := by
          cases h : prLe a y with
          | true => rfl
          | false => exact absurd ((lt y a).mpr h) c
        exact ⟨h1, fun q hq => by
          rcases List.mem_cons.mp hq with rfl | hq
          · exact prLe_trans h1 ay
          · exact h2 q hq⟩
  intro xs q hq
  obtain ⟨h1, h2⟩ := step xs x
  rcases List.mem_cons.mp hq with rfl | hq
  · exact h1
  · exact h2 q hq
theorem cr_minPr (hc : X.calm = true) (hu : X.A.units + 64 < cLine) : CallR X (.builtin "min") (rMinPr X.K) := by
  intro pins s σ H vs us Q I r h
  obtain ⟨a, xs, ps, rfl, hs, hd, hne, q⟩ := h
  obtain ⟨its, rv, hl, hz⟩ := I.list hs
  rw [Vals.ref1 r]
  cases ps with
  | nil => exact absurd rfl hne
  | cons p0 ps =>
  obtain ⟨as, hr⟩ := Dp.readsAll I _ _ _ hd rv
  refine PySem.W.min_list_datum (x := p0) (xs := ps) (vs := its.toArray) (I.ok.hd hc) hl.isList ⟨as, by
    show ReadsAll s.heap its.toArray.toList ((p0 :: ps).map pdP) as
    simpa using hr⟩ (by show X.A.units + 1 + 1 < cLine; omega) fun i v h' tk hi hh hk => ?_
  have hi' : its[i]? = some v := by simpa using hi
  obtain ⟨v0, e0, r0⟩ : ∃ v0, xs[i]? = some v0 ∧ RelV v0 v := by
    have hlt : i < xs.length := by rw [rv.length]; exact (List.getElem?_eq_some_iff.mp hi').1
    obtain ⟨u, e1, r1⟩ := rv.get (List.getElem?_eq_getElem hlt)
    rw [hi'] at e1; cases e1
    exact ⟨_, List.getElem?_eq_getElem hlt, r1⟩
  obtain ⟨d, e3, h3⟩ := dpAll_at hd i v0 e0
  obtain ⟨p, e4, rfl⟩ : ∃ p, (p0 :: ps)[i]? = some p ∧ d = pdP p := by
    rw [List.getElem?_map] at e3
    obtain ⟨p, e4, e5⟩ := Option.map_eq_some_iff.mp e3
    exact ⟨p, e4, e5.symm⟩
  obtain ⟨as', rd⟩ := Dp.reads I _ _ _ h3 r0
  obtain ⟨bs, rh⟩ := hh
  have rd' := PySem.W.reads_keeps hk rd
  have eq := (PySem.Reads.unique rd' _ _ rh).1
  have ep : p = PySem.W.minOf p0 ps := by
    have eq : pdP p = pdP (PySem.W.minOf p0 ps) := eq
    simp [pdP] at eq
    exact Prod.ext eq.1 eq.2
  exact ⟨v0, H, I.kept hk, r0, q i v0 p e0 e4 (by rw [ep]; exact minOf_le p0 ps)⟩
theorem minP_mem : ∀ {xs : List (Int × Int)}, xs ≠ [] → minP xs ∈ xs ∧ ∀ q ∈ xs, prLe (minP xs) q = true
  | [], h => absurd rfl h
  | [x], _ => ⟨by simp [minP], fun q hq => by
    rw [List.mem_singleton] at hq; subst hq; exact (prLe_total q q).elim id id⟩
  | x :: y :: r, _ => by
    obtain ⟨h1, h2⟩ := minP_mem (xs := y :: r) (by simp)
    have e : minP (x :: y :: r) = if prLe x (minP (y :: r)) then x else minP (y :: r) := rfl
    rw [e]
    split
    · rename_i c
      exact ⟨by simp, fun q hq => by
        rcases List.mem_cons.mp hq with rfl | hq
        · exact (prLe_total q q).elim id id
        · exact prLe_trans c (h2 q hq)⟩
    · rename_i c
      exact ⟨List.mem_cons_of_mem _ h1, fun q hq => by
        rcases List.mem_cons.mp hq with rfl | hq
        · exact (prLe_total _ _).resolve_right c
        · exact h2 q hq⟩
theorem max3_int (i j k : Int) : nuMax3 (.int i) (.int j) (.int k) = some (.int (if k > (if j > i then j else i) then k else (if j > i then j else i))) := by
  show ((Option.map (fun c => if c = true then V.int j else V.int i) (some (decide (i < j)))).bind fun m => nuMax2 m (.int k)) = _
  by_cases h : i < j
  · have h' : j > i := h
    simp only [Option.map_some, decide_eq_true h, if_true, Option.bind_some, if_pos h']
    show Option.map (fun c => if c = true then V.int k else V.int j) (some (decide (j < k))) = _
    by_cases q : j < k
    · simp [q]
    · simp [q]
  · have h' : ¬ j > i := h
    simp only [Option.map_some, decide_eq_false h, Bool.false_eq_true, if_false, Option.bind_some, if_neg h']
    show Option.map (fun c => if c = true then V.int k else V.int i) (some (decide (i < k))) = _
    by_cases q : i < k
    · simp [q]
    · simp [q]
theorem min3_int (i j k : Int) : nuMin3 (.int i) (.int j) (.int k) = some (.int (if k < (if j < i then j else i) then k else (if j < i then j else i))) := by
  show ((Option.map (fun c => if c = true then V.int j else V.int i) (some (decide (j < i)))).bind fun m => nuMin2 m (.int k)) = _
  by_cases h : j < i
  · simp only [Option.map_some, decide_eq_true h, if_true, Option.bind_some, if_pos h]
    show Option.map (fun c => if c = true then V.int k else V.int j) (some (decide (k < j))) = _
    by_cases q : k < j
    · simp [q]
    · simp [q]
  · simp only [Option.map_some, decide_eq_false h, Bool.false_eq_true, if_false, Option.bind_some, if_neg h]
    show Option.map (fun c => if c = true then V.int k else V.int i) (some (decide (k < i))) = _
    by_cases q : k < i
    · simp [q]
    · simp [q]
theorem Vws.three {K : PySem.W.Frag} {F H : Hp} {a b c : D} {xs : List V} (h : Vws K F H [a, b, c] xs) : ∃ v u w, xs = [v, u, w] ∧ Vw K F H a v ∧ Vw K F H b u ∧ Vw K F H c w := by
  cases h with
  | cons h1 h2 => cases h2 with
    | cons h2 h3 => cases h3 with
      | cons h3 h4 => cases h4; exact ⟨_, _, _, rfl, h1, h2, h3⟩
theorem b_min (hc : X.calm = true) (hu : X.A.units + 64 < cLine) : CallR X (.builtin "min") (rDs X.K (runBl .min)) := by
  refine callR_imp ((((call_min2 hc).or (cr_min hc)).or (cr_minPr hc hu)).or (call_min3Nu hc)) fun xs H Q h => ?_
  obtain ⟨F, ds, d, s, hx, e, n⟩ := h
  unfold runBl at e
  split at e <;> (try contradiction) <;> (try simp only [Option.some.injEq, reduceCtorEq] at e)
  · subst e
    obtain ⟨v, u, rfl, hv, hw⟩ := hx.two
    exact .inl (.inl (.inl ⟨_, _, by rw [hv.int, hw.int], n.int s⟩))
  · subst e
    obtain ⟨v, u, w, rfl, hv, hw, hz⟩ := hx.three
    exact .inr ⟨_, _, _, _, by rw [hv.int, hw.int, hz.int], min3_int _ _ _, n.int s⟩
  · obtain ⟨v, rfl, hv⟩ := hx.one
    obtain ⟨a, us, g, rfl, ha, r⟩ := hv.lst s
    split at e
    · rename_i ns eb
      split at e
      · cases e
      · rename_i q
        cases e
        have q' : ns ≠ [] := fun z => q (by rw [z]; rfl)
        obtain ⟨m1, m2⟩ := minI_mem q'
        refine .inl (.inl (.inr ⟨a, ns, rfl, .of (by rw [← r.ints eb]; exact ha), List.length_pos_iff.mpr q', fun m hm hl => ?_⟩))
        have em : m = minI ns := Int.le_antisymm (hl _ m1) (m2 _ hm)
        rw [em]; exact n.int s
    · split at e
      · rename_i ps eb
        split at e
        · cases e
        · rename_i q
          cases e
          have q' : ps ≠ [] := fun z => q (by rw [z]; rfl)
          obtain ⟨dp, hl⟩ := r.prs s eb
          refine .inl (.inr ⟨a, us, ps, rfl, .of ha, dp, q', fun i v p e1 e2 hle => ?_⟩)
          have em : p = minP ps := prLe_anti (hle _ (minP_mem q').1) ((minP_mem q').2 _ (List.mem_of_getElem? e2))
          have e' := dPrs_eq eb
          subst e'
          obtain ⟨v', g', e3, r3, _⟩ := r.get (i := i) (d := prD p) (by rw [List.getElem?_map, e2]; rfl)
          rw [e1] at e3
          cases e3
          rw [em] at r3
          have hg : g' = [] := Rep.nil_of_pure (by rfl) r3
          subst hg
          exact n.flat s r3
      · cases e
theorem b_max (hc : X.calm = true) : CallR X (.builtin "max") (rDs X.K (runBl .max)) := by
  refine callR_imp (((call_max2 hc).or (cr_max hc)).or (call_max3Nu hc)) fun xs H Q h => ?_
  obtain ⟨F, ds, d, s, hx, e, n⟩ := h
  unfold runBl at e
  split at e <;> (try contradiction) <;> (try simp only [Option.some.injEq, reduceCtorEq] at e)
  · subst e
    obtain ⟨v, u, rfl, hv, hu⟩ := hx.two
    exact .inl (.inl ⟨_, _, by rw [hv.int, hu.int], n.int s⟩)
  · subst e
    obtain ⟨v, u, w, rfl, hv, hw, hz⟩ := hx.three
    exact .inr ⟨_, _, _, _, by rw [hv.int, hw.int, hz.int], max3_int _ _ _, n.int s⟩
  · obtain ⟨v, rfl, hv⟩ := hx.one
    obtain ⟨a, us, g, rfl, ha, r⟩ := hv.lst s
    split at e
    · rename_i ns eb
      split at e
      · cases e
      · rename_i q
        cases e
        have q' : ns ≠ [] := fun z => q (by rw [z]; rfl)
        obtain ⟨m1, m2⟩ := maxI_mem q'
        refine .inl (.inr ⟨a, ns, rfl, .of (by rw [← r.ints eb]; exact ha), List.length_pos_iff.mpr q', fun m hm hl => ?_⟩)
        have em : m = maxI ns := Int.le_antisymm (m2 _ hm) (hl _ m1)
        rw [em]; exact n.int s
    · cases e
theorem prs_pure : ∀ ps : List (Int × Int), D.pures (ps.map prD) = true
  | [] => rfl
  | p :: ps => by simp only [List.map_cons, D.pures, prs_pure ps]; rfl
theorem b_sorted (hu : X.A.units + 64 < cLine) : CallR X (.builtin "sorted") (rDs X.K (runBl .sorted)) := by
  refine callR_imp (cr_sorted.or (cr_sortPr hu)) fun xs H Q h => ?_
  obtain ⟨F, ds, d, s, hx, e, n⟩ := h
  unfold runBl at e
  split at e <;> (try contradiction) <;> (try simp only [Option.some.injEq, reduceCtorEq] at e)
  obtain ⟨v, rfl, hv⟩ := hx.one
  obtain ⟨a, us, g, rfl, ha, r⟩ := hv.lst s
  split at e
  · rename_i ns eb
    split at e
    · rename_i q
      cases e
      refine .inl ⟨a, ns, rfl, .of (by rw [← r.ints eb]; exact ha), of_decide_eq_true q, fun ns' p hp hs hn => ?_⟩
      have en : ns' = sortI ns := PySem.W.ksm_same (hp.trans (sortI_perm ns).symm) hs (sortI_sorted ns)
      subst en
      exact n.lst s (pures_ints _) (reps_ints _) p hn
    · cases e
  · split at e
    · rename_i ps eb
      cases e
      obtain ⟨dp, hl⟩ := r.prs s eb
      refine .inr ⟨a, us, ps, rfl, .of ha, dp, hl, fun zs p hp hs hn => ?_⟩
      have e' := dPrs_eq eb
      subst e'
      have em : zs.map (·.2) = sortP ps := by
        refine sortedP_uniq ?_ hs (sortP_sorted ps)
        have h1 := hp.map (·.2)
        have h2 : ((us.zip ps).map (·.2)) = ps := by
          rw [List.map_snd_zip]; omega
        rw [h2] at h1
        exact h1.trans (sortP_perm ps).symm
      have hrep : ∀ z ∈ zs, Rep X.K F H (prD z.2) z.1 [] := fun z hz => by
        have hm := hp.mem_iff.mp hz
        obtain ⟨i, hi, e1⟩ := List.mem_iff_getElem.mp hm
        rw [List.getElem_zip] at e1
        rw [List.length_zip] at hi
        obtain ⟨v', g', e3, r3, _⟩ := r.get (i := i) (d := prD ps[i]) (by rw [List.getElem?_map, List.getElem?_eq_getElem (by omega)]; rfl)
        rw [List.getElem?_eq_getElem (by omega)] at e3
        have hg : g' = [] := Rep.nil_of_pure (by rfl) r3
        subst hg
        rw [← e1]
        cases e3
        exact r3
      have hreps : ∀ ws : List (V × (Int × Int)), (∀ z ∈ ws, Rep X.K F H (prD z.2) z.1 []) → Reps X.K F H ((ws.map (·.2)).map prD) (ws.map (·.1)) [] := fun ws => by
        induction ws with
        | nil => intro _; exact ⟨rfl, rfl⟩
        | cons w ws ih => intro h; exact ⟨w.1, _, [], [], rfl, h w (by simp), ih fun z hz => h z (by simp [hz]), by simp, rfl⟩
      have hr := hreps zs hrep
      rw [em] at hr
      exact n.lst s (prs_pure _) hr p hn
    · cases e
end
end IR
namespace IR
open PySem PySem.Spec PyProof.Rows L2 HT
/-! ### t[::-1] of a tuple or a list -/
section
variable {prog : Program} {w : World} {A : Around} {E : Value → Shared → Prop} {s : Shared}
theorem applied_rev {q : Addr} {vs : Value} {n : Nat} {Q : Int × Int × Nat → Shared → Prop} (hq : s.heap.IsSliceOf q .none .none vs) (pv : IsPart vs (some (-1)))
    (k : Q ((n : Int) - 1, -1, n) s) : wpAny (model prog w) A (Builtin.Slice.sliceApplied (.ref q) (pure (n : Int))) Q E s := by
  obtain ⟨oq, h1, h2, h3⟩ := id hq
  unfold Builtin.Slice.sliceApplied Builtin.Slice.sliceFields
  refine wpAny_bind (wpAny_bind (wpAny_field h1 h3 (x := .none) rfl (wpAny_bind (wpAny_field h1 h3 (x := .none) rfl (wpAny_bind (wpAny_field h1 h3 (x := vs) rfl (wpAny_pure ?_)))))))
  refine wpAny_bind (slicePart_ pv ?_)
  show wpAny _ _ (if ((-1 : Int) == 0) = true then _ else _) _ _ s
  rw [if_neg (by decide)]
  refine wpAny_bind (slicePart_none (wpAny_bind (slicePart_none (wpAny_bind (wpAny_pure ?_)))))
  have e : Builtin.Slice.slicePlaces ((n : Int) - 1) (-1) (-1) = n := by
    unfold Builtin.Slice.slicePlaces
    rw [if_neg (by decide)]
    by_cases c : (n : Int) - 1 > -1
    · rw [if_pos c]
      show (((n : Int) - 1 - -1 - 1) / 1 + 1).toNat = n
      rw [Int.ediv_one]; omega
    · rw [if_neg c]; omega
  show wpAny _ _ (pure ((n : Int) - 1, (-1 : Int), Builtin.Slice.slicePlaces ((n : Int) - 1) (-1) (-1))) _ _ s
  rw [e]
  exact wpAny_pure k
theorem fm_cong {α β : Type} {f g : α → Option β} : ∀ {l : List α}, (∀ k ∈ l, f k = g k) → l.filterMap f = l.filterMap g
  | [], _ => rfl
  | x :: l, h => by
    rw [List.filterMap_cons, List.filterMap_cons, h x (by simp), fm_cong (l := l) fun k hk => h k (by simp [hk])]
theorem pick_rev (xs : Array Value) : ((List.range xs.size).filterMap fun (k : Nat) => xs[((xs.size : Int) - 1 + (k : Int) * (-1)).toNat]?) = xs.toList.reverse := by
  have e : ∀ k ∈ List.range xs.size, xs[((xs.size : Int) - 1 + (k : Int) * (-1)).toNat]? = xs.toList.reverse[k]? := fun k hk => by
    rw [List.mem_range] at hk
    rw [List.getElem?_reverse (by simpa using hk)]
    have : ((xs.size : Int) - 1 + (k : Int) * (-1)).toNat = xs.toList.length - 1 - k := by simp; omega
    rw [this]
    simp
  have e2 : xs.size = xs.toList.reverse.length := by simp
  rw [fm_cong e, e2]
  clear e e2
  generalize xs.toList.reverse = l
  refine List.ext_getElem? fun i => ?_
  induction l generalizing i with
  | nil => rfl
  | cons x l ih =>
    rw [List.length_cons, List.range_succ_eq_map, List.filterMap_cons]
    simp only [List.getElem?_cons_zero]
    rw [List.filterMap_map]
    have : ((fun k => (x :: l)[k]?) ∘ Nat.succ) = fun k => l[k]? := rfl
    rw [this]
    cases i with
    | zero => rfl
    | succ i => simpa using ih i
theorem item_rev {t q : Addr} {its : Array Value} {vs : Value} {Q : Value → Shared → Prop} (ht : IsTup s.heap t its) (hq : s.heap.IsSliceOf q .none .none vs) (pv : IsPart vs (some (-1)))
    (k : Q (.ref s.heap.objs.size) { s with heap := s.heap.push { cls := .type "tuple", data := .seq its.toList.reverse.toArray } }) (hsz : its.size ≤ sizeLine) : wpAny (model prog w) A (getItem (.ref t) (.ref q)) Q E s := by
  have hz : sizeOk (.seq its.toList.reverse.toArray) := by show its.toList.reverse.toArray.size ≤ sizeLine; simpa using hsz
  obtain ⟨oq, h1, h2, h3⟩ := id hq
  have hT : s.TypeIs (.ref q) "slice" := ⟨oq, h1, h2⟩
  unfold getItem
  try with_reducible refine wpAny_holding ?_
  first | refine wpAny_bind (wpAny_pure ?_) | skip
  refine wpAny_bind (wpAny_sequenceKey ht.typeIs (by decide) (wpAny_bind (wpAny_callSpecial?_slot (name := Str.ofString "__getitem__") ht.typeIs PyProof.Rows.slot_tuple_getitem (wpAny_call_entry PyProof.Rows.slot_tuple_getitem ht.typeIs entry_tuple_getitem ?_ (args_tuple_getitem _ _)))))
  show wpAny _ _ (Builtin.Tuple.tupleItemsOf (.ref t) >>= _) _ _ s
  refine wpAny_bind (tupleItemsOf_ ht (wpAny_bind (wpAny_typeOf hT ?_)))
  rw [if_pos (by decide)]
  refine wpAny_bind (applied_rev hq pv ?_)
  show wpAny _ _ (if ((its.size : Int) - 1 == 0 && (-1 : Int) == 1 && its.size == its.size) = true then _ else _) _ _ s
  rw [if_neg (by rw [show ((-1 : Int) == 1) = false from rfl, Bool.and_false]; exact Bool.false_ne_true), pick_rev]
  first
    | exact wpAny_bind (m := Builtin.Tuple.tupleExact _) (wpAny_newObj_type (wpAny_pure ⟨_, rfl, wpAny_pure k⟩) hz)
    | exact wpAny_bind (m := Builtin.Tuple.tupleExact _) (wpAny_newObj_type (wpAny_bind (wpAny_pure (wpAny_pure ⟨_, rfl, wpAny_pure k⟩))) hz)
    | exact wpAny_bind (wpAny_bind (m := Builtin.Tuple.tupleExact _) (wpAny_newObj_type (wpAny_pure (wpAny_pure ⟨_, rfl, wpAny_pure k⟩)) hz))
end
def tRevA (K : PySem.W.Frag) (te : TE) : TE := fun σ H Q => te σ H fun x H1 => ∃ a xs, x = .ref a ∧ ((SqL K H1 a xs ∧ ∀ p, H1 p = none → Q (.ref p) (upd H1 p (.lst xs.reverse))) ∨ (SqT K H1 a xs ∧ ∀ p, H1 p = none → Q (.ref p) (upd H1 p (.tup xs.reverse))))
section
variable {X : Cx}
theorem pe_revA {e : Expr} {te : TE} {k : Nat} {p1 p2 p3 pos : Pos} (he : PE X e te) : PE X (.Subscript e (.Slice none none (some (.UnaryOp .USub (.Constant (.int 1) k p1) p2)) p3) pos) (tRevA X.K te) := by
  refine ⟨fun pins s σ H Q I h => Subscript_ (thn (he.run pins s σ H _ I h) fun v s1 ⟨x, H1, I1, r1, a, xs, ex, hx⟩ => ?_)⟩
  subst ex
  cases r1
  have ho : L2.PO X (some (.UnaryOp .USub (.Constant (.int 1) k p1) p2)) (tPart (tUn (rU fun i => .int (-i)) (tC (.int 1)))) := po_some (pe_un un_neg pe_int)
  refine wpAny_Slice (thn (po_none.run pins s1 σ H1 (fun o H2 => o = none ∧ H2 = H1) I1 ⟨rfl, rfl⟩) fun v1 s2 ⟨o1, H2, I2, pv1, e1, e1'⟩ => ?_)
  subst e1 e1'
  refine thn (po_none.run pins s2 σ H2 (fun o H3 => o = none ∧ H3 = H2) I2 ⟨rfl, rfl⟩) fun v2 s3 ⟨o2, H3, I3, pv2, e2, e2'⟩ => ?_
  subst e2 e2'
  refine thn (ho.run pins s3 σ H3 (fun o H4 => o = some (-1) ∧ H4 = H3) I3 ⟨1, rfl, -1, rfl, rfl, rfl⟩) fun v3 s4 ⟨o3, H4, I4, pv3, e3, e3'⟩ => ?_
  subst e3 e3'
  have J : Inv X pins σ H4 { s4 with heap := s4.heap.push { cls := .type "slice", data := .fields #[v1, v2, v3] } } := I4.kept (t' := s4.toks) fun b ob q => Heap.get?_push_of_some _ q
  rcases hx with ⟨hx, q⟩ | ⟨hx, q⟩
  · obtain ⟨us, r, ht, hz⟩ := J.list hx
    have hl := r.length
    show wpAny (model X.prog X.w) X.A (subscriptTail e (.Slice none none (some (.UnaryOp .USub (.Constant (.int 1) k p1) p2)) p3) (.ref a) (.ref s4.heap.objs.size)) (EP X pins σ Q) X.xe { s4 with heap := s4.heap.push { cls := .type "slice", data := .fields #[v1, v2, v3] } }
    refine tail_any (ops := [.ref a, .ref s4.heap.objs.size]) ht.isList.typeIs (PySem.slot_list_getitem.lookup) (wpAny_getItem_list_slice ht.isList (Heap.IsSliceOf.new _ v1 v2 v3) pv1 pv2 pv3 (by decide) ?_ (by rw [List.size_toArray]; omega)) (by with_unfolding_all rfl)
    rw [PySem.W.krv_pick]
    exact ⟨.ref _, _, J.laid (t' := s4.toks) (o := .lst xs.reverse) (fun b ob q => Heap.get?_push_of_some _ q) (Nat.le_refl _) ⟨by rw [List.length_reverse]; exact hz, _, 0, r.reverse, Heap.get?_push_size _ rfl⟩, rfl, q _ (J.hok.fresh (Nat.le_refl _))⟩
  · obtain ⟨us, r, ht, hz⟩ := J.tuple hx
    have hl := r.length
    cases pv1; cases pv2
    show wpAny (model X.prog X.w) X.A (subscriptTail e (.Slice none none (some (.UnaryOp .USub (.Constant (.int 1) k p1) p2)) p3) (.ref a) (.ref s4.heap.objs.size)) (EP X pins σ Q) X.xe { s4 with heap := s4.heap.push { cls := .type "slice", data := .fields #[.none, .none, v3] } }
    refine tail_any (ops := [.ref a, .ref s4.heap.objs.size]) ht.typeIs (PyProof.Rows.slot_tuple_getitem.lookup) (item_rev ht (Heap.IsSliceOf.new _ _ _ v3) pv3 ?_ (by rw [List.size_toArray]; omega)) (by with_unfolding_all rfl)
    exact ⟨.ref _, _, J.laid (t' := s4.toks) (o := .tup xs.reverse) (fun b ob q => Heap.get?_push_of_some _ q) (Nat.le_refl _) ⟨by rw [List.length_reverse]; exact hz, _, r.reverse, IsTup.new _ _⟩, rfl, q _ (J.hok.fresh (Nat.le_refl _))⟩
end
end IR
namespace IR
open PySem PySem.Spec L2
section
variable {G : Tab} {A : Nat → Addr} {call : Calls} {X : Cx} {W : WX}

/-! ### isinstance -/
def tyNames : List String := ["int", "bool", "str", "list", "tuple", "dict"]
theorem kitB_ok : ∀ t ∈ ["NoneType", "bool", "int", "str", "tuple", "list", "dict"], ∀ T ∈ tyNames, kitB t T = some (isT t T) := by decide +kernel
theorem tyN_mem (d : D) : tyN d ∈ ["NoneType", "bool", "int", "str", "tuple", "list", "dict"] := by cases d <;> simp [tyN]
theorem Vw.ty {K : PySem.W.Frag} {F H : Hp} {d : D} {v : V} (s : Same F H) (h : Vw K F H d v) : TyX K H v (.type (tyN d)) := by
  cases d with
  | non => rw [h.non]; exact .base .non
  | bl b => rw [h.bl]; exact .base (.bl b)
  | int b => rw [h.int]; exact .base (.int b)
  | str b => rw [h.str]; exact .base (.str b)
  | tup ds =>
    obtain ⟨a, xs, g, rfl, _, ha, _⟩ := h.tup s
    rcases ha with (ha | ⟨o, ha⟩) | ⟨o, its, n, h1, h2, _⟩
    · exact .base (.tup ha)
    · exact .fTuple ha
    · exact .kTuple h1 h2
  | lst o ds =>
    obtain ⟨a, xs, g, rfl, ha, _⟩ := h.lst s
    exact .base (.lst ha)
  | dct o ks ds =>
    obtain ⟨f, r⟩ := h
    cases o with
    | true => obtain ⟨a, kvs, g, rfl, ha, _⟩ := r; exact .base (.dK ha)
    | false =>
      obtain ⟨a, kvs, rfl, ha, _⟩ := r
      rcases rd_mono s ha with ha | ⟨o, ha⟩
      · exact .base (.dK ha)
      · exact .fDict ha
  | scr ns =>
    obtain ⟨a, rfl, ha⟩ := h.scr s
    rcases ha with (ha | ⟨o, ha⟩) | ⟨o, its, n, h1, h2, _⟩
    · exact .base (.lst ha)
    · exact .base (.frz ha)
    · exact .kList h1 h2
def tTys : List String → TA
  | [] => tNil
  | t :: ts => tCons (tC (.ty t)) (tTys ts)
theorem tTys_run {σ : St} {H : Hp} : ∀ {ts : List String} {Q : List V → Hp → Prop}, Q (ts.map V.ty) H → tTys ts σ H Q
  | [], _, h => h
  | t :: ts, Q, h => tTys_run (ts := ts) (Q := fun xs H2 => Q (V.ty t :: xs) H2) h
theorem kitAny_ok {K : PySem.W.Frag} {d : D} : ∀ {ts : List String}, (∀ t ∈ ts, t ∈ tyNames) → PySem.W.kitAny K (.type (tyN d)) (ts.map Value.type) = some (ts.any (isT (tyN d)))
  | [], _ => rfl
  | t :: ts, h => by
    have h1 : PySem.W.kitOne K (.type (tyN d)) (.type t) = some (isT (tyN d) t) := kit_ty (kitB_ok _ (tyN_mem d) t (h t (by simp)))
    have ih := kitAny_ok (K := K) (d := d) (ts := ts) fun t ht => h t (by simp [ht])
    rw [List.map_cons, List.any_cons]
    cases q : isT (tyN d) t with
    | true => exact kitAny_cons (by rw [h1, q]) (fun z => by cases z) (fun _ => by rfl)
    | false => exact kitAny_cons (by rw [h1, q]) (fun _ => by rw [ih]; rfl) (fun z => by cases z)
theorem s_isi1 {t : String} {a : E} {m : Md} {σ : St} {H : Hp} {Q : VK} (ht : t ∈ tyNames) (h : tS G A call X W m (.isi true [t] a) σ H Q) : tCB (rIsi X.K) (tCons (tS G A call X W .opd a) (tCons (tC (.ty t)) tNil)) σ H Q := by
  obtain ⟨F, δ, fp, w, h⟩ := h
  simp only [ev] at h
  refine s1 w h fun x δ1 F1 H1 fp1 v fv t1 w1 o1 fr1 h1 => ?_
  split at h1
  · rename_i d gx
    have hv : Vw X.K F1 H1 d v := o1.see w1 gx
    refine ⟨v, .ty t, .type (tyN d), .type t, isT (tyN d) t, rfl, .ty t, hv.ty w1.same, kit_ty (kitB_ok _ (tyN_mem d) t ht), ?_⟩
    have h2 := (PO.new h1 t1 w1).bl w1.same
    simpa using h2
  · exact False.elim h1
theorem paired_tys : ∀ ts : List String, Paired ClsV (ts.map V.ty) (ts.map Value.type)
  | [] => .nil
  | t :: ts => .cons (.ty t) (paired_tys ts)
theorem s_isiT {ts : List String} {a : E} {m : Md} {σ : St} {H : Hp} {Q : VK} (hl : ts.length ≤ 10) (ht : ∀ t ∈ ts, t ∈ tyNames) (h : tS G A call X W m (.isi false ts a) σ H Q) :
    tCB (rIsiT X.K) (tCons (tS G A call X W .opd a) (tCons (tTup (tTys ts)) tNil)) σ H Q := by
  obtain ⟨F, δ, fp, w, h⟩ := h
  simp only [ev] at h
  refine s1 w h fun x δ1 F1 H1 fp1 v fv t1 w1 o1 fr1 h1 => ?_
  split at h1
  · rename_i d gx
    refine tTys_run (H := H1) ⟨by rw [List.length_map, sizeLine_eq]; omega, fun p hp => ?_⟩
    have hv : Vw X.K F1 H1 d v := o1.see w1 gx
    have ex : Ext F1 H1 F1 (upd H1 p (.tup (ts.map V.ty))) := Ext.upd w1.same hp
    have hv' : Vw X.K F1 (upd H1 p (.tup (ts.map V.ty))) d v := by
      obtain ⟨f', r⟩ := hv
      exact ⟨f', r.mono (.refl _) fun a ha => by
        obtain ⟨u, hu, _⟩ := r.at a ha
        rw [hu]; exact ex.keep a u hu⟩
    refine ⟨v, p, ts.map V.ty, .type (tyN d), ts.map Value.type, _, rfl, upd_same, paired_tys ts, hv'.ty ex.low, kitAny_ok ht, ?_⟩
    exact (PO.new h1 (t1.trans ex.tr) (w1.ext ex)).bl ex.low
  · exact False.elim h1

/-! ### slices -/
def rSlD (K : PySem.W.Frag) : V → Option Int → Option Int → Hp → VK → Prop := fun x lo hi H Q => ∃ F dx d, Same F H ∧ Vw K F H dx x ∧ runSl dx lo hi = some d ∧ New K F H d Q
theorem slR_imp {r r' : V → Option Int → Option Int → Hp → VK → Prop} (h : SlR X r) (k : ∀ x lo hi H Q, r' x lo hi H Q → r x lo hi H Q) : SlR X r' := fun pins s σ H x v vl vu lo hi sl Q I rx hs pl pu q => h pins s σ H x v vl vu lo hi sl Q I rx hs pl pu (k x lo hi H Q q)
theorem Reps.cut {K : PySem.W.Frag} {F H : Hp} {ds : List D} {vs : List V} {g : List Addr} (p : D.pures ds = true) (r : Reps K F H ds vs g) (lo hi : Option Int) : Reps K F H (cutD ds lo hi) (cutV vs lo hi) [] ∧ D.pures (cutD ds lo hi) = true := by
  have drop : ∀ (n : Nat) {ds : List D} {vs : List V}, D.pures ds = true → Reps K F H ds vs [] → Reps K F H (ds.drop n) (vs.drop n) [] ∧ D.pures (ds.drop n) = true := by
    intro n
    induction n with
    | zero => intro ds vs p r; exact ⟨r, p⟩
    | succ n ih =>
      intro ds vs p r
      cases ds with
      | nil => rw [r.1]; exact ⟨⟨rfl, rfl⟩, rfl⟩
      | cons d ds =>
        obtain ⟨x, q, f1, f2, rfl, h1, h2, _, ef⟩ := r
        have pp : d.pure = true ∧ D.pures ds = true := by simpa [D.pures] using p
        rw [Reps.nil_of_pure pp.2 h2] at h2
        exact ih pp.2 h2
  have take : ∀ (n : Nat) {ds : List D} {vs : List V}, D.pures ds = true → Reps K F H ds vs [] → Reps K F H (ds.take n) (vs.take n) [] ∧ D.pures (ds.take n) = true := by
    intro n
    induction n with
    | zero => intro ds vs p r; exact ⟨⟨rfl, rfl⟩, rfl⟩
    | succ n ih =>
      intro ds vs p r
      cases ds with
      | nil => rw [r.1]; exact ⟨⟨rfl, rfl⟩, rfl⟩
      | cons d ds =>
        obtain ⟨x, q, f1, f2, rfl, h1, h2, _, ef⟩ := r
        have pp : d.pure = true ∧ D.pures ds = true := by simpa [D.pures] using p
        rw [Reps.nil_of_pure pp.2 h2] at h2
        rw [Rep.nil_of_pure pp.1 h1] at h1
        obtain ⟨i1, i2⟩ := ih pp.2 h2
        exact ⟨⟨x, _, [], [], rfl, h1, i1, by simp, rfl⟩, by simp only [List.take_succ_cons, D.pures, pp.1, i2]; rfl⟩
  rw [Reps.nil_of_pure p r] at r
  obtain ⟨r1, p1⟩ := drop (HT.sIx ds.length 0 lo) p r
  obtain ⟨r2, p2⟩ := take (HT.sIx ds.length ds.length hi - HT.sIx ds.length 0 lo) p1 r1
  have l := r.length
  unfold cutD cutV
  rw [l]
  exact ⟨r2, p2⟩
theorem o_sl : SlR X (rSlD X.K) := by
  refine slR_imp (sl_list.or (sl_tupA.or sl_str)) fun x lo hi H Q h => ?_
  obtain ⟨F, dx, d, s, hx, e, n⟩ := h
  cases dx <;> simp only [runSl, Option.some.injEq, reduceCtorEq, Option.ite_none_right_eq_some, decide_eq_true_eq] at e
  · obtain ⟨hz, rfl⟩ := e
    exact .inr (.inr ⟨_, hx.str, big_line hz, by first | exact n.str s | (have := n.str s; simpa [cutS, cutD] using this)⟩)
  · obtain ⟨p, rfl⟩ := e
    obtain ⟨a, us, g, rfl, ha, ha', r⟩ := hx.tup s
    obtain ⟨r', p'⟩ := r.cut p lo hi
    refine .inr (.inl ⟨a, us, rfl, ha', fun z => ?_, fun _ => n.tup s p' r'⟩)
    have l := r.length
    have ec : cutV us lo hi = us := by
      unfold cutV
      rw [z.1, z.2, Nat.sub_zero, List.drop_zero, List.take_length]
    rw [ec] at r'
    exact n.tupAt s p' r' ha
  · obtain ⟨p, rfl⟩ := e
    obtain ⟨a, us, g, rfl, ha, r⟩ := hx.lst s
    obtain ⟨r', p'⟩ := r.cut p lo hi
    exact .inl ⟨a, us, rfl, .of ha, n.lst s p' r'⟩
  · rename_i ns
    subst e
    obtain ⟨a, rfl, ha⟩ := hx.scr s
    refine .inl ⟨a, _, rfl, ha, ?_⟩
    have ec : cutV (ns.map V.int) lo hi = (cutD ns lo hi).map V.int := by
      unfold cutV cutD
      rw [List.length_map, List.map_take, List.map_drop]
    rw [ec]
    exact n.lst s (pures_ints _) (reps_ints _)
def tO (G : Tab) (A : Nat → Addr) (call : Calls) (X : Cx) (W : WX) (ie : E) : St → Hp → (Option Int → Hp → Prop) → Prop := fun σ H Q => ∃ F δ fp, Wd X.K F H σ δ fp ∧
  RG (evo G call ie δ) (fun l δ1 => ∀ F1 H1 fp1, Tr F H (Own fp) F1 H1 (Own fp1) → Wd X.K F1 H1 σ δ1 fp1 → Q l H1) (PX G A X.K σ F H fp W)
theorem s_o1 {e : E} {σ : St} {H : Hp} {Q : Option Int → Hp → Prop} (h : tO G A call X W (.cons e .nil) σ H Q) : tPart (tS G A call X W .opd e) σ H Q := by
  obtain ⟨F, δ, fp, w, h⟩ := h
  simp only [evo] at h
  refine s1 w h fun x δ1 F1 H1 fp1 v fv t1 w1 o1 fr1 h1 => ?_
  split at h1
  · rename_i i gx
    exact ⟨i, Vw.int (o1.see w1 gx), h1 F1 H1 fp1 t1 w1⟩
  · exact False.elim h1
theorem s_o0 {σ : St} {H : Hp} {Q : Option Int → Hp → Prop} (h : tO G A call X W .nil σ H Q) : tNoPart σ H Q := by
  obtain ⟨F, δ, fp, w, h⟩ := h
  simp only [evo] at h
  exact h F H fp .refl w
theorem s_slc {a lo hi : E} {m : Md} {σ : St} {H : Hp} {Q : VK} (h : tS G A call X W m (.slc a lo hi) σ H Q) : tSl (rSlD X.K) (tS G A call X W .opd a) (tO G A call X W lo) (tO G A call X W hi) σ H Q := by
  obtain ⟨F, δ, fp, w, h⟩ := h
  simp only [ev] at h
  refine s1 w h fun x δ1 F1 H1 fp1 v fv t1 w1 o1 fr1 h1 => ?_
  refine ⟨F1, δ1, fp1, w1, h1.bind.mono (fun l δ2 h2 F2 H2 fp2 t2 w2 => ?_) fun _ _ _ z => z⟩
  refine ⟨F2, δ2, fp2, w2, h2.bind.mono (fun u δ3 h3 F3 H3 fp3 t3 w3 => ?_) fun c g δ z => z.step (t := t2)⟩
  split at h3
  · rename_i d gx
    obtain ⟨z, ez, h4⟩ := RG.ofO h3
    obtain ⟨r, er, rfl⟩ := Option.map_eq_some_iff.mp ez
    exact ⟨F3, d, r, w3.same, ((o1.step t2).step t3).see w3 gx, er, h4.new ((t1.trans t2).trans t3) w3⟩
  · exact False.elim h3
theorem reps_rev {K : PySem.W.Frag} {F1 H1 : Hp} : ∀ {ds : List D} {vs : List V}, D.pures ds = true → Reps K F1 H1 ds vs [] → Reps K F1 H1 ds.reverse vs.reverse [] ∧ D.pures ds.reverse = true := by
  intro ds
  induction ds with
  | nil => intro vs _ r; rw [r.1]; exact ⟨⟨rfl, rfl⟩, rfl⟩
  | cons d ds ih =>
    intro vs p r
    obtain ⟨y, q, f1, f2, rfl, h1, h2, _, ef⟩ := r
    have pp : d.pure = true ∧ D.pures ds = true := by simpa [D.pures] using p
    rw [Reps.nil_of_pure pp.2 h2] at h2
    rw [Rep.nil_of_pure pp.1 h1] at h1
    obtain ⟨i1, i2⟩ := ih pp.2 h2
    rw [List.reverse_cons, List.reverse_cons]
    exact ⟨i1.append (Reps.one h1) (by simp), by rw [pures_append, i2]; simp [D.pures, pp.1]⟩
theorem s_rev {a : E} {m : Md} {σ : St} {H : Hp} {Q : VK} (h : tS G A call X W m (.rev a) σ H Q) : tRevA X.K (tS G A call X W .opd a) σ H Q := by
  obtain ⟨F, δ, fp, w, h⟩ := h
  simp only [ev] at h
  refine s1 w h fun x δ1 F1 H1 fp1 v fv t1 w1 o1 fr1 h1 => ?_
  split at h1
  · rename_i o xs gx
    split at h1
    · rename_i p
      obtain ⟨b, us, g, rfl, ha, r⟩ := Vw.lst w1.same (o1.see w1 gx)
      have e := Reps.nil_of_pure p r
      rw [e] at r
      obtain ⟨r', p'⟩ := reps_rev p r
      exact ⟨b, us, rfl, .inl ⟨.of ha, (PO.new h1 t1 w1).lst w1.same p' r'⟩⟩
    · exact False.elim h1
  · rename_i xs gx
    split at h1
    · rename_i p
      obtain ⟨b, us, g, rfl, ha, ha', r⟩ := Vw.tup w1.same (o1.see w1 gx)
      have e := Reps.nil_of_pure p r
      rw [e] at r
      obtain ⟨r', p'⟩ := reps_rev p r
      exact ⟨b, us, rfl, .inr ⟨ha', (PO.new h1 t1 w1).tup w1.same p' r'⟩⟩
    · exact False.elim h1
  · exact False.elim h1
end
end IR
namespace IR
open PySem PySem.Spec L2
section
variable {K : PySem.W.Frag} {F H F' H' : Hp} {σ : St} {δ : Ev} {fp : Fp}

theorem joined {δ : Ev} {i : Nat} {d : D} (h : (δ[i]?).join = some d) : δ[i]? = some (some d) := by
  cases q : δ[i]? with
  | none => rw [q] at h; cases h
  | some z => rw [q] at h; simpa using h
theorem Wd.slot (w : Wd K F H σ δ fp) {i : Nat} {d : D} (h : (δ[i]?).join = some d) : ∃ v, σ[i]? = some (some v) ∧ Rep K F H d v (fp i) := w.rep i d (joined h)
theorem get_set {δ : Ev} {i j : Nat} {x : Option D} {d : D} (h : (δ.set i x)[j]? = some (some d)) : (j = i ∧ x = some d) ∨ (j ≠ i ∧ δ[j]? = some (some d)) := by
  by_cases e : j = i
  · subst e
    by_cases l : j < δ.length
    · rw [List.getElem?_set_self l] at h
      exact .inl ⟨rfl, by simpa using h⟩
    · rw [List.getElem?_eq_none (by simpa using l)] at h; cases h
  · rw [List.getElem?_set_ne (Ne.symm e)] at h
    exact .inr ⟨e, h⟩

def fpSet (fp : Fp) (i : Nat) (f : List Addr) : Fp := fun j => if j = i then f else fp j
theorem fpSet_same {fp : Fp} {i : Nat} {f : List Addr} : fpSet fp i f i = f := if_pos rfl
theorem fpSet_ne {fp : Fp} {i j : Nat} {f : List Addr} (h : j ≠ i) : fpSet fp i f j = fp j := if_neg h
theorem own_fpSet {fp : Fp} {i : Nat} {f : List Addr} {a : Addr} (h : Own (fpSet fp i f) a) : a ∈ f ∨ (∃ j, j ≠ i ∧ a ∈ fp j) := by
  obtain ⟨j, hj⟩ := h
  by_cases e : j = i
  · subst e; rw [fpSet_same] at hj; exact .inl hj
  · rw [fpSet_ne e] at hj; exact .inr ⟨j, e, hj⟩

/-- a slot is emptied -/
theorem Wd.drop (w : Wd K F H σ δ fp) (i : Nat) : Wd K F H σ (δ.set i none) (fpSet fp i []) where
  same := w.same
  rep := fun j d h => by
    rcases get_set h with ⟨_, e⟩ | ⟨n, e⟩
    · cases e
    · rw [fpSet_ne n]; exact w.rep j d e
  out := fun j h => by
    by_cases e : j = i
    · subst e; exact fpSet_same
    · rw [fpSet_ne e]
      exact w.out j fun d q => h d (by rw [List.getElem?_set_ne (Ne.symm e)]; exact q)
  dj := fun j l n a ha => by
    by_cases e : j = i
    · subst e; rw [fpSet_same] at ha; simp at ha
    · rw [fpSet_ne e] at ha
      by_cases e2 : l = i
      · subst e2; rw [fpSet_same]; simp
      · rw [fpSet_ne e2]; exact w.dj j l n a ha
  fr := fun j a ha => by
    by_cases e : j = i
    · subst e; rw [fpSet_same] at ha; simp at ha
    · rw [fpSet_ne e] at ha; exact w.fr j a ha
  len := by rw [List.length_set]; exact w.len
theorem own_drop {fp : Fp} {i : Nat} {a : Addr} (h : Own (fpSet fp i []) a) : Own fp a := by
  rcases own_fpSet h with h | ⟨j, _, h⟩
  · simp at h
  · exact ⟨j, h⟩
theorem Tr.drop {fp : Fp} {i : Nat} : Tr F H (Own fp) F H (Own (fpSet fp i [])) := Tr.refl.to fun _ h => own_drop h
/-- a temporary value is put into a slot -/
theorem Wd.put (w : Wd K F H σ δ fp) {d : D} {v : V} {f : List Addr} (t : Tm K F H (Own fp) d v f) (i : Nat) : Wd K F H (σ.set i (some v)) (δ.set i (some d)) (fpSet fp i (if i < δ.length then f else [])) where
  same := w.same
  rep := fun j e h => by
    rcases get_set h with ⟨rfl, q⟩ | ⟨n, q⟩
    · have l : j < δ.length := by
        have := (List.getElem?_eq_some_iff.mp h).1
        simpa using this
      cases q
      rw [fpSet_same, if_pos l]
      exact ⟨v, List.getElem?_set_self (by rw [← w.len]; exact l), t.rep⟩
    · rw [fpSet_ne n]
      obtain ⟨u, hu, r⟩ := w.rep j e q
      exact ⟨u, by rw [List.getElem?_set_ne (Ne.symm n)]; exact hu, r⟩
  out := fun j h => by
    by_cases e : j = i
    · subst e
      rw [fpSet_same]
      by_cases l : j < δ.length
      · exact absurd (List.getElem?_set_self l) (h d)
      · exact if_neg l
    · rw [fpSet_ne e]
      exact w.out j fun d q => h d (by rw [List.getElem?_set_ne (Ne.symm e)]; exact q)
  dj := fun j l n a ha => by
    have inf : ∀ {x}, x ∈ (if i < δ.length then f else []) → x ∈ f := fun {x} h => by
      split at h
      · exact h
      · simp at h
    by_cases e : j = i
    · subst e
      rw [fpSet_same] at ha
      rw [fpSet_ne (Ne.symm n)]
      exact fun z => t.off a (inf ha) ⟨l, z⟩
    · rw [fpSet_ne e] at ha
      by_cases e2 : l = i
      · subst e2
        rw [fpSet_same]
        exact fun z => t.off a (inf z) ⟨j, ha⟩
      · rw [fpSet_ne e2]; exact w.dj j l n a ha
  fr := fun j a ha => by
    by_cases e : j = i
    · subst e
      rw [fpSet_same] at ha
      split at ha
      · exact t.fr a ha
      · simp at ha
    · rw [fpSet_ne e] at ha; exact w.fr j a ha
  len := by rw [List.length_set, List.length_set]; exact w.len
/-- .. with nothing owned -/
theorem Wd.putP (w : Wd K F H σ δ fp) {d : D} {v : V} (r : Rep K F H d v []) (i : Nat) : Wd K F H (σ.set i (some v)) (δ.set i (some d)) (fpSet fp i []) := by
  have q := w.put (f := []) ⟨r, fun a h => absurd h (by simp), fun a h => absurd h (by simp)⟩ i
  have e : (if i < δ.length then ([] : List Addr) else []) = [] := by split <;> rfl
  rw [e] at q; exact q
/-- a slot's value is frozen -/
theorem Wd.freeze (w : Wd K F H σ δ fp) {i : Nat} {d : D} (h : (δ[i]?).join = some d) :
    ∃ F', Wd K F' H σ (δ.set i (some d.fz)) (fpSet fp i []) ∧ Tr F H (Own fp) F' H (Own (fpSet fp i [])) ∧ (∀ a ∈ fp i, F' a = H a) ∧ (∀ a, a ∉ fp i → F' a = F a) ∧ ∃ v, σ[i]? = some (some v) ∧ Rep K F' H d.fz v [] := by
  obtain ⟨v, hv, r⟩ := w.slot h
  have hi : i < δ.length := (List.getElem?_eq_some_iff.mp (joined h)).1
  refine ⟨fun a => if a ∈ fp i then H a else F a, ?_⟩
  have sF : Same F (fun a => if a ∈ fp i then H a else F a) := fun a u e => by
    show (if a ∈ fp i then H a else F a) = some u
    split
    · exact w.same a u e
    · exact e
  have rz : Rep K (fun a => if a ∈ fp i then H a else F a) H d.fz v [] := r.fz sF fun a ha => if_pos ha
  refine ⟨⟨fun a u e => ?_, fun j e q => ?_, fun j q => ?_, (w.drop i).dj, fun j a ha => ?_, by rw [List.length_set]; exact w.len⟩, ⟨sF, fun b u e _ => e, fun a ha => .inl (own_drop ha), fun a u hf e m n => ?_⟩, fun a ha => if_pos ha, fun a ha => if_neg ha, v, hv, rz⟩
  · have e' : (if a ∈ fp i then H a else F a) = some u := e
    split at e'
    · exact e'
    · exact w.same a u e'
  · rcases get_set q with ⟨e1, q2⟩ | ⟨n, q2⟩
    · subst e1
      have e2 : d.fz = e := Option.some.inj q2
      subst e2
      rw [fpSet_same]
      exact ⟨v, hv, rz⟩
    · rw [fpSet_ne n]
      obtain ⟨u, hu, r2⟩ := w.rep j e q2
      exact ⟨u, hu, r2.mono sF fun _ _ => rfl⟩
  · by_cases e : j = i
    · subst e; exact fpSet_same
    · rw [fpSet_ne e]
      exact w.out j fun d q' => q d (by rw [List.getElem?_set_ne (Ne.symm e)]; exact q')
  · by_cases e : j = i
    · subst e; rw [fpSet_same] at ha; simp at ha
    · rw [fpSet_ne e] at ha
      show (if a ∈ fp i then H a else F a) = none
      rw [if_neg (w.dj j i e a ha)]
      exact w.fr j a ha
  · show (if a ∈ fp i then H a else F a) = none
    rw [if_neg fun z => n ⟨i, z⟩]
    exact hf
/-- temporary objects are frozen -/
theorem Wd.frz {F0 H0 : Hp} {o0 : Addr → Prop} {f : List Addr} (w : Wd K F H σ δ fp) (tr : Tr F0 H0 o0 F H (Own fp)) (off : ∀ a ∈ f, ¬ Own fp a) (fr : ∀ a ∈ f, o0 a ∨ H0 a = none) :
    ∃ F', Wd K F' H σ δ fp ∧ Tr F0 H0 o0 F' H (Own fp) ∧ Same F F' ∧ ∀ a ∈ f, F' a = H a := by
  refine ⟨fun a => if a ∈ f then H a else F a, ?_⟩
  have sF : Same F (fun a => if a ∈ f then H a else F a) := fun a u e => by
    show (if a ∈ f then H a else F a) = some u
    split
    · exact w.same a u e
    · exact e
  refine ⟨⟨fun a u e => ?_, fun i d e => ?_, w.out, w.dj, fun i a ha => ?_, w.len⟩, ⟨tr.same.trans sF, tr.frame, tr.fresh, fun a u e1 e2 m n => ?_⟩, sF, fun a ha => if_pos ha⟩
  · have e' : (if a ∈ f then H a else F a) = some u := e
    split at e'
    · exact e'
    · exact w.same a u e'
  · obtain ⟨u, hu, r⟩ := w.rep i d e
    exact ⟨u, hu, r.mono sF fun _ _ => rfl⟩
  · show (if a ∈ f then H a else F a) = none
    rw [if_neg fun z => off a z ⟨i, ha⟩]; exact w.fr i a ha
  · show (if a ∈ f then H a else F a) = none
    rw [if_neg fun z => ?_]
    · exact tr.grow a u e1 e2 m n
    · rcases fr a z with q | q
      · exact n q
      · rw [e2] at q; cases q
/-- the same data, its slots otherwise held -/
theorem Wd.same_own (w : Wd K F H σ δ fp) {i : Nat} {d : D} (h : (δ[i]?).join = some d) (p : d.pure = true) : fp i = [] := by
  obtain ⟨v, hv, r⟩ := w.slot h
  exact Rep.nil_of_pure p r
end
section
variable {G : Tab} {A : Nat → Addr} {call : Calls} {X : Cx} {W : WX}
theorem s_var {i : Nat} {m : Md} {σ : St} {H : Hp} {Q : VK} (h : tS G A call X W m (.var i) σ H Q) : tVar i σ H Q := by
  obtain ⟨F, δ, fp, w, h⟩ := h
  simp only [ev] at h
  split at h
  · exact False.elim h
  · rename_i d hd
    obtain ⟨v, hv, r⟩ := w.slot hd
    refine ⟨v, hv, ?_⟩
    cases m with
    | opd => exact h F H fp v [] .refl w ⟨hv, rfl⟩ fun a ha => absurd ha (by simp)
    | esc =>
      dsimp only at h
      split at h
      · rename_i p
        exact h F H fp v [] .refl w (Tm.pure p r) fun a ha => absurd ha (by simp)
      · obtain ⟨F', w', t', _, _, v', hv', r'⟩ := w.freeze hd
        rw [hv] at hv'; cases hv'
        exact h F' H _ v [] t' w' (Tm.pure (D.fz_pure d) r') fun a ha => absurd ha (by simp)
    | mov =>
      dsimp only at h
      split at h
      · rename_i p
        exact h F H fp v [] .refl w (Tm.pure p r) fun a ha => absurd ha (by simp)
      · refine h F H _ v (fp i) .drop (w.drop i) ⟨r, w.fr i, fun a ha z => ?_⟩ fun a ha => .inl ⟨i, ha⟩
        rcases own_fpSet z with z | ⟨j, n, z⟩
        · simp at z
        · exact w.dj j i n a z ha
theorem s_lit {c : Lit} {m : Md} {σ : St} {H : Hp} {Q : VK} {v : V} (hv : ∀ F, Rep X.K F H c.d v []) (h : tS G A call X W m (.lit c) σ H Q) : tC v σ H Q := by
  obtain ⟨F, δ, fp, w, h⟩ := h
  simp only [ev] at h
  exact h F H fp v [] .refl w ⟨hv F, fun a ha => absurd ha (by simp), fun a ha => absurd ha (by simp)⟩ fun a ha => absurd ha (by simp)
theorem s_gl {n : Nat} {p : Str × Lit} (hp : G.gls[n]? = some p) {m : Md} {σ : St} {H : Hp} {Q : VK} {v : V} (hv : ∀ F, Rep X.K F H p.2.d v []) (h : tS G A call X W m (.gl n) σ H Q) : tC v σ H Q := by
  obtain ⟨F, δ, fp, w, h⟩ := h
  simp only [ev, hp] at h
  exact h F H fp v [] .refl w ⟨hv F, fun a ha => absurd ha (by simp), fun a ha => absurd ha (by simp)⟩ fun a ha => absurd ha (by simp)
theorem tmps_eq : ∀ {xs : List Opd} {ds : List D}, tmps xs = some ds → xs = ds.map .tmp
  | [], ds, h => by simp only [tmps, Option.some.injEq] at h; subst h; rfl
  | .tmp d :: os, ds, h => by
    simp only [tmps] at h
    obtain ⟨es, he, rfl⟩ := Option.map_eq_some_iff.mp h
    rw [tmps_eq he]; rfl
  | .ref i :: os, ds, h => by simp [tmps] at h
def Md.in : Md → Md
  | .mov => .mov
  | _ => .esc
theorem Md.in_eq (m : Md) : (match m with | .mov => Md.mov | _ => Md.esc) = m.in := by cases m <;> rfl
theorem s_tup {es : E} {m : Md} {σ : St} {H : Hp} {Q : VK} (h : tS G A call X W m (.tup es) σ H Q) : tTup (tA G A call X W m.in es) σ H Q := by
  obtain ⟨F, δ, fp, w, h⟩ := h
  simp only [ev, Md.in_eq] at h
  refine sA w h fun xs δ1 F1 H1 fp1 vs fv t1 w1 o1 fr1 h1 => ?_
  split at h1
  · rename_i ds hds
    split at h1
    · rename_i hl
      have r := o1.reps (tmps_eq hds)
      have l := r.length
      refine ⟨big_line (by omega), fun p hp => ?_⟩
      have ex : Ext F1 H1 (upd F1 p (.tup vs)) (upd H1 p (.tup vs)) := Ext.updF w1.same hp
      have np : ∀ a ∈ fv, a ≠ p := fun a ha z => by
        obtain ⟨u, hu, _⟩ := o1.at a ha
        rw [z, hp] at hu; cases hu
      refine h1 _ _ fp1 (.ref p) fv (t1.trans ex.tr) (w1.ext ex) ⟨⟨p, vs, rfl, .of upd_same, r.mono ex.same fun a ha => upd_ne (np a ha)⟩, fun a ha => ?_, fun a ha => (o1.fr a ha).2⟩ fr1
      rw [upd_ne (np a ha)]; exact (o1.fr a ha).1
    · exact False.elim h1
  · exact False.elim h1
theorem s_lst {es : E} {m : Md} {σ : St} {H : Hp} {Q : VK} (h : tS G A call X W m (.lst es) σ H Q) : tLst (tA G A call X W m.in es) σ H Q := by
  obtain ⟨F, δ, fp, w, h⟩ := h
  simp only [ev, Md.in_eq] at h
  refine sA w h fun xs δ1 F1 H1 fp1 vs fv t1 w1 o1 fr1 h1 => ?_
  split at h1
  · rename_i ds hds
    split at h1
    · rename_i hl
      have r := o1.reps (tmps_eq hds)
      have l := r.length
      refine ⟨big_line (by omega), fun p hp => ?_⟩
      obtain ⟨F2, w2, t2, s2, k2⟩ := w1.frz t1 (fun a ha => (o1.fr a ha).2) fr1
      have r2 : Reps X.K F2 H1 (D.fzs ds) vs [] := r.fz s2 k2
      have ex : Ext F2 H1 F2 (upd H1 p (.lst vs)) := Ext.upd w2.same hp
      refine h1 _ _ fp1 (.ref p) [p] (t2.trans ex.tr) (w2.ext ex) ⟨⟨p, vs, [], rfl, upd_same, r2.mono (.refl _) fun a ha => absurd ha (by simp), by simp, rfl⟩, fun a ha => ?_, fun a ha z => ?_⟩ fun a ha => ?_
      · have e : a = p := by simpa using ha
        rw [e]; exact w2.same.free hp
      · have e : a = p := by simpa using ha
        rw [e] at z
        obtain ⟨u, hu, _⟩ := w1.own_at z
        rw [hp] at hu; cases hu
      · have e : a = p := by simpa using ha
        rw [e]; exact fresh_trans t1 (.inr hp)
    · exact False.elim h1
  · exact False.elim h1
theorem s_frz {a : E} {m : Md} {σ : St} {H : Hp} {Q : VK} (h : tS G A call X W m (.frz a) σ H Q) : tS G A call X W .esc a σ H Q := by
  obtain ⟨F, δ, fp, w, h⟩ := h
  simp only [ev] at h
  refine ⟨F, δ, fp, w, h.bind.mono (fun x δ1 hr => ?_) fun _ _ _ z => z⟩
  cases x with
  | ref i => exact hr.elim
  | tmp d =>
    intro F1 H1 fp1 v f t1 w1 o1 fr1
    obtain ⟨F2, w2, t2, s2, k2⟩ := w1.frz t1 (fun a ha => o1.off a ha) fr1
    exact hr F2 H1 fp1 v [] t2 w2 (Tm.pure (D.fz_pure d) (o1.rep.fz s2 k2)) fun a ha => absurd ha (by simp)
theorem s_dct0 {m : Md} {σ : St} {H : Hp} {Q : VK} (h : tS G A call X W m .dct0 σ H Q) : tDNewK σ H Q := by
  obtain ⟨F, δ, fp, w, h⟩ := h
  simp only [ev] at h
  intro p hp
  have ex : Ext F H F (upd H p (.dK [])) := Ext.upd w.same hp
  refine h _ _ fp (.ref p) [p] ex.tr (w.ext ex) ⟨⟨p, [], [], rfl, upd_same, rfl, ⟨rfl, rfl⟩, by simp, rfl⟩, fun a ha => ?_, fun a ha z => ?_⟩ fun a ha => ?_
  · have e : a = p := by simpa using ha
    rw [e]; exact w.same.free hp
  · have e : a = p := by simpa using ha
    rw [e] at z
    obtain ⟨u, hu, _⟩ := w.own_at z
    rw [hp] at hu; cases hu
  · have e : a = p := by simpa using ha
    rw [e]; exact .inr hp
theorem s_ite {c a b : E} {m : Md} {σ : St} {H : Hp} {Q : VK} (h : tS G A call X W m (.ite c a b) σ H Q) : tIf (tT G A call X W c) (tS G A call X W m a) (tS G A call X W m b) σ H Q := by
  obtain ⟨F, δ, fp, w, h⟩ := h
  simp only [ev] at h
  refine ⟨F, δ, fp, w, ?_⟩
  rw [RG.evB_iff]
  refine h.bind.mono (fun x δ1 hr => ?_) fun _ _ _ z => z
  split at hr
  · rename_i gx
    refine ⟨true, gx, fun F1 H1 fp1 t1 w1 => ?_⟩
    dsimp only
    rw [if_pos rfl]
    exact ⟨F1, δ1, fp1, w1, hr.mono (fun _ _ z => z.step (t := t1)) fun c g δ z => z.step (t := t1)⟩
  · rename_i gx
    refine ⟨false, gx, fun F1 H1 fp1 t1 w1 => ?_⟩
    dsimp only
    rw [if_neg Bool.false_ne_true]
    exact ⟨F1, δ1, fp1, w1, hr.mono (fun _ _ z => z.step (t := t1)) fun c g δ z => z.step (t := t1)⟩
  · exact False.elim hr
theorem s_chn {o1 o2 : O2} {a b c : E} {m : Md} {σ : St} {H : Hp} {Q : VK} (h : tS G A call X W m (.chn o1 o2 a b c) σ H Q) :
    tChain (rD X.K (run2 o1)) (rD X.K (run2 o2)) (tS G A call X W .opd a) (tS G A call X W .opd b) (tS G A call X W .opd c) σ H Q := by
  obtain ⟨F, δ, fp, w, h⟩ := h
  simp only [ev] at h
  refine s1 w h fun x δ1 F1 H1 fp1 v fv t1 w1 p1 fr1 h1 => ?_
  refine s1 w1 h1 fun y δ2 F2 H2 fp2 u fu t2 w2 p2 fr2 h2 => ?_
  split at h2
  · rename_i d e gx gy
    split at h2
    · rename_i er
      refine ⟨F2, d, e, _, w2.same, (p1.step t2).see w2 gx, p2.see w2 gy, er, fun F3 H3 z fz ex rep new => ⟨true, rep.1, ?_⟩⟩
      rw [if_pos rfl]
      have w3 := w2.ext ex
      refine s1 w3 (h2.mono (fun _ _ z => z) fun c g δ z => z.step (t := ex.tr)) fun x' δ3 F4 H4 fp4 v' fv' t4 w4 p4 fr4 h4 => ?_
      split at h4
      · rename_i e' g gy' gz
        obtain ⟨q, eq, h5⟩ := RG.ofO h4
        obtain ⟨r, er2, rfl⟩ := Option.map_eq_some_iff.mp eq
        exact ⟨F4, e', g, r, w4.same, (((p2.step ex.tr).step t4)).see w4 gy', p4.see w4 gz, er2, h5.new (((t1.trans t2).trans ex.tr).trans t4) w4⟩
      · exact False.elim h4
    · rename_i er
      refine ⟨F2, d, e, _, w2.same, (p1.step t2).see w2 gx, p2.see w2 gy, er, fun F3 H3 z fz ex rep new => ⟨false, rep.1, ?_⟩⟩
      rw [if_neg Bool.false_ne_true]
      have w3 := w2.ext ex
      exact (PO.new h2 ((t1.trans t2).trans ex.tr) w3).bl w3.same
    · exact False.elim h2
  · exact False.elim h2
end
end IR
namespace IR
open PySem PySem.Spec L2
section
variable {K : PySem.W.Frag} {F H F' H' : Hp} {σ : St} {δ : Ev} {fp : Fp}

/-- slots emptied -/
def fpOff (fp : Fp) (rs : List Nat) : Fp := fun j => if j ∈ rs then [] else fp j
theorem fpOff_in {fp : Fp} {rs : List Nat} {j : Nat} (h : j ∈ rs) : fpOff fp rs j = [] := if_pos h
theorem fpOff_out {fp : Fp} {rs : List Nat} {j : Nat} (h : j ∉ rs) : fpOff fp rs j = fp j := if_neg h
theorem own_off {fp : Fp} {rs : List Nat} {a : Addr} (h : Own (fpOff fp rs) a) : ∃ j, j ∉ rs ∧ a ∈ fp j := by
  obtain ⟨j, h⟩ := h
  by_cases q : j ∈ rs
  · rw [fpOff_in q] at h; simp at h
  · rw [fpOff_out q] at h; exact ⟨j, q, h⟩
theorem wipeE_length (δ : Ev) : ∀ rs, (wipeE δ rs).length = δ.length
  | [] => rfl
  | r :: rs => by unfold wipeE; rw [List.length_set, wipeE_length δ rs]
theorem wipeE_get {δ : Ev} {j : Nat} {d : D} : ∀ {rs : List Nat}, (wipeE δ rs)[j]? = some (some d) → j ∉ rs ∧ δ[j]? = some (some d)
  | [], h => ⟨by simp, h⟩
  | r :: rs, h => by
    unfold wipeE at h
    rcases get_set h with ⟨_, e⟩ | ⟨n, e⟩
    · cases e
    · obtain ⟨h1, h2⟩ := wipeE_get e
      exact ⟨by simp [n, h1], h2⟩
theorem wipeE_out {δ : Ev} {j : Nat} : ∀ {rs : List Nat}, j ∉ rs → (wipeE δ rs)[j]? = δ[j]?
  | [], _ => rfl
  | r :: rs, h => by
    unfold wipeE
    rw [List.getElem?_set_ne (fun e => h (by simp [e])), wipeE_out fun z => h (by simp [z])]
theorem Wd.wipe (w : Wd K F H σ δ fp) (rs : List Nat) : Wd K F H σ (wipeE δ rs) (fpOff fp rs) where
  same := w.same
  rep := fun j d h => by
    obtain ⟨h1, h2⟩ := wipeE_get h
    rw [fpOff_out h1]; exact w.rep j d h2
  out := fun j h => by
    by_cases q : j ∈ rs
    · exact fpOff_in q
    · rw [fpOff_out q]
      exact w.out j fun d z => h d (by rw [wipeE_out q]; exact z)
  dj := fun i j n a ha => by
    by_cases q : i ∈ rs
    · rw [fpOff_in q] at ha; simp at ha
    · rw [fpOff_out q] at ha
      by_cases q2 : j ∈ rs
      · rw [fpOff_in q2]; simp
      · rw [fpOff_out q2]; exact w.dj i j n a ha
  fr := fun i a ha => by
    by_cases q : i ∈ rs
    · rw [fpOff_in q] at ha; simp at ha
    · rw [fpOff_out q] at ha; exact w.fr i a ha
  len := by rw [wipeE_length]; exact w.len
/-- the arguments that are looked at are frozen -/
theorem Wd.fzs : ∀ {os : List Opd} {δ : Ev} {fp : Fp} {F : Hp}, Wd K F H σ δ fp → ∃ F' fp', Wd K F' H σ (fzSlots δ os) fp' ∧ Tr F H (Own fp) F' H (Own fp') ∧ (∀ i, .ref i ∈ os → fp' i = [] ∧ ∀ a ∈ fp i, F' a = H a) ∧ (∀ i, fp' i = fp i ∨ fp' i = []) ∧
    (∀ a, (∀ i, .ref i ∈ os → a ∉ fp i) → F' a = F a)
  | [], δ, fp, F, w => ⟨F, fp, w, .refl, fun i h => absurd h (by simp), fun i => .inl rfl, fun _ _ => rfl⟩
  | .tmp d :: os, δ, fp, F, w => by
    obtain ⟨F', fp', w', t, h1, h2, h3⟩ := Wd.fzs (os := os) w
    exact ⟨F', fp', w', t, fun i h => h1 i (by simpa using h), h2, fun a ha => h3 a fun i hi => ha i (by simp [hi])⟩
  | .ref i :: os, δ, fp, F, w => by
    unfold fzSlots
    split
    · rename_i d hd
      split
      · rename_i p
        obtain ⟨F', fp', w', t, h1, h2, h3⟩ := Wd.fzs (os := os) w
        have e := w.same_own hd p
        refine ⟨F', fp', w', t, fun j h => ?_, h2, fun a ha => h3 a fun j hj => ha j (by simp [hj])⟩
        rcases List.mem_cons.mp h with q | q
        · cases q
          refine ⟨?_, fun a ha => by rw [e] at ha; simp at ha⟩
          rcases h2 i with z | z
          · rw [z, e]
          · exact z
        · exact h1 j q
      · obtain ⟨F1, w1, t1, k1, k2, _⟩ := w.freeze hd
        obtain ⟨F', fp', w', t, h1, h2, h3⟩ := Wd.fzs (os := os) w1
        have keep : ∀ a ∈ fp i, F' a = H a := fun a ha => by
          have z : F1 a = H a := k1 a ha
          obtain ⟨u, hu, _⟩ := w.own_at ⟨i, ha⟩
          rw [hu] at z ⊢
          exact t.same a u z
        refine ⟨F', fp', w', t1.trans t, fun j h => ?_, fun j => ?_, fun a ha => ?_⟩
        · rcases List.mem_cons.mp h with q | q
          · cases q
            refine ⟨?_, keep⟩
            rcases h2 i with z | z
            · rw [z, fpSet_same]
            · exact z
          · obtain ⟨z1, z2⟩ := h1 j q
            refine ⟨z1, fun a ha => ?_⟩
            by_cases e : j = i
            · subst e; exact keep a ha
            · exact z2 a (by rw [fpSet_ne e]; exact ha)
        · by_cases e : j = i
          · subst e
            right
            rcases h2 j with z | z
            · rw [z, fpSet_same]
            · exact z
          · rcases h2 j with z | z
            · left; rw [z, fpSet_ne e]
            · exact .inr z
        · rw [h3 a fun j hj => ?_, k2 a (ha i (by simp))]
          by_cases e : j = i
          · subst e; rw [fpSet_same]; simp
          · rw [fpSet_ne e]; exact ha j (by simp [hj])
    · rename_i hd
      obtain ⟨F', fp', w', t, h1, h2, h3⟩ := Wd.fzs (os := os) w
      have e : fp i = [] := w.out i fun d q => by rw [q] at hd; simp at hd
      refine ⟨F', fp', w', t, fun j h => ?_, h2, fun a ha => h3 a fun j hj => ha j (by simp [hj])⟩
      rcases List.mem_cons.mp h with q | q
      · cases q
        refine ⟨?_, fun a ha => by rw [e] at ha; simp at ha⟩
        rcases h2 i with z | z
        · rw [z, e]
        · exact z
      · exact h1 j q

/-- what the owned arguments hold -/
theorem args_reps {F1 H1 Fc : Hp} {fp1 : Fp} {δ1 : Ev} {rs0 : List Nat} (w1 : Wd K F1 H1 σ δ1 fp1) (sc : Same F1 Fc) :
    ∀ {io : List Bool} {os : List Opd} {vs : List V} {fv : List Addr} {rs : List Nat} {ds : List D}, Ods K F1 H1 σ fp1 os vs fv → ioRefs io os = some rs → rs.Nodup → (∀ i ∈ rs, i ∈ rs0) → argDs δ1 (wipeE δ1 rs0) io os = some ds →
      (∀ i, .ref i ∈ os → i ∉ rs0 → ∀ a ∈ fp1 i, Fc a = H1 a) → (∀ a ∈ fv, Fc a = H1 a) →
      ∃ fs, Reps K Fc H1 ds vs fs ∧ (∀ a, a ∈ fs ↔ ∃ i ∈ rs, a ∈ fp1 i) ∧ (∀ (k : Nat) d, io[k]? ≠ some true → ds[k]? = some d → d.pure = true)
  | [], [], vs, fv, rs, ds, o, e, _, _, g, _, _ => by
    simp only [ioRefs, Option.some.injEq] at e
    simp only [argDs, Option.some.injEq] at g
    subst e; subst g
    rw [o.1]
    exact ⟨[], ⟨rfl, rfl⟩, by simp, by simp⟩
  | [], _ :: _, vs, fv, rs, ds, o, e, _, _, g, _, _ => by simp [ioRefs] at e
  | true :: io, [], vs, fv, rs, ds, o, e, _, _, g, _, _ => by simp [ioRefs] at e
  | false :: io, [], vs, fv, rs, ds, o, e, _, _, g, _, _ => by simp [ioRefs] at e
  | true :: io, .tmp d :: os, vs, fv, rs, ds, o, e, _, _, g, _, _ => by simp [ioRefs] at e
  | true :: io, .ref i :: os, vs, fv, rs, ds, o, e, nd, sub, g, k1, k2 => by
    simp only [ioRefs] at e
    obtain ⟨rs', e', rfl⟩ := Option.map_eq_some_iff.mp e
    obtain ⟨v, r, f1, f2, rfl, h1, h2, dj, rfl⟩ := o
    unfold argDs at g
    split at g
    · rename_i d ds' gd gs
      cases g
      rw [if_pos rfl] at gd
      rw [List.nodup_cons] at nd
      obtain ⟨fs, r1, m1, p1⟩ := args_reps w1 sc h2 e' nd.2 (fun j hj => sub j (by simp [hj])) gs (fun j hj => k1 j (by simp [hj])) fun a ha => k2 a (by simp [ha])
      obtain ⟨v', hv', rd⟩ := w1.slot gd
      rw [h1.1] at hv'; cases hv'
      refine ⟨fp1 i ++ fs, ⟨v, r, fp1 i, fs, rfl, rd.mono sc fun _ _ => rfl, r1, fun a ha hb => ?_, rfl⟩, fun a => ?_, fun k d' hk hd => ?_⟩
      · obtain ⟨j, hj, q⟩ := (m1 a).mp hb
        exact w1.dj i j (fun z => nd.1 (by rw [z]; exact hj)) a ha q
      · rw [List.mem_append, m1]; simp
      · cases k with
        | zero => exact absurd rfl hk
        | succ k => exact p1 k d' (by simpa using hk) (by simpa using hd)
    · cases g
  | false :: io, x :: os, vs, fv, rs, ds, o, e, nd, sub, g, k1, k2 => by
    have e : ioRefs io os = some rs := by cases x <;> exact e
    obtain ⟨v, r, f1, f2, rfl, h1, h2, dj, rfl⟩ := o
    unfold argDs at g
    split at g
    · rename_i d ds' gd gs
      cases g
      rw [if_neg Bool.false_ne_true] at gd
      obtain ⟨d0, g0, rfl⟩ := Option.map_eq_some_iff.mp gd
      obtain ⟨fs, r1, m1, p1⟩ := args_reps w1 sc h2 e nd sub gs (fun j hj => k1 j (by simp [hj])) fun a ha => k2 a (by simp [ha])
      have rz : Rep K Fc H1 d0.fz v [] := by
        cases x with
        | ref i =>
          have q := joined (δ := wipeE δ1 rs0) (i := i) (d := d0) g0
          obtain ⟨n, q⟩ := wipeE_get q
          obtain ⟨v', hv', rd⟩ := w1.rep i d0 q
          rw [h1.1] at hv'; cases hv'
          exact rd.fz sc fun a ha => k1 i (by simp) n a ha
        | tmp d =>
          cases g0
          exact h1.rep.fz sc fun a ha => k2 a (by simp [ha])
      refine ⟨fs, ⟨v, r, [], fs, rfl, rz, r1, by simp, rfl⟩, m1, fun k d' hk hd => ?_⟩
      cases k with
      | zero =>
        have e2 : d0.fz = d' := by simpa using hd
        rw [← e2]; exact D.fz_pure d0
      | succ k => exact p1 k d' (by simpa using hk) (by simpa using hd)
    · cases g
/-- which slots come back with what -/
theorem setAll_length : ∀ {rs : List Nat} {ios : List (Option D)} {δ : Ev}, (setAll δ rs ios).length = δ.length
  | [], _, _ => by simp [setAll]
  | _ :: _, [], _ => by simp [setAll]
  | i :: is, d :: ds, δ => by unfold setAll; rw [setAll_length, List.length_set]
theorem setAll_out : ∀ {rs : List Nat} {ios : List (Option D)} {δ : Ev} {j : Nat}, j ∉ rs → (setAll δ rs ios)[j]? = δ[j]?
  | [], _, _, _, _ => by simp [setAll]
  | _ :: _, [], _, _, _ => by simp [setAll]
  | i :: is, d :: ds, δ, j, h => by
    unfold setAll
    rw [setAll_out fun z => h (by simp [z]), List.getElem?_set_ne fun e => h (by simp [e])]
theorem setAll_in : ∀ {rs : List Nat} {ios : List (Option D)} {δ : Ev} {k i : Nat} {o : Option D}, rs.Nodup → rs[k]? = some i → ios[k]? = some o → i < δ.length → (setAll δ rs ios)[i]? = some o
  | [], _, _, _, _, _, _, h, _, _ => by simp at h
  | _ :: _, [], _, _, _, _, _, _, h, _ => by simp at h
  | i :: is, d :: ds, δ, 0, j, o, nd, h1, h2, hl => by
    rw [List.nodup_cons] at nd
    have e1 : i = j := by simpa using h1
    have e2 : d = o := by simpa using h2
    subst e1; subst e2
    unfold setAll
    rw [setAll_out nd.1, List.getElem?_set_self hl]
  | i :: is, d :: ds, δ, k + 1, j, o, nd, h1, h2, hl => by
    rw [List.nodup_cons] at nd
    unfold setAll
    exact setAll_in nd.2 (by simpa using h1) (by simpa using h2) (by rw [List.length_set]; exact hl)
/-- the owned arguments afterwards, by slot -/
theorem io_slots : ∀ {io : List Bool} {os : List Opd} {vs : List V} {fv : List Addr} {rs : List Nat} {ios : List (Option D)} {fi : List Addr} {F1 H1 : Hp} {fp1 : Fp}, Ods K F1 H1 σ fp1 os vs fv → ioRefs io os = some rs → rs.Nodup → ios.length = rs.length → IoR K F' H' io vs ios fi →
    ∃ g : Nat → List Addr, (∀ (k i : Nat) o, rs[k]? = some i → ios[k]? = some o → ∃ v, σ[i]? = some (some v) ∧ (match o with | some d => Rep K F' H' d v (g i) | none => g i = [])) ∧ (∀ i j, i ∈ rs → j ∈ rs → i ≠ j → ∀ a ∈ g i, a ∉ g j) ∧ ∀ a, a ∈ fi ↔ ∃ i ∈ rs, a ∈ g i
  | [], [], vs, fv, rs, ios, fi, F1, H1, fp1, o, e, nd, hl, r => by
    simp only [ioRefs, Option.some.injEq] at e
    subst e
    have hi : ios = [] := List.eq_nil_of_length_eq_zero hl
    subst hi
    rw [o.1] at r
    have ef : fi = [] := r
    exact ⟨fun _ => [], by simp, by simp, by simp [ef]⟩
  | [], _ :: _, vs, fv, rs, ios, fi, F1, H1, fp1, o, e, nd, hl, r => by simp [ioRefs] at e
  | true :: io, [], vs, fv, rs, ios, fi, F1, H1, fp1, o, e, nd, hl, r => by simp [ioRefs] at e
  | false :: io, [], vs, fv, rs, ios, fi, F1, H1, fp1, o, e, nd, hl, r => by simp [ioRefs] at e
  | true :: io, .tmp d :: os, vs, fv, rs, ios, fi, F1, H1, fp1, o, e, nd, hl, r => by simp [ioRefs] at e
  | true :: io, .ref i :: os, vs, fv, rs, ios, fi, F1, H1, fp1, o, e, nd, hl, r => by
    simp only [ioRefs] at e
    obtain ⟨rs', e', rfl⟩ := Option.map_eq_some_iff.mp e
    obtain ⟨v, r2, f1, f2, rfl, h1, h2, dj, rfl⟩ := o
    rw [List.nodup_cons] at nd
    cases ios with
    | nil => exact absurd r (by simp [IoR])
    | cons o ios =>
      obtain ⟨g1, g2, ho, hr, hd, rfl⟩ := r
      obtain ⟨g, a1, a2, a3⟩ := io_slots h2 e' nd.2 (by simpa using hl) hr
      refine ⟨fun j => if j = i then g1 else g j, fun k j o' hk ho' => ?_, fun j l hj hl n a ha => ?_, fun a => ?_⟩
      · cases k with
        | zero =>
          have e1 : i = j := by simpa using hk
          have e2 : o = o' := by simpa using ho'
          subst e1; subst e2
          refine ⟨v, h1.1, ?_⟩
          cases o with
          | some d => simpa using ho
          | none => simpa using ho
        | succ k =>
          have hk' : rs'[k]? = some j := by simpa using hk
          have nj : j ≠ i := fun z => nd.1 (by rw [← z]; exact List.mem_of_getElem? hk')
          simp only [if_neg nj]
          exact a1 k j o' hk' (by simpa using ho')
      · dsimp only at ha ⊢
        by_cases e1 : j = i
        · subst e1
          rw [if_pos rfl] at ha
          rw [if_neg (Ne.symm n)]
          intro z
          have hl' : l ∈ rs' := by rcases List.mem_cons.mp hl with q | q; exact absurd q.symm n; exact q
          exact hd a ha ((a3 a).mpr ⟨l, hl', z⟩)
        · rw [if_neg e1] at ha
          have hj' : j ∈ rs' := by rcases List.mem_cons.mp hj with q | q; exact absurd q e1; exact q
          by_cases e2 : l = i
          · subst e2
            rw [if_pos rfl]
            exact fun z => hd a z ((a3 a).mpr ⟨j, hj', ha⟩)
          · rw [if_neg e2]
            have hl' : l ∈ rs' := by rcases List.mem_cons.mp hl with q | q; exact absurd q e2; exact q
            exact a2 j l hj' hl' n a ha
      · rw [List.mem_append, a3]
        constructor
        · rintro (h | ⟨j, hj, h⟩)
          · exact ⟨i, by simp, by simpa using h⟩
          · have nj : j ≠ i := fun z => nd.1 (by rw [← z]; exact hj)
            exact ⟨j, by simp [hj], by simpa [nj] using h⟩
        · rintro ⟨j, hj, h⟩
          by_cases e1 : j = i
          · subst e1; left; simpa using h
          · right
            rcases List.mem_cons.mp hj with q | q
            · exact absurd q e1
            · exact ⟨j, q, by simpa [e1] using h⟩
  | false :: io, x :: os, vs, fv, rs, ios, fi, F1, H1, fp1, o, e, nd, hl, r => by
    have e : ioRefs io os = some rs := by cases x <;> exact e
    obtain ⟨v, r2, f1, f2, rfl, h1, h2, dj, rfl⟩ := o
    exact io_slots h2 e nd hl r
end
end IR
namespace IR
open PySem PySem.Spec L2
section
variable {K : PySem.W.Frag} {σ : St}
def refFp (fp : Fp) : List Opd → List Addr
  | [] => []
  | .ref i :: os => fp i ++ refFp fp os
  | .tmp _ :: os => refFp fp os
theorem mem_refFp {fp : Fp} {a : Addr} : ∀ {os : List Opd}, a ∈ refFp fp os ↔ ∃ i, .ref i ∈ os ∧ a ∈ fp i
  | [] => by simp [refFp]
  | .ref i :: os => by
    simp only [refFp, List.mem_append, mem_refFp (os := os)]
    constructor
    · rintro (h | ⟨j, hj, h⟩)
      · exact ⟨i, by simp, h⟩
      · exact ⟨j, by simp [hj], h⟩
    · rintro ⟨j, hj, h⟩
      rcases List.mem_cons.mp hj with q | q
      · cases q; exact .inl h
      · exact .inr ⟨j, q, h⟩
  | .tmp d :: os => by
    simp only [refFp, mem_refFp (os := os)]
    constructor
    · rintro ⟨j, hj, h⟩; exact ⟨j, by simp [hj], h⟩
    · rintro ⟨j, hj, h⟩
      rcases List.mem_cons.mp hj with q | q
      · cases q
      · exact ⟨j, q, h⟩

/-- all that stands ahead of a call: kp: what the arguments that are looked at own is kept -/
structure Ahead (K : PySem.W.Frag) (σ : St) (F1 H1 : Hp) (δ1 : Ev) (fp1 : Fp) (os : List Opd) (fv : List Addr) (rs : List Nat) (kp : Bool) (F2 : Hp) (δ2 : Ev) (fp2 : Fp) : Prop where
  w2 : Wd K F2 H1 σ δ2 fp2
  tr : Tr F1 H1 (Own fp1) F2 H1 (Own fp2)
  sub : ∀ i a, a ∈ fp2 i → i ∉ rs ∧ a ∈ fp1 i
  ref : ∀ i, .ref i ∈ os → i ∉ rs → ∀ a ∈ fp1 i, F2 a = H1 a ∨ a ∈ fp2 i
  frz : kp = false → ∀ i, .ref i ∈ os → fp2 i = []
  old : ∀ a, (∀ i, i ∉ rs → a ∉ fp1 i) → F2 a = F1 a
theorem ahead_keep {F1 H1 : Hp} {δ1 : Ev} {fp1 : Fp} (w1 : Wd K F1 H1 σ δ1 fp1) (os : List Opd) (fv : List Addr) (rs : List Nat) : Ahead K σ F1 H1 δ1 fp1 os fv rs true F1 (wipeE δ1 rs) (fpOff fp1 rs) where
  w2 := w1.wipe rs
  tr := Tr.refl.to fun a h => by obtain ⟨j, _, h⟩ := own_off h; exact ⟨j, h⟩
  sub := fun i a h => by
    by_cases q : i ∈ rs
    · rw [fpOff_in q] at h; simp at h
    · rw [fpOff_out q] at h; exact ⟨q, h⟩
  ref := fun i _ n a ha => .inr (by rw [fpOff_out n]; exact ha)
  frz := fun h => by cases h
  old := fun _ _ => rfl
theorem ahead_frz {F1 H1 : Hp} {δ1 : Ev} {fp1 : Fp} (w1 : Wd K F1 H1 σ δ1 fp1) (os : List Opd) (fv : List Addr) (rs : List Nat) : ∃ F2 fp2, Ahead K σ F1 H1 δ1 fp1 os fv rs false F2 (fzSlots (wipeE δ1 rs) os) fp2 := by
  obtain ⟨F2, fp2, w2, t, h1, h2, h3⟩ := (w1.wipe rs).fzs (os := os)
  refine ⟨F2, fp2, w2, (ahead_keep w1 os fv rs).tr.trans t, fun i a h => ?_, fun i hi n a ha => .inl ((h1 i hi).2 a (by rw [fpOff_out n]; exact ha)), fun _ i hi => (h1 i hi).1, fun a h => h3 a fun i _ hi => ?_⟩
  · rcases h2 i with z | z
    · rw [z] at h
      exact (ahead_keep w1 os fv rs).sub i a h
    · rw [z] at h; simp at h
  · have q := (ahead_keep w1 os fv rs).sub i a hi
    exact h i q.1 q.2

section
variable {F H F1 H1 F2 H2 F' H' : Hp} {fp fp1 fp2 : Fp} {δ1 δ2 : Ev} {os : List Opd} {vs : List V} {fv : List Addr} {rs : List Nat} {kp : Bool}
/-- what the callee sees as frozen -/
def callF0 (F2 H1 : Hp) (S : List Addr) : Hp := fun a => if a ∈ S then H1 a else F2 a
def backF (kp : Bool) (F' : Hp) (S : List Addr) : Hp := fun a => if kp = true ∧ a ∈ S then none else F' a
theorem Ahead.sc (h : Ahead K σ F1 H1 δ1 fp1 os fv rs kp F2 δ2 fp2) (S : List Addr) : Same F2 (callF0 F2 H1 S) := fun a u e => by
  unfold callF0
  split
  · exact h.w2.same a u e
  · exact e
theorem Ahead.low (h : Ahead K σ F1 H1 δ1 fp1 os fv rs kp F2 δ2 fp2) (S : List Addr) : Same (callF0 F2 H1 S) H1 := fun a u e => by
  unfold callF0 at e
  split at e
  · exact e
  · exact h.w2.same a u e
/-- the addresses that are handed -/
theorem Ahead.S (h : Ahead K σ F1 H1 δ1 fp1 os fv rs kp F2 δ2 fp2) (w1 : Wd K F1 H1 σ δ1 fp1) (o1 : Ods K F1 H1 σ fp1 os vs fv) {a : Addr} (ha : a ∈ fv ++ refFp fp2 os) : F2 a = none ∧ (∃ u, H1 a = some u ∧ MutO u = true) ∧ (∀ i, i ∈ rs → a ∉ fp1 i) := by
  rcases List.mem_append.mp ha with q | q
  · obtain ⟨q1, q2⟩ := o1.fr a q
    refine ⟨?_, o1.at a q, fun i _ z => q2 ⟨i, z⟩⟩
    rw [h.old a fun i _ z => q2 ⟨i, z⟩]
    exact q1
  · obtain ⟨i, hi, q⟩ := mem_refFp.mp q
    obtain ⟨n, q1⟩ := h.sub i a q
    exact ⟨h.w2.fr i a q, h.w2.own_at ⟨i, q⟩, fun j hj z => w1.dj i j (fun e => n (by rw [e]; exact hj)) a q1 z⟩
/-- the slots behind a call, but for those that were handed to be changed -/
theorem Ahead.after (h : Ahead K σ F1 H1 δ1 fp1 os fv rs kp F2 δ2 fp2) (w1 : Wd K F1 H1 σ δ1 fp1) (o1 : Ods K F1 H1 σ fp1 os vs fv) {fs : List Addr} {o' : Addr → Prop} (hfs : ∀ a, a ∈ fs ↔ ∃ i ∈ rs, a ∈ fp1 i)
    (tc : Tr (callF0 F2 H1 (fv ++ refFp fp2 os)) H1 (· ∈ fs) F' H' o') (sm : Same F' H') : Wd K (backF kp F' (fv ++ refFp fp2 os)) H' σ δ2 fp2 := by
  have nfs : ∀ {i a}, a ∈ fp2 i → a ∉ fs := fun {i a} ha z => by
    obtain ⟨j, hj, z⟩ := (hfs a).mp z
    obtain ⟨n, q⟩ := h.sub i a ha
    exact w1.dj i j (fun e => n (by rw [e]; exact hj)) a q z
  have sF : Same F2 (backF kp F' (fv ++ refFp fp2 os)) := fun a u e => by
    have n : a ∉ fv ++ refFp fp2 os := fun z => by
      rw [(h.S w1 o1 z).1] at e; cases e
    unfold backF
    rw [if_neg fun z => n z.2]
    refine tc.same a u ?_
    unfold callF0
    rw [if_neg n]; exact e
  refine ⟨fun a u e => ?_, fun i d e => ?_, h.w2.out, h.w2.dj, fun i a ha => ?_, h.w2.len⟩
  · unfold backF at e
    split at e
    · cases e
    · exact sm a u e
  · obtain ⟨v, hv, r⟩ := h.w2.rep i d e
    refine ⟨v, hv, r.mono sF fun a ha => ?_⟩
    obtain ⟨u, hu, _⟩ := h.w2.own_at ⟨i, ha⟩
    rw [hu]; exact tc.frame a u hu (nfs ha)
  · unfold backF
    split
    · rfl
    · rename_i n
      obtain ⟨u, hu, m⟩ := h.w2.own_at ⟨i, ha⟩
      refine tc.grow a u ?_ hu m (nfs ha)
      unfold callF0
      rw [if_neg fun z => ?_]
      · exact h.w2.fr i a ha
      · cases kp with
        | true => exact n ⟨rfl, z⟩
        | false =>
          rcases List.mem_append.mp z with q | q
          · exact (o1.fr a q).2 ⟨i, (h.sub i a ha).2⟩
          · obtain ⟨j, hj, q⟩ := mem_refFp.mp q
            rw [h.frz rfl j hj] at q; simp at q
theorem Ahead.trans (h : Ahead K σ F1 H1 δ1 fp1 os fv rs kp F2 δ2 fp2) (w1 : Wd K F1 H1 σ δ1 fp1) (o1 : Ods K F1 H1 σ fp1 os vs fv) (t1 : Tr F H (Own fp) F1 H1 (Own fp1)) (fr1 : ∀ a ∈ fv, Own fp a ∨ H a = none) {fs : List Addr} {o' oz : Addr → Prop}
    (hfs : ∀ a, a ∈ fs ↔ ∃ i ∈ rs, a ∈ fp1 i) (tc : Tr (callF0 F2 H1 (fv ++ refFp fp2 os)) H1 (· ∈ fs) F' H' o') (hz : ∀ a, oz a → Own fp1 a ∨ H1 a = none) : Tr F H (Own fp) (backF kp F' (fv ++ refFp fp2 os)) H' oz where
  same := fun a u e => by
    have e1 := t1.same a u e
    have e2 := h.tr.same a u e1
    have n : a ∉ fv ++ refFp fp2 os := fun z => by
      rw [(h.S w1 o1 z).1] at e2; cases e2
    unfold backF
    rw [if_neg fun z => n z.2]
    refine tc.same a u ?_
    unfold callF0
    rw [if_neg n]; exact e2
  frame := fun a u e n => by
    have e1 := t1.frame a u e n
    have n1 := t1.nofresh e n
    exact tc.frame a u e1 fun z => by
      obtain ⟨j, _, z⟩ := (hfs a).mp z
      exact n1 ⟨j, z⟩
  fresh := fun a ha => fresh_trans t1 (hz a ha)
  grow := fun a u hf hu m n => by
    have e1 := t1.frame a u hu n
    have n1 := t1.nofresh hu n
    have f1 := t1.grow a u hf hu m n
    have f2 : F2 a = none := by rw [h.old a fun i _ z => n1 ⟨i, z⟩]; exact f1
    unfold backF
    split
    · rfl
    · refine tc.grow a u ?_ e1 m fun z => ?_
      · unfold callF0
        rw [if_neg fun z => ?_]
        · exact f2
        · rcases List.mem_append.mp z with q | q
          · rcases fr1 a q with y | y
            · exact n y
            · rw [hu] at y; cases y
          · obtain ⟨j, _, q⟩ := mem_refFp.mp q
            exact n1 ⟨j, (h.sub j a q).2⟩
      · obtain ⟨j, _, z⟩ := (hfs a).mp z
        exact n1 ⟨j, z⟩
end
end

section
variable {G : Tab} {A : Nat → Addr} {call : Calls} {X : Cx} {W : WX}
theorem ioRefs_len : ∀ {io : List Bool} {os : List Opd} {rs : List Nat}, ioRefs io os = some rs → io.length = os.length
  | [], [], _, _ => rfl
  | [], _ :: _, _, h => by simp [ioRefs] at h
  | true :: _, [], _, h => by simp [ioRefs] at h
  | false :: _, [], _, h => by simp [ioRefs] at h
  | true :: io, .ref i :: os, rs, h => by
    simp only [ioRefs] at h
    obtain ⟨r, h, _⟩ := Option.map_eq_some_iff.mp h
    rw [List.length_cons, List.length_cons, ioRefs_len h]
  | true :: io, .tmp _ :: os, rs, h => by simp [ioRefs] at h
  | false :: io, x :: os, rs, h => by
    have h : ioRefs io os = some rs := by cases x <;> exact h
    rw [List.length_cons, List.length_cons, ioRefs_len h]
theorem ioRefs_mem : ∀ {io : List Bool} {os : List Opd} {rs : List Nat}, ioRefs io os = some rs → ∀ i ∈ rs, .ref i ∈ os
  | [], [], _, h, i, hi => by simp only [ioRefs, Option.some.injEq] at h; subst h; simp at hi
  | [], _ :: _, _, h, _, _ => by simp [ioRefs] at h
  | true :: _, [], _, h, _, _ => by simp [ioRefs] at h
  | false :: _, [], _, h, _, _ => by simp [ioRefs] at h
  | true :: io, .ref j :: os, rs, h, i, hi => by
    simp only [ioRefs] at h
    obtain ⟨r, h', rfl⟩ := Option.map_eq_some_iff.mp h
    rcases List.mem_cons.mp hi with e | hi
    · rw [e]; simp
    · exact List.mem_cons_of_mem _ (ioRefs_mem h' i hi)
  | true :: io, .tmp _ :: os, rs, h, _, _ => by simp [ioRefs] at h
  | false :: io, x :: os, rs, h, i, hi => by
    have h : ioRefs io os = some rs := by cases x <;> exact h
    exact List.mem_cons_of_mem _ (ioRefs_mem h i hi)
theorem Ods.mem {K : PySem.W.Frag} {F H : Hp} {σ : St} {fp : Fp} : ∀ {os : List Opd} {vs : List V} {f : List Addr} {i : Nat}, Ods K F H σ fp os vs f → .ref i ∈ os → ∃ v, σ[i]? = some (some v)
  | [], _, _, _, _, h => absurd h (by simp)
  | x :: os, _, _, i, ⟨v, r, f1, f2, _, h1, h2, _⟩, h => by
    rcases List.mem_cons.mp h with e | h
    · subst e; exact ⟨v, h1.1⟩
    · exact Ods.mem h2 h
theorem back_own {kp : Bool} {F' : Hp} {S : List Addr} {H1 Fc : Hp} (hS : kp = true → ∀ a ∈ S, Fc a = H1 a ∧ ∃ u, H1 a = some u ∧ MutO u = true) (sc : Same Fc F') : ∀ a xs, Rd F' a (.tup xs) → Rd (backF kp F' S) a (.tup xs) := fun a xs h => by
  have n : ¬ (kp = true ∧ a ∈ S) := fun ⟨k, z⟩ => by
    obtain ⟨e, u, hu, m⟩ := hS k a z
    have q := sc a u (e.trans hu)
    rcases h with h | ⟨o, h⟩
    · rw [q] at h; cases h; cases m
    · rw [q] at h; cases h; cases m
  unfold Rd backF
  rw [if_neg n]
  exact h
theorem call_core {fn : Fn} {cl : List D → CR} {σ : St} {F H F1 H1 : Hp} {fp fp1 : Fp} {δ1 : Ev} {os : List Opd} {vs : List V} {fv : List Addr} {Q : VK} (hio : fn.io.length = fn.ps.length)
    (t1 : Tr F H (Own fp) F1 H1 (Own fp1)) (w1 : Wd X.K F1 H1 σ δ1 fp1) (o1 : Ods X.K F1 H1 σ fp1 os vs fv) (fr1 : ∀ a ∈ fv, Own fp a ∨ H a = none)
    (h : RG (doCall0 fn.io cl os δ1) (PO X.K σ F H fp Q) (PX G A X.K σ F H fp W)) : spOf G A X.K cl fn vs H1 Q (WE W σ) := by
  unfold doCall0 at h
  split at h
  · exact False.elim h
  · rename_i rs hrs
    split at h
    · rename_i nd
      split at h
      · exact False.elim h
      · rename_i ds hds
        refine ⟨by rw [o1.length, ← ioRefs_len hrs, hio], ?_⟩
        have go : ∀ {kp : Bool} {F2 : Hp} {δ2 : Ev} {fp2 : Fp}, Ahead X.K σ F1 H1 δ1 fp1 os fv rs kp F2 δ2 fp2 →
            ∃ fs, Reps X.K (callF0 F2 H1 (fv ++ refFp fp2 os)) H1 ds vs fs ∧ (∀ a, a ∈ fs ↔ ∃ i ∈ rs, a ∈ fp1 i) ∧ (∀ a ∈ fs, callF0 F2 H1 (fv ++ refFp fp2 os) a = none) ∧ (∀ (k : Nat) d, fn.io[k]? ≠ some true → ds[k]? = some d → d.pure = true) := fun {kp F2 δ2 fp2} ah => by
          obtain ⟨fs, r, m, p⟩ := args_reps (rs0 := rs) (Fc := callF0 F2 H1 (fv ++ refFp fp2 os)) w1 (ah.tr.same.trans (ah.sc _)) o1 hrs nd (fun _ h => h) hds (fun i hi n a ha => by
            unfold callF0
            rcases ah.ref i hi n a ha with z | z
            · split
              · rfl
              · exact z
            · rw [if_pos (List.mem_append_right _ (mem_refFp.mpr ⟨i, hi, z⟩))]) (fun a ha => by
            unfold callF0
            rw [if_pos (List.mem_append_left _ ha)])
          refine ⟨fs, r, m, fun a ha => ?_, p⟩
          obtain ⟨i, hi, q⟩ := (m a).mp ha
          unfold callF0
          rw [if_neg fun z => (ah.S w1 o1 z).2.2 i hi q]
          by_cases z : F2 a = none
          · exact z
          · have z2 := ah.old a fun j hj y => w1.dj i j (fun e => hj (by rw [← e]; exact hi)) a q y
            rw [z2]; exact w1.fr i a q
        split at h
        · exact False.elim h
        · rename_i c g hc
          obtain ⟨F2, fp2, ah⟩ := ahead_frz w1 os fv rs
          obtain ⟨fs, r, m, n, p⟩ := go ah
          refine ⟨_, ds, fs, ah.low _, r, n, p, ?_⟩
          rw [hc]
          intro F' H' cls d tc sm er
          have wd := ah.after w1 o1 m tc sm
          have tr := ah.trans w1 o1 t1 fr1 m tc (oz := Own fp2) fun a ⟨i, ha⟩ => .inl ⟨i, (ah.sub i a ha).2⟩
          have eF : backF false F' (fv ++ refFp fp2 os) = F' := by
            funext a; unfold backF; rw [if_neg (by simp)]
          rw [eF] at wd tr
          exact h F' H' fp2 cls d tr wd er
        · rename_i d ios hc
          split at h
          · rename_i hl
            have fin : ∀ {kp : Bool} {F2 : Hp} {δ2 : Ev} {fp2 : Fp}, Ahead X.K σ F1 H1 δ1 fp1 os fv rs kp F2 δ2 fp2 → (kp = true → d.own = true ∧ ios.all ownO = true) → PO X.K σ F H fp Q (.tmp d) (setAll δ2 rs ios) →
                ∃ F ds_1 f, Same F H1 ∧ Reps X.K F H1 ds_1 vs f ∧ (∀ a ∈ f, F a = none) ∧ (∀ (i : Nat) d, fn.io[i]? ≠ some true → ds_1[i]? = some d → d.pure = true) ∧
                  match cl ds_1 with
                  | .stuck => False
                  | .err c g => ∀ F' H' cls d, Tr F H1 (· ∈ f) F' H' (fun _ => False) → Same F' H' → ErrR G A X.K F' H' c g cls d → WE W σ cls d H'
                  | .ok d ios => ∀ F' H' v fv fi, Tr F H1 (· ∈ f) F' H' (fun a => a ∈ fv ∨ a ∈ fi) → Same F' H' → Rep X.K F' H' d v fv → IoR X.K F' H' fn.io vs ios fi → (∀ a ∈ fv, a ∉ fi) → (∀ a, a ∈ fv ∨ a ∈ fi → F' a = none) → Q v H' := fun {kp F2 δ2 fp2} ah hk h => by
              obtain ⟨fs, r, m, n, p⟩ := go ah
              refine ⟨_, ds, fs, ah.low _, r, n, p, ?_⟩
              rw [hc]
              intro F' H' v fw fi tc sm rv io dj nn
              have wd := ah.after w1 o1 m tc sm
              obtain ⟨g, g1, g2, g3⟩ := io_slots o1 hrs nd hl io
              -- what is known of F'
              have hS : kp = true → ∀ a ∈ fv ++ refFp fp2 os, callF0 F2 H1 (fv ++ refFp fp2 os) a = H1 a ∧ ∃ u, H1 a = some u ∧ MutO u = true := fun _ a ha => ⟨by unfold callF0; rw [if_pos ha], (ah.S w1 o1 ha).2.1⟩
              have th : ∀ {d : D} {v : V} {f : List Addr}, (kp = true → d.own = true) → Rep X.K F' H' d v f → Rep X.K (backF kp F' (fv ++ refFp fp2 os)) H' d v f := fun {d v f} hd r => by
                cases kp with
                | true => exact r.thaw (back_own hS tc.same) (hd rfl)
                | false =>
                  have eF : backF false F' (fv ++ refFp fp2 os) = F' := by
                    funext a; unfold backF; rw [if_neg (by simp)]
                  rw [eF]; exact r
              have ofi : ∀ {i a}, i ∈ rs → a ∈ g i → (a ∈ fs ∨ H1 a = none) ∧ F' a = none := fun {i a} hi ha => ⟨tc.fresh a (.inr ((g3 a).mpr ⟨i, hi, ha⟩)), nn a (.inr ((g3 a).mpr ⟨i, hi, ha⟩))⟩
              have nof : ∀ {j a}, a ∈ fp2 j → ¬ (a ∈ fs ∨ H1 a = none) := fun {j a} ha z => by
                obtain ⟨u, hu, _⟩ := ah.w2.own_at ⟨j, ha⟩
                rcases z with z | z
                · obtain ⟨i, hi, z⟩ := (m a).mp z
                  obtain ⟨q1, q2⟩ := ah.sub j a ha
                  exact w1.dj j i (fun e => q1 (by rw [e]; exact hi)) a q2 z
                · rw [hu] at z; cases z
              have bN : ∀ {a}, F' a = none → backF kp F' (fv ++ refFp fp2 os) a = none := fun {a} z => by
                unfold backF
                split
                · rfl
                · exact z
              have ix : ∀ {i}, i ∈ rs → ∃ k o v, rs[k]? = some i ∧ ios[k]? = some o ∧ (setAll δ2 rs ios)[i]? = some o ∧ σ[i]? = some (some v) ∧ (match o with | some d => Rep X.K F' H' d v (g i) | none => g i = []) := fun {i} hi => by
                obtain ⟨k, hk'⟩ := List.mem_iff_getElem?.mp hi
                have kl : k < ios.length := by rw [hl]; exact (List.getElem?_eq_some_iff.mp hk').1
                obtain ⟨v, hv, q⟩ := g1 k i ios[k] hk' (List.getElem?_eq_getElem kl)
                refine ⟨k, ios[k], v, hk', List.getElem?_eq_getElem kl, setAll_in nd hk' (List.getElem?_eq_getElem kl) ?_, hv, q⟩
                rw [ah.w2.len]; exact (List.getElem?_eq_some_iff.mp hv).1
              have wd3 : Wd X.K (backF kp F' (fv ++ refFp fp2 os)) H' σ (setAll δ2 rs ios) (fun i => if i ∈ rs then g i else fp2 i) := by
                refine ⟨wd.same, fun i e he => ?_, fun i he => ?_, fun i j n a ha => ?_, fun i a ha => ?_, by rw [setAll_length]; exact wd.len⟩
                · by_cases hi : i ∈ rs
                  · obtain ⟨k, o, v, k1, k2, k3, k4, k5⟩ := ix hi
                    rw [k3] at he
                    have eo : o = some e := by simpa using he
                    subst eo
                    simp only [if_pos hi]
                    exact ⟨v, k4, th (fun z => by
                      have q := List.all_eq_true.mp (hk z).2 _ (List.mem_of_getElem? k2)
                      exact q) k5⟩
                  · rw [setAll_out hi] at he
                    simp only [if_neg hi]
                    exact wd.rep i e he
                · by_cases hi : i ∈ rs
                  · obtain ⟨k, o, v, k1, k2, k3, k4, k5⟩ := ix hi
                    simp only [if_pos hi]
                    cases o with
                    | none => exact k5
                    | some e => exact absurd k3 (he e)
                  · simp only [if_neg hi]
                    exact wd.out i fun d q => he d (by rw [setAll_out hi]; exact q)
                · by_cases hi : i ∈ rs
                  · rw [if_pos hi] at ha
                    by_cases hj : j ∈ rs
                    · rw [if_pos hj]; exact g2 i j hi hj n a ha
                    · rw [if_neg hj]; exact fun z => nof z (ofi hi ha).1
                  · rw [if_neg hi] at ha
                    by_cases hj : j ∈ rs
                    · rw [if_pos hj]; exact fun z => nof ha (ofi hj z).1
                    · rw [if_neg hj]; exact wd.dj i j n a ha
                · by_cases hi : i ∈ rs
                  · rw [if_pos hi] at ha; exact bN (ofi hi ha).2
                  · rw [if_neg hi] at ha; exact wd.fr i a ha
              have hz : ∀ a, (∃ i ∈ rs, a ∈ fp1 i) ∨ H1 a = none → Own fp1 a ∨ H1 a = none := fun a z => z.imp (fun ⟨i, _, z⟩ => ⟨i, z⟩) id
              have tr := ah.trans w1 o1 t1 fr1 m tc (oz := Own fun i => if i ∈ rs then g i else fp2 i) fun a ⟨i, ha⟩ => by
                dsimp only at ha
                by_cases hi : i ∈ rs
                · rw [if_pos hi] at ha
                  exact hz a ((ofi hi ha).1.imp (m a).mp id)
                · rw [if_neg hi] at ha
                  exact .inl ⟨i, (ah.sub i a ha).2⟩
              refine h _ H' _ v fw tr wd3 ⟨th (fun z => (hk z).1) rv, fun a ha => bN (nn a (.inl ha)), fun a ha z => ?_⟩ fun a ha => ?_
              · obtain ⟨i, z⟩ := z
                dsimp only at z
                by_cases hi : i ∈ rs
                · rw [if_pos hi] at z
                  exact dj a ha ((g3 a).mpr ⟨i, hi, z⟩)
                · rw [if_neg hi] at z
                  exact nof z (tc.fresh a (.inl ha))
              · exact fresh_trans t1 (hz a ((tc.fresh a (.inl ha)).imp (m a).mp id))
            by_cases kp : (d.own && ios.all ownO) = true
            · rw [if_pos kp] at h
              rw [Bool.and_eq_true] at kp
              exact fin (ahead_keep w1 os fv rs) (fun _ => kp) h
            · rw [if_neg kp] at h
              obtain ⟨F2, fp2, ah⟩ := ahead_frz w1 os fv rs
              exact fin ah (fun z => by cases z) h
          · exact False.elim h
    · exact False.elim h
/-! ### what is handed to be changed and stands in no slot -/
theorem Wd.push {K : PySem.W.Frag} {F H : Hp} {σ : St} {δ : Ev} {fp : Fp} {d : D} {v : V} {f : List Addr} (w : Wd K F H σ δ fp) (t : Tm K F H (Own fp) d v f) : Wd K F H (σ ++ [some v]) (δ ++ [some d]) (fpSet fp δ.length f) where
  same := w.same
  rep := fun i e h => by
    by_cases l : i < δ.length
    · rw [List.getElem?_append_left l] at h
      obtain ⟨u, hu, r⟩ := w.rep i e h
      rw [fpSet_ne (by omega)]
      exact ⟨u, by rw [List.getElem?_append_left (by rw [← w.len]; exact l)]; exact hu, r⟩
    · rw [List.getElem?_append_right (by omega)] at h
      have z : i - δ.length = 0 := by
        cases q : i - δ.length with
        | zero => rfl
        | succ n => rw [q] at h; simp at h
      rw [z] at h
      have e1 : d = e := by simpa using h
      subst e1
      have ei : i = δ.length := by omega
      subst ei
      rw [fpSet_same]
      exact ⟨v, by rw [w.len, List.getElem?_append_right (Nat.le_refl _), Nat.sub_self]; rfl, t.rep⟩
  out := fun i h => by
    by_cases e : i = δ.length
    · subst e
      exact absurd (by rw [List.getElem?_append_right (Nat.le_refl _), Nat.sub_self]; rfl) (h d)
    · rw [fpSet_ne e]
      refine w.out i fun x q => h x ?_
      rw [List.getElem?_append_left (List.getElem?_eq_some_iff.mp q).1]; exact q
  dj := fun i j n a ha => by
    by_cases e : i = δ.length
    · subst e
      rw [fpSet_same] at ha
      rw [fpSet_ne (Ne.symm n)]
      exact fun z => t.off a ha ⟨j, z⟩
    · rw [fpSet_ne e] at ha
      by_cases e2 : j = δ.length
      · subst e2
        rw [fpSet_same]
        exact fun z => t.off a z ⟨i, ha⟩
      · rw [fpSet_ne e2]; exact w.dj i j n a ha
  fr := fun i a ha => by
    by_cases e : i = δ.length
    · subst e; rw [fpSet_same] at ha; exact t.fr a ha
    · rw [fpSet_ne e] at ha; exact w.fr i a ha
  len := by simp [w.len]
theorem Ods.lift {K : PySem.W.Frag} {F H : Hp} {σ : St} {fp : Fp} {σx : St} {fpx : Fp} : ∀ {os : List Opd} {vs : List V} {f : List Addr}, (∀ a ∈ f, Own fpx a → Own fp a) → Ods K F H σ fp os vs f → Ods K F H (σ ++ σx) fpx os vs f
  | [], _, _, _, h => h
  | x :: os, _, _, n, ⟨v, r, f1, f2, e, h1, h2, dj, ef⟩ => by
    refine ⟨v, r, f1, f2, e, ?_, Ods.lift (fun a ha => n a (by simp [ef, ha])) h2, dj, ef⟩
    cases x with
    | ref i => exact ⟨by rw [List.getElem?_append_left (List.getElem?_eq_some_iff.mp h1.1).1]; exact h1.1, h1.2⟩
    | tmp d => exact ⟨h1.rep, h1.fr, fun a ha z => h1.off a ha (n a (by simp [ef, ha]) z)⟩
theorem give_ok {K : PySem.W.Frag} {F H : Hp} : ∀ {io : List Bool} {os : List Opd} {vs : List V} {fv : List Addr} {σ : St} {δ : Ev} {fp : Fp}, Wd K F H σ δ fp → Ods K F H σ fp os vs fv →
    ∃ σx fpx fv', Wd K F H (σ ++ σx) (δ ++ (giveOs io os δ.length).2.map some) fpx ∧ Ods K F H (σ ++ σx) fpx (giveOs io os δ.length).1 vs fv' ∧ (∀ a ∈ fv', a ∈ fv) ∧ (∀ a, Own fpx a → Own fp a ∨ a ∈ fv) ∧ (∀ i, i < δ.length → fpx i = fp i)
  | [], os, vs, fv, σ, δ, fp, w, o => ⟨[], fp, fv, by simpa [giveOs] using w, by simpa [giveOs] using o, fun _ h => h, fun _ h => .inl h, fun _ _ => rfl⟩
  | _ :: _, [], vs, fv, σ, δ, fp, w, o => by
    have e : ∀ b bs, giveOs (b :: bs) [] δ.length = ([], []) := fun b bs => by cases b <;> rfl
    exact ⟨[], fp, fv, by rw [e]; simpa using w, by rw [e]; simpa using o, fun _ h => h, fun _ h => .inl h, fun _ _ => rfl⟩
  | b :: io, x :: os, vs, fv, σ, δ, fp, w, ⟨v, r, f1, f2, e, h1, h2, dj, ef⟩ => by
    have look : ∀ {y : Opd}, Od K F H σ fp y v f1 → giveOs (b :: io) (x :: os) δ.length = (y :: (giveOs io os δ.length).1, (giveOs io os δ.length).2) →
        ∃ σx fpx fv', Wd K F H (σ ++ σx) (δ ++ (giveOs (b :: io) (x :: os) δ.length).2.map some) fpx ∧ Ods K F H (σ ++ σx) fpx (giveOs (b :: io) (x :: os) δ.length).1 vs fv' ∧ (∀ a ∈ fv', a ∈ fv) ∧ (∀ a, Own fpx a → Own fp a ∨ a ∈ fv) ∧ (∀ i, i < δ.length → fpx i = fp i) := fun {y} hy ey => by
      obtain ⟨σx, fpx, fv', w', o', s', ow, lo⟩ := give_ok (io := io) w h2
      rw [ey]
      refine ⟨σx, fpx, f1 ++ fv', w', ⟨v, r, f1, fv', e, ?_, o', fun a ha z => dj a ha (s' a z), rfl⟩, fun a ha => ?_, fun a ha => ?_, lo⟩
      · cases y with
        | ref i => exact ⟨by rw [List.getElem?_append_left (List.getElem?_eq_some_iff.mp hy.1).1]; exact hy.1, hy.2⟩
        | tmp d => exact ⟨hy.rep, hy.fr, fun a ha z => by
            rcases ow a z with q | q
            · exact hy.off a ha q
            · exact dj a ha q⟩
      · rw [ef]
        rcases List.mem_append.mp ha with q | q
        · exact List.mem_append_left _ q
        · exact List.mem_append_right _ (s' a q)
      · rw [ef]
        exact (ow a ha).imp id (fun q => List.mem_append_right _ q)
    cases b with
    | false => exact look h1 (by cases x <;> rfl)
    | true =>
      cases x with
      | ref i => exact look h1 rfl
      | tmp d =>
        have t : Tm K F H (Own fp) d v f1 := h1
        have w1 := w.push t
        have o2 : Ods K F H (σ ++ [some v]) (fpSet fp δ.length f1) os r f2 := h2.lift fun a ha z => by
          rcases own_fpSet z with q | ⟨j, _, q⟩
          · exact absurd ha (dj a q)
          · exact ⟨j, q⟩
        obtain ⟨σx, fpx, fv', w', o', s', ow, lo⟩ := give_ok (io := io) w1 o2
        have l1 : (δ ++ [some d]).length = δ.length + 1 := by simp
        rw [l1] at w' o' lo
        have eg : giveOs (true :: io) (.tmp d :: os) δ.length = (.ref δ.length :: (giveOs io os (δ.length + 1)).1, d :: (giveOs io os (δ.length + 1)).2) := rfl
        rw [eg]
        refine ⟨some v :: σx, fpx, fv', ?_, ⟨v, r, [], fv', e, ⟨?_, rfl⟩, ?_, by simp, rfl⟩, fun a ha => ?_, fun a ha => ?_, fun i hi => ?_⟩
        · simpa using w'
        · rw [w.len, List.getElem?_append_right (Nat.le_refl _), Nat.sub_self]; rfl
        · simpa using o'
        · rw [ef]; exact List.mem_append_right _ (s' a ha)
        · rw [ef]
          rcases ow a ha with q | q
          · rcases own_fpSet q with q | ⟨j, _, q⟩
            · exact .inr (List.mem_append_left _ q)
            · exact .inl ⟨j, q⟩
          · exact .inr (List.mem_append_right _ q)
        · rw [lo i (by omega), fpSet_ne (by omega)]
theorem Wd.trunc {K : PySem.W.Frag} {F H : Hp} {σ σx : St} {δ : Ev} {fp : Fp} (w : Wd K F H (σ ++ σx) δ fp) : Wd K F H σ (δ.take σ.length) (fun i => if i < σ.length then fp i else []) := by
  have at_ : ∀ {i : Nat} {d : D}, (δ.take σ.length)[i]? = some (some d) → i < σ.length ∧ δ[i]? = some (some d) := fun {i d} h => by
    rw [List.getElem?_take] at h
    split at h
    · rename_i l; exact ⟨l, h⟩
    · cases h
  refine ⟨w.same, fun i d h => ?_, fun i h => ?_, fun i j n a ha => ?_, fun i a ha => ?_, ?_⟩
  · obtain ⟨l, e⟩ := at_ h
    obtain ⟨v, hv, r⟩ := w.rep i d e
    rw [List.getElem?_append_left l] at hv
    simp only [if_pos l]
    exact ⟨v, hv, r⟩
  · by_cases l : i < σ.length
    · simp only [if_pos l]
      exact w.out i fun d z => h d (by rw [List.getElem?_take, if_pos l]; exact z)
    · simp only [if_neg l]
  · have ha : a ∈ (if i < σ.length then fp i else []) := ha
    show a ∉ (if j < σ.length then fp j else [])
    split at ha
    · split
      · exact w.dj i j n a ha
      · simp
    · simp at ha
  · have ha : a ∈ (if i < σ.length then fp i else []) := ha
    split at ha
    · exact w.fr i a ha
    · simp at ha
  · have l := w.len
    rw [List.length_take, l, List.length_append]; omega
theorem RG.trunc {n : Nat} {r : R Opd} {ok : Opd → Ev → Prop} {er : Nat → List D → Ev → Prop} (h : RG (truncR n r) ok er) : RG r (fun x δ => ok x (δ.take n)) (fun c g δ => er c g (δ.take n)) := by
  cases r <;> exact h
theorem doCall0_tmp {io : List Bool} {cl : List D → CR} {os : List Opd} {δ : Ev} {ok : Opd → Ev → Prop} {er : Nat → List D → Ev → Prop} (h : RG (doCall0 io cl os δ) ok er) : RG (doCall0 io cl os δ) (fun x δ' => ok x δ' ∧ ∃ d, x = .tmp d) er := by
  unfold doCall0 at h ⊢
  split
  · rename_i e; rw [e] at h; exact h
  · rename_i rs e
    rw [e] at h
    have h : RG (if rs.Nodup then _ else _) ok er := h
    split
    · rename_i nd
      rw [if_pos nd] at h
      split
      · rename_i e2; rw [e2] at h; exact h
      · rename_i ds e2
        rw [e2] at h
        split
        · rename_i e3; simp only [e3] at h; exact h
        · rename_i c g e3; simp only [e3] at h; exact h
        · rename_i d ios e3
          simp only [e3] at h
          split
          · rename_i hl; rw [if_pos hl] at h; exact ⟨h, d, rfl⟩
          · rename_i hl; rw [if_neg hl] at h; exact h
    · rename_i nd; rw [if_neg nd] at h; exact h
theorem call_any {fn : Fn} {cl : List D → CR} {σ : St} {F H F1 H1 : Hp} {fp fp1 : Fp} {δ1 : Ev} {os : List Opd} {vs : List V} {fv : List Addr} {Q : VK} (hio : fn.io.length = fn.ps.length)
    (t1 : Tr F H (Own fp) F1 H1 (Own fp1)) (w1 : Wd X.K F1 H1 σ δ1 fp1) (o1 : Ods X.K F1 H1 σ fp1 os vs fv) (fr1 : ∀ a ∈ fv, Own fp a ∨ H a = none)
    (h : RG (doCall fn.io cl os δ1) (PO X.K σ F H fp Q) (PX G A X.K σ F H fp W)) : spOf G A X.K cl fn vs H1 Q (WE W σ) := by
  unfold doCall at h
  split at h
  · exact call_core hio t1 w1 o1 fr1 h
  · rename_i d ds e
    obtain ⟨σx, fpx, fv', w2, o2, s2, ow, lo⟩ := give_ok (io := fn.io) w1 o1
    rw [e] at w2
    have t2 : Tr F H (Own fp) F1 H1 (Own fpx) := ⟨t1.same, t1.frame, fun a ha => (ow a ha).elim (t1.fresh a) (fr1 a), t1.grow⟩
    have le : δ1.length = σ.length := w1.len
    rw [le] at h
    have h := doCall0_tmp h.trunc
    refine call_core (W := fun cls d _ H => W cls d σ H) (Q := Q) hio t2 w2 (by rw [← le] at *; exact o2) (fun a ha => fr1 a (s2 a ha)) (h.mono (fun x δ' z F' H' fp' v f t w o fr => ?_) fun c g δ' z F' H' fp' cls d t w er => ?_)
    · obtain ⟨z, d', rfl⟩ := z
      have sub : ∀ a, Own (fun i => if i < σ.length then fp' i else []) a → Own fp' a := fun a ⟨i, ha⟩ => by
        have ha : a ∈ (if i < σ.length then fp' i else []) := ha
        split at ha
        · exact ⟨i, ha⟩
        · simp at ha
      exact z F' H' _ v f (t.to sub) w.trunc ⟨o.rep, o.fr, fun a ha q => o.off a ha (sub a q)⟩ fr
    · have sub : ∀ a, Own (fun i => if i < σ.length then fp' i else []) a → Own fp' a := fun a ⟨i, ha⟩ => by
        have ha : a ∈ (if i < σ.length then fp' i else []) := ha
        split at ha
        · exact ⟨i, ha⟩
        · simp at ha
      exact z F' H' _ cls d (t.to sub) w.trunc er
end
end IR
namespace IR
open PySem PySem.Spec L2
section
variable {G : Tab} {A : Nat → Addr} {call : Calls} {X : Cx} {W : WX}

theorem s_call {f : Nat} {fn : Fn} {es : E} {m : Md} {σ : St} {H : Hp} {Q : VK} (hf : G.fns[f]? = some fn) (hio : fn.io.length = fn.ps.length) (h : tS G A call X W m (.call f es) σ H Q) :
    tCallS (spOf G A X.K (call f) fn) (WE W) (tA G A call X W .opd es) σ H Q := by
  obtain ⟨F, δ, fp, w, h⟩ := h
  simp only [ev, hf] at h
  exact ⟨F, δ, fp, w, h.bind.mono (fun xs δ1 hr F1 H1 fp1 vs fv t1 w1 o1 fr1 => call_any hio t1 w1 o1 fr1 hr) fun _ _ _ z => z⟩

/-! ### calls with names -/
theorem call_kw {CX : CXT} {k n : Nat} {f : Addr} {fd : FuncData} {ps ks : List Str} {sp : Sp} {E : XK} {g : List Value → List Value → List Value} {gV : List V → List V → List V} {pins : List (Addr × Obj)} {σ : St}
    {H : Hp} {s : Shared} {Q : VK} {us ws : List Value} {vs zs : List V} (F : FnOk X.prog X.w X.K X.mg X.base CX k f fd ps sp) (hr : Room k X.A) (hb : KBn X.K fd ps n ks g gV) (hx : PassesAt CX X σ E) (I : L2.Inv X pins σ H s)
    (r : Vals vs us) (rz : Vals zs ws) (l1 : vs.length = n) (l2 : zs.length = ks.length) (h : sp (gV vs zs) H Q E) : wpAny (model X.prog X.w) X.A (PySem.call (.ref f) us (ks.zip ws)) (EP X pins σ Q) X.xe s := by
  refine wpAny_call (codeAny_mono (F.run X.A X.stack s H { pos := us, kw := ks.zip ws } (g us ws) (gV vs zs) Q E hr I.env0 (hb.to s us ws I.kIn (r.length.symm.trans l1) (rz.length.symm.trans l2)) (hb.rel r rz) h) fun q s' hq => ?_)
  cases q with
  | error e => exact hx pins H s e s' I hq
  | ok fl =>
    cases fl with
    | ret u => exact Inv.after I hq
    | next => exact hq
    | brk => exact hq
    | cont => exact hq
def tCallKS (n m : Nat) (sp : Sp) (gV : List V → List V → List V) (E : St → XK) (t tk : TA) : TE := fun σ H Q => t σ H fun vs H1 => tk σ H1 fun zs H2 => vs.length = n ∧ zs.length = m ∧ sp (gV vs zs) H2 Q (E σ)
theorem call_kwl {CX : CXT} {k n : Nat} {f : Addr} {fd : FuncData} {ps ks : List Str} {sp : Sp} {E : St → XK} {pos : Pos} {kws : List Keyword} {tk : TA} {g : List Value → List Value → List Value} {gV : List V → List V → List V} {pins : List (Addr × Obj)} {σ : St} {Q : VK}
    (F : FnOk X.prog X.w X.K X.mg X.base CX k f fd ps sp) (hr : Room k X.A) (hb : KBn X.K fd ps n ks g gV) (hx : ∀ σ, PassesAt CX X σ (E σ)) (hw : PK X kws tk) (hks : (backToKw pos (keywordEach kws X.env)).filterMap (fun y => y.1) = ks)
    {us : List Value} {vs : List V} {s1 : Shared} {H1 : Hp} (I1 : L2.Inv X pins σ H1 s1) (r : Vals vs us) (q : tk σ H1 fun zs H2 => vs.length = n ∧ zs.length = ks.length ∧ sp (gV vs zs) H2 Q (E σ)) :
      wpAny (model X.prog X.w) X.A (evalAll ((backToKw pos (keywordEach kws X.env)).map (fun y => y.2))) (fun ws s2 => PySem.W.Frag.In X.K s2.heap ∧
        wpAny (model X.prog X.w) X.A (PySem.call (.ref f) ([] ++ us) (((backToKw pos (keywordEach kws X.env)).filterMap (fun y => y.1)).zip ws)) (EP X pins σ Q) X.xe s2) X.xe s1 := by
  refine thn (hw.run pos pins s1 σ H1 _ I1 q) fun ws s2 z => ?_
  obtain ⟨zs, H2, I2, rz, l1, l2, q2⟩ := z
  refine ⟨I2.kIn, ?_⟩
  rw [hks]
  exact call_kw F hr hb (hx σ) I2 r rz l1 l2 q2
theorem pe_callKS {CX : CXT} {k n : Nat} {f : Addr} {fd : FuncData} {ps ks : List Str} {sp : Sp} {E : St → XK} {x : Str} {p pos : Pos} {e : Expr} {es : List Expr} {kws : List Keyword} {t tk : TA} {g : List Value → List Value → List Value} {gV : List V → List V → List V}
    (F : FnOk X.prog X.w X.K X.mg X.base CX k f fd ps sp) (hr : Room k X.A) (hg : Gl X x) (hm : X.mg x = some (.ref f)) (hk : PySem.W.keepIn X.K (.ref f) = true) (hb : KBn X.K fd ps n ks g gV) (hx : ∀ σ, PassesAt CX X σ (E σ))
    (ha : PA X (e :: es) t) (hw : PK X kws tk) (hall : (backToKw pos (keywordEach kws X.env)).all (fun y => y.1.isSome) = true) (hks : (backToKw pos (keywordEach kws X.env)).filterMap (fun y => y.1) = ks) (hdb : (x == Str.ofString "__debug__") = false)
    (he : starEach (e :: es) X.env = (false, eval e X.env) :: starEach es X.env) (hpl : ((backTo pos (starEach (e :: es) X.env)).any (fun y => y.1) || (backToKw pos (keywordEach kws X.env)).any (fun y => y.1.isNone)) = false) :
    PE X (.Call (.Name x p) (e :: es) kws pos) (tCallKS n ks.length sp gV E t tk) := by
  refine ⟨fun pins s σ H Q I h => ?_⟩
  refine wpAny_Call_Name_kw (ld_glob I hg hm ?_ hdb)
  refine W.callWith_KW I.ok.mod.kin hk hall (thn (ha.run pos pins s σ H _ I h) fun us s1 z => ?_) hpl he
  obtain ⟨vs, H1, I1, r, q⟩ := z
  exact call_kwl F hr hb hx hw hks I1 r q
theorem pe_callKS0 {CX : CXT} {k : Nat} {f : Addr} {fd : FuncData} {ps ks : List Str} {sp : Sp} {E : St → XK} {x : Str} {p pos : Pos} {kws : List Keyword} {tk : TA} {g : List Value → List Value → List Value} {gV : List V → List V → List V}
    (F : FnOk X.prog X.w X.K X.mg X.base CX k f fd ps sp) (hr : Room k X.A) (hg : Gl X x) (hm : X.mg x = some (.ref f)) (hk : PySem.W.keepIn X.K (.ref f) = true) (hb : KBn X.K fd ps 0 ks g gV) (hx : ∀ σ, PassesAt CX X σ (E σ))
    (hw : PK X kws tk) (hall : (backToKw pos (keywordEach kws X.env)).all (fun y => y.1.isSome) = true) (hks : (backToKw pos (keywordEach kws X.env)).filterMap (fun y => y.1) = ks) (hdb : (x == Str.ofString "__debug__") = false)
    (hpl : ((backTo pos (starEach [] X.env)).any (fun y => y.1) || (backToKw pos (keywordEach kws X.env)).any (fun y => y.1.isNone)) = false) :
    PE X (.Call (.Name x p) [] kws pos) (tCallKS 0 ks.length sp gV E tNil tk) := by
  refine ⟨fun pins s σ H Q I h => ?_⟩
  refine wpAny_Call_Name_kw (ld_glob I hg hm ?_ hdb)
  refine W.callWith_KW0 I.ok.mod.kin hk hall ?_ hpl
  have h' : tk σ H fun zs H2 => ([] : List V).length = 0 ∧ zs.length = ks.length ∧ sp (gV [] zs) H2 Q (E σ) := h
  have q := call_kwl (us := []) (vs := []) F hr hb hx hw hks I .nil h'
  exact thn q fun ws s2 z => z

/-! ### operands taken at places -/
theorem Ods.app {K : PySem.W.Frag} {F H : Hp} {σ : St} {fp : Fp} : ∀ {xs : List Opd} {vs : List V} {f : List Addr} {ys : List Opd} {us : List V} {g : List Addr}, Ods K F H σ fp xs vs f → Ods K F H σ fp ys us g → (∀ a ∈ f, a ∉ g) → Ods K F H σ fp (xs ++ ys) (vs ++ us) (f ++ g)
  | [], _, _, ys, us, g, h, h2, _ => by rw [h.1, h.2]; exact h2
  | x :: xs, _, _, ys, us, g, ⟨v, q, f1, f2, e, h1, h2, dj, ef⟩, h3, d => by
    refine ⟨v, q ++ us, f1, f2 ++ g, by rw [e]; rfl, h1, Ods.app h2 h3 fun a ha => d a (by simp [ef, ha]), fun a ha z => ?_, by rw [ef, List.append_assoc]⟩
    rcases List.mem_append.mp z with z | z
    · exact dj a ha z
    · exact d a (by simp [ef, ha]) z
/-- the operand at a place, its own addresses -/
theorem Ods.nth {K : PySem.W.Frag} {F H : Hp} {σ : St} {fp : Fp} : ∀ {xs : List Opd} {vs : List V} {f : List Addr}, Ods K F H σ fp xs vs f → ∃ fs : Nat → List Addr, (∀ (k : Nat) x, xs[k]? = some x → ∃ v, vs[k]? = some v ∧ Od K F H σ fp x v (fs k)) ∧ (∀ k, ∀ a ∈ fs k, a ∈ f) ∧ (∀ j k, j ≠ k → ∀ a ∈ fs j, a ∉ fs k)
  | [], _, f, h => ⟨fun _ => [], fun k x e => by simp at e, fun k a ha => by simp at ha, fun j k _ a ha => by simp at ha⟩
  | x :: xs, _, _, ⟨v, q, f1, f2, e, h1, h2, dj, ef⟩ => by
    obtain ⟨fs, k1, k2, k3⟩ := Ods.nth h2
    refine ⟨fun | 0 => f1 | k + 1 => fs k, fun k y hy => ?_, fun k a ha => ?_, fun j k n a ha => ?_⟩
    · cases k with
      | zero =>
        have ey : x = y := by simpa using hy
        subst ey
        exact ⟨v, by rw [e]; rfl, h1⟩
      | succ k =>
        obtain ⟨u, hu, o⟩ := k1 k y (by simpa using hy)
        exact ⟨u, by rw [e]; simpa using hu, o⟩
    · rw [ef]
      cases k with
      | zero => exact List.mem_append_left _ ha
      | succ k => exact List.mem_append_right _ (k2 k a ha)
    · cases j with
      | zero =>
        cases k with
        | zero => exact absurd rfl n
        | succ k => exact fun z => dj a ha (k2 k a z)
      | succ j =>
        cases k with
        | zero => exact fun z => dj a z (k2 j a ha)
        | succ k => exact k3 j k (fun z => n (by rw [z])) a ha
theorem Ods.pick {K : PySem.W.Frag} {F H : Hp} {σ : St} {fp : Fp} {xs : List Opd} {vs : List V} {f : List Addr} (h : Ods K F H σ fp xs vs f) : ∀ {ks : List Nat} {ys : List Opd}, ks.Nodup → pickAt xs ks = some ys → ∃ g, Ods K F H σ fp ys (ks.map fun k => (vs[k]?).getD .non) g ∧ ∀ a ∈ g, a ∈ f := by
  obtain ⟨fs, k1, k2, k3⟩ := h.nth
  have go : ∀ {ks : List Nat} {ys : List Opd}, ks.Nodup → pickAt xs ks = some ys → ∃ g, Ods K F H σ fp ys (ks.map fun k => (vs[k]?).getD .non) g ∧ ∀ a ∈ g, ∃ k ∈ ks, a ∈ fs k := by
    intro ks
    induction ks with
    | nil =>
      intro ys _ e
      simp only [pickAt, Option.some.injEq] at e
      subst e
      exact ⟨[], ⟨rfl, rfl⟩, by simp⟩
    | cons k ks ih =>
      intro ys nd e
      simp only [pickAt] at e
      split at e
      · rename_i x zs hx hz
        cases e
        rw [List.nodup_cons] at nd
        obtain ⟨g, o, m⟩ := ih nd.2 hz
        obtain ⟨v, hv, o1⟩ := k1 k x hx
        refine ⟨fs k ++ g, ⟨v, _, fs k, g, by rw [List.map_cons, hv]; rfl, o1, o, fun a ha z => ?_, rfl⟩, fun a ha => ?_⟩
        · obtain ⟨j, hj, z⟩ := m a z
          exact k3 k j (fun e => nd.1 (by rw [e]; exact hj)) a ha z
        · rcases List.mem_append.mp ha with q | q
          · exact ⟨k, by simp, q⟩
          · obtain ⟨j, hj, q⟩ := m a q
            exact ⟨j, by simp [hj], q⟩
      · cases e
  intro ks ys nd e
  obtain ⟨g, o, m⟩ := go nd e
  exact ⟨g, o, fun a ha => by obtain ⟨k, _, q⟩ := m a ha; exact k2 k a q⟩
theorem evs_len {m : Md} : ∀ {es : E} {δ : Ev} {n : Nat} {ok : List Opd → Ev → Prop} {er : Nat → List D → Ev → Prop}, RG (evs G call m es δ) ok er → (es.len = n) → RG (evs G call m es δ) (fun xs δ' => ok xs δ' ∧ xs.length = n) er
  | .nil, δ, n, ok, er, h, e => by
    simp only [evs] at h ⊢
    exact ⟨h, e⟩
  | .cons a es, δ, n, ok, er, h, e => by
    simp only [evs] at h ⊢
    cases q : ev G call m a δ with
    | stuck => rw [q] at h; exact h
    | err c g δ1 => rw [q] at h; exact h
    | ok x δ1 =>
      rw [q] at h
      have h' : RG ((evs G call m es δ1).bind fun xs δ2 => R.ok (x :: xs) δ2) ok er := h
      show RG ((evs G call m es δ1).bind fun xs δ2 => R.ok (x :: xs) δ2) _ er
      have h2 := evs_len (n := n - 1) h'.bind (by rw [← e]; rfl)
      cases q2 : evs G call m es δ1 with
      | stuck => rw [q2] at h2; exact h2
      | err c g δ2 => rw [q2] at h2; exact h2
      | ok xs δ2 =>
        rw [q2] at h2
        have h3 : ok (x :: xs) δ2 ∧ xs.length = n - 1 := h2
        refine ⟨h3.1, ?_⟩
        rw [List.length_cons, h3.2, ← e]
        rfl
  | .var _, δ, n, ok, er, h, e | .lit _, δ, n, ok, er, h, e | .gl _, δ, n, ok, er, h, e | .op1 _ _, δ, n, ok, er, h, e | .op2 _ _ _, δ, n, ok, er, h, e | .bl _ _, δ, n, ok, er, h, e | .isi _ _ _, δ, n, ok, er, h, e
  | .and _ _, δ, n, ok, er, h, e | .or _ _, δ, n, ok, er, h, e | .not _, δ, n, ok, er, h, e | .ite _ _ _, δ, n, ok, er, h, e | .chn _ _ _ _ _, δ, n, ok, er, h, e | .tup _, δ, n, ok, er, h, e | .lst _, δ, n, ok, er, h, e | .dct0, δ, n, ok, er, h, e | .dct1 _, δ, n, ok, er, h, e | .dget _ _, δ, n, ok, er, h, e
  | .slc _ _ _, δ, n, ok, er, h, e | .rev _, δ, n, ok, er, h, e | .call _ _, δ, n, ok, er, h, e | .callK _ _ _ _, δ, n, ok, er, h, e | .pop _ _, δ, n, ok, er, h, e | .lc _ _ _ _ _, δ, n, ok, er, h, e | .tru _, δ, n, ok, er, h, e | .frz _, δ, n, ok, er, h, e | .lc2 _ _ _ _ _ _ _ _ _, δ, n, ok, er, h, e => by simp only [evs] at h; exact False.elim h
theorem s_callK {f : Nat} {fn : Fn} {ks : List Nat} {es kws : E} {m : Md} {σ : St} {H : Hp} {Q : VK} (hf : G.fns[f]? = some fn) (hio : fn.io.length = fn.ps.length) (h : tS G A call X W m (.callK f ks es kws) σ H Q) :
    tCallKS es.len kws.len (spOf G A X.K (call f) fn) (gK V.non ks) (WE W) (tA G A call X W .opd es) (tA G A call X W .opd kws) σ H Q := by
  obtain ⟨F, δ, fp, w, h⟩ := h
  simp only [ev, hf] at h
  refine ⟨F, δ, fp, w, (evs_len h.bind rfl).mono (fun xs δ1 hr F1 H1 fp1 vs fv t1 w1 o1 fr1 => ?_) fun _ _ _ z => z⟩
  obtain ⟨hr, l1⟩ := hr
  refine ⟨F1, δ1, fp1, w1, (evs_len hr.bind rfl).mono (fun zs δ2 h2 F2 H2 fp2 us fu t2 w2 o2 fr2 => ?_) fun c g δ z => z.step (t := t1)⟩
  obtain ⟨h2, l2⟩ := h2
  refine ⟨by rw [o1.length, l1], by rw [o2.length, l2], ?_⟩
  split at h2
  · rename_i nd
    split at h2
    · rename_i ys hy
      have oa := (o1.step t2).app o2 fun a ha z => by
        obtain ⟨u, hu, _⟩ := o1.at a ha
        rcases fr2 a z with q | q
        · exact (o1.fr a ha).2 q
        · rw [hu] at q; cases q
      obtain ⟨g, og, mg⟩ := oa.pick nd hy
      refine call_any hio (t1.trans t2) w2 og (fun a ha => ?_) h2
      rcases List.mem_append.mp (mg a ha) with q | q
      · exact fr1 a q
      · exact fresh_trans t1 (fr2 a q)
    · exact False.elim h2
  · exact False.elim h2
end
end IR
namespace IR
open PySem PySem.Spec L2
section
variable {K : PySem.W.Frag} {F H F0 H0 : Hp} {σ : St} {δ : Ev} {fp : Fp}
/-- an own object is changed -/
theorem Wd.mutU (w : Wd K F H σ δ fp) {i : Nat} {a : Addr} {u : HO} {dn : D} {g g' : List Addr} (hi : fp i = a :: g) (hs : σ[i]? = some (some (.ref a))) (rr : Rep K F (upd H a u) dn (.ref a) (a :: g')) (off : ∀ b ∈ g', ∀ j, j ≠ i → b ∉ fp j) (fr : ∀ b ∈ g', F b = none) :
    Wd K F (upd H a u) σ (δ.set i (some dn)) (fpSet fp i (a :: g')) := by
  have ai : a ∈ fp i := by rw [hi]; simp
  have Fa : F a = none := w.fr i a ai
  have ne : ∀ {b}, b ≠ a → upd H a u b = H b := fun n => upd_ne n
  refine ⟨fun b v e => ?_, fun j d e => ?_, fun j e => ?_, fun j l n b hb => ?_, fun j b hb => ?_, by rw [List.length_set]; exact w.len⟩
  · have n : b ≠ a := fun z => by rw [z, Fa] at e; cases e
    rw [ne n]; exact w.same b v e
  · rcases get_set e with ⟨e1, e2⟩ | ⟨n, e2⟩
    · subst e1
      cases e2
      rw [fpSet_same]
      exact ⟨_, hs, rr⟩
    · obtain ⟨v, hv, r2⟩ := w.rep j d e2
      rw [fpSet_ne n]
      exact ⟨v, hv, r2.mono (.refl _) fun b hb => ne fun z => w.dj i j (Ne.symm n) a ai (by rw [← z]; exact hb)⟩
  · by_cases q : j = i
    · subst q
      exfalso
      by_cases l : j < δ.length
      · exact e _ (List.getElem?_set_self l)
      · rw [w.len] at l
        rw [List.getElem?_eq_none (by omega)] at hs; cases hs
    · rw [fpSet_ne q]
      exact w.out j fun d z => e d (by rw [List.getElem?_set_ne (Ne.symm q)]; exact z)
  · by_cases q : j = i
    · subst q
      rw [fpSet_same] at hb
      rw [fpSet_ne (Ne.symm n)]
      rcases List.mem_cons.mp hb with z | z
      · subst z; exact w.dj j l n b ai
      · exact off b z l (Ne.symm n)
    · rw [fpSet_ne q] at hb
      by_cases q2 : l = i
      · subst q2
        rw [fpSet_same]
        intro z
        rcases List.mem_cons.mp z with z | z
        · subst z; exact w.dj l j (Ne.symm n) b ai hb
        · exact off b z j q hb
      · rw [fpSet_ne q2]; exact w.dj j l n b hb
  · by_cases q : j = i
    · subst q
      rw [fpSet_same] at hb
      rcases List.mem_cons.mp hb with z | z
      · subst z; exact Fa
      · exact fr b z
    · rw [fpSet_ne q] at hb; exact w.fr j b hb
/-- an own list gets other items -/
theorem Wd.mut (w : Wd K F H σ δ fp) {i : Nat} {a : Addr} {xs' : List V} {ds' : List D} {g g' : List Addr} (hi : fp i = a :: g) (hs : σ[i]? = some (some (.ref a))) (r : Reps K F H ds' xs' g') (na : a ∉ g') (off : ∀ b ∈ g', ∀ j, j ≠ i → b ∉ fp j) (fr : ∀ b ∈ g', F b = none) :
    Wd K F (upd H a (.lst xs')) σ (δ.set i (some (.lst true ds'))) (fpSet fp i (a :: g')) :=
  w.mutU hi hs ⟨a, xs', g', rfl, upd_same, r.mono (.refl _) fun b hb => upd_ne fun z => na (by rw [← z]; exact hb), na, rfl⟩ off fr
theorem Tr.mut {o0 : Addr → Prop} (t : Tr F0 H0 o0 F H (Own fp)) {i : Nat} {a : Addr} {g g' : List Addr} {u : HO} (hi : fp i = a :: g) (hg : ∀ b ∈ g', (Own fp b ∨ H b = none) ∨ (o0 b ∨ H0 b = none)) : Tr F0 H0 o0 F (upd H a u) (Own (fpSet fp i (a :: g'))) := by
  have ai : Own fp a := ⟨i, by rw [hi]; simp⟩
  refine ⟨t.same, fun b v e n => ?_, fun b hb => ?_, t.grow⟩
  · have e1 := t.frame b v e n
    have q : b ≠ a := fun z => t.nofresh e n (by rw [z]; exact ai)
    rw [upd_ne q]; exact e1
  · rcases own_fpSet hb with z | ⟨j, _, z⟩
    · rcases List.mem_cons.mp z with z | z
      · rw [z]; exact t.fresh a ai
      · rcases hg b z with q | q
        · exact fresh_trans t q
        · exact q
    · exact t.fresh b ⟨j, z⟩
/-- a slot that holds an own list -/
theorem Wd.lstAt (w : Wd K F H σ δ fp) {i : Nat} {ds : List D} (h : (δ[i]?).join = some (.lst true ds)) : ∃ a xs g, σ[i]? = some (some (.ref a)) ∧ H a = some (.lst xs) ∧ Reps K F H ds xs g ∧ a ∉ g ∧ fp i = a :: g := by
  obtain ⟨v, hv, a, xs, g, rfl, ha, r, na, ef⟩ := w.slot h
  exact ⟨a, xs, g, hv, ha, r, na, ef⟩
theorem Wd.off_in (w : Wd K F H σ δ fp) {i : Nat} {a : Addr} {g : List Addr} (hi : fp i = a :: g) : ∀ b ∈ g, ∀ j, j ≠ i → b ∉ fp j := fun b hb j n => w.dj i j (Ne.symm n) b (by rw [hi]; simp [hb])
theorem Wd.fr_in (w : Wd K F H σ δ fp) {i : Nat} {a : Addr} {g : List Addr} (hi : fp i = a :: g) : ∀ b ∈ g, F b = none := fun b hb => w.fr i b (by rw [hi]; simp [hb])
theorem Reps.nth {ds : List D} : ∀ {vs : List V} {f : List Addr} {k : Nat} {d : D}, Reps K F H ds vs f → ds[k]? = some d → d.pure = true → ∃ v, vs[k]? = some v ∧ Rep K F H d v [] := by
  induction ds with
  | nil => intro vs f k d _ e; simp at e
  | cons x ds ih =>
    intro vs f k d h e p
    obtain ⟨y, r, f1, f2, rfl, h1, h2, dj, ef⟩ := h
    cases k with
    | zero =>
      have q : x = d := by simpa using e
      subst q
      exact ⟨y, rfl, by have z := Rep.nil_of_pure p h1; rw [z] at h1; exact h1⟩
    | succ k =>
      obtain ⟨v, hv, r2⟩ := ih h2 (by simpa using e) p
      exact ⟨v, by simpa using hv, r2⟩
/-- without one of no own objects -/
theorem Reps.erase : ∀ {ds : List D} {vs : List V} {f : List Addr} {k : Nat} {d : D}, Reps K F H ds vs f → ds[k]? = some d → d.pure = true → Reps K F H (ds.eraseIdx k) (vs.eraseIdx k) f
  | [], vs, f, k, d, _, e, _ => by simp at e
  | x :: ds, vs, f, k, d, h, e, p => by
    obtain ⟨y, r, f1, f2, rfl, h1, h2, dj, ef⟩ := h
    cases k with
    | zero =>
      have q : x = d := by simpa using e
      subst q
      have z := Rep.nil_of_pure p h1
      subst z
      rw [ef]; exact h2
    | succ k => exact ⟨y, r.eraseIdx k, f1, f2, rfl, h1, Reps.erase h2 (by simpa using e) p, dj, ef⟩
theorem dropLast_erase {α : Type} : ∀ xs : List α, xs.dropLast = xs.eraseIdx (xs.length - 1)
  | [] => rfl
  | [x] => rfl
  | x :: y :: r => by
    have ih := dropLast_erase (y :: r)
    rw [List.dropLast_cons_of_ne_nil (by simp), ih]
    rfl
theorem last_get {α : Type} : ∀ {xs : List α} {d : α}, xs.getLast? = some d → xs[xs.length - 1]? = some d
  | [], _, h => by simp at h
  | x :: r, d, h => by rw [List.getLast?_eq_getElem?] at h; exact h
end
section
variable {G : Tab} {A : Nat → Addr} {call : Calls} {X : Cx} {W : WX}
theorem seqIx {n : Nat} {i : Int} {j : Nat} (h : ixN n i = some j) : seqIndex? i n = some j ∧ j < n := by
  unfold ixN at h
  unfold seqIndex?
  split at h
  · rename_i c
    split at h
    · rename_i l
      cases h
      refine ⟨?_, by omega⟩
      simp only [show ¬ i < 0 by omega, if_false]
      simp [c, l]
    · cases h
  · rename_i c
    split at h
    · rename_i l
      cases h
      refine ⟨?_, by omega⟩
      simp only [show i < 0 by omega, if_true]
      rw [if_pos (by simp; omega)]
    · cases h
theorem s_pop0 {i : Nat} {m : Md} {σ : St} {H : Hp} {Q : VK} (h : tS G A call X W m (.pop i .nil) σ H Q) : tBM0 X.K "list" rPop (tVar i) σ H Q := by
  obtain ⟨F, δ, fp, w, h⟩ := h
  simp only [ev, evs] at h
  split at h
  · have h2 : RG (match (δ[i]?).join with
      | some (.lst true ds) => match gets δ [] with
        | some [] => match ds.getLast? with
          | some d => if d.pure then R.ok (.tmp d) (δ.set i (some (.lst true ds.dropLast))) else .stuck
          | none => .stuck
        | some [.int k] => match ixN ds.length k with
          | some j => match ds[j]? with
            | some d => if d.pure && decide (ds.length ≤ big) then R.ok (.tmp d) (δ.set i (some (.lst true (ds.eraseIdx j)))) else .stuck
            | none => .stuck
          | none => .stuck
        | _ => .stuck
      | _ => .stuck) (PO X.K σ F H fp Q) (PX G A X.K σ F H fp W) := h
    split at h2
    · rename_i ds hd
      obtain ⟨a, xs, g, hs, ha, r, na, ef⟩ := w.lstAt hd
      refine ⟨_, hs, .inl ⟨rfl, xs, .of ha⟩, ?_⟩
      simp only [gets] at h2
      split at h2
      · rename_i d hl
        split at h2
        · rename_i p
          have l := r.length
          have hk := last_get hl
          obtain ⟨y, hy, ry⟩ := r.nth hk p
          refine ⟨a, xs, y, rfl, rfl, ha, by rw [l]; exact hy, ?_⟩
          have re := r.erase hk p
          rw [dropLast_erase xs, l]
          rw [dropLast_erase ds] at h2
          refine h2 F _ _ y [] (Tr.mut (g' := g) .refl ef fun b hb => .inl (.inl ⟨i, by rw [ef]; simp [hb]⟩)) (w.mut ef hs re na (w.off_in ef) (w.fr_in ef)) ⟨ry.mono (.refl _) fun b hb => absurd hb (by simp), fun a ha => absurd ha (by simp), fun a ha => absurd ha (by simp)⟩ fun a ha => absurd ha (by simp)
        · exact False.elim h2
      · exact False.elim h2
    · exact False.elim h2
  · exact False.elim h
theorem s_pop1 {i : Nat} {es : E} {m : Md} {σ : St} {H : Hp} {Q : VK} (hl : es.len = 1) (h : tS G A call X W m (.pop i es) σ H Q) : tBM X.K "list" rPopAt (tVar i) (tA G A call X W .opd es) σ H Q := by
  obtain ⟨F, δ, fp, w, h⟩ := h
  simp only [ev] at h
  split at h
  · rename_i o ds0 hd0
    obtain ⟨v, hv, r0⟩ := w.slot hd0
    obtain ⟨a0, us, g0, rfl, ha0, _⟩ := Vw.lst w.same ⟨_, r0⟩
    refine ⟨_, hv, .inl ⟨rfl, us, .of ha0⟩, ?_⟩
    refine ⟨F, δ, fp, w, (evs_len h.bind hl).mono (fun zs δ1 h2 F1 H1 fp1 vs fv t1 w1 o1 fr1 => ?_) fun _ _ _ z => z⟩
    obtain ⟨h2, ll⟩ := h2
    split at h2
    · rename_i ds hd
      obtain ⟨a, xs, g, hs, ha, r, na, ef⟩ := w1.lstAt hd
      split at h2
      · rename_i gz
        exfalso
        cases zs with
        | nil => simp at ll
        | cons z zs =>
          simp only [gets] at gz
          split at gz <;> cases gz
      · rename_i k gz
        obtain ⟨x, e1, e2⟩ := (o1.see w1 gz).one
        subst e1
        rw [hv] at hs
        cases hs
        split at h2
        · rename_i j hj
          split at h2
          · rename_i d hk
            split at h2
            · rename_i p
              rw [Bool.and_eq_true, decide_eq_true_eq] at p
              obtain ⟨p, bx⟩ := p
              have bx : ds.length ≤ 1000000 := bx
              have l := r.length
              obtain ⟨y, hy, ry⟩ := r.nth hk p
              have re := r.erase hk p
              obtain ⟨q1, q2⟩ := seqIx hj
              refine ⟨_, xs, k, j, y, rfl, by rw [e2.int], ha, ?_, ?_, by rw [l]; exact q1, hy, ?_⟩
              · unfold ixN at hj
                split at hj
                · omega
                · split at hj
                  · omega
                  · cases hj
              · unfold ixN at hj
                split at hj
                · split at hj
                  · omega
                  · cases hj
                · omega
              refine h2 F1 _ _ y [] (Tr.mut (g' := g) t1 ef fun b hb => .inl (.inl ⟨i, by rw [ef]; simp [hb]⟩)) (w1.mut ef (by rw [hv]) re na (w1.off_in ef) (w1.fr_in ef)) ⟨ry.mono (.refl _) fun b hb => absurd hb (by simp), fun a ha => absurd ha (by simp), fun a ha => absurd ha (by simp)⟩ fun a ha => absurd ha (by simp)
            · exact False.elim h2
          · exact False.elim h2
        · exact False.elim h2
      · exact False.elim h2
    · exact False.elim h2
  · exact False.elim h
end
end IR
namespace IR
open PySem PySem.Spec L2
section
variable {K : PySem.W.Frag} {F H F0 H0 F' H' : Hp} {σ σ' : St} {δ δ' : Ev} {fp : Fp}

/-! ### worlds, once more -/
theorem Wd.less (w : Wd K F H σ δ fp) (l : σ'.length = σ.length) (k : ∀ (j : Nat) d, δ[j]? = some (some d) → σ'[j]? = σ[j]?) : Wd K F H σ' δ fp :=
  ⟨w.same, fun i d e => by obtain ⟨v, hv, r⟩ := w.rep i d e; exact ⟨v, by rw [k i d e]; exact hv, r⟩, w.out, w.dj, w.fr, by rw [l]; exact w.len⟩
theorem Wd.off (w : Wd K F H σ δ fp) {a : Addr} {u : HO} (fa : F a = none) (n : ¬ Own fp a) : Wd K F (upd H a u) σ δ fp where
  same := fun b v e => by
    have q : b ≠ a := fun z => by rw [z, fa] at e; cases e
    rw [upd_ne q]; exact w.same b v e
  rep := fun i d e => by
    obtain ⟨v, hv, r⟩ := w.rep i d e
    exact ⟨v, hv, r.mono (.refl _) fun b hb => upd_ne fun z => n ⟨i, by rw [← z]; exact hb⟩⟩
  out := w.out
  dj := w.dj
  fr := w.fr
  len := w.len
theorem wipe_len (σ : St) : ∀ vs, (wipe σ vs).length = σ.length
  | [] => rfl
  | v :: vs => by rw [wipe.eq_2, List.length_set, wipe_len σ vs]
theorem wipe_out {σ : St} {j : Nat} : ∀ {vs : List Nat}, j ∉ vs → (wipe σ vs)[j]? = σ[j]?
  | [], _ => rfl
  | v :: vs, h => by
    rw [wipe.eq_2, List.getElem?_set_ne (fun e => h (by simp [e])), wipe_out fun z => h (by simp [z])]
theorem wipe_in {σ : St} {j : Nat} : ∀ {vs : List Nat}, j ∈ vs → j < σ.length → (wipe σ vs)[j]? = some none
  | [], h, _ => by simp at h
  | v :: vs, h, l => by
    rw [wipe.eq_2]
    by_cases e : v = j
    · subst e; exact List.getElem?_set_self (by rw [wipe_len]; exact l)
    · rw [List.getElem?_set_ne e]
      rcases List.mem_cons.mp h with q | q
      · exact absurd q.symm e
      · exact wipe_in q l
theorem wipe_eq {σ σ' : St} {vs : List Nat} (l : σ'.length = σ.length) (k : ∀ j, j ∉ vs → σ'[j]? = σ[j]?) : wipe σ' vs = wipe σ vs := by
  refine List.ext_getElem? fun j => ?_
  by_cases h : j ∈ vs
  · by_cases q : j < σ.length
    · rw [wipe_in h q, wipe_in h (by omega)]
    · rw [List.getElem?_eq_none (by rw [wipe_len]; omega), List.getElem?_eq_none (by rw [wipe_len]; omega)]
  · rw [wipe_out h, wipe_out h, k j h]
/-- a world's slots emptied, the state's too -/
theorem Wd.wipe2 (w : Wd K F H σ δ fp) (vs : List Nat) : Wd K F H (L2.wipe σ vs) (wipeE δ vs) (fpOff fp vs) :=
  (w.wipe vs).less (wipe_len _ _) fun j d e => wipe_out (wipeE_get e).1

/-! ### targets -/
def tgNm : List Nat → TGs
  | [] => gNil
  | i :: is => gCons (gName i) (tgNm is)
def tTg (K : PySem.W.Frag) : Tg → TG
  | .nm i => gName i
  | .tp is => gTup K is.length (tgNm is)
  | .tn i js => gTup K 2 (gCons (gName i) (gCons (gTup K js.length (tgNm js)) gNil))
theorem tgNm_ok : ∀ {is : List Nat} {ds : List D} {vs : List V} {σ : St} {δ : Ev} {fp : Fp} {Q : St → Hp → Prop}, Wd K F H σ δ fp → Reps K F H ds vs [] → is.length = ds.length →
    (∀ σ2 fp2, σ2.length = σ.length → (∀ j, j ∉ is → σ2[j]? = σ[j]?) → Wd K F H σ2 ((is.zip ds).foldl (fun δ p => δ.set p.1 (some p.2)) δ) fp2 → (∀ a, Own fp2 a → Own fp a) → Q σ2 H) → tgNm is vs σ H Q
  | [], ds, vs, σ, δ, fp, Q, w, r, l, k => by
    have e : ds = [] := by cases ds with | nil => rfl | cons _ _ => simp at l
    subst e
    exact ⟨r.1, k σ fp rfl (fun _ _ => rfl) w fun _ h => h⟩
  | i :: is, ds, vs, σ, δ, fp, Q, w, r, l, k => by
    cases ds with
    | nil => simp at l
    | cons d ds =>
      obtain ⟨x, q, f1, f2, rfl, h1, h2, _, ef⟩ := r
      have e1 : f1 = [] := by cases f1 with | nil => rfl | cons _ _ => simp at ef
      have e2 : f2 = [] := by cases f2 with | nil => rfl | cons _ _ => rw [e1] at ef; simp at ef
      subst e1; subst e2
      refine ⟨x, q, rfl, ?_⟩
      refine tgNm_ok (w.putP h1 i) h2 (by simpa using l) fun σ2 fp2 l2 k2 w2 o2 => ?_
      refine k σ2 fp2 (by rw [l2, List.length_set]) (fun j hj => ?_) w2 fun a ha => own_drop (o2 a ha)
      rw [k2 j fun z => hj (by simp [z]), List.getElem?_set_ne fun z => hj (by simp [z])]
theorem tTg_ok {tg : Tg} {d : D} {v : V} {δ3 : Ev} {Q : St → Hp → Prop} (w : Wd K F H σ δ fp) (r : Rep K F H d v []) (h : bindT δ tg d = some δ3)
    (k : ∀ σ2 fp2, σ2.length = σ.length → (∀ j, j ∉ tg.own → σ2[j]? = σ[j]?) → Wd K F H σ2 δ3 fp2 → (∀ a, Own fp2 a → Own fp a) → Q σ2 H) : tTg K tg v σ H Q := by
  cases tg with
  | nm i =>
    simp only [bindT, Option.some.injEq] at h
    subst h
    exact k _ _ (by rw [List.length_set]) (fun j hj => List.getElem?_set_ne fun z => hj (by simp [Tg.own, z])) (w.putP r i) fun a ha => own_drop ha
  | tp is =>
    cases d <;> simp only [bindT, reduceCtorEq] at h
    rename_i ds
    split at h
    · rename_i l
      cases h
      obtain ⟨a, xs, rfl, hs, hr⟩ := r
      exact ⟨a, xs, rfl, seqT_mono w.same hs, by rw [hr.length, l], tgNm_ok w hr l k⟩
    · cases h
  | tn i js =>
    unfold bindT at h
    split at h
    · rename_i e; cases e
    · rename_i e; cases e
    · rename_i i' js' d0 ds e
      cases e
      split at h
      · rename_i l
        cases h
        obtain ⟨a, xs, rfl, hs, x, r1, f1, f2, rfl, h1, h2, _, ef⟩ := r
        have e1 : f1 = [] := by cases f1 with | nil => rfl | cons _ _ => simp at ef
        have e2 : f2 = [] := by cases f2 with | nil => rfl | cons _ _ => rw [e1] at ef; simp at ef
        subst e1; subst e2
        obtain ⟨y, r2, f3, f4, rfl, h3, h4, _, ef2⟩ := h2
        have e3 : f3 = [] := by cases f3 with | nil => rfl | cons _ _ => simp at ef2
        subst e3
        obtain ⟨rfl, _⟩ := h4
        obtain ⟨a2, ys, rfl, hs2, hr2⟩ := h3
        refine ⟨a, [x, .ref a2], rfl, seqT_mono w.same hs, rfl, x, _, rfl, _, _, rfl, a2, ys, rfl, seqT_mono w.same hs2, by rw [hr2.length, l], ?_⟩
        refine tgNm_ok (w.putP h1 i) hr2 l fun σ2 fp2 l2 k2 w2 o2 => ⟨rfl, ?_⟩
        refine k σ2 fp2 (by rw [l2, List.length_set]) (fun j hj => ?_) w2 fun a ha => own_drop (o2 a ha)
        rw [k2 j fun z => hj (by simp [Tg.own, z]), List.getElem?_set_ne fun z => hj (by simp [Tg.own, z])]
      · cases h
    · cases h
    · cases h

/-! ### what is walked -/
structure Wlk (K : PySem.W.Frag) (F : Hp) (J : It) (xs : List D) : Prop where
  go : ∀ (i : Nat) F' H, Same F F' → Same F' H → i < xs.length → J.go i H
  stop : ∀ (i : Nat) F' H, Same F F' → Same F' H → xs.length ≤ i → J.stop i H
  yld : ∀ (i : Nat) F' H x H', Same F F' → Same F' H → J.yld i H x H' → ∀ d, xs[i]? = some d → ∃ F2, Ext F' H F2 H' ∧ Rep K F2 H' d x []
theorem Wlk.mono {J : It} {xs : List D} (w : Wlk K F J xs) (s : Same F F') : Wlk K F' J xs :=
  ⟨fun i F2 H a b c => w.go i F2 H (s.trans a) b c, fun i F2 H a b c => w.stop i F2 H (s.trans a) b c, fun i F2 H x H' a b c d e => w.yld i F2 H x H' (s.trans a) b c d e⟩
theorem Reps.nth0 : ∀ {ds : List D} {vs : List V} {k : Nat} {d : D}, Reps K F H ds vs [] → ds[k]? = some d → ∃ v, vs[k]? = some v ∧ Rep K F H d v []
  | [], _, k, d, _, e => by simp at e
  | x :: ds, _, k, d, ⟨y, r, f1, f2, rfl, h1, h2, _, ef⟩, e => by
    have e1 : f1 = [] := by cases f1 with | nil => rfl | cons _ _ => simp at ef
    have e2 : f2 = [] := by cases f2 with | nil => rfl | cons _ _ => rw [e1] at ef; simp at ef
    subst e1; subst e2
    cases k with
    | zero =>
      have q : x = d := by simpa using e
      subst q
      exact ⟨y, rfl, h1⟩
    | succ k =>
      obtain ⟨v, hv, r2⟩ := Reps.nth0 h2 (by simpa using e)
      exact ⟨v, by simpa using hv, r2⟩
/-- a list that stays -/
theorem Wlk.lst {a : Addr} {xs : List V} {ds : List D} (ha : F a = some (.lst xs)) (r : Reps K F H ds xs []) : Wlk K F (Itl K a) ds where
  go := fun i F' H2 s1 s2 l => by
    have l2 := r.length
    exact ⟨xs, xs[i], .of (s2 _ _ (s1 _ _ ha)), List.getElem?_eq_getElem (by omega)⟩
  stop := fun i F' H2 s1 s2 l => ⟨xs, .of (s2 _ _ (s1 _ _ ha)), by rw [r.length]; exact l⟩
  yld := fun i F' H2 x H3 s1 s2 y d hd => by
    obtain ⟨rfl, y⟩ := y
    obtain ⟨v, hv, r2⟩ := r.nth0 hd
    have e := y xs (.of (s2 _ _ (s1 _ _ ha)))
    rw [hv] at e
    cases e
    exact ⟨F', .refl s2, r2.mono s1 fun _ h => absurd h (by simp)⟩
theorem Wlk.tup {a : Addr} {xs : List V} {ds : List D} (ha : SqT K F a xs) (r : Reps K F H ds xs []) : Wlk K F (Itt K a) ds where
  go := fun i F' H2 s1 s2 l => by
    have l2 := r.length
    exact ⟨xs, xs[i], seqT_mono (s1.trans s2) ha, List.getElem?_eq_getElem (by omega)⟩
  stop := fun i F' H2 s1 s2 l => ⟨xs, seqT_mono (s1.trans s2) ha, by rw [r.length]; exact l⟩
  yld := fun i F' H2 x H3 s1 s2 y d hd => by
    obtain ⟨rfl, y⟩ := y
    obtain ⟨v, hv, r2⟩ := r.nth0 hd
    have e := y xs (seqT_mono (s1.trans s2) ha)
    rw [hv] at e
    cases e
    exact ⟨F', .refl s2, r2.mono s1 fun _ h => absurd h (by simp)⟩
theorem Wlk.rng (lo : Int) (n : Nat) : Wlk K F (Itr lo n) ((List.range n).map fun (k : Nat) => D.int (lo + k)) where
  go := fun i F' H2 s1 s2 l => by rw [List.length_map, List.length_range] at l; exact l
  stop := fun i F' H2 s1 s2 l => by rw [List.length_map, List.length_range] at l; exact l
  yld := fun i F' H2 x H3 s1 s2 y d hd => by
    obtain ⟨rfl, rfl⟩ := y
    rw [List.getElem?_map] at hd
    obtain ⟨k, hk, rfl⟩ := Option.map_eq_some_iff.mp hd
    rw [List.getElem?_range (by
      have := (List.getElem?_eq_some_iff.mp hk).1
      simpa using this)] at hk
    cases hk
    exact ⟨F', .refl s2, rfl, rfl⟩
theorem Wlk.rngC (lo : Int) (n : Nat) : Wlk K F (Itc lo (-1) n) ((List.range n).map fun (k : Nat) => D.int (lo - k)) where
  go := fun i F' H2 s1 s2 l => by rw [List.length_map, List.length_range] at l; exact l
  stop := fun i F' H2 s1 s2 l => by rw [List.length_map, List.length_range] at l; exact l
  yld := fun i F' H2 x H3 s1 s2 y d hd => by
    obtain ⟨rfl, rfl⟩ := y
    rw [List.getElem?_map] at hd
    obtain ⟨k, hk, rfl⟩ := Option.map_eq_some_iff.mp hd
    rw [List.getElem?_range (by
      have := (List.getElem?_eq_some_iff.mp hk).1
      simpa using this)] at hk
    cases hk
    refine ⟨F', .refl s2, ?_, rfl⟩
    congr 1; omega
theorem Wlk.rngS (lo c : Int) (n : Nat) : Wlk K F (Itc lo c n) ((List.range n).map fun (k : Nat) => D.int (lo + k * c)) where
  go := fun i F' H2 s1 s2 l => by rw [List.length_map, List.length_range] at l; exact l
  stop := fun i F' H2 s1 s2 l => by rw [List.length_map, List.length_range] at l; exact l
  yld := fun i F' H2 x H3 s1 s2 y d hd => by
    obtain ⟨rfl, rfl⟩ := y
    rw [List.getElem?_map] at hd
    obtain ⟨k, hk, rfl⟩ := Option.map_eq_some_iff.mp hd
    rw [List.getElem?_range (by
      have := (List.getElem?_eq_some_iff.mp hk).1
      simpa using this)] at hk
    cases hk
    exact ⟨F', .refl s2, rfl, rfl⟩
/-- temporary objects are frozen -/
theorem Tm.freeze {o0 : Addr → Prop} {d : D} {v : V} {f : List Addr} (t : Tm K F H (Own fp) d v f) (w : Wd K F H σ δ fp) (tr : Tr F0 H0 o0 F H (Own fp)) (fr : ∀ a ∈ f, o0 a ∨ H0 a = none) :
    ∃ F', Wd K F' H σ δ fp ∧ Tr F0 H0 o0 F' H (Own fp) ∧ Same F F' ∧ Rep K F' H d.fz v [] := by
  refine ⟨fun a => if a ∈ f then H a else F a, ?_⟩
  have sF : Same F (fun a => if a ∈ f then H a else F a) := fun a u e => by
    show (if a ∈ f then H a else F a) = some u
    split
    · exact w.same a u e
    · exact e
  refine ⟨⟨fun a u e => ?_, fun i d e => ?_, w.out, w.dj, fun i a ha => ?_, w.len⟩, ⟨tr.same.trans sF, tr.frame, tr.fresh, fun a u e1 e2 m n => ?_⟩, sF, t.rep.fz sF fun a ha => if_pos ha⟩
  · have e' : (if a ∈ f then H a else F a) = some u := e
    split at e'
    · exact e'
    · exact w.same a u e'
  · obtain ⟨u, hu, r⟩ := w.rep i d e
    exact ⟨u, hu, r.mono sF fun _ _ => rfl⟩
  · show (if a ∈ f then H a else F a) = none
    rw [if_neg fun z => t.off a z ⟨i, ha⟩]; exact w.fr i a ha
  · show (if a ∈ f then H a else F a) = none
    rw [if_neg fun z => ?_]
    · exact tr.grow a u e1 e2 m n
    · rcases fr a z with q | q
      · exact n q
      · rw [e2] at q; cases q
theorem enumD_at : ∀ {ds : List D} {n i : Nat} {d : D}, (enumD n ds)[i]? = some d → ∃ x, ds[i]? = some x ∧ d = .tup [.int (n + i : Nat), x]
  | [], n, i, d, h => by simp [enumD] at h
  | x :: ds, n, 0, d, h => by
    simp [enumD] at h
    exact ⟨x, rfl, by rw [← h]; simp⟩
  | x :: ds, n, i + 1, d, h => by
    simp only [enumD, List.getElem?_cons_succ] at h
    obtain ⟨y, e, rfl⟩ := enumD_at h
    refine ⟨y, by simpa using e, ?_⟩
    rw [show n + 1 + i = n + (i + 1) by omega]
theorem enumD_length : ∀ {ds : List D} {n : Nat}, (enumD n ds).length = ds.length
  | [], _ => rfl
  | _ :: ds, n => by simp [enumD, enumD_length]
theorem zipD_at : ∀ {ds es : List D} {i : Nat} {d : D}, (zipD ds es)[i]? = some d → ∃ x y, ds[i]? = some x ∧ es[i]? = some y ∧ d = .tup [x, y]
  | [], _, i, d, h => by simp [zipD] at h
  | _ :: _, [], i, d, h => by simp [zipD] at h
  | x :: ds, y :: es, 0, d, h => by
    simp [zipD] at h
    exact ⟨x, y, rfl, rfl, h.symm⟩
  | x :: ds, y :: es, i + 1, d, h => by
    simp only [zipD, List.getElem?_cons_succ] at h
    obtain ⟨a, b, e, f, rfl⟩ := zipD_at h
    exact ⟨a, b, by simpa using e, by simpa using f, rfl⟩
theorem zipD_length : ∀ {ds es : List D}, (zipD ds es).length = min ds.length es.length
  | [], _ => by simp [zipD]
  | _ :: _, [] => by simp [zipD]
  | _ :: ds, _ :: es => by simp [zipD, zipD_length]
theorem Wlk.enm {a : Addr} {xs : List V} {ds : List D} (ha : F a = some (.lst xs)) (r : Reps K F H ds xs []) : Wlk K F (Ite K a) (enumD 0 ds) where
  go := fun i F' H2 s1 s2 l => by
    have l2 := r.length
    rw [enumD_length] at l
    exact ⟨xs, xs[i], .of (s2 _ _ (s1 _ _ ha)), List.getElem?_eq_getElem (by omega)⟩
  stop := fun i F' H2 s1 s2 l => ⟨xs, .of (s2 _ _ (s1 _ _ ha)), by rw [r.length]; rw [enumD_length] at l; exact l⟩
  yld := fun i F' H2 x H3 s1 s2 y d hd => by
    obtain ⟨T, x', rfl, hn, rfl, y⟩ := y
    obtain ⟨dx, e1, rfl⟩ := enumD_at hd
    obtain ⟨v, hv, r2⟩ := r.nth0 e1
    have e := y xs (.of (s2 _ _ (s1 _ _ ha)))
    rw [hv] at e
    have e := Option.some.inj e
    subst e
    have ex := Ext.updF (F := F') (H := H2) s2 hn (o := .tup [.int (i : Nat), v])
    refine ⟨_, ex, T, [.int (i : Nat), v], rfl, .inl (.inl upd_same), .int (i : Nat), [v], [], [], rfl, ⟨by simp, rfl⟩, ?_, by simp, rfl⟩
    exact Reps.one (r2.mono (s1.trans ex.1) fun _ h => absurd h (by simp))
theorem Wlk.zip {a b : Addr} {xs ys : List V} {ds es : List D} (ha : F a = some (.lst xs)) (hb : F b = some (.lst ys)) (r : Reps K F H ds xs []) (q : Reps K F H es ys []) : Wlk K F (Itz K a b) (zipD ds es) where
  go := fun i F' H2 s1 s2 l => by
    have l2 := r.length
    have l3 := q.length
    rw [zipD_length] at l
    exact ⟨xs, ys, xs[i], ys[i], .of (s2 _ _ (s1 _ _ ha)), .of (s2 _ _ (s1 _ _ hb)), List.getElem?_eq_getElem (by omega), List.getElem?_eq_getElem (by omega)⟩
  stop := fun i F' H2 s1 s2 l => ⟨xs, ys, .of (s2 _ _ (s1 _ _ ha)), .of (s2 _ _ (s1 _ _ hb)), by rw [r.length, q.length]; rw [zipD_length] at l; omega⟩
  yld := fun i F' H2 x H3 s1 s2 y d hd => by
    obtain ⟨T, x', y', rfl, hn, rfl, y1, y2⟩ := y
    obtain ⟨dx, dy, e1, e2, rfl⟩ := zipD_at hd
    obtain ⟨v, hv, r2⟩ := r.nth0 e1
    obtain ⟨u, hu, q2⟩ := q.nth0 e2
    have e := y1 xs (.of (s2 _ _ (s1 _ _ ha)))
    rw [hv] at e
    have e := Option.some.inj e
    subst e
    have e := y2 ys (.of (s2 _ _ (s1 _ _ hb)))
    rw [hu] at e
    have e := Option.some.inj e
    subst e
    have ex := Ext.updF (F := F') (H := H2) s2 hn (o := .tup [v, u])
    refine ⟨_, ex, T, [v, u], rfl, .inl (.inl upd_same), v, [u], [], [], rfl, r2.mono (s1.trans ex.1) (fun _ h => absurd h (by simp)), ?_, by simp, rfl⟩
    exact Reps.one (q2.mono (s1.trans ex.1) fun _ h => absurd h (by simp))
end
end IR
namespace IR
open PySem PySem.Spec L2
/-! ### dicts -/
section
variable {K : PySem.W.Frag} {F H F0 H0 F' H' : Hp} {σ σ' : St} {δ δ' : Ev} {fp : Fp}
theorem Tr.updN {o o' : Addr → Prop} (t : Tr F H o F' H' o') {p : Addr} {u : HO} (n : H p = none) : Tr F H o F' (upd H' p u) o' :=
  ⟨t.same, fun b v e no => by rw [upd_ne (ne_of_none e n)]; exact t.frame b v e no, t.fresh, t.grow⟩
theorem key_v {d : D} {k : Key} {v : V} (h : d.key = some k) (r : Vw K F H d v) : v = kV k := by
  cases d <;> simp only [D.key, reduceCtorEq, Option.some.injEq] at h
  · subst h; exact r.int
  · subst h; exact r.str
theorem keyD_rep {k : Key} : Rep K F H (keyD k) (kV k) [] := by cases k <;> exact ⟨rfl, rfl⟩
/-- what a dict holds at a key -/
theorem dct_at {k : Key} : ∀ {kvs : List (Key × V)} {ds : List D} {g : List Addr}, Reps K F H ds (kvs.map (·.2)) g → (∀ d, atKD k (kvs.map (·.1)) ds = some d → ∃ v f, valV kvs k = some v ∧ Rep K F H d v f) ∧ (atKD k (kvs.map (·.1)) ds = none → valV kvs k = none)
  | [], ds, g, h => ⟨fun d e => by simp [atKD] at e, fun _ => rfl⟩
  | (l, x) :: kvs, [], g, h => by simp [Reps] at h
  | (l, x) :: kvs, d0 :: ds, g, ⟨y, r, f1, f2, e, h1, h2, dj, ef⟩ => by
    simp only [List.map_cons, List.cons.injEq] at e
    obtain ⟨rfl, rfl⟩ := e
    have ih := dct_at (k := k) h2
    simp only [List.map_cons, atKD]
    by_cases q : l = k
    · rw [if_pos q]
      refine ⟨fun d e => ?_, fun e => by cases e⟩
      cases e
      exact ⟨x, f1, valV_pos (p := (l, x)) q, h1⟩
    · rw [if_neg q, valV_neg (p := (l, x)) q]
      exact ih
theorem reps_nil {d : D} {ds : List D} {x : V} {vs : List V} (h : Reps K F H (d :: ds) (x :: vs) []) : Rep K F H d x [] ∧ Reps K F H ds vs [] := by
  obtain ⟨y, r, f1, f2, e, h1, h2, dj, ef⟩ := h
  have e1 : f1 = [] := by cases f1 with | nil => rfl | cons _ _ => simp at ef
  have e2 : f2 = [] := by cases f2 with | nil => rfl | cons _ _ => rw [e1] at ef; simp at ef
  subst e1; subst e2
  cases e
  exact ⟨h1, h2⟩
theorem reps_mk {d : D} {ds : List D} {x : V} {vs : List V} (h1 : Rep K F H d x []) (h2 : Reps K F H ds vs []) : Reps K F H (d :: ds) (x :: vs) [] := ⟨x, vs, [], [], rfl, h1, h2, by simp, rfl⟩
theorem Reps.repl {k : Key} {d : D} {v : V} (r : Rep K F H d v []) : ∀ {kvs : List (Key × V)} {ds : List D}, Reps K F H ds (kvs.map (·.2)) [] → Reps K F H (List.zipWith (fun l w => if l = k then d else w) (kvs.map (·.1)) ds) ((kvs.map fun kv => if kv.1 = k then (kv.1, v) else kv).map (·.2)) []
  | [], ds, h => by simpa using ⟨rfl, rfl⟩
  | (l, x) :: kvs, [], h => by simp [Reps] at h
  | (l, x) :: kvs, d0 :: ds, h => by
    obtain ⟨h1, h2⟩ := reps_nil h
    have ih := Reps.repl (k := k) r h2
    simp only [List.map_cons, List.zipWith_cons_cons]
    by_cases q : l = k
    · rw [if_pos q, if_pos q]; exact reps_mk r ih
    · rw [if_neg q, if_neg q]; exact reps_mk h1 ih
/-- a dict behind a store -/
theorem dct_put {k : Key} {d : D} {v : V} (r : Rep K F H d v []) {kvs : List (Key × V)} {ds : List D} (h : Reps K F H ds (kvs.map (·.2)) []) :
    (putKD k d (kvs.map (·.1)) ds).1 = (putK kvs k v).map (·.1) ∧ Reps K F H (putKD k d (kvs.map (·.1)) ds).2 ((putK kvs k v).map (·.2)) [] := by
  have ea : ((kvs.map (·.1)).any fun l => decide (l = k)) = (kvs.any fun kv => decide (kv.1 = k)) := by rw [List.any_map]; rfl
  unfold putKD putK
  rw [ea]
  by_cases q : (kvs.any fun kv => decide (kv.1 = k)) = true
  · rw [if_pos q, if_pos q]
    refine ⟨?_, Reps.repl r h⟩
    dsimp only
    rw [List.map_map]
    refine List.map_congr_left fun p _ => ?_
    simp only [Function.comp]
    split <;> rfl
  · rw [if_neg q, if_neg q]
    refine ⟨by simp, ?_⟩
    dsimp only
    rw [List.map_append]
    exact h.append (Reps.one r) (by simp)
end
section
variable {G : Tab} {A : Nat → Addr} {call : Calls} {X : Cx} {W : WX}
theorem evs2 {m : Md} {a b : E} {δ : Ev} {β : Type} {f : List Opd → Ev → R β} {ok : β → Ev → Prop} {er : Nat → List D → Ev → Prop} (h : RG ((evs G call m (.cons a (.cons b .nil)) δ).bind f) ok er) :
    RG ((ev G call m a δ).bind fun x δ1 => (ev G call m b δ1).bind fun y δ2 => f [x, y] δ2) ok er := by
  simp only [evs] at h
  cases q : ev G call m a δ with
  | stuck => rw [q] at h; exact h
  | err c g δ1 => rw [q] at h; exact h
  | ok x δ1 =>
    rw [q] at h
    simp only [R.bind] at h ⊢
    cases q2 : ev G call m b δ1 with
    | stuck => rw [q2] at h; exact h
    | err c g δ2 => rw [q2] at h; exact h
    | ok y δ2 => rw [q2] at h; exact h
/-- one operand, then something; in any mode -/
theorem s1m {m : Md} {σ : St} {F H : Hp} {fp : Fp} {δ : Ev} {a : E} {β : Type} {f : Opd → Ev → R β} {ok : β → Ev → Prop} {Q : VK} (w : Wd X.K F H σ δ fp)
    (h : RG ((ev G call m a δ).bind f) ok (PX G A X.K σ F H fp W))
    (k : ∀ x δ1 F1 H1 fp1 v fv, Tr F H (Own fp) F1 H1 (Own fp1) → Wd X.K F1 H1 σ δ1 fp1 → Od X.K F1 H1 σ fp1 x v fv → (∀ a ∈ fv, Own fp a ∨ H a = none) → RG (f x δ1) ok (PX G A X.K σ F1 H1 fp1 W) → Q v H1) :
    tS G A call X W m a σ H Q :=
  ⟨F, δ, fp, w, h.bind.mono (fun x δ1 hr F1 H1 fp1 v fv t w1 od fr => k x δ1 F1 H1 fp1 v fv t w1 od fr (hr.mono (fun _ _ z => z) fun c g δ z => z.step (t := t))) fun _ _ _ z => z⟩
theorem s_dget {i : Nat} {a b : E} {m : Md} {σ : St} {H : Hp} {Q : VK} (h : tS G A call X W m (.dget i (.cons a (.cons b .nil))) σ H Q) : tDGet2 (tVar i) (tS G A call X W .opd a) (tS G A call X W .opd b) σ H Q := by
  obtain ⟨F, δ, fp, w, h⟩ := h
  simp only [ev] at h
  split at h
  · rename_i o0 ks0 ds0 hd0
    obtain ⟨v0, hv0, r0⟩ := w.slot hd0
    obtain ⟨p, kvs0, g0, rfl, hp0, _⟩ := Vw.dct w.same ⟨_, r0⟩
    refine ⟨_, hv0, p, rfl, .inl ⟨kvs0, hp0⟩, ?_⟩
    refine s1m w (evs2 h) fun x δ1 F1 H1 fp1 v fv t1 w1 p1 fr1 h1 => ?_
    refine s1m w1 h1 fun y δ2 F2 H2 fp2 u fu t2 w2 p2 fr2 h2 => ?_
    split at h2
    · rename_i o ks ds d e hd gx
      simp only [gets] at gx
      split at gx
      rotate_left
      · cases gx
      rename_i d' ds' gx1 gx2
      split at gx2
      rotate_left
      · cases gx2
      rename_i e' ds'' gy1 gy2
      cases gy2; cases gx2; cases gx
      obtain ⟨vd, hvd, rd⟩ := w2.slot hd
      obtain ⟨p', kvs, g, rfl, hp, ek, hr⟩ := Vw.dct w2.same ⟨_, rd⟩
      rw [hv0] at hvd
      cases hvd
      split at h2
      · rename_i k hk
        have ev := key_v hk ((p1.step t2).see w2 gx1)
        subst ev
        subst ek
        obtain ⟨c1, c2⟩ := dct_at (k := k) hr
        refine ⟨valV kvs k, .inl ⟨kvs, k, hp, rfl, rfl⟩, ?_⟩
        split at h2
        · rename_i dv ha
          obtain ⟨z, f, e1, r1⟩ := c1 _ ha
          rw [e1]
          split at h2
          · rename_i pv
            exact h2 F2 H2 fp2 z [] (t1.trans t2) w2 (Tm.pure pv r1) fun a ha => absurd ha (by simp)
          · exact False.elim h2
        · rename_i ha
          rw [c2 ha]
          split at h2
          · rename_i pv
            obtain ⟨f, r1⟩ := p2.see w2 gy1
            exact h2 F2 H2 fp2 u [] (t1.trans t2) w2 (Tm.pure pv r1) fun a ha => absurd ha (by simp)
          · exact False.elim h2
      · exact False.elim h2
    · exact False.elim h2
  · exact False.elim h
theorem s_dct1 {a b : E} {m : Md} {σ : St} {H : Hp} {Q : VK} (h : tS G A call X W m (.dct1 (.cons a (.cons b .nil))) σ H Q) : tDisp [(tS G A call X W .esc a, tS G A call X W .esc b)] σ H Q := by
  obtain ⟨F, δ, fp, w, h⟩ := h
  simp only [ev] at h
  intro p hp
  have ex : Ext F H F (upd H p (.dK [])) := Ext.upd w.same hp
  have np : ¬ Own fp p := fun z => by
    obtain ⟨u, hu, _⟩ := w.own_at z
    rw [hp] at hu; cases hu
  refine s1m (w.ext ex) ((evs2 h).mono (fun _ _ z => z) fun c g δ z => z.step (t := ex.tr)) fun x δ1 F1 H1 fp1 v fv t1 w1 p1 fr1 h1 => ?_
  refine s1m w1 h1 fun y δ2 F2 H2 fp2 u fu t2 w2 p2 fr2 h2 => ?_
  have t12 := t1.trans t2
  have h2p : H2 p = some (.dK []) := t12.frame p _ upd_same np
  refine ⟨h2p, ?_⟩
  split at h2
  · rename_i d e gx
    have e0 := tmps_eq gx
    simp only [List.map_cons, List.map_nil, List.cons.injEq, and_true] at e0
    obtain ⟨rfl, rfl⟩ := e0
    split at h2
    · rename_i k hk
      have ev := key_v hk ((p1.step t2).see w2 rfl)
      subst ev
      have p2 : Tm X.K F2 H2 (Own fp2) e u fu := p2
      obtain ⟨F3, w3, t3, s3, k3⟩ := w2.frz t12 p2.off fun a ha => fresh_trans t1 (fr2 a ha)
      refine ⟨[(k, u)], rfl, by simp, ?_⟩
      have em : mergeK [] [(k, u)] = [(k, u)] := rfl
      rw [em]
      have np3 : ¬ Own fp2 p := t3.nofresh (a := p) upd_same np
      have F3p : F3 p = none := t3.grow p _ (w.same.free hp) upd_same rfl np
      have r3 : Rep X.K F3 H2 e.fz u [] := p2.rep.fz s3 k3
      refine h2 F3 _ fp2 (.ref p) [p] ((ex.tr.trans t3).updN hp) (w3.off F3p np3) ⟨⟨p, [(k, u)], [], rfl, upd_same, rfl, Reps.one (r3.mono (.refl _) fun b hb => absurd hb (by simp)), by simp, rfl⟩, fun b hb => ?_, fun b hb => ?_⟩ fun b hb => ?_
      · have e : b = p := by simpa using hb
        rw [e]; exact F3p
      · have e : b = p := by simpa using hb
        rw [e]; exact np3
      · have e : b = p := by simpa using hb
        rw [e]; exact .inr hp
    · exact False.elim h2
  · exact False.elim h2
end
end IR
namespace IR
open PySem PySem.Spec L2
/-! ### enumerate of a tuple -/
set_option maxHeartbeats 1000000 in
theorem enmT_new {v : Value} {o : Obj} {C : Heap → Prop} (B : Begins v o C) : Meets (Builtin.«enumerate.__new__» ⟨[.type "enumerate", v], []⟩) (fun _ R s => C s.heap ∧ R (.ok (.ret (.ref (s.heap.push o).objs.size))) { s with heap := (s.heap.push o).push ⟨.type "enumerate", none, .fields #[.none, .bool false, .ref s.heap.objs.size, rawInt 0, .none, .none], #[]⟩ }) :=
  .of_wp fun prog w A R s hR => by
    rcases s with ⟨hp, g, d, tk, os⟩
    have sb := sub_enumerate
    have it1 : ∀ {A2 : Around} {E Q : Value → Shared → Prop}, Q (.ref hp.objs.size) ⟨hp.push o, g, d, tk, os⟩ → wpAny (model prog w) A2 (pyIter v) Q E ⟨hp, g, d, tk, os⟩ := fun q => B.iter prog w _ _ ⟨hp, g, d, tk, os⟩ _ hR.1 q
    wp_walk using it1
    refine wpAny_stack_any fun st => wpAny_pure ?_
    split
    next c _ _ _ _ _ =>
      cases hq : (c == Value.type "enumerate") <;> (wp_walk using it1; exact ⟨_, rfl, hR.2⟩)
    next =>
      wp_walk using it1
      exact ⟨_, rfl, hR.2⟩
section
variable {prog : Program} {w : World} {A : Around} {E : Value → Shared → Prop} {s : Shared}
theorem enmT_call {p : Addr} {its : Array Value} {Q : Value → Shared → Prop} (ht : s.heap.IsTuple p its)
    (h : ∀ h2, IsEnum h2 (s.heap.objs.size + 1) s.heap.objs.size 0 .none → h2.IsTupleIter s.heap.objs.size p 0 → (∀ b u, s.heap.get? b = some u → h2.get? b = some u) → Q (.ref (s.heap.objs.size + 1)) { s with heap := h2 }) :
    wpAny (model prog w) A (call (.type "enumerate") [.ref p]) Q E s := by
  refine callType_new F.called_enumerate (by decide) (F.typeCall_enumerate_1 _) (F.newCall_enumerate_1 _) (fun u => F.args_object_init_2 u _) F.entry_enumerate_new (enmT_new (begins_tuple p its)) ⟨ht, ?_⟩
  have sz : (s.heap.push ⟨.type "tuple_iterator", none, .fields #[.ref p, .int 0 0], #[]⟩).objs.size = s.heap.objs.size + 1 := Heap.size_push ..
  show _ ∧ _
  rw [sz]
  have en : IsEnum ((s.heap.push ⟨.type "tuple_iterator", none, .fields #[.ref p, .int 0 0], #[]⟩).push ⟨.type "enumerate", none, .fields #[.none, .bool false, .ref s.heap.objs.size, rawInt 0, .none, .none], #[]⟩) (s.heap.objs.size + 1) s.heap.objs.size 0 .none := by
    have z := Heap.get?_push_size (s.heap.push ⟨.type "tuple_iterator", none, .fields #[.ref p, .int 0 0], #[]⟩) (o := ⟨.type "enumerate", none, .fields #[.none, .bool false, .ref s.heap.objs.size, rawInt 0, .none, .none], #[]⟩) rfl
    rw [sz] at z
    exact z
  exact ⟨⟨_, en, rfl⟩, h _ en ⟨_, Heap.get?_push_of_some _ (Heap.get?_push_size _ rfl), rfl, rfl⟩ fun b u x => Heap.get?_push_of_some _ (Heap.get?_push_of_some _ x)⟩
end
/-- the tuple at p as it stands, each item in a new pair -/
def IteT (K : PySem.W.Frag) (p : Addr) : It :=
  ⟨fun n H => ∃ us u, SqT K H p us ∧ us[n]? = some u, fun n H v H2 => ∃ N u, v = .ref N ∧ H N = none ∧ H2 = upd H N (.tup [.int (n : Nat), u]) ∧ ∀ us, SqT K H p us → us[n]? = some u, fun n H => ∃ us, SqT K H p us ∧ us.length ≤ n⟩
/-- a walk at its end only -/
theorem enmT_end {prog : Program} {w : World} {A : Around} (hh : A.handled = none) (it p : Addr) (its : Array Value) {n : Nat} (up : its.size ≤ n) : Draws prog w A it [it, p] n (fun _ _ => True) (fun i h => i = n ∧ h.IsTupleIter it p n ∧ h.IsTuple p its) where
  live := fun i h z => by
    obtain ⟨_, ⟨u, hu, _⟩, _⟩ := z
    exact ⟨u, hu⟩
  frame := fun i h h2 z k => ⟨z.1, z.2.1.at fun u q => k it (by simp) u q, z.2.2.at fun u q => k p (by simp) u q⟩
  item := fun i s Q E l z _ => absurd z.1 (by omega)
  done := fun s Q E z hE => wpAny_nextOf_tuple_end hh z.2.1 z.2.2 (by simp; omega) hE
structure EnmSt (p c it n : Nat) (h : Heap) : Prop where
  en : ∃ old, IsEnum h c it ((n : Nat) : Int) old
  ti : h.IsTupleIter it p n
  n1 : c ≠ it
  n2 : p ≠ it
  n3 : p ≠ c
theorem turn_enmT {P : Program} {w : World} {K : PySem.W.Frag} {es : List Expr} {k : Nat} {ps : Pos} (p c it : Addr) : Turn P w K (.Tuple es k ps) (IteT K p) [c, it] c (EnmSt p c it) where
  mem := by simp
  obj := fun n h z b hb => by
    obtain ⟨old, en⟩ := z.en
    obtain ⟨u, hu, _, ud⟩ := z.ti
    rcases List.mem_cons.mp hb with q | q
    · subst q
      exact ⟨_, en, fun _ y => nomatch y⟩
    · have q : b = it := by simpa using q
      exact ⟨u, q ▸ hu, fun v y => by rw [ud] at y; cases y⟩
  keep := fun n h h2 z k => ⟨z.en.imp fun old en => k c (by simp) _ en, z.ti.at fun u q => k it (by simp) u q, z.n1, z.n2, z.n3⟩
  item := by
    intro X e1 e2 e3 cl n pins s σ H E I fr z g
    subst e1 e2 e3
    obtain ⟨old, en⟩ := z.en
    obtain ⟨us, u, hq, hu⟩ := g
    obtain ⟨its, rv, tp, _⟩ := I.tuple hq
    obtain ⟨x, hx, rx⟩ := rv.get hu
    have lc : c < s.heap.objs.size := Heap.lt_size en
    have li : it < s.heap.objs.size := by
      obtain ⟨_, y, _⟩ := z.ti
      exact Heap.lt_size y
    have ti : s.heap.IsTuple p its.toArray := tp
    have D := Draws.tuple (prog := X.prog) (w := X.w) (A := X.A.in1) (I.ok.hd cl) it p z.n2 its.toArray
    refine wpAny_pyNext_enum_itemD D en ⟨z.ti, ti⟩ (by
      have := (List.getElem?_eq_some_iff.mp hx).1
      simpa using this) z.n1 (by simp [z.n1, Ne.symm z.n3]) fun y h1 tk hy ho st hT _ kk => ?_
    have ey : y = x := by
      rw [List.getElem?_toArray, hx] at hy
      exact (Option.some.inj hy).symm
    subst ey
    refine ⟨_, rfl, wpAny_letOwnedTupleGo_enum (s := { s with heap := h1, toks := tk + 1 }) ho fun h2 en2 sb => ?_⟩
    have hN : h2.get? s.heap.objs.size = some { cls := .type "tuple", data := .seq #[.int n tk, y] } := (sb.2 _ (Nat.ne_of_gt lc)).trans hT
    have new : ObjOk X.prog X.w (upd H s.heap.objs.size (.tup [.int (n : Nat), u])) h2 s.heap.objs.size (.tup [.int (n : Nat), u]) :=
      ⟨by show 2 ≤ sizeLine; decide, [.int n tk, y], .cons ⟨_, rfl⟩ (.cons rx .nil), ⟨_, hN, rfl, _, rfl⟩⟩
    have J : Inv X pins σ (upd H s.heap.objs.size (.tup [.int (n : Nat), u])) { s with heap := h2, toks := tk + 1 } :=
      I.turnedNew (ch := [c, it]) (fun b o hb q => (sb.2 b (fun y => hb (by simp [y]))).trans (kk b o (fun y => hb (by simp [y])) (fun y => hb (by simp [y])) q)) fr (Nat.le_refl _) new
    refine ⟨.ref s.heap.objs.size, _, J, rfl, ⟨_, u, rfl, I.hok.fresh (Nat.le_refl _), rfl, fun vs hv => by rw [I.tuple_inj hv hq]; exact hu⟩, ⟨⟨y, ?_⟩, st.1.at fun o q => (sb.2 it (Ne.symm z.n1)).trans q, z.n1, z.n2, z.n3⟩, fun b hb => ?_⟩
    · rw [show ((n + 1 : Nat) : Int) = (n : Int) + 1 by omega]
      exact en2
    · have lb : b < s.heap.objs.size := by
        rcases List.mem_cons.mp hb with q | q
        · rw [q]; exact lc
        · rw [show b = it by simpa using q]; exact li
      rw [upd_ne (Nat.ne_of_lt lb)]
      exact (fr b hb).1
  done := by
    intro X e1 e2 e3 cl n pins s σ H E I fr z g
    subst e1 e2 e3
    obtain ⟨old, en⟩ := z.en
    obtain ⟨us, hq, hu⟩ := g
    obtain ⟨its, rv, tp, _⟩ := I.tuple hq
    obtain ⟨f0, f1, f2, f3, f4, f5⟩ := fr it (by simp)
    have ti : s.heap.IsTuple p its.toArray := tp
    have up : its.length ≤ n := by rw [← rv.length]; exact hu
    have D := enmT_end (prog := X.prog) (w := X.w) (A := X.A.in1) (I.ok.hd cl) it p its.toArray (n := n) (by simpa using up)
    refine wpAny_pyNext_enum_endD D en ⟨rfl, z.ti, ti⟩ fun h2 eb => ⟨rfl, I.turned (t' := s.toks) (fun b o hb q => eb b o hb q) f0 f1 f3 f4 f5⟩
  self := fun A n s Q E z h => by
    obtain ⟨old, en⟩ := z.en
    exact wpAny_pyIter_enum en h
def iEnmT (K : PySem.W.Frag) (ta : TA) : TI := fun σ H R => ta σ H fun vs H1 => ∃ p us, vs = [.ref p] ∧ SqT K H1 p us ∧ R (IteT K p) H1
theorem pi_enmT {X : Cx} {e : Expr} {ta : TA} {q ps tp : Pos} {es : List Expr} {k : Nat} (gl : Gl X "enumerate") (mg : X.mg "enumerate" = none) (pa : PA X [e] ta) (hs : starEach [e] X.env = [(false, eval e X.env)] := by rfl) :
    PI X (.Tuple es k tp) (.Call (.Name "enumerate" q) [e] [] ps) (iEnmT X.K ta) := ⟨fun pins s σ H R I h => by
  refine PyProof.Rows.Call_ (ld_blt I gl mg PyProof.Rows.boot_enumerate (PyProof.Rows.callWith_type1 (thn (pa.run ps pins s σ H _ I h) fun xs s1 ⟨vs, H1, J, r, z⟩ => ?_) hs rfl))
  obtain ⟨p, us, rfl, hq, z⟩ := z
  obtain _ | ⟨r, rr⟩ := r
  cases rr
  cases r
  obtain ⟨its, rv, tp, _⟩ := J.tuple hq
  have ti : s1.heap.IsTuple p its.toArray := tp
  have lp : p < s1.heap.objs.size := by
    obtain ⟨u, hu, _⟩ := id ti
    exact Heap.lt_size hu
  refine enmT_call ti fun h2 en it k => wpAny_pyIter_enum en ?_
  refine ⟨s1.heap.objs.size + 1, [s1.heap.objs.size + 1, s1.heap.objs.size], _, _, H1, rfl, J.kept (t' := s1.toks) k, turn_enmT p (s1.heap.objs.size + 1) s1.heap.objs.size, ⟨⟨.none, en⟩, it, Nat.succ_ne_self _, Nat.ne_of_lt lp, Nat.ne_of_lt (Nat.lt_succ_of_lt lp)⟩, fun b hb => ?_, z⟩
  have lb : s1.heap.objs.size ≤ b := by
    rcases List.mem_cons.mp hb with q | q
    · rw [q]; exact Nat.le_add_right _ _
    · rw [show b = s1.heap.objs.size by simpa using q]; exact Nat.le_refl _
  exact J.fpOk lb (J.hok.fresh lb)⟩
section
variable {K : PySem.W.Frag} {F H F0 H0 F' H' : Hp}
theorem Wlk.enmT {p : Addr} {us : List V} {ds : List D} (hp : SqT K F p us) (r : Reps K F H ds us []) : Wlk K F (IteT K p) (enumD 0 ds) where
  go := fun n F1 H2 s1 s2 l => by
    have l2 := r.length
    rw [enumD_length] at l
    exact ⟨us, us[n], seqT_mono (s1.trans s2) hp, List.getElem?_eq_getElem (by omega)⟩
  stop := fun n F1 H2 s1 s2 l => ⟨us, seqT_mono (s1.trans s2) hp, by rw [r.length]; rw [enumD_length] at l; exact l⟩
  yld := fun n F1 H2 x H3 s1 s2 y d hd => by
    obtain ⟨N, u, rfl, hn, rfl, y⟩ := y
    obtain ⟨dx, e1, rfl⟩ := enumD_at hd
    obtain ⟨v, hv, r2⟩ := r.nth0 e1
    have e := y us (seqT_mono (s1.trans s2) hp)
    rw [hv] at e
    have e := Option.some.inj e
    subst e
    have ex := Ext.updF (F := F1) (H := H2) s2 hn (o := .tup [.int (n : Nat), v])
    refine ⟨_, ex, N, [.int (n : Nat), v], rfl, .inl (.inl upd_same), .int (n : Nat), [v], [], [], rfl, ⟨by simp, rfl⟩, ?_, by simp, rfl⟩
    exact Reps.one (r2.mono (s1.trans ex.1) fun _ h => absurd h (by simp))
end
end IR
namespace IR
open PySem PySem.Spec L2
section
variable {G : Tab} {A : Nat → Addr} {call : Calls} {X : Cx}
def WN : WX := fun _ _ _ _ => False
theorem RG.noerr {α : Type} {r : R α} {ok : α → Ev → Prop} {er er' : Nat → List D → Ev → Prop} (h : RG r.noerr ok er) : RG r ok er' := by
  cases r with
  | ok a δ => exact h
  | err c g δ => exact False.elim h
  | stuck => exact h
theorem RG.bindI {α β : Type} {r : R α} {f : α → Ev → R β} {ok : β → Ev → Prop} {er : Nat → List D → Ev → Prop} (h : RG r (fun a δ => RG (f a δ) ok er) er) : RG (r.bind f) ok er := by
  cases r <;> exact h
/-- a comprehension's test -/
def tCd (G : Tab) (A : Nat → Addr) (call : Calls) (X : Cx) : E → TT
  | .cons e _ => tT G A call X WN e
  | _ => tYes

/-- a list that is being built at p, within a comprehension -/
structure LcI (K : PySem.W.Frag) (F0 H0 : Hp) (o0 : Addr → Prop) (σ : St) (p : Addr) (F H : Hp) (δ : Ev) (fp : Fp) (acc : List D) : Prop where
  tr : Tr F0 H0 o0 F H (Own fp)
  w : Wd K F H σ δ fp
  tm : ∃ g, Tm K F H (Own fp) (.lst true acc) (.ref p) g ∧ ∀ a ∈ g, o0 a ∨ H0 a = none
  np : H0 p = none
def lcF (G : Tab) (call : Calls) (tg : Tg) (cond elt : E) (x : D) (δ2 : Ev) : R (Option D) := match bindT (wipeE δ2 tg.own) tg x with
  | none => .stuck
  | some δ3 => R.noerr <| (evc G call cond δ3).bind fun c δ4 => if c then (ev G call .esc elt δ4).bind fun y δ5 => match y with
      | .tmp d => .ok (some d.fz) (wipeE δ5 tg.own)
      | .ref _ => .stuck
    else .ok none (wipeE δ4 tg.own)
def accO (acc : List D) : Option D → List D
  | some d => acc ++ [d]
  | none => acc
theorem Tm.lst_at {K : PySem.W.Frag} {F H : Hp} {o : Addr → Prop} {acc : List D} {p : Addr} {g : List Addr} (t : Tm K F H o (.lst true acc) (.ref p) g) : ∃ vs g', H p = some (.lst vs) ∧ Reps K F H acc vs g' ∧ p ∉ g' ∧ g = p :: g' := by
  obtain ⟨a, xs, g', e, ha, r, na, ef⟩ := t.rep
  cases e
  exact ⟨xs, g', ha, r, na, ef⟩
/-- one more at the end -/
theorem Tm.push {K : PySem.W.Frag} {F H : Hp} {o : Addr → Prop} {acc : List D} {p : Addr} {g fv : List Addr} {d : D} {v : V} (t : Tm K F H o (.lst true acc) (.ref p) g) (s : Tm K F H o d v fv) (dj : ∀ a ∈ g, a ∉ fv) :
    ∃ vs, H p = some (.lst vs) ∧ vs.length = acc.length ∧ Tm K F (upd H p (.lst (vs ++ [v]))) o (.lst true (acc ++ [d])) (.ref p) (g ++ fv) := by
  obtain ⟨vs, g', hp, r, np, rfl⟩ := t.lst_at
  refine ⟨vs, hp, r.length, ?_⟩
  have q : ∀ a ∈ g' ++ fv, upd H p (.lst (vs ++ [v])) a = H a := fun a ha => by
    refine upd_ne fun z => ?_
    rcases List.mem_append.mp ha with y | y
    · exact np (by rw [← z]; exact y)
    · exact dj p (by simp) (by rw [← z]; exact y)
  refine ⟨⟨p, vs ++ [v], g' ++ fv, rfl, upd_same, (r.append (Reps.one s.rep) fun a ha => dj a (by simp [ha])).mono (.refl _) q, fun z => ?_, rfl⟩, fun a ha => ?_, fun a ha => ?_⟩
  · rcases List.mem_append.mp z with y | y
    · exact np y
    · exact dj p (by simp) y
  · rcases List.mem_append.mp ha with y | y
    · exact t.fr a y
    · exact s.fr a y
  · rcases List.mem_append.mp ha with y | y
    · exact t.off a y
    · exact s.off a y
theorem evc_nil {δ : Ev} : evc G call .nil δ = .ok true δ := by simp only [evc]
theorem lc_turn {K : PySem.W.Frag} (hK : X.K = K) {F0 H0 : Hp} {o0 : Addr → Prop} {σ : St} {p : Addr} {F H Fx Hx : Hp} {δ : Ev} {fp : Fp} {acc : List D} {tg : Tg} {cond elt : E} {d : D} {x : V} {ok : Option D → Ev → Prop} {er : Nat → List D → Ev → Prop} {N : Hp → Prop}
    (I : LcI K F0 H0 o0 (wipe σ tg.own) p F H δ fp acc) (ex : Ext F H Fx Hx) (rd : Rep K Fx Hx d x []) (hc : cond = .nil ∨ ∃ e, cond = .cons e .nil) (h : RG (lcF G call tg cond elt d δ) ok er)
    (k : ∀ o δ' F' H' fp', Same F F' → ok o δ' → LcI K F0 H0 o0 (wipe σ tg.own) p F' H' δ' fp' (accO acc o) → N H') (kl : ∀ o δ', ok o δ' → acc.length < sizeLine) :
    tTg K tg x (wipe σ tg.own) Hx fun σ2 H2 => wipe σ2 tg.own = wipe σ tg.own ∧ tCd G A call X cond σ2 H2 fun b H3 => if b = true then
      tS G A call X WN .esc elt σ2 H3 fun y H4 => ∃ vs, H4 p = some (.lst vs) ∧ vs.length < sizeLine ∧ N (upd H4 p (.lst (vs ++ [y]))) else N H3 := by
  subst hK
  unfold lcF at h
  split at h
  · exact False.elim h
  · rename_i δ3 hb
    have h := RG.noerr (er' := fun _ _ _ => False) h
    have w0 : Wd X.K Fx Hx (wipe σ tg.own) (wipeE δ tg.own) (fpOff fp tg.own) := ((I.w.ext ex).wipe tg.own)
    refine tTg_ok w0 rd hb fun σ2 fp2 l2 k2 w2 o2 => ?_
    have own2 : ∀ a, Own fp2 a → Own fp a := fun a ha => by obtain ⟨j, _, z⟩ := own_off (o2 a ha); exact ⟨j, z⟩
    have ew : wipe σ2 tg.own = wipe σ tg.own := by
      rw [wipe_eq (σ := wipe σ tg.own) l2 k2]
      exact wipe_eq (wipe_len _ _) fun j hj => wipe_out hj
    refine ⟨ew, ?_⟩
    have t2 : Tr F H (Own fp) Fx Hx (Own fp2) := ex.tr.to own2
    -- behind the test
    have fin : ∀ {b : Bool} {δ4 : Ev} {F3 H3 : Hp} {fp3 : Fp}, Tr F H (Own fp) F3 H3 (Own fp3) → Wd X.K F3 H3 σ2 δ4 fp3 → RG (if b = true then (ev G call .esc elt δ4).bind fun y δ5 => match y with
        | .tmp d => R.ok (some d.fz) (wipeE δ5 tg.own)
        | .ref _ => .stuck
      else .ok none (wipeE δ4 tg.own)) ok (fun _ _ _ => False) → (if b = true then
      tS G A call X WN .esc elt σ2 H3 fun y H4 => ∃ vs, H4 p = some (.lst vs) ∧ vs.length < sizeLine ∧ N (upd H4 p (.lst (vs ++ [y]))) else N H3) := fun {b δ4 F3 H3 fp3} t3 w3 h3 => by
      have down : ∀ {F H : Hp} {δ : Ev} {fp : Fp}, Wd X.K F H σ2 δ fp → Wd X.K F H (wipe σ tg.own) (wipeE δ tg.own) (fpOff fp tg.own) := fun {F H δ fp} w => by
        rw [← ew]; exact w.wipe2 tg.own
      cases b with
      | false =>
        rw [if_neg Bool.false_ne_true] at h3 ⊢
        obtain ⟨g, tm, nw⟩ := I.tm
        have tl := t3.to (o2 := Own (fpOff fp3 tg.own)) fun a ha => by obtain ⟨j, _, z⟩ := own_off ha; exact ⟨j, z⟩
        exact k none _ F3 H3 _ t3.same h3 ⟨I.tr.trans tl, down w3, ⟨g, tm.step tl, nw⟩, I.np⟩
      | true =>
        rw [if_pos rfl] at h3 ⊢
        refine ⟨F3, δ4, fp3, w3, h3.bind.mono (fun y δ5 h5 F4 H4 fp4 v fv t4 w4 od fr4 => ?_) fun _ _ _ z => z.elim⟩
        cases y with
        | ref i => exact False.elim h5
        | tmp d =>
          have h5 : ok (some d.fz) (wipeE δ5 tg.own) := h5
          obtain ⟨g, tm, nw⟩ := I.tm
          have s4 : Tm X.K F4 H4 (Own fp4) d v fv := od
          obtain ⟨F4', w4', tt, s4', k4'⟩ := w4.frz (t3.trans t4) s4.off fun a ha => fresh_trans t3 (fr4 a ha)
          obtain ⟨vs, hp, hl, tp⟩ := (tm.step tt).push (d := d.fz) (v := v) (fv := []) ⟨s4.rep.fz s4' k4', by simp, by simp⟩ (by simp)
          rw [List.append_nil] at tp
          refine ⟨vs, hp, by rw [hl]; exact kl _ _ h5, k (some d.fz) _ F4' _ (fpOff fp4 tg.own) tt.same h5 ⟨?_, ?_, ⟨g, ?_, fun a ha => ?_⟩, I.np⟩⟩
          · -- the list's place was free at the start
            have tb := I.tr.trans tt
            have tl := tb.to (o2 := Own (fpOff fp4 tg.own)) fun a ha => by obtain ⟨j, _, z⟩ := own_off ha; exact ⟨j, z⟩
            exact ⟨tl.same, fun b u e n => by
              have q : b ≠ p := fun z => by rw [z, I.np] at e; cases e
              rw [upd_ne q]; exact tl.frame b u e n, tl.fresh, tl.grow⟩
          · have tp1 := tm.step tt
            obtain ⟨_, _, _, _, _, eg⟩ := tp1.lst_at
            have pg : p ∈ g := by rw [eg]; simp
            exact down w4' |>.off (tp1.fr p pg) fun z => by
              obtain ⟨j, _, z⟩ := own_off z
              exact tp1.off p pg ⟨j, z⟩
          · exact ⟨tp.rep, tp.fr, fun a ha z => by
              obtain ⟨j, _, z⟩ := own_off z
              exact tp.off a ha ⟨j, z⟩⟩
          · exact nw a ha
    rcases hc with e | ⟨c, e⟩
    · subst e
      rw [evc_nil] at h
      exact fin (b := true) t2 w2 h
    · subst e
      refine ⟨Fx, δ3, fp2, w2, ?_⟩
      rw [RG.evB_iff]
      simp only [evc] at h
      refine h.bind.bind.mono (fun y δ4 h4 => ?_) fun _ _ _ z => z.elim
      split at h4
      · rename_i b gy
        exact ⟨b, gy, fun F3 H3 fp3 t3 w3 => fin (t2.trans t3) w3 h4⟩
      · exact False.elim h4
end
end IR
namespace IR
open PySem PySem.Spec L2
section
variable {K : PySem.W.Frag} {F H F' H' : Hp} {σ : St} {δ δ6 : Ev} {fp fp' : Fp} {vs : List Nat} {p : Addr} {ds : List D}
theorem backE_length (δ0 δ : Ev) : ∀ vs, (backE δ0 δ vs).length = δ.length
  | [] => rfl
  | v :: vs => by unfold backE; rw [List.length_set, backE_length δ0 δ vs]
theorem backE_out {δ0 δ : Ev} {j : Nat} : ∀ {vs : List Nat}, j ∉ vs → (backE δ0 δ vs)[j]? = δ[j]?
  | [], _ => rfl
  | v :: vs, h => by
    unfold backE
    rw [List.getElem?_set_ne (fun e => h (by simp [e])), backE_out fun z => h (by simp [z])]
theorem backE_in {δ0 δ : Ev} {j : Nat} : ∀ {vs : List Nat}, j ∈ vs → j < δ.length → (backE δ0 δ vs)[j]? = some (δ0[j]?).join
  | [], h, _ => by simp at h
  | v :: vs, h, l => by
    unfold backE
    by_cases e : v = j
    · subst e; exact List.getElem?_set_self (by rw [backE_length]; exact l)
    · rw [List.getElem?_set_ne e]
      rcases List.mem_cons.mp h with q | q
      · exact absurd q.symm e
      · exact backE_in q l
theorem lc_back {Q : VK} (w : Wd K F H σ δ fp) (I : LcI K F H (Own (fpOff fp vs)) (wipe σ vs) p F' H' δ6 fp' ds) (h : PO K σ F H fp Q (.tmp (.lst true ds)) (backE δ δ6 vs)) : Q (.ref p) H' := by
  obtain ⟨g, tm, nw⟩ := I.tm
  have o0 : ∀ {a}, Own (fpOff fp vs) a → Own fp a := fun ha => by obtain ⟨j, _, z⟩ := own_off ha; exact ⟨j, z⟩
  have len : δ6.length = σ.length := by rw [I.w.len, wipe_len]
  have save : ∀ j ∈ vs, ∀ d v, Rep K F H d v (fp j) → Tm K F' H' (Own fp') d v (fp j) := fun j hj d v r =>
    Tm.step ⟨r, w.fr j, fun a ha z => by
      obtain ⟨l, n, z⟩ := own_off z
      exact w.dj j l (fun e => n (by rw [← e]; exact hj)) a ha z⟩ I.tr
  have off : ∀ j ∈ vs, ∀ a ∈ fp j, ¬ Own fp' a ∧ F' a = none := fun j hj a ha => by
    by_cases q : ∃ d, δ[j]? = some (some d)
    · obtain ⟨d, q⟩ := q
      obtain ⟨v, hv, r⟩ := w.rep j d q
      have t := save j hj d v r
      exact ⟨t.off a ha, t.fr a ha⟩
    · rw [w.out j fun d z => q ⟨d, z⟩] at ha; simp at ha
  refine h F' H' (fun j => if j ∈ vs then fp j else fp' j) (.ref p) g ⟨I.tr.same, fun b u e n => I.tr.frame b u e fun z => n (o0 z), fun a ⟨j, ha⟩ => ?_, fun a u e1 e2 m n => I.tr.grow a u e1 e2 m fun z => n (o0 z)⟩ ⟨I.w.same, fun j d e => ?_, fun j e => ?_, fun j l n a ha => ?_, fun j a ha => ?_, by rw [backE_length]; exact len⟩
    ⟨tm.rep, tm.fr, fun a ha z => ?_⟩ fun a ha => (nw a ha).imp o0 id
  · have ha : a ∈ (if j ∈ vs then fp j else fp' j) := ha
    split at ha
    · exact .inl ⟨j, ha⟩
    · exact (I.tr.fresh a ⟨j, ha⟩).imp o0 id
  · by_cases hj : j ∈ vs
    · have l : j < δ6.length := by
        have := (List.getElem?_eq_some_iff.mp e).1
        rw [backE_length] at this; exact this
      rw [backE_in hj l] at e
      have e2 : (δ[j]?).join = some d := by simpa using e
      obtain ⟨v, hv, r⟩ := w.slot e2
      simp only [if_pos hj]
      exact ⟨v, hv, (save j hj d v r).rep⟩
    · rw [backE_out hj] at e
      simp only [if_neg hj]
      obtain ⟨v, hv, r⟩ := I.w.rep j d e
      exact ⟨v, by rw [wipe_out hj] at hv; exact hv, r⟩
  · by_cases hj : j ∈ vs
    · simp only [if_pos hj]
      refine w.out j fun d z => ?_
      have l : j < δ6.length := by
        rw [len, ← w.len]; exact (List.getElem?_eq_some_iff.mp z).1
      refine e d ?_
      rw [backE_in hj l, z]; rfl
    · simp only [if_neg hj]
      exact I.w.out j fun d z => e d (by rw [backE_out hj]; exact z)
  · have ha : a ∈ (if j ∈ vs then fp j else fp' j) := ha
    show a ∉ (if l ∈ vs then fp l else fp' l)
    by_cases hj : j ∈ vs
    · rw [if_pos hj] at ha
      by_cases hl : l ∈ vs
      · rw [if_pos hl]; exact w.dj j l n a ha
      · rw [if_neg hl]; exact fun z => (off j hj a ha).1 ⟨l, z⟩
    · rw [if_neg hj] at ha
      by_cases hl : l ∈ vs
      · rw [if_pos hl]; exact fun z => (off l hl a z).1 ⟨j, ha⟩
      · rw [if_neg hl]; exact I.w.dj j l n a ha
  · have ha : a ∈ (if j ∈ vs then fp j else fp' j) := ha
    by_cases hj : j ∈ vs
    · rw [if_pos hj] at ha; exact (off j hj a ha).2
    · rw [if_neg hj] at ha; exact I.w.fr j a ha
  · obtain ⟨j, z⟩ := z
    have z : a ∈ (if j ∈ vs then fp j else fp' j) := z
    by_cases hj : j ∈ vs
    · rw [if_pos hj] at z
      rcases nw a ha with q | q
      · obtain ⟨l, n, q⟩ := own_off q
        exact w.dj j l (fun e => n (by rw [← e]; exact hj)) a z q
      · obtain ⟨u, hu, _⟩ := w.own_at ⟨j, z⟩
        rw [q] at hu; cases hu
    · rw [if_neg hj] at z; exact tm.off a ha ⟨j, z⟩
theorem LcI.start (w : Wd K F H σ δ fp) (hp : H p = none) : LcI K F H (Own (fpOff fp vs)) (wipe σ vs) p F (upd H p (.lst [])) (wipeE δ vs) (fpOff fp vs) [] := by
  have ex : Ext F H F (upd H p (.lst [])) := Ext.upd w.same hp
  refine ⟨ex.tr, (w.wipe2 vs).ext ex, ⟨[p], ⟨⟨p, [], [], rfl, upd_same, ⟨rfl, rfl⟩, by simp, rfl⟩, fun a ha => ?_, fun a ha z => ?_⟩, fun a ha => ?_⟩, hp⟩
  · have e : a = p := by simpa using ha
    rw [e]; exact w.same.free hp
  · have e : a = p := by simpa using ha
    rw [e] at z
    obtain ⟨j, _, z⟩ := own_off z
    obtain ⟨u, hu, _⟩ := w.own_at ⟨j, z⟩
    rw [hp] at hu; cases hu
  · have e : a = p := by simpa using ha
    rw [e]; exact .inr hp
end
section
variable {G : Tab} {A : Nat → Addr} {call : Calls} {X : Cx} {W : WX}
/-- what tLc asks behind the walked thing -/
def LcG (J : It) (g : TG) (tt : TT) (te : TE) (vs : List Nat) (σ : St) (H1 : Hp) (Q : VK) : Prop := ∀ p : Addr, H1 p = none → ∃ W : Nat → Nat → Hp → Prop, (∃ m, W 0 m (upd H1 p (.lst []))) ∧ ∀ (i m : Nat) (H : Hp), W i m H → (J.stop i H ∧ Q (.ref p) H) ∨ (J.go i H ∧ ∃ Nx : Hp → Prop,
  (∀ H', Nx H' → ∃ m', m' < m ∧ W (i + 1) m' H') ∧ ∀ (x : V) (H' : Hp), J.yld i H x H' → g x (wipe σ vs) H' fun σ2 H2 => wipe σ2 vs = wipe σ vs ∧ tt σ2 H2 fun b H3 => if b = true then
    te σ2 H3 fun y H4 => ∃ acc, H4 p = some (.lst acc) ∧ acc.length < sizeLine ∧ Nx (upd H4 p (.lst (acc ++ [y]))) else Nx H3)
theorem big_lt2 {n : Nat} (h : n < big) : n < sizeLine := by
  have e := sizeLine_eq
  have b : big = 1000000 := rfl
  omega
theorem lc_fix {K : PySem.W.Frag} (hK : X.K = K) {σ : St} {F H : Hp} {δ : Ev} {fp : Fp} {tg : Tg} {cond elt : E} {xs : List D} {J : It} {Q : VK} {er : Nat → List D → Ev → Prop} (w : Wd K F H σ δ fp) (wk : Wlk K F J xs) (hc : cond = .nil ∨ ∃ e, cond = .cons e .nil)
    (h : RG (loopC (lcF G call tg cond elt) xs [] (wipeE δ tg.own)) (fun ds δ6 => PO K σ F H fp Q (.tmp (.lst true ds)) (backE δ δ6 tg.own)) er) : LcG J (tTg K tg) (tCd G A call X cond) (tS G A call X WN .esc elt) tg.own σ H Q := by
  intro p hp
  refine ⟨fun i m H' => m = xs.length - i ∧ i ≤ xs.length ∧ ∃ F' δ' fp' acc, LcI K F H (Own (fpOff fp tg.own)) (wipe σ tg.own) p F' H' δ' fp' acc ∧
      RG (loopC (lcF G call tg cond elt) (xs.drop i) acc δ') (fun ds δ6 => PO K σ F H fp Q (.tmp (.lst true ds)) (backE δ δ6 tg.own)) er, ⟨xs.length, rfl, Nat.zero_le _, F, _, _, [], LcI.start w hp, h⟩, ?_⟩
  rintro i m H' ⟨rfl, il, F', δ', fp', acc, I, h⟩
  by_cases l : i < xs.length
  · rw [List.drop_eq_getElem_cons l] at h
    unfold loopC at h
    have sF : Same F F' := I.tr.same
    refine .inr ⟨wk.go i F' H' sF I.w.same l, fun H'' => ∃ F' δ' fp' acc, LcI K F H (Own (fpOff fp tg.own)) (wipe σ tg.own) p F' H'' δ' fp' acc ∧
      RG (loopC (lcF G call tg cond elt) (xs.drop (i + 1)) acc δ') (fun ds δ6 => PO K σ F H fp Q (.tmp (.lst true ds)) (backE δ δ6 tg.own)) er, fun H'' z => ⟨_, by omega, rfl, by omega, z⟩, fun x Hx y => ?_⟩
    obtain ⟨F2, ex, rd⟩ := wk.yld i F' H' x Hx sF I.w.same y _ (List.getElem?_eq_getElem l)
    refine lc_turn hK I ex rd hc h.bind (fun o δ'' F'' H'' fp'' _ q I2 => ?_) fun o δ'' q => ?_
    · split at q
      · refine ⟨F'', δ'', fp'', accO acc o, I2, ?_⟩
        cases o <;> exact q
      · exact False.elim q
    · split at q
      · rename_i b; exact big_lt2 b
      · exact False.elim q
  · have e : xs.drop i = [] := List.drop_eq_nil_iff.mpr (by omega)
    rw [e] at h
    exact .inl ⟨wk.stop i F' H' I.tr.same I.w.same (by omega), lc_back w I h⟩
theorem lc_live {K : PySem.W.Frag} (hK : X.K = K) {σ : St} {F H : Hp} {δ : Ev} {fp : Fp} {tg : Tg} {cond elt : E} {j : Nat} {a : Addr} {n : Nat} {Q : VK} {er : Nat → List D → Ev → Prop} (w : Wd K F H σ δ fp) (hs : σ[j]? = some (some (.ref a))) (hj : j ∉ tg.own) (hc : cond = .nil ∨ ∃ e, cond = .cons e .nil)
    (h : RG (loopCL (lcF G call tg cond elt) j n 0 [] (wipeE δ tg.own)) (fun ds δ6 => PO K σ F H fp Q (.tmp (.lst true ds)) (backE δ δ6 tg.own)) er) : LcG (Itl K a) (tTg K tg) (tCd G A call X cond) (tS G A call X WN .esc elt) tg.own σ H Q := by
  intro p hp
  refine ⟨fun i m H' => ∃ F' δ' fp' acc, LcI K F H (Own (fpOff fp tg.own)) (wipe σ tg.own) p F' H' δ' fp' acc ∧
      RG (loopCL (lcF G call tg cond elt) j m i acc δ') (fun ds δ6 => PO K σ F H fp Q (.tmp (.lst true ds)) (backE δ δ6 tg.own)) er, ⟨n, F, _, _, [], LcI.start w hp, h⟩, ?_⟩
  rintro i m H' ⟨F', δ', fp', acc, I, h⟩
  cases m with
  | zero => unfold loopCL at h; exact False.elim h
  | succ m =>
    unfold loopCL at h
    split at h
    · exact False.elim h
    · rename_i q
      unfold liveAt at q
      split at q
      · rename_i o ys hd
        split at q
        · rename_i y hy
          split at q <;> cases q
        · rename_i hy
          obtain ⟨v, hv, r⟩ := I.w.slot hd
          obtain ⟨a', us, g, e, ha, r3⟩ := Vw.lst I.w.same ⟨_, r⟩
          rw [wipe_out hj, hs] at hv
          cases hv; cases e
          refine .inl ⟨⟨us, .of ha, ?_⟩, lc_back w I h⟩
          rw [r3.length]; exact List.getElem?_eq_none_iff.mp hy
      · cases q
    · rename_i d q
      unfold liveAt at q
      split at q
      · rename_i o ys hd
        split at q
        · rename_i y hy
          split at q
          · rename_i pu
            cases q
            obtain ⟨v, hv, r⟩ := I.w.slot hd
            obtain ⟨a', us, g, e, ha, r3⟩ := Vw.lst I.w.same ⟨_, r⟩
            rw [wipe_out hj, hs] at hv
            cases hv; cases e
            obtain ⟨z, hz, rz⟩ := r3.nth hy pu
            refine .inr ⟨⟨us, z, .of ha, hz⟩, fun H'' => ∃ F' δ' fp' acc, LcI K F H (Own (fpOff fp tg.own)) (wipe σ tg.own) p F' H'' δ' fp' acc ∧
              RG (loopCL (lcF G call tg cond elt) j m (i + 1) acc δ') (fun ds δ6 => PO K σ F H fp Q (.tmp (.lst true ds)) (backE δ δ6 tg.own)) er, fun H'' z => ⟨m, by omega, z⟩, fun x Hx y => ?_⟩
            obtain ⟨rfl, y⟩ := y
            have ex := y us (.of ha)
            rw [hz] at ex
            cases ex
            refine lc_turn hK I (.refl I.w.same) rz hc h.bind (fun o δ'' F'' H'' fp'' _ q I2 => ?_) fun o δ'' q => ?_
            · split at q
              · refine ⟨F'', δ'', fp'', accO acc o, I2, ?_⟩
                cases o <;> exact q
              · exact False.elim q
            · split at q
              · rename_i b; exact big_lt2 b
              · exact False.elim q
          · cases q
        · cases q
      · cases q
end
end IR
namespace IR
open PySem PySem.Spec L2
section
variable {G : Tab} {A : Nat → Addr} {call : Calls} {X : Cx} {W : WX}
def srcLoop (G : Tab) (call : Calls) (tg : Tg) (cond elt : E) (δ1 : Ev) : Src → R (List D)
  | .fix xs => loopC (lcF G call tg cond elt) xs [] (wipeE δ1 tg.own)
  | .live i => if tg.own.contains i then .stuck else loopCL (lcF G call tg cond elt) i fuel 0 [] (wipeE δ1 tg.own)
theorem ev_lc {m : Md} {tg : Tg} {k : ItK} {it cond elt : E} {δ : Ev} : ev G call m (.lc tg k it cond elt) δ = (evs G call (kMd k) it δ).bind fun os δ1 => match src δ1 k os with
    | none => .stuck
    | some s => (srcLoop G call tg cond elt δ1 s).bind fun ds δ6 => .ok (.tmp (.lst true ds)) (backE δ1 δ6 tg.own) := by
  rw [ev]
  refine congrArg (R.bind (evs G call (kMd k) it δ)) ?_
  funext os δ1
  cases src δ1 k os with
  | none => rfl
  | some s => cases s <;> rfl
/-- what the walked thing is, once it is evaluated: s the data, J the thing -/
theorem srcLoop_ok {σ : St} {F H : Hp} {δ : Ev} {fp : Fp} {tg : Tg} {cond elt : E} {Q : VK} {er : Nat → List D → Ev → Prop} {J : It} {s : Src} (w : Wd X.K F H σ δ fp) (hc : cond = .nil ∨ ∃ e, cond = .cons e .nil)
    (hs : match s with | .fix xs => Wlk X.K F J xs | .live i => ∃ a, σ[i]? = some (some (.ref a)) ∧ J = Itl X.K a)
    (h : RG ((srcLoop G call tg cond elt δ s).bind fun ds δ6 => R.ok (.tmp (.lst true ds)) (backE δ δ6 tg.own)) (PO X.K σ F H fp Q) er) : LcG J (tTg X.K tg) (tCd G A call X cond) (tS G A call X WN .esc elt) tg.own σ H Q := by
  cases s with
  | fix xs => exact lc_fix rfl w hs hc h.bind
  | live i =>
    obtain ⟨a, h1, rfl⟩ := hs
    have h := h.bind
    simp only [srcLoop] at h
    split at h
    · exact False.elim h
    · rename_i n
      exact lc_live rfl w h1 (by simpa using n) hc h
theorem ofInts {K : PySem.W.Frag} {F H : Hp} {vs : List V} {b : Int} (h : Vws K F H [.int b] vs) : vs = [.int b] := by
  obtain ⟨v, rfl, hv⟩ := h.one
  rw [hv.int]
theorem ofInts2 {K : PySem.W.Frag} {F H : Hp} {vs : List V} {a b : Int} (h : Vws K F H [.int a, .int b] vs) : vs = [.int a, .int b] := by
  obtain ⟨v, u, rfl, hv, hu⟩ := h.two
  rw [hv.int, hu.int]
theorem ofInts3 {K : PySem.W.Frag} {F H : Hp} {vs : List V} {a b c : Int} (h : Vws K F H [.int a, .int b, .int c] vs) : vs = [.int a, .int b, .int c] := by
  cases h with
  | cons h1 h2 =>
    obtain ⟨v, u, rfl, hv, hu⟩ := h2.two
    rw [hv.int, hu.int, h1.int]
theorem rngD_eq (a b : Int) : rngD a b = (List.range (b - a).toNat).map fun (k : Nat) => D.int (a + k) := rfl
/-- the cases of a range -/
inductive RgI : List D → List D → Prop
  | one {b : Int} : -100000 ≤ b → b ≤ 100000 → RgI [.int b] (rngD 0 b)
  | two {a b : Int} : -100000 ≤ a → a ≤ 100000 → -100000 ≤ b → b ≤ 100000 → RgI [.int a, .int b] (rngD a b)
  | three {a b : Int} : -100000 ≤ a → a ≤ 100000 → -100000 ≤ b → b ≤ 100000 → RgI [.int a, .int b, .int (-1)] ((List.range (a - b).toNat).map fun (k : Nat) => D.int (a - k))
  | step {a b c : Int} : -100000 ≤ a → a ≤ 100000 → -100000 ≤ b → b ≤ 100000 → 1 ≤ c → c ≤ 1000 → RgI [.int a, .int b, .int c] ((List.range (stepN a b c)).map fun (k : Nat) => D.int (a + k * c))
theorem src_rng {δ : Ev} {os : List Opd} {s : Src} (h : src δ .rng os = some s) : ∃ ds xs, gets δ os = some ds ∧ s = .fix xs ∧ RgI ds xs := by
  unfold src at h
  split at h <;> (try simp only [reduceCtorEq] at h)
  all_goals (try contradiction)
  all_goals rename_i e1
  · split at h
    · rename_i b g
      split at h
      · rename_i l
        cases h
        simp only [Bool.and_eq_true, decide_eq_true_eq] at l
        exact ⟨_, _, g, rfl, .one l.2 l.1⟩
      · cases h
    · rename_i a b g
      split at h
      · rename_i l
        cases h
        simp only [Bool.and_eq_true, decide_eq_true_eq] at l
        exact ⟨_, _, g, rfl, .two l.2 l.1.2 l.1.1.2 l.1.1.1⟩
      · cases h
    · rename_i a b c g
      split at h
      · rename_i l
        simp only [Bool.and_eq_true, decide_eq_true_eq] at l
        split at h
        · rename_i e
          subst e
          cases h
          exact ⟨_, _, g, rfl, .three l.2 l.1.2 l.1.1.2 l.1.1.1⟩
        · split at h
          · rename_i lc
            cases h
            simp only [Bool.and_eq_true, decide_eq_true_eq] at lc
            exact ⟨_, _, g, rfl, .step l.2 l.1.2 l.1.1.2 l.1.1.1 lc.1 lc.2⟩
          · cases h
      · cases h
    · cases h
/-- a walked thing and its data -/
def SrcIs (K : PySem.W.Frag) (F : Hp) (σ : St) (s : Src) (J : It) : Prop := match s with
  | .fix xs => Wlk K F J xs
  | .live i => ∃ a, σ[i]? = some (some (.ref a)) ∧ J = Itl K a
/-- the reading of a walked thing -/
def tIt (G : Tab) (A : Nat → Addr) (call : Calls) (X : Cx) (W : WX) : ItK → E → TI
  | .e, it => match it with
    | .cons a _ => fun σ H R => iList X.K (tS G A call X W .opd a) σ H R ∨ iTup X.K (tS G A call X W .opd a) σ H R
    | _ => fun _ _ _ => False
  | .rng, it => if it.len = 1 then iRng1 (tA G A call X W .opd it) else if it.len = 2 then iRng2 (tA G A call X W .opd it) else iRng3 (tA G A call X W .opd it)
  | .enm, it => match it with
    | .cons _ .nil => fun σ H R => iEnum X.K (tA G A call X W .esc it) σ H R ∨ iEnmT X.K (tA G A call X W .esc it) σ H R
    | _ => fun _ _ _ => False
  | .zp, it => match it with
    | .cons _ (.cons _ .nil) => iZip X.K (tA G A call X W .esc it)
    | _ => fun _ _ _ => False
def itOk : ItK → E → Bool
  | .e, it => match it with
    | .cons _ .nil => true
    | _ => false
  | .rng, it => it.len == 1 || it.len == 2 || it.len == 3
  | .enm, it => match it with
    | .cons _ .nil => true
    | _ => false
  | .zp, it => match it with
    | .cons _ (.cons _ .nil) => true
    | _ => false
theorem gets_len : ∀ {os : List Opd} {δ : Ev} {ds : List D}, gets δ os = some ds → ds.length = os.length
  | [], δ, ds, h => by simp only [gets, Option.some.injEq] at h; subst h; rfl
  | o :: os, δ, ds, h => by
    simp only [gets] at h
    split at h
    · rename_i d ds' _ h2
      cases h
      rw [List.length_cons, List.length_cons, gets_len h2]
    · cases h
theorem rgSz (a b : Int) : Builtin.Range.rangeSize a b (-1) = ((a - b).toNat : Int) := by
  unfold Builtin.Range.rangeSize
  rw [if_neg (by omega)]
  split
  · rw [show -(-1 : Int) = 1 from rfl, Int.ediv_one]; omega
  · omega
theorem rgC {a b : Int} (h1 : -100000 ≤ a) (h2 : a ≤ 100000) (h3 : -100000 ≤ b) (h4 : b ≤ 100000) : RgC a b (-1) (a - b).toNat := by
  refine ⟨by decide, by decide, ?_, rgSz a b⟩
  unfold Builtin.Range.small
  rw [rgSz, if_neg (by omega)]
  have f : ∀ {x : Int}, -1000000 ≤ x → x ≤ 1000000 → Builtin.Range.rangeFitsLong x = true := fun {x} p q => by
    unfold Builtin.Range.rangeFitsLong
    simp only [Bool.and_eq_true, decide_eq_true_eq]
    omega
  rw [f (by omega) (by omega), f (x := b) (by omega) (by omega), f (x := -1) (by omega) (by omega), f (x := ((a - b).toNat : Int)) (by omega) (by omega), f (x := b + (-1 + 1)) (by omega) (by omega)]
  simp
theorem rgS {a b c : Int} (h1 : -100000 ≤ a) (h2 : a ≤ 100000) (h3 : -100000 ≤ b) (h4 : b ≤ 100000) (h5 : 1 ≤ c) (h6 : c ≤ 1000) : RgC a b c (stepN a b c) := by
  have sz : Builtin.Range.rangeSize a b c = ((stepN a b c : Nat) : Int) := by
    unfold Builtin.Range.rangeSize stepN
    rw [if_pos (by omega)]
    split
    · have q : 0 ≤ (b - a - 1) / c := Int.ediv_nonneg (by omega) (by omega)
      omega
    · rfl
  have up : stepN a b c ≤ 200001 := by
    unfold stepN
    split
    · have q : 0 ≤ (b - a - 1) / c := Int.ediv_nonneg (by omega) (by omega)
      have q2 : (b - a - 1) / c ≤ b - a - 1 := Int.ediv_le_self _ (by omega)
      omega
    · omega
  refine ⟨by omega, by omega, ?_, sz⟩
  unfold Builtin.Range.small
  rw [sz, if_pos (by omega)]
  have f : ∀ {x : Int}, -1000000 ≤ x → x ≤ 1000000 → Builtin.Range.rangeFitsLong x = true := fun {x} p q => by
    unfold Builtin.Range.rangeFitsLong
    simp only [Bool.and_eq_true, decide_eq_true_eq]
    omega
  rw [f (x := a) (by omega) (by omega), f (x := b) (by omega) (by omega), f (x := c) (by omega) (by omega), f (x := ((stepN a b c : Nat) : Int)) (by omega) (by omega), f (x := b + (c - 1)) (by omega) (by omega)]
  simp
theorem it_ok {k : ItK} {it : E} {σ : St} {F H : Hp} {δ : Ev} {fp : Fp} {C : Src → Ev → Prop} {R : It → Hp → Prop} (ok : itOk k it = true) (w : Wd X.K F H σ δ fp)
    (h : RG (evs G call (kMd k) it δ) (fun os δ1 => ∃ s, src δ1 k os = some s ∧ C s δ1) (PX G A X.K σ F H fp W))
    (c : ∀ s J F1 H1 fp1 δ1, Tr F H (Own fp) F1 H1 (Own fp1) → Wd X.K F1 H1 σ δ1 fp1 → SrcIs X.K F1 σ s J → C s δ1 → R J H1) : tIt G A call X W k it σ H R := by
  cases k with
  | enm =>
    simp only [itOk] at ok
    split at ok
    rotate_left
    · cases ok
    rename_i a
    show iEnum X.K (tA G A call X W .esc (.cons a .nil)) σ H R ∨ iEnmT X.K (tA G A call X W .esc (.cons a .nil)) σ H R
    have h : RG (evs G call .esc (.cons a .nil) δ) (fun os δ1 => ∃ s, src δ1 .enm os = some s ∧ C s δ1) (PX G A X.K σ F H fp W) := h
    cases q : evs G call .esc (.cons a .nil) δ with
    | stuck => rw [q] at h; exact False.elim h
    | err e g δ1 => exact .inl ⟨F, δ, fp, w, by rw [q] at h ⊢; exact h⟩
    | ok os δ1 =>
      rw [q] at h
      obtain ⟨s, hs, hC⟩ := h
      unfold src at hs
      split at hs <;> (try simp only [reduceCtorEq, Option.some.injEq] at hs) <;> (try contradiction)
      · rename_i o xs _
        subst hs
        refine .inl ⟨F, δ, fp, w, ?_⟩
        rw [q]
        intro F1 H1 fp1 vs fv t1 w1 o1 fr1
        have r1 := o1.reps (ds := [.lst o xs]) rfl
        obtain ⟨F2, w2, t2, s2, k2⟩ := w1.frz t1 (fun a ha => (o1.fr a ha).2) fun a ha => fr1 a ha
        have r2 := Reps.fz (H' := H1) s2 k2 r1
        obtain ⟨v, rest, f1, f2, rfl, r3, r4, _, ef⟩ := r2
        obtain ⟨rfl, _⟩ := r4
        obtain ⟨b, us, rfl, hb, r5, _⟩ := r3
        exact ⟨b, us, rfl, .of (w2.same _ _ hb), c (.fix _) (Ite X.K b) F2 H1 _ δ1 t2 w2 (Wlk.enm hb r5) hC⟩
      · rename_i xs _
        subst hs
        refine .inr ⟨F, δ, fp, w, ?_⟩
        rw [q]
        intro F1 H1 fp1 vs fv t1 w1 o1 fr1
        have r1 := o1.reps (ds := [.tup xs]) rfl
        obtain ⟨F2, w2, t2, s2, k2⟩ := w1.frz t1 (fun a ha => (o1.fr a ha).2) fun a ha => fr1 a ha
        have r2 := Reps.fz (H' := H1) s2 k2 r1
        obtain ⟨v, rest, f1, f2, rfl, r3, r4, _, ef⟩ := r2
        obtain ⟨rfl, _⟩ := r4
        have e1 : f1 = [] := by cases f1 with | nil => rfl | cons _ _ => simp at ef
        subst e1
        obtain ⟨b, us, rfl, hb, r5⟩ := r3
        exact ⟨b, us, rfl, seqT_mono w2.same hb, c (.fix _) (IteT X.K b) F2 H1 _ δ1 t2 w2 (Wlk.enmT hb r5) hC⟩
  | zp =>
    simp only [itOk] at ok
    split at ok
    rotate_left
    · cases ok
    rename_i a a2
    show iZip X.K (tA G A call X W .esc (.cons a (.cons a2 .nil))) σ H R
    refine ⟨F, δ, fp, w, RG.mono h (fun os δ1 z F1 H1 fp1 vs fv t1 w1 o1 fr1 => ?_) fun _ _ _ z => z⟩
    obtain ⟨s, hs, hC⟩ := z
    unfold src at hs
    split at hs <;> (try simp only [reduceCtorEq, Option.some.injEq] at hs) <;> (try contradiction)
    rename_i o xs o' ys _
    subst hs
    have r1 := o1.reps (ds := [.lst o xs, .lst o' ys]) rfl
    obtain ⟨F2, w2, t2, s2, k2⟩ := w1.frz t1 (fun a ha => (o1.fr a ha).2) fun a ha => fr1 a ha
    have r2 := Reps.fz (H' := H1) s2 k2 r1
    obtain ⟨v, rest, f1, f2, rfl, r3, r4, _, ef⟩ := r2
    obtain ⟨v', rest', f1', f2', rfl, r3', r4', _, ef'⟩ := r4
    obtain ⟨rfl, _⟩ := r4'
    obtain ⟨b, us, rfl, hb, r5, _⟩ := r3
    obtain ⟨b', us', rfl, hb', r5', _⟩ := r3'
    exact ⟨b, b', us, us', rfl, .of (w2.same _ _ hb), .of (w2.same _ _ hb'), c (.fix _) (Itz X.K b b') F2 H1 _ δ1 t2 w2 (Wlk.zip hb hb' r5 r5') hC⟩
  | e =>
    have h : RG (evs G call .opd it δ) (fun os δ1 => ∃ s, src δ1 .e os = some s ∧ C s δ1) (PX G A X.K σ F H fp W) := h
    simp only [itOk] at ok
    split at ok
    rotate_left
    · cases ok
    rename_i a _
    show iList X.K (tS G A call X W .opd a) σ H R ∨ iTup X.K (tS G A call X W .opd a) σ H R
    simp only [evs] at h
    cases q : ev G call .opd a δ with
    | stuck => rw [q] at h; exact False.elim h
    | err e g δ1 => rw [q] at h; exact .inl ⟨F, δ, fp, w, by rw [q]; exact h⟩
    | ok x δ1 =>
      rw [q] at h
      have h : ∃ s, src δ1 .e [x] = some s ∧ C s δ1 := h
      obtain ⟨s, hs, h⟩ := h
      cases x with
      | ref i =>
        simp only [src] at hs
        split at hs
        · rename_i ds hd
          cases hs
          refine .inl ⟨F, δ, fp, w, ?_⟩
          rw [q]
          intro F1 H1 fp1 v fv t1 w1 o1 fr1
          obtain ⟨a, us, g, hs, ha, r, na, ef⟩ := w1.lstAt hd
          have e := o1.1
          rw [hs] at e
          cases e
          exact ⟨a, rfl, ⟨us, .of ha⟩, c (.live i) (Itl X.K a) F1 H1 fp1 δ1 t1 w1 ⟨a, hs, rfl⟩ h⟩
        · rename_i ds hd
          cases hs
          refine .inl ⟨F, δ, fp, w, ?_⟩
          rw [q]
          intro F1 H1 fp1 v fv t1 w1 o1 fr1
          obtain ⟨v', hv, a, us, rfl, ha, r, ef⟩ := w1.slot hd
          have e := o1.1
          rw [hv] at e
          cases e
          exact ⟨a, rfl, ⟨us, .of (w1.same _ _ ha)⟩, c (.fix _) (Itl X.K a) F1 H1 fp1 δ1 t1 w1 (Wlk.lst ha r) h⟩
        · rename_i ds hd
          split at hs
          · rename_i p
            cases hs
            refine .inr ⟨F, δ, fp, w, ?_⟩
            rw [q]
            intro F1 H1 fp1 v fv t1 w1 o1 fr1
            obtain ⟨v', hv, a, us, rfl, ha, r⟩ := w1.slot hd
            have e := o1.1
            rw [hv] at e
            cases e
            rw [Reps.nil_of_pure p r] at r
            exact ⟨a, rfl, ⟨us, seqT_mono w1.same ha⟩, c (.fix _) (Itt X.K a) F1 H1 fp1 δ1 t1 w1 (Wlk.tup ha r) h⟩
          · cases hs
        · cases hs
      | tmp d =>
        cases d <;> simp only [src, reduceCtorEq, Option.some.injEq] at hs
        · rename_i ds
          subst hs
          refine .inr ⟨F, δ, fp, w, ?_⟩
          rw [q]
          intro F1 H1 fp1 v fv t1 w1 o1 fr1
          obtain ⟨F2, w2, t2, s2, r2⟩ := Tm.freeze o1 w1 t1 fr1
          obtain ⟨a, us, rfl, ha, r⟩ := r2
          exact ⟨a, rfl, ⟨us, seqT_mono w2.same ha⟩, c (.fix _) (Itt X.K a) F2 H1 fp1 δ1 t2 w2 (Wlk.tup ha r) h⟩
        · rename_i o ds
          subst hs
          refine .inl ⟨F, δ, fp, w, ?_⟩
          rw [q]
          intro F1 H1 fp1 v fv t1 w1 o1 fr1
          obtain ⟨F2, w2, t2, s2, r2⟩ := Tm.freeze o1 w1 t1 fr1
          obtain ⟨a, us, rfl, ha, r, _⟩ := r2
          exact ⟨a, rfl, ⟨us, .of (w2.same _ _ ha)⟩, c (.fix _) (Itl X.K a) F2 H1 fp1 δ1 t2 w2 (Wlk.lst ha r) h⟩
  | rng =>
    have h : RG (evs G call .opd it δ) (fun os δ1 => ∃ s, src δ1 .rng os = some s ∧ C s δ1) (PX G A X.K σ F H fp W) := h
    show (if it.len = 1 then iRng1 (tA G A call X W .opd it) else if it.len = 2 then iRng2 (tA G A call X W .opd it) else iRng3 (tA G A call X W .opd it)) σ H R
    have l62 : (2 : Int) ^ 62 = 4611686018427387904 := by decide
    have go : ∀ n, it.len = n → ∀ T : List V → Hp → Prop, (∀ F1 H1 fp1 δ1 vs ds xs, Tr F H (Own fp) F1 H1 (Own fp1) → Wd X.K F1 H1 σ δ1 fp1 → Vws X.K F1 H1 ds vs → ds.length = n → RgI ds xs → C (.fix xs) δ1 → T vs H1) → tA G A call X W .opd it σ H T := fun n hn T hT => by
      refine ⟨F, δ, fp, w, (evs_len h hn).mono (fun os δ1 z F1 H1 fp1 vs fv t1 w1 o1 fr1 => ?_) fun _ _ _ z => z⟩
      obtain ⟨⟨s, hs, hC⟩, hl⟩ := z
      obtain ⟨ds, xs, g, rfl, ri⟩ := src_rng hs
      exact hT F1 H1 fp1 δ1 vs ds xs t1 w1 (o1.see w1 g) (by rw [gets_len g, hl]) ri hC
    by_cases n1 : it.len = 1
    · rw [if_pos n1]
      refine go 1 n1 _ fun F1 H1 fp1 δ1 vs ds xs t1 w1 hv hl ri hC => ?_
      cases ri with
      | @one b' a b =>
        have q : Wlk X.K F1 (Itr 0 b'.toNat) (rngD 0 b') := by
          have := Wlk.rng (K := X.K) (F := F1) 0 b'.toNat
          rw [rngD_eq, Int.sub_zero]; exact this
        exact ⟨_, ofInts hv, by omega, by omega, c (.fix _) _ F1 H1 fp1 δ1 t1 w1 q hC⟩
      | two => simp at hl
      | three => simp at hl
      | step => simp at hl
    · rw [if_neg n1]
      by_cases n2 : it.len = 2
      · rw [if_pos n2]
        refine go 2 n2 _ fun F1 H1 fp1 δ1 vs ds xs t1 w1 hv hl ri hC => ?_
        cases ri with
        | one a b => simp at hl
        | two a b a' b' => exact ⟨_, _, ofInts2 hv, ⟨by omega, by omega, by omega, by omega⟩, c (.fix _) _ F1 H1 fp1 δ1 t1 w1 (Wlk.rng _ _) hC⟩
        | three => simp at hl
        | step => simp at hl
      · rw [if_neg n2]
        have n3 : it.len = 3 := by
          simp only [itOk, Bool.or_eq_true, beq_iff_eq] at ok
          omega
        refine go 3 n3 _ fun F1 H1 fp1 δ1 vs ds xs t1 w1 hv hl ri hC => ?_
        cases ri with
        | one a b => simp at hl
        | two a b a' b' => simp at hl
        | three a b a' b' => exact ⟨_, _, _, _, ofInts3 hv, rgC a b a' b', c (.fix _) _ F1 H1 fp1 δ1 t1 w1 (Wlk.rngC _ _) hC⟩
        | step a b a' b' u v => exact ⟨_, _, _, _, ofInts3 hv, rgS a b a' b' u v, c (.fix _) _ F1 H1 fp1 δ1 t1 w1 (Wlk.rngS _ _ _) hC⟩
theorem s_lc {m : Md} {tg : Tg} {k : ItK} {it cond elt : E} {σ : St} {H : Hp} {Q : VK} (ok : itOk k it = true) (hc : cond = .nil ∨ ∃ e, cond = .cons e .nil) (h : tS G A call X W m (.lc tg k it cond elt) σ H Q) :
    tLc (tIt G A call X W k it) (tTg X.K tg) (tCd G A call X cond) (tS G A call X WN .esc elt) tg.own σ H Q := by
  obtain ⟨F, δ, fp, w, h⟩ := h
  rw [ev_lc] at h
  refine it_ok (C := fun s δ1 => RG ((srcLoop G call tg cond elt δ1 s).bind fun ds δ6 => R.ok (.tmp (.lst true ds)) (backE δ1 δ6 tg.own)) (PO X.K σ F H fp Q) (PX G A X.K σ F H fp W)) ok w (h.bind.mono (fun os δ1 z => ?_) fun _ _ _ z => z) fun s J F1 H1 fp1 δ1 t1 w1 hs hC => ?_
  · split at z
    · exact False.elim z
    · rename_i s e; exact ⟨s, e, z⟩
  · exact srcLoop_ok w1 hc hs (hC.mono (fun _ _ z => z.step (t := t1)) fun _ _ _ z => z)
end
end IR
namespace IR
open PySem PySem.Spec L2
/-! ### a comprehension of two walks -/
section
variable {G : Tab} {A : Nat → Addr} {call : Calls} {X : Cx} {W : WX}
def lcF2 (G : Tab) (call : Calls) (tg1 : Tg) (c1 : E) (tg2 : Tg) (k2 : ItK) (it2 c2 elt : E) (x : D) (acc : List D) (δ2 : Ev) : R (List D) := match bindT (wipeE δ2 (tg1.own ++ tg2.own)) tg1 x with
  | none => .stuck
  | some δ3 => R.noerr <| (evc G call c1 δ3).bind fun c δ4 => if c then (evs G call (kMd k2) it2 δ4).bind fun os2 δ5 => match src δ5 k2 os2 with
      | some (.fix ys) => (loopC (lcF G call tg2 c2 elt) ys acc (wipeE δ5 tg2.own)).bind fun acc' δ6 => .ok acc' (wipeE δ6 (tg1.own ++ tg2.own))
      | _ => .stuck
    else .ok acc (wipeE δ4 (tg1.own ++ tg2.own))
theorem ev_lc2 {m : Md} {tg1 tg2 : Tg} {k1 k2 : ItK} {it1 c1 it2 c2 elt : E} {δ : Ev} : ev G call m (.lc2 tg1 k1 it1 c1 tg2 k2 it2 c2 elt) δ = (evs G call (kMd k1) it1 δ).bind fun os δ1 => match src δ1 k1 os with
    | some (.fix xs) => (loopA (lcF2 G call tg1 c1 tg2 k2 it2 c2 elt) xs [] (wipeE δ1 (tg1.own ++ tg2.own))).bind fun ds δ6 => .ok (.tmp (.lst true ds)) (backE δ1 δ6 (tg1.own ++ tg2.own))
    | _ => .stuck := by
  rw [ev]
  refine congrArg (R.bind (evs G call (kMd k1) it1 δ)) ?_
  funext os δ1
  rcases src δ1 k1 os with _ | (_ | _) <;> rfl
/-- what tLc2 asks behind the first walked thing -/
def LcG2 (J : It) (g : TG) (tt : TT) (wi1 : TI) (g1 : TG) (tt1 : TT) (te : TE) (vs vs1 : List Nat) (σ : St) (H1 : Hp) (Q : VK) : Prop := ∀ D : Addr, H1 D = none → ∃ W : Nat → Nat → Hp → Prop, (∃ m, W 0 m (upd H1 D (.lst []))) ∧ ∀ (i m : Nat) (H : Hp), W i m H →
  (J.stop i H ∧ Q (.ref D) H) ∨ (J.go i H ∧ ∃ Nx : Hp → Prop, (∀ H', Nx H' → ∃ m', m' < m ∧ W (i + 1) m' H') ∧ ∀ (x : V) (H' : Hp), J.yld i H x H' → g x (wipe σ vs) H' fun σ2 H2 => wipe σ2 vs = wipe σ vs ∧ tt σ2 H2 fun b H3 =>
    if b = true then wi1 σ2 H3 fun J1 H4 => ∃ W1 : Nat → Nat → Hp → Prop, (∃ m, W1 0 m H4) ∧ ∀ (j k : Nat) (H : Hp), W1 j k H →
      (J1.stop j H ∧ Nx H) ∨ (J1.go j H ∧ ∃ Nx1 : Hp → Prop, (∀ H', Nx1 H' → ∃ k', k' < k ∧ W1 (j + 1) k' H') ∧ ∀ (x : V) (H' : Hp), J1.yld j H x H' → g1 x (wipe σ2 vs1) H' fun σ3 H5 => wipe σ3 vs1 = wipe σ2 vs1 ∧ tt1 σ3 H5 fun b H6 =>
        if b = true then te σ3 H6 fun y H7 => ∃ acc, H7 D = some (.lst acc) ∧ acc.length < sizeLine ∧ Nx1 (upd H7 D (.lst (acc ++ [y]))) else Nx1 H6)
    else Nx H3)
theorem LcI.move {K : PySem.W.Frag} {F0 H0 F H F1 H1 : Hp} {o0 : Addr → Prop} {σ σ2 : St} {p : Addr} {δ δ1 : Ev} {fp fp1 : Fp} {acc : List D} (I : LcI K F0 H0 o0 σ p F H δ fp acc) (t : Tr F H (Own fp) F1 H1 (Own fp1)) (w : Wd K F1 H1 σ2 δ1 fp1) (vs : List Nat) :
    LcI K F0 H0 o0 (wipe σ2 vs) p F1 H1 (wipeE δ1 vs) (fpOff fp1 vs) acc := by
  obtain ⟨g, tm, nw⟩ := I.tm
  have tl := t.to (o2 := Own (fpOff fp1 vs)) fun a ha => by obtain ⟨j, _, z⟩ := own_off ha; exact ⟨j, z⟩
  exact ⟨I.tr.trans tl, w.wipe2 vs, ⟨g, tm.step tl, nw⟩, I.np⟩
theorem Tr.rfl' {F H : Hp} {o : Addr → Prop} : Tr F H o F H o := .refl
/-- one turn of the first walk -/
theorem lc2_turn {F0 H0 : Hp} {o0 : Addr → Prop} {σ : St} {p : Addr} {F H Fx Hx : Hp} {δ : Ev} {fp : Fp} {acc : List D} {tg1 tg2 : Tg} {k2 : ItK} {c1 it2 c2 elt : E} {d : D} {x : V} {ok : List D → Ev → Prop} {er : Nat → List D → Ev → Prop} {N : Hp → Prop}
    (I : LcI X.K F0 H0 o0 (wipe σ (tg1.own ++ tg2.own)) p F H δ fp acc) (ex : Ext F H Fx Hx) (rd : Rep X.K Fx Hx d x []) (hc1 : c1 = .nil ∨ ∃ e, c1 = .cons e .nil) (hc2 : c2 = .nil ∨ ∃ e, c2 = .cons e .nil) (io : itOk k2 it2 = true)
    (h : RG (lcF2 G call tg1 c1 tg2 k2 it2 c2 elt d acc δ) ok er)
    (k : ∀ acc' δ' F' H' fp', ok acc' δ' → LcI X.K F0 H0 o0 (wipe σ (tg1.own ++ tg2.own)) p F' H' δ' fp' acc' → N H') :
    tTg X.K tg1 x (wipe σ (tg1.own ++ tg2.own)) Hx fun σ2 H2 => wipe σ2 (tg1.own ++ tg2.own) = wipe σ (tg1.own ++ tg2.own) ∧ tCd G A call X c1 σ2 H2 fun b H3 =>
      if b = true then tIt G A call X WN k2 it2 σ2 H3 fun J1 H4 => ∃ W1 : Nat → Nat → Hp → Prop, (∃ m, W1 0 m H4) ∧ ∀ (j k : Nat) (H : Hp), W1 j k H →
        (J1.stop j H ∧ N H) ∨ (J1.go j H ∧ ∃ Nx1 : Hp → Prop, (∀ H', Nx1 H' → ∃ k', k' < k ∧ W1 (j + 1) k' H') ∧ ∀ (x : V) (H' : Hp), J1.yld j H x H' → tTg X.K tg2 x (wipe σ2 tg2.own) H' fun σ3 H5 => wipe σ3 tg2.own = wipe σ2 tg2.own ∧ tCd G A call X c2 σ3 H5 fun b H6 =>
          if b = true then tS G A call X WN .esc elt σ3 H6 fun y H7 => ∃ acc, H7 p = some (.lst acc) ∧ acc.length < sizeLine ∧ Nx1 (upd H7 p (.lst (acc ++ [y]))) else Nx1 H6)
      else N H3 := by
  unfold lcF2 at h
  split at h
  · exact False.elim h
  · rename_i δ3 hb
    have h := RG.noerr (er' := fun _ _ _ => False) h
    have w0 : Wd X.K Fx Hx (wipe σ (tg1.own ++ tg2.own)) (wipeE δ (tg1.own ++ tg2.own)) (fpOff fp (tg1.own ++ tg2.own)) := ((I.w.ext ex).wipe (tg1.own ++ tg2.own))
    refine tTg_ok w0 rd hb fun σ2 fp2 l2 k2' w2 o2 => ?_
    have own2 : ∀ a, Own fp2 a → Own fp a := fun a ha => by obtain ⟨j, _, z⟩ := own_off (o2 a ha); exact ⟨j, z⟩
    have ew : wipe σ2 (tg1.own ++ tg2.own) = wipe σ (tg1.own ++ tg2.own) := by
      rw [wipe_eq (σ := wipe σ (tg1.own ++ tg2.own)) l2 fun j hj => k2' j fun z => hj (by simp [z])]
      exact wipe_eq (wipe_len _ _) fun j hj => wipe_out hj
    have ew2 : wipe (wipe σ2 tg2.own) (tg1.own ++ tg2.own) = wipe σ (tg1.own ++ tg2.own) := by
      rw [← ew]
      exact wipe_eq (wipe_len _ _) fun j hj => wipe_out fun z => hj (by simp [z])
    refine ⟨ew, ?_⟩
    have t2 : Tr F H (Own fp) Fx Hx (Own fp2) := ex.tr.to own2
    have fin : ∀ {b : Bool} {δ4 : Ev} {F3 H3 : Hp} {fp3 : Fp}, Tr F H (Own fp) F3 H3 (Own fp3) → Wd X.K F3 H3 σ2 δ4 fp3 → RG (if b = true then (evs G call (kMd k2) it2 δ4).bind fun os2 δ5 => match src δ5 k2 os2 with
          | some (.fix ys) => (loopC (lcF G call tg2 c2 elt) ys acc (wipeE δ5 tg2.own)).bind fun acc' δ6 => R.ok acc' (wipeE δ6 (tg1.own ++ tg2.own))
          | _ => .stuck
        else .ok acc (wipeE δ4 (tg1.own ++ tg2.own))) ok (fun _ _ _ => False) → (if b = true then tIt G A call X WN k2 it2 σ2 H3 fun J1 H4 => ∃ W1 : Nat → Nat → Hp → Prop, (∃ m, W1 0 m H4) ∧ ∀ (j k : Nat) (H : Hp), W1 j k H →
        (J1.stop j H ∧ N H) ∨ (J1.go j H ∧ ∃ Nx1 : Hp → Prop, (∀ H', Nx1 H' → ∃ k', k' < k ∧ W1 (j + 1) k' H') ∧ ∀ (x : V) (H' : Hp), J1.yld j H x H' → tTg X.K tg2 x (wipe σ2 tg2.own) H' fun σ3 H5 => wipe σ3 tg2.own = wipe σ2 tg2.own ∧ tCd G A call X c2 σ3 H5 fun b H6 =>
          if b = true then tS G A call X WN .esc elt σ3 H6 fun y H7 => ∃ acc, H7 p = some (.lst acc) ∧ acc.length < sizeLine ∧ Nx1 (upd H7 p (.lst (acc ++ [y]))) else Nx1 H6)
      else N H3) := fun {b δ4 F3 H3 fp3} t3 w3 h3 => by
      cases b with
      | false =>
        rw [if_neg Bool.false_ne_true] at h3 ⊢
        have J := I.move t3 w3 (tg1.own ++ tg2.own)
        rw [ew] at J
        exact k _ _ F3 H3 _ h3 J
      | true =>
        rw [if_pos rfl] at h3 ⊢
        refine it_ok (C := fun s δ5 => ∃ ys, s = .fix ys ∧ RG (loopC (lcF G call tg2 c2 elt) ys acc (wipeE δ5 tg2.own)) (fun acc' δ6 => ok acc' (wipeE δ6 (tg1.own ++ tg2.own))) (fun _ _ _ => False)) io w3 (h3.bind.mono (fun os δ5 z => ?_) fun _ _ _ z => z.elim) fun s J1 F4 H4 fp4 δ5 t4 w4 hs hC => ?_
        · split at z
          · rename_i ys e; exact ⟨_, e, ys, rfl, z.bind⟩
          · exact z.elim
        · obtain ⟨ys, rfl, hC⟩ := hC
          have wk : Wlk X.K F4 J1 ys := hs
          have J0 := I.move (t3.trans t4) w4 tg2.own
          refine ⟨fun j m H' => m = ys.length - j ∧ j ≤ ys.length ∧ ∃ F' δ' fp' acc', Same F4 F' ∧ LcI X.K F0 H0 o0 (wipe σ2 tg2.own) p F' H' δ' fp' acc' ∧
            RG (loopC (lcF G call tg2 c2 elt) (ys.drop j) acc' δ') (fun acc' δ6 => ok acc' (wipeE δ6 (tg1.own ++ tg2.own))) (fun _ _ _ => False), ⟨ys.length, rfl, Nat.zero_le _, F4, _, _, acc, .refl _, J0, hC⟩, ?_⟩
          rintro j m H' ⟨rfl, jl, F', δ', fp', acc', sF, I', hC'⟩
          by_cases l : j < ys.length
          · rw [List.drop_eq_getElem_cons l] at hC'
            unfold loopC at hC'
            refine .inr ⟨wk.go j F' H' sF I'.w.same l, fun H'' => ∃ F'' δ'' fp'' acc'', Same F4 F'' ∧ LcI X.K F0 H0 o0 (wipe σ2 tg2.own) p F'' H'' δ'' fp'' acc'' ∧
              RG (loopC (lcF G call tg2 c2 elt) (ys.drop (j + 1)) acc'' δ'') (fun acc' δ6 => ok acc' (wipeE δ6 (tg1.own ++ tg2.own))) (fun _ _ _ => False), fun H'' z => ⟨_, by omega, rfl, by omega, z⟩, fun y Hy yy => ?_⟩
            obtain ⟨F2, ex2, rd2⟩ := wk.yld j F' H' y Hy sF I'.w.same yy _ (List.getElem?_eq_getElem l)
            refine lc_turn rfl I' ex2 rd2 hc2 hC'.bind (fun o δ'' F'' H'' fp'' sF2 q I2 => ?_) fun o δ'' q => ?_
            · split at q
              · refine ⟨F'', δ'', fp'', accO acc' o, sF.trans sF2, I2, ?_⟩
                cases o <;> exact q
              · exact False.elim q
            · split at q
              · rename_i b; exact big_lt2 b
              · exact False.elim q
          · have e : ys.drop j = [] := List.drop_eq_nil_iff.mpr (by omega)
            rw [e] at hC'
            refine .inl ⟨wk.stop j F' H' sF I'.w.same (by omega), ?_⟩
            have J := I'.move Tr.rfl' I'.w (tg1.own ++ tg2.own)
            rw [ew2] at J
            exact k _ _ F' H' _ hC' J
    rcases hc1 with e | ⟨c, e⟩
    · subst e
      rw [evc_nil] at h
      exact fin (b := true) t2 w2 h
    · subst e
      refine ⟨Fx, δ3, fp2, w2, ?_⟩
      rw [RG.evB_iff]
      simp only [evc] at h
      refine h.bind.bind.mono (fun y δ4 h4 => ?_) fun _ _ _ z => z.elim
      split at h4
      · rename_i b gy
        exact ⟨b, gy, fun F3 H3 fp3 t3 w3 => fin (t2.trans t3) w3 h4⟩
      · exact False.elim h4
theorem s_lc2 {m : Md} {tg1 tg2 : Tg} {k1 k2 : ItK} {it1 c1 it2 c2 elt : E} {σ : St} {H : Hp} {Q : VK} (io1 : itOk k1 it1 = true) (io2 : itOk k2 it2 = true) (hc1 : c1 = .nil ∨ ∃ e, c1 = .cons e .nil) (hc2 : c2 = .nil ∨ ∃ e, c2 = .cons e .nil)
    (h : tS G A call X W m (.lc2 tg1 k1 it1 c1 tg2 k2 it2 c2 elt) σ H Q) :
    tLc2 (tIt G A call X W k1 it1) (tTg X.K tg1) (tCd G A call X c1) (tIt G A call X WN k2 it2) (tTg X.K tg2) (tCd G A call X c2) (tS G A call X WN .esc elt) (tg1.own ++ tg2.own) tg2.own σ H Q := by
  obtain ⟨F, δ, fp, w, h⟩ := h
  rw [ev_lc2] at h
  refine it_ok (C := fun s δ1 => ∃ xs, s = .fix xs ∧ RG (loopA (lcF2 G call tg1 c1 tg2 k2 it2 c2 elt) xs [] (wipeE δ1 (tg1.own ++ tg2.own))) (fun ds δ6 => PO X.K σ F H fp Q (.tmp (.lst true ds)) (backE δ1 δ6 (tg1.own ++ tg2.own))) (PX G A X.K σ F H fp W)) io1 w (h.bind.mono (fun os δ1 z => ?_) fun _ _ _ z => z) fun s J F1 H1 fp1 δ1 t1 w1 hs hC => ?_
  · split at z
    · rename_i xs e; exact ⟨_, e, xs, rfl, z.bind⟩
    · exact z.elim
  obtain ⟨xs, rfl, hC⟩ := hC
  have wk : Wlk X.K F1 J xs := hs
  have hC := hC.mono (fun _ _ z => PO.step (t := t1) z) fun _ _ _ z => z
  intro p hp
  refine ⟨fun i m H' => m = xs.length - i ∧ i ≤ xs.length ∧ ∃ F' δ' fp' acc, LcI X.K F1 H1 (Own (fpOff fp1 (tg1.own ++ tg2.own))) (wipe σ (tg1.own ++ tg2.own)) p F' H' δ' fp' acc ∧
      RG (loopA (lcF2 G call tg1 c1 tg2 k2 it2 c2 elt) (xs.drop i) acc δ') (fun ds δ6 => PO X.K σ F1 H1 fp1 Q (.tmp (.lst true ds)) (backE δ1 δ6 (tg1.own ++ tg2.own))) (PX G A X.K σ F H fp W), ⟨xs.length, rfl, Nat.zero_le _, F1, _, _, [], LcI.start w1 hp, hC⟩, ?_⟩
  rintro i m H' ⟨rfl, il, F', δ', fp', acc, I, h⟩
  by_cases l : i < xs.length
  · rw [List.drop_eq_getElem_cons l] at h
    unfold loopA at h
    have sF : Same F1 F' := I.tr.same
    refine .inr ⟨wk.go i F' H' sF I.w.same l, fun H'' => ∃ F' δ' fp' acc, LcI X.K F1 H1 (Own (fpOff fp1 (tg1.own ++ tg2.own))) (wipe σ (tg1.own ++ tg2.own)) p F' H'' δ' fp' acc ∧
      RG (loopA (lcF2 G call tg1 c1 tg2 k2 it2 c2 elt) (xs.drop (i + 1)) acc δ') (fun ds δ6 => PO X.K σ F1 H1 fp1 Q (.tmp (.lst true ds)) (backE δ1 δ6 (tg1.own ++ tg2.own))) (PX G A X.K σ F H fp W), fun H'' z => ⟨_, by omega, rfl, by omega, z⟩, fun x Hx y => ?_⟩
    obtain ⟨F2, ex, rd⟩ := wk.yld i F' H' x Hx sF I.w.same y _ (List.getElem?_eq_getElem l)
    exact lc2_turn I ex rd hc1 hc2 io2 h.bind fun acc' δ'' F'' H'' fp'' q I2 => ⟨F'', δ'', fp'', acc', I2, q⟩
  · have e : xs.drop i = [] := List.drop_eq_nil_iff.mpr (by omega)
    rw [e] at h
    exact .inl ⟨wk.stop i F' H' I.tr.same I.w.same (by omega), lc_back w1 I h⟩
end
end IR
namespace IR
open PySem PySem.Spec L2
section
variable (G : Tab) (A : Nat → Addr)
/-! ### what is asked of a statement's end -/
def Ag (L : List Nat) (σ σ' : St) : Prop := ∀ j ∈ L, σ'[j]? = σ[j]?
def PN (K : PySem.W.Frag) (L : List Nat) (σ : St) (F H : Hp) (fp : Fp) (P : St → Hp → Prop) (δ' : Ev) : Prop := ∀ F' H' fp' σ', Ag L σ σ' → Tr F H (Own fp) F' H' (Own fp') → Wd K F' H' σ' δ' fp' → P σ' H'
def PR (K : PySem.W.Frag) (L : List Nat) (σ : St) (F H : Hp) (fp : Fp) (P : VK) (d : D) (δ' : Ev) : Prop := ∀ F' H' fp' σ' v f, Ag L σ σ' → Tr F H (Own fp) F' H' (Own fp') → Wd K F' H' σ' δ' fp' → Tm K F' H' (Own fp') d v f → (∀ a ∈ f, Own fp a ∨ H a = none) → P v H'
def PY (K : PySem.W.Frag) (L : List Nat) (σ : St) (F H : Hp) (fp : Fp) (W : WX) (c : Nat) (g : List D) (δ' : Ev) : Prop := ∀ F' H' fp' σ' cls d, Ag L σ σ' → Tr F H (Own fp) F' H' (Own fp') → Wd K F' H' σ' δ' fp' → ErrR G A K F' H' c g cls d → W cls d σ' H'
def OG (K : PySem.W.Frag) (L : List Nat) (σ : St) (F H : Hp) (fp : Fp) (D : Ends) (W : WX) (o : Out) : Prop := match o with
  | .nx δ' => PN K L σ F H fp D.nx δ'
  | .brk δ' => PN K L σ F H fp D.bk δ'
  | .ct δ' => PN K L σ F H fp D.ct δ'
  | .ret d δ' => PR K L σ F H fp D.rt d δ'
  | .err c g δ' => PY G A K L σ F H fp W c g δ'
  | .stuck => False
variable (call : Calls)
def tR (X : Cx) (W : WX) (L : List Nat) (s : S) : TS := fun D σ H => ∃ F δ fp, Wd X.K F H σ δ fp ∧ OG G A X.K L σ F H fp D W (run G call s δ)
end
section
variable {K : PySem.W.Frag} {F H F1 H1 : Hp} {fp fp1 : Fp} {G : Tab} {A : Nat → Addr} {L : List Nat} {σ σ1 : St}
theorem Ag.refl : Ag L σ σ := fun _ _ => rfl
theorem Ag.trans {σ2 : St} (a : Ag L σ σ1) (b : Ag L σ1 σ2) : Ag L σ σ2 := fun j h => (b j h).trans (a j h)
theorem Ag.less {L2 : List Nat} (a : Ag L σ σ1) (h : ∀ j ∈ L2, j ∈ L) : Ag L2 σ σ1 := fun j hj => a j (h j hj)
theorem Ag.set {i : Nat} {x : Option V} (h : i ∉ L) : Ag L σ (σ.set i x) := fun j hj => List.getElem?_set_ne fun e => h (by rw [e]; exact hj)
theorem PN.step {P : St → Hp → Prop} {δ' : Ev} (h : PN K L σ F H fp P δ') (a : Ag L σ σ1) (t : Tr F H (Own fp) F1 H1 (Own fp1)) : PN K L σ1 F1 H1 fp1 P δ' := fun F' H' fp' σ' b t' w => h F' H' fp' σ' (a.trans b) (t.trans t') w
theorem PR.step {P : VK} {d : D} {δ' : Ev} (h : PR K L σ F H fp P d δ') (a : Ag L σ σ1) (t : Tr F H (Own fp) F1 H1 (Own fp1)) : PR K L σ1 F1 H1 fp1 P d δ' := fun F' H' fp' σ' v f b t' w m fr => h F' H' fp' σ' v f (a.trans b) (t.trans t') w m fun a ha => fresh_trans t (fr a ha)
theorem PY.step {W : WX} {c : Nat} {g : List D} {δ' : Ev} (h : PY G A K L σ F H fp W c g δ') (a : Ag L σ σ1) (t : Tr F H (Own fp) F1 H1 (Own fp1)) : PY G A K L σ1 F1 H1 fp1 W c g δ' := fun F' H' fp' σ' cls d b t' w e => h F' H' fp' σ' cls d (a.trans b) (t.trans t') w e
theorem OG.step {D : Ends} {W : WX} {o : Out} (h : OG G A K L σ F H fp D W o) (a : Ag L σ σ1) (t : Tr F H (Own fp) F1 H1 (Own fp1)) : OG G A K L σ1 F1 H1 fp1 D W o := by
  cases o with
  | nx δ => exact PN.step h a t
  | brk δ => exact PN.step h a t
  | ct δ => exact PN.step h a t
  | ret d δ => exact PR.step h a t
  | err c g δ => exact PY.step h a t
  | stuck => exact h
/-- more is locked -/
theorem OG.lock {D : Ends} {W : WX} {o : Out} {L2 : List Nat} (h : OG G A K L σ F H fp D W o) (l : ∀ j ∈ L, j ∈ L2) : OG G A K L2 σ F H fp D W o := by
  cases o with
  | nx δ => exact fun F' H' fp' σ' b => h F' H' fp' σ' (b.less l)
  | brk δ => exact fun F' H' fp' σ' b => h F' H' fp' σ' (b.less l)
  | ct δ => exact fun F' H' fp' σ' b => h F' H' fp' σ' (b.less l)
  | ret d δ => exact fun F' H' fp' σ' v f b => h F' H' fp' σ' v f (b.less l)
  | err c g δ => exact fun F' H' fp' σ' cls d b => h F' H' fp' σ' cls d (b.less l)
  | stuck => exact h
theorem PY.px {W : WX} {c : Nat} {g : List D} {δ' : Ev} (h : PY G A K L σ F H fp W c g δ') : PX G A K σ F H fp W c g δ' := fun F' H' fp' cls d t w e => h F' H' fp' σ cls d .refl t w e
theorem OG.out {α : Type} {r : R α} {f : α → Ev → Out} {D : Ends} {W : WX} (h : OG G A K L σ F H fp D W (r.out f)) : RG r (fun a δ => OG G A K L σ F H fp D W (f a δ)) (PX G A K σ F H fp W) := by
  cases r with
  | ok a δ => exact h
  | err c g δ => exact PY.px h
  | stuck => exact h
theorem Tr.put {o : Addr → Prop} (t : Tr F H o F1 H1 (Own fp1)) {f : List Addr} (fr : ∀ a ∈ f, o a ∨ H a = none) (i n : Nat) : Tr F H o F1 H1 (Own (fpSet fp1 i (if i < n then f else []))) :=
  ⟨t.same, t.frame, fun a ha => by
    rcases own_fpSet ha with z | ⟨j, _, z⟩
    · split at z
      · exact fr a z
      · simp at z
    · exact t.fresh a ⟨j, z⟩, t.grow⟩
end
section
variable {G : Tab} {A : Nat → Addr} {call : Calls} {X : Cx} {W : WX} {L : List Nat}
theorem r_nop {D : Ends} {σ : St} {H : Hp} (h : tR G A call X W L .nop D σ H) : tNext D σ H := by
  obtain ⟨F, δ, fp, w, h⟩ := h
  simp only [run] at h
  exact h F H fp σ .refl .refl w
theorem r_seq {a b : S} {D : Ends} {σ : St} {H : Hp} (h : tR G A call X W L (.seq a b) D σ H) : tSeq (tR G A call X W L a) (tR G A call X W L b) D σ H := by
  obtain ⟨F, δ, fp, w, h⟩ := h
  simp only [run] at h
  refine ⟨F, δ, fp, w, ?_⟩
  cases q : run G call a δ with
  | nx δ1 =>
    rw [q] at h
    exact fun F1 H1 fp1 σ1 a1 t1 w1 => ⟨F1, δ1, fp1, w1, OG.step h a1 t1⟩
  | brk δ1 => rw [q] at h; exact h
  | ct δ1 => rw [q] at h; exact h
  | ret d δ1 => rw [q] at h; exact h
  | err c g δ1 => rw [q] at h; exact h
  | stuck => rw [q] at h; exact h
theorem r_set {i : Nat} {e : E} {D : Ends} {σ : St} {H : Hp} (hi : i ∉ L) (h : tR G A call X W L (.set i e) D σ H) : tAsg (tS G A call X W .esc e) (gName i) D σ H := by
  obtain ⟨F, δ, fp, w, h⟩ := h
  simp only [run] at h
  refine ⟨F, δ, fp, w, h.out.mono (fun x δ1 hr F1 H1 fp1 v fv t1 w1 o1 fr1 => ?_) fun _ _ _ z => z⟩
  cases x with
  | ref j => exact False.elim hr
  | tmp d => exact hr F1 H1 _ _ (.set hi) (t1.put fr1 i δ1.length) (w1.put o1 i)
theorem r_exp {e : E} {D : Ends} {σ : St} {H : Hp} (h : tR G A call X W L (.exp e) D σ H) : tDrop (tS G A call X W .opd e) D σ H := by
  obtain ⟨F, δ, fp, w, h⟩ := h
  simp only [run] at h
  exact ⟨F, δ, fp, w, h.out.mono (fun x δ1 hr F1 H1 fp1 v fv t1 w1 o1 fr1 => hr F1 H1 fp1 σ .refl t1 w1) fun _ _ _ z => z⟩
theorem r_ret {e : E} {D : Ends} {σ : St} {H : Hp} (h : tR G A call X W L (.ret e) D σ H) : tRet (tS G A call X W .mov e) D σ H := by
  obtain ⟨F, δ, fp, w, h⟩ := h
  simp only [run] at h
  refine ⟨F, δ, fp, w, h.out.mono (fun x δ1 hr F1 H1 fp1 v fv t1 w1 o1 fr1 => ?_) fun _ _ _ z => z⟩
  cases x with
  | ref j => exact False.elim hr
  | tmp d => exact hr F1 H1 fp1 σ v fv .refl t1 w1 o1 fr1
theorem r_brk {D : Ends} {σ : St} {H : Hp} (h : tR G A call X W L .brk D σ H) : tBreak D σ H := by
  obtain ⟨F, δ, fp, w, h⟩ := h
  simp only [run] at h
  exact h F H fp σ .refl .refl w
theorem r_cont {D : Ends} {σ : St} {H : Hp} (h : tR G A call X W L .cont D σ H) : tCont D σ H := by
  obtain ⟨F, δ, fp, w, h⟩ := h
  simp only [run] at h
  exact h F H fp σ .refl .refl w
theorem r_never {D : Ends} {σ : St} {H : Hp} (h : tR G A call X W L .never D σ H) : False := by
  obtain ⟨F, δ, fp, w, h⟩ := h
  simp only [run] at h
  exact h
theorem r_if {c : E} {a b : S} {D : Ends} {σ : St} {H : Hp} (h : tR G A call X W L (.iff c a b) D σ H) : tIfS (tT G A call X W c) (tR G A call X W L a) (tR G A call X W L b) D σ H := by
  obtain ⟨F, δ, fp, w, h⟩ := h
  simp only [run] at h
  refine ⟨F, δ, fp, w, h.out.mono (fun k δ1 hr F1 H1 fp1 t1 w1 => ?_) fun _ _ _ z => z⟩
  cases k with
  | true => exact ⟨F1, δ1, fp1, w1, OG.step hr .refl t1⟩
  | false => exact ⟨F1, δ1, fp1, w1, OG.step hr .refl t1⟩
/-- behind a turn of a loop -/
theorem turn_end {K : PySem.W.Frag} {F H : Hp} {σ : St} {fp : Fp} {D : Ends} {o : Out} {f : Ev → Out} {N : St → Hp → Prop} (h : OG G A K L σ F H fp D W (match o with
      | .nx δ2 => f δ2
      | .ct δ2 => f δ2
      | .brk δ2 => .nx δ2
      | o => o)) (k : ∀ F1 H1 fp1 σ1 δ1, Ag L σ σ1 → Tr F H (Own fp) F1 H1 (Own fp1) → Wd K F1 H1 σ1 δ1 fp1 → OG G A K L σ1 F1 H1 fp1 D W (f δ1) → N σ1 H1) : OG G A K L σ F H fp { nx := N, rt := D.rt, bk := D.nx, ct := N } W o := by
  cases o with
  | nx δ => exact fun F1 H1 fp1 σ1 a1 t1 w1 => k F1 H1 fp1 σ1 δ a1 t1 w1 (OG.step h a1 t1)
  | ct δ => exact fun F1 H1 fp1 σ1 a1 t1 w1 => k F1 H1 fp1 σ1 δ a1 t1 w1 (OG.step h a1 t1)
  | brk δ => exact h
  | ret d δ => exact h
  | err c g δ => exact h
  | stuck => exact h
theorem r_whl {c : E} {b : S} {D : Ends} {σ : St} {H : Hp} (h : tR G A call X W L (.whl c b) D σ H) : tWhile (tT G A call X W c) (tR G A call X W L b) D σ H := by
  obtain ⟨F, δ, fp, w, h⟩ := h
  simp only [run] at h
  refine ⟨fun m σ1 H => Ag L σ σ1 ∧ ∃ F δ fp, Wd X.K F H σ1 δ fp ∧ OG G A X.K L σ1 F H fp D W (whileN (evB G call c) (run G call b) m δ), ⟨_, .refl, F, δ, fp, w, h⟩, ?_⟩
  rintro m σ1 H ⟨a0, F, δ, fp, w, h⟩
  cases m with
  | zero => unfold whileN at h; exact False.elim h
  | succ m =>
    unfold whileN at h
    refine ⟨F, δ, fp, w, h.out.mono (fun k δ1 hr F1 H1 fp1 t1 w1 => ?_) fun _ _ _ z => z⟩
    cases k with
    | false => exact hr F1 H1 fp1 σ1 .refl t1 w1
    | true =>
      have hr := OG.step hr .refl t1
      refine ⟨fun σ2 H => Ag L σ σ2 ∧ ∃ F δ fp, Wd X.K F H σ2 δ fp ∧ OG G A X.K L σ2 F H fp D W (whileN (evB G call c) (run G call b) m δ), fun σ' H' z => ⟨m, by omega, z⟩, F1, δ1, fp1, w1, ?_⟩
      exact turn_end hr fun F2 H2 fp2 σ2 δ2 a2 _ w2 z => ⟨a0.trans a2, F2, δ2, fp2, w2, z⟩
def forF (G : Tab) (call : Calls) (tg : Tg) (b : S) (x : D) (δ2 : Ev) : Out := match bindT δ2 tg x with | some δ3 => run G call b δ3 | none => .stuck
theorem for_body {tg : Tg} {b : S} {D : Ends} {F H Fx Hx : Hp} {σ : St} {δ : Ev} {fp : Fp} {x : V} {d : IR.D} {N : St → Hp → Prop} {g : Ev → Out} (ht : ∀ j ∈ tg.own, j ∉ L) (w : Wd X.K F H σ δ fp) (ex : Ext F H Fx Hx) (rd : Rep X.K Fx Hx d x [])
    (h : OG G A X.K L σ F H fp D W (match forF G call tg b d δ with
      | .nx δ2 => g δ2
      | .ct δ2 => g δ2
      | .brk δ2 => .nx δ2
      | o => o)) (k : ∀ F1 H1 fp1 σ1 δ1, Ag L σ σ1 → Tr F H (Own fp) F1 H1 (Own fp1) → Wd X.K F1 H1 σ1 δ1 fp1 → OG G A X.K L σ1 F1 H1 fp1 D W (g δ1) → N σ1 H1) :
    tTg X.K tg x σ Hx fun σ2 H2 => tR G A call X W L b { nx := N, rt := D.rt, bk := D.nx, ct := N } σ2 H2 := by
  cases hb : bindT δ tg d with
  | none => simp only [forF, hb] at h; exact False.elim h
  | some δ3 =>
    simp only [forF, hb] at h
    refine tTg_ok (w.ext ex) rd hb fun σ2 fp2 l2 k2 w2 o2 => ?_
    have t2 : Tr F H (Own fp) Fx Hx (Own fp2) := ex.tr.to o2
    have a2 : Ag L σ σ2 := fun j hj => k2 j fun z => ht j z hj
    exact ⟨Fx, δ3, fp2, w2, turn_end (f := g) (OG.step h a2 t2) fun F3 H3 fp3 σ3 δ3 a3 t3 w3 z => k F3 H3 fp3 σ3 δ3 (a2.trans a3) (t2.trans t3) w3 z⟩
theorem r_for {tg : Tg} {k : ItK} {it : E} {b : S} {D : Ends} {σ : St} {H : Hp} (ok : itOk k it = true) (ht : ∀ j ∈ tg.own, j ∉ lockOf k it ++ L) (h : tR G A call X W L (.for_ tg k it b) D σ H) :
    tFor (tIt G A call X W k it) (tTg X.K tg) (tR G A call X W (lockOf k it ++ L) b) D σ H := by
  obtain ⟨F, δ, fp, w, h⟩ := h
  simp only [run] at h
  have ll : ∀ j ∈ L, j ∈ lockOf k it ++ L := fun j hj => List.mem_append_right _ hj
  refine it_ok (C := fun s δ1 => (∀ i, s = .live i → i ∈ lockOf k it) ∧ OG G A X.K L σ F H fp D W (match s with | .fix xs => loopF (forF G call tg b) xs δ1 | .live i => loopFL (forF G call tg b) i fuel 0 δ1)) ok w (h.out.mono (fun os δ1 z => ?_) fun _ _ _ z => z) fun s J F1 H1 fp1 δ1 t1 w1 hs hC => ?_
  · split at z
    · exact False.elim z
    · rename_i xs e; exact ⟨_, e, fun i q => (by cases q), z⟩
    · rename_i i e
      split at z
      · rename_i m
        exact ⟨_, e, fun j q => by cases q; exact m, z⟩
      · exact False.elim z
  · obtain ⟨hi, hC⟩ := hC
    have hC := (OG.step hC .refl t1).lock ll
    cases s with
    | fix xs =>
      have wk : Wlk X.K F1 J xs := hs
      refine ⟨fun i m σ1 H' => m = xs.length - i ∧ i ≤ xs.length ∧ ∃ F' δ' fp', Same F1 F' ∧ Wd X.K F' H' σ1 δ' fp' ∧ OG G A X.K (lockOf k it ++ L) σ1 F' H' fp' D W (loopF (forF G call tg b) (xs.drop i) δ'), ⟨xs.length, rfl, Nat.zero_le _, F1, δ1, fp1, .refl _, w1, hC⟩, ?_⟩
      rintro i m σ1 H' ⟨rfl, il, F', δ', fp', sF, w', h⟩
      by_cases l : i < xs.length
      · rw [List.drop_eq_getElem_cons l] at h
        unfold loopF at h
        refine .inr ⟨wk.go i F' H' sF w'.same l, fun σ2 H'' => ∃ F'' δ' fp', Same F1 F'' ∧ Wd X.K F'' H'' σ2 δ' fp' ∧ OG G A X.K (lockOf k it ++ L) σ2 F'' H'' fp' D W (loopF (forF G call tg b) (xs.drop (i + 1)) δ'), fun σ' H'' z => ⟨_, by omega, rfl, by omega, z⟩, fun x Hx y => ?_⟩
        obtain ⟨F2, ex, rd⟩ := wk.yld i F' H' x Hx sF w'.same y _ (List.getElem?_eq_getElem l)
        exact for_body ht w' ex rd h fun F3 H3 fp3 σ3 δ3 a3 t3 w3 z => ⟨F3, δ3, fp3, sF.trans t3.same, w3, z⟩
      · have e : xs.drop i = [] := List.drop_eq_nil_iff.mpr (by omega)
        rw [e] at h
        exact .inl ⟨wk.stop i F' H' sF w'.same (by omega), h F' H' fp' σ1 .refl .refl w'⟩
    | live j =>
      obtain ⟨a, hs, rfl⟩ := hs
      have hj : j ∈ lockOf k it ++ L := List.mem_append_left _ (hi j rfl)
      refine ⟨fun i m σ1 H' => σ1[j]? = some (some (.ref a)) ∧ ∃ F' δ' fp', Wd X.K F' H' σ1 δ' fp' ∧ OG G A X.K (lockOf k it ++ L) σ1 F' H' fp' D W (loopFL (forF G call tg b) j m i δ'), ⟨fuel, hs, F1, δ1, fp1, w1, hC⟩, ?_⟩
      rintro i m σ1 H' ⟨hs1, F', δ', fp', w', h⟩
      cases m with
      | zero => unfold loopFL at h; exact False.elim h
      | succ m =>
        unfold loopFL at h
        cases q : liveAt δ' j i with
        | none => rw [q] at h; exact False.elim h
        | some o =>
          rw [q] at h
          unfold liveAt at q
          split at q
          · rename_i o' ys hd
            obtain ⟨v, hv, r⟩ := w'.slot hd
            obtain ⟨a', us, g, e, ha, r3⟩ := Vw.lst w'.same ⟨_, r⟩
            rw [hs1] at hv
            cases hv; cases e
            split at q
            · rename_i y hy
              split at q
              · rename_i pu
                cases q
                obtain ⟨z, hz, rz⟩ := r3.nth hy pu
                refine .inr ⟨⟨us, z, .of ha, hz⟩, fun σ2 H'' => σ2[j]? = some (some (.ref a)) ∧ ∃ F' δ' fp', Wd X.K F' H'' σ2 δ' fp' ∧ OG G A X.K (lockOf k it ++ L) σ2 F' H'' fp' D W (loopFL (forF G call tg b) j m (i + 1) δ'), fun σ' H'' z => ⟨m, by omega, z⟩, fun x Hx y => ?_⟩
                obtain ⟨rfl, y⟩ := y
                have ex := y us (.of ha)
                rw [hz] at ex
                cases ex
                exact for_body ht w' (.refl w'.same) rz h fun F3 H3 fp3 σ3 δ3 a3 t3 w3 z => ⟨(a3 j hj).trans hs1, F3, δ3, fp3, w3, z⟩
              · cases q
            · rename_i hy
              cases q
              refine .inl ⟨⟨us, .of ha, ?_⟩, h F' H' fp' σ1 .refl .refl w'⟩
              rw [r3.length]; exact List.getElem?_eq_none_iff.mp hy
          · cases q
end
end IR
namespace IR
open PySem PySem.Spec L2
section
variable {K : PySem.W.Frag} {F H F1 H1 : Hp} {fp fp1 : Fp} {o o1 : Addr → Prop}
/-- values that stand apart from the slots -/
structure Tms (K : PySem.W.Frag) (F H : Hp) (o : Addr → Prop) (ds : List D) (vs : List V) (f : List Addr) : Prop where
  rep : Reps K F H ds vs f
  fr : ∀ a ∈ f, F a = none
  off : ∀ a ∈ f, ¬ o a
theorem Tms.step {ds : List D} {vs : List V} {f : List Addr} (t : Tms K F H o ds vs f) (r : Tr F H o F1 H1 o1) : Tms K F1 H1 o1 ds vs f where
  rep := t.rep.mono r.same fun a ha => by
    obtain ⟨u, hu, _⟩ := t.rep.at a ha
    rw [hu]; exact r.frame a u hu (t.off a ha)
  fr := fun a ha => by
    obtain ⟨u, hu, m⟩ := t.rep.at a ha
    exact r.grow a u (t.fr a ha) hu m (t.off a ha)
  off := fun a ha => by
    obtain ⟨u, hu, _⟩ := t.rep.at a ha
    exact r.nofresh hu (t.off a ha)
theorem Reps.set : ∀ {ds : List D} {vs : List V} {j : Nat} {d : D} {v : V}, Reps K F H ds vs [] → Rep K F H d v [] → Reps K F H (ds.set j d) (vs.set j v) []
  | [], vs, j, d, v, h, _ => by rw [h.1]; exact ⟨rfl, rfl⟩
  | x :: ds, vs, j, d, v, ⟨y, r, f1, f2, e, h1, h2, dj, ef⟩, k => by
    have e1 : f1 = [] := by cases f1 with | nil => rfl | cons _ _ => simp at ef
    have e2 : f2 = [] := by cases f2 with | nil => rfl | cons _ _ => rw [e1] at ef; simp at ef
    subst e1; subst e2; subst e
    cases j with
    | zero => exact ⟨v, r, [], [], rfl, k, h2, by simp, rfl⟩
    | succ j => exact ⟨y, r.set j v, [], [], rfl, h1, Reps.set h2 k, by simp, rfl⟩
end
section
variable {G : Tab} {A : Nat → Addr} {call : Calls} {X : Cx} {W : WX} {L : List Nat}
/-- xs.extend(t) -/
theorem extend_tupW (l : Addr) (items : Array Value) (n : Nat) (b : Addr) (items2 : Array Value) (n2 : Nat) (dd : Option Addr) (sl : Array (Option Value)) (hs0 : ¬(!items.isEmpty && Builtin.List.listTooLong (items.size + items2.size)) = true) (hs1 : items.size ≤ sizeLine) (hs2 : items.size + items2.size ≤ sizeLine + 1) :
    Meets (Builtin.«list.extend» ⟨[.ref l, .ref b], []⟩) (fun _ R s => s.heap.get? l = some { cls := .type "list", dict := none, data := .seq items n, slots := #[] } ∧ s.heap.get? b = some { cls := .type "tuple", dict := dd, data := .seq items2 n2, slots := sl } ∧ R (.ok (.ret Value.none)) { s with heap := s.heap.update l (Obj.mapSeq fun x => x ++ items2), toks := s.toks }) :=
  .of_wp fun prog w A R s h => by
    obtain ⟨hp, g, d, tk, os⟩ := s; obtain ⟨hl, hb, h⟩ := h; have f1 := AutoSeq1.idx_int; have f2 := AutoSeq1.sub_tuple_tuple; have f3 := AutoSeq1.sub_list_list; have f4 := AutoSeq1.sub_tuple_list; have f5 := AutoSeq1.sub_list_tuple;
    have hz' : (items ++ items2).size ≤ sizeLine + 1 := by rw [Array.size_append]; exact hs2
    wp_walk using (wpAny_updateSeq hl rfl (hz := hs1) (_hz' := hz')), AutoSeq1.wpAny_loadPart' hl, AutoSeq1.wpAny_loadPart' hb; exact ⟨_, rfl, h⟩
def rExtB (K : PySem.W.Frag) : V → List V → Hp → VK → Prop := fun x vs H Q => rExtend x vs H Q ∨ ∃ l b xs zs, x = .ref l ∧ vs = [.ref b] ∧ H l = some (.lst xs) ∧ SqT K H b zs ∧ xs.length + zs.length ≤ sizeLine ∧ Q .non (upd H l (.lst (xs ++ zs)))
theorem mt_extB : MtM X "list.extend" (rExtB X.K) := by
  intro pins s σ H x vs v us Q I rx rv h
  rcases h with h | h
  · exact mt_extend pins s σ H x vs v us Q I rx rv h
  obtain ⟨l, b, xs, zs, rfl, rfl, hH, hB, hz, q⟩ := h
  cases rx
  obtain ⟨u, rfl, ru⟩ := rv.one
  cases ru
  obtain ⟨z, its, n, r, hl, e⟩ := I.lstM hH
  obtain ⟨its2, r2, ⟨o, ho, hc, n2, hd⟩, z2⟩ := I.tuple hB
  obtain ⟨oc, od, odat, osl⟩ := o
  simp only at hc hd
  subst hc hd
  have hl2 := r2.length
  have hsz : its.toArray.size + its2.toArray.size ≤ sizeLine := by rw [List.size_toArray, List.size_toArray]; omega
  have hlong : ¬ (!its.toArray.isEmpty && Builtin.List.listTooLong (its.toArray.size + its2.toArray.size)) = true := by
    rw [notLongL hsz, Bool.and_false]
    exact Bool.false_ne_true
  refine call_meets F.slot_list_extend ⟨_, e, rfl⟩ F.entry_list_extend (F.args_list_extend_2 _ _)
    (extend_tupW l its.toArray n b its2.toArray n2 _ _ hlong (by rw [List.size_toArray]; omega) (by omega)) ⟨e, ho, ?_⟩
  refine ⟨.non, _, I.lset (its' := its ++ its2) hH e (by simp) (r.append r2) ?_, rfl, q⟩
  rw [List.length_append]
  omega
/-- o[i] = v: of a list, of a dict -/
def rSetB : TSet := fun o i v H Q => rSetL o i v H Q ∨ rSetD o i v H Q
theorem set_both (hu : X.A.units + 1 < cLine) : PSet X rSetB := by
  intro pins s σ H o i v ov iv u Q I ro ri rv h
  rcases h with h | h
  · exact set_list pins s σ H o i v ov iv u Q I ro ri rv h
  · exact set_dict hu pins s σ H o i v ov iv u Q I ro ri rv h
/-- the reading of a target of an unpacking -/
def tgS (G : Tab) (A : Nat → Addr) (call : Calls) (X : Cx) (W : WX) : E → TG
  | .var i => gName i
  | .op2 _ (.var i) k => gSub (tVar i) (tS G A call X W .opd k) rSetB
  | _ => fun _ _ _ _ => False
def tgSs (G : Tab) (A : Nat → Addr) (call : Calls) (X : Cx) (W : WX) : E → TGs
  | .cons t ts => gCons (tgS G A call X W t) (tgSs G A call X W ts)
  | _ => gNil
/-- names of locked slots are no targets -/
def tgFree (L : List Nat) : E → Bool
  | .cons (.var i) ts => !L.contains i && tgFree L ts
  | .cons _ ts => tgFree L ts
  | _ => true
theorem OG.outB {α β : Type} {K : PySem.W.Frag} {σ : St} {F H : Hp} {fp : Fp} {r : R α} {f : α → Ev → R β} {g : β → Ev → Out} {D : Ends} (h : OG G A K L σ F H fp D W ((r.bind f).out g)) : OG G A K L σ F H fp D W (r.out fun a δ => (f a δ).out g) := by
  cases r <;> exact h
theorem OG.out2 {α : Type} {K : PySem.W.Frag} {σ0 σ : St} {F0 H0 F H : Hp} {fp0 fp : Fp} {r : R α} {f : α → Ev → Out} {D : Ends} (h : OG G A K L σ0 F0 H0 fp0 D W (r.out f)) (ag : Ag L σ0 σ) (t : Tr F0 H0 (Own fp0) F H (Own fp)) :
    RG r (fun a δ => OG G A K L σ0 F0 H0 fp0 D W (f a δ)) (PX G A K σ F H fp W) := by
  cases r with
  | ok a δ => exact h
  | err c g δ => exact PY.px (PY.step h ag t)
  | stuck => exact h
theorem store1_ok {t : E} {d : IR.D} {v : V} {fv : List Addr} {σ σ0 : St} {F H F0 H0 : Hp} {δ : Ev} {fp fp0 : Fp} {D : Ends} {g : Ev → Out} {Q : St → Hp → Prop} (tf : tgFree L (.cons t .nil) = true) (w : Wd X.K F H σ δ fp) (ag : Ag L σ0 σ) (tr : Tr F0 H0 (Own fp0) F H (Own fp)) (m : Tm X.K F H (Own fp) d v fv) (fr : ∀ a ∈ fv, Own fp0 a ∨ H0 a = none)
    (h : OG G A X.K L σ0 F0 H0 fp0 D W ((store1 G call t d δ).out fun _ δ1 => g δ1))
    (k : ∀ F1 H1 fp1 σ1 δ1, Ag L σ0 σ1 → Tr F0 H0 (Own fp0) F1 H1 (Own fp1) → Wd X.K F1 H1 σ1 δ1 fp1 → (∀ a, Own fp1 a → Own fp0 a ∨ H0 a = none) → (∀ (ds : List IR.D) (vs : List V) (f : List Addr), Tms X.K F H (Own fp) ds vs f → (∀ a ∈ fv, a ∉ f) → Tms X.K F1 H1 (Own fp1) ds vs f) → OG G A X.K L σ0 F0 H0 fp0 D W (g δ1) → Q σ1 H1) : tgS G A call X W t v σ H Q := by
  unfold store1 at h
  split at h
  · rename_i i
    simp only [tgFree, Bool.and_true, Bool.not_eq_true', List.contains_eq_mem, decide_eq_false_iff_not] at tf
    have t' := tr.put fr i δ.length
    refine k F H _ _ _ (ag.trans (.set tf)) t' (w.put m i) t'.fresh (fun ds vs f ms dj => ⟨ms.rep, ms.fr, fun a ha z => ?_⟩) h
    rcases own_fpSet z with z | ⟨j, _, z⟩
    · split at z
      · exact dj a z ha
      · simp at z
    · exact ms.off a ha ⟨j, z⟩
  · rename_i i kx
    split at h
    rotate_left
    · exact False.elim h
    rename_i hsome
    obtain ⟨d0, hd0⟩ := Option.isSome_iff_exists.mp hsome
    obtain ⟨v0, hv0, _⟩ := w.slot hd0
    refine ⟨v0, hv0, ?_⟩
    have h := h.outB.out2 ag tr
    refine ⟨F, δ, fp, w, h.mono (fun x δ1 hr F1 H1 fp1 vi fvi t1 w1 o1 fr1 => ?_) fun _ _ _ z => z⟩
    split at hr
    · rename_i z xs gz hd
      obtain ⟨a, us, g', hs, ha, r, na, ef⟩ := w1.lstAt hd
      have hz : vi = .int z := Vw.int (o1.see w1 gz)
      split at hr
      · rename_i j hj
        split at hr
        · rename_i p
          simp only [Bool.and_eq_true] at p
          have e0 := Reps.nil_of_pure p.1 r
          subst e0
          have m' := m.step t1
          have ev := Rep.nil_of_pure p.2 m'.rep
          subst ev
          rw [hs] at hv0
          cases hv0
          refine .inl ⟨a, us, z, j, rfl, hz, ha, by rw [r.length]; exact hj, ?_⟩
          have w2 := w1.mut ef hs (r.set (j := j) m'.rep) (by simp) (fun b hb => absurd hb (by simp)) (fun b hb => absurd hb (by simp))
          have t2 : Tr F H (Own fp) F1 (upd H1 a (.lst (us.set j v))) (Own (fpSet fp1 i [a])) := Tr.mut t1 ef fun b hb => absurd hb (by simp)
          have t3 := tr.trans t2
          refine k F1 _ _ σ _ ag t3 w2 t3.fresh (fun ds vs f ms _ => ms.step t2) hr
        · exact False.elim hr
      · exact False.elim hr
    · rename_i dk ks dvs gz hd
      obtain ⟨vd, hvd, a, kvs, g', rfl, ha, ek, r, na, ef⟩ := w1.slot hd
      rw [hvd] at hv0
      cases hv0
      split at hr
      · rename_i kk hk
        have hz := key_v hk (o1.see w1 gz)
        subst hz
        split at hr
        · rename_i p
          simp only [Bool.and_eq_true, decide_eq_true_eq] at p
          obtain ⟨⟨⟨p1, p2⟩, p3⟩, p4⟩ := p
          have e0 := Reps.nil_of_pure p1 r
          subst e0
          have m' := m.step t1
          have ev := Rep.nil_of_pure p2 m'.rep
          subst ev
          subst ek
          obtain ⟨c1, c2⟩ := dct_put (k := kk) m'.rep r
          refine .inr ⟨a, upd H1 a (.dK (putK kvs kk v)), rfl, .inl ⟨kvs, kk, ha, rfl, ?_, rfl⟩, ?_⟩
          · rw [List.length_map] at p3; exact big_lt2 p3
          · have w2 := w1.mutU (u := .dK (putK kvs kk v)) (dn := .dct true (putKD kk d (kvs.map (·.1)) dvs).1 (putKD kk d (kvs.map (·.1)) dvs).2) (g' := []) ef hvd ⟨a, putK kvs kk v, [], rfl, upd_same, c1, c2.mono (.refl _) (fun b hb => absurd hb (by simp)), by simp, rfl⟩ (fun b hb => absurd hb (by simp)) (fun b hb => absurd hb (by simp))
            have t2 : Tr F H (Own fp) F1 (upd H1 a (.dK (putK kvs kk v))) (Own (fpSet fp1 i [a])) := Tr.mut t1 ef fun b hb => absurd hb (by simp)
            have t3 := tr.trans t2
            exact k F1 _ _ σ _ ag t3 w2 t3.fresh (fun ds vs f ms _ => ms.step t2) hr
        · exact False.elim hr
      · exact False.elim hr
    · exact False.elim hr
  · exact False.elim h
theorem stores_ok {D : Ends} : ∀ {ts : E} {ds : List IR.D} {vs : List V} {f : List Addr} {σ σ0 : St} {F H F0 H0 : Hp} {δ : Ev} {fp fp0 : Fp}, tgFree L ts = true → Wd X.K F H σ δ fp → Ag L σ0 σ → Tr F0 H0 (Own fp0) F H (Own fp) → Tms X.K F H (Own fp) ds vs f → (∀ a ∈ f, Own fp0 a ∨ H0 a = none) →
    OG G A X.K L σ0 F0 H0 fp0 D W ((stores G call ts ds δ).out fun _ δ2 => .nx δ2) → tgSs G A call X W ts vs σ H D.nx := by
  intro ts
  induction ts with
  | nil =>
    intro ds vs f σ σ0 F H F0 H0 δ fp fp0 tf w ag t m fr h
    simp only [stores] at h
    split at h
    · exact ⟨m.rep.1, h F H fp σ ag t w⟩
    · exact False.elim h
  | cons e ts _ ih =>
    intro ds vs f σ σ0 F H F0 H0 δ fp fp0 tf w ag t m fr h
    simp only [stores] at h
    split at h
    · exact False.elim h
    · rename_i d ds
      obtain ⟨v, r, f1, f2, rfl, h1, h2, dj, rfl⟩ := m.rep
      have tf2 : tgFree L (.cons e .nil) = true ∧ tgFree L ts = true := by
        cases e <;> simp [tgFree] at tf ⊢ <;> exact tf
      refine ⟨v, r, rfl, store1_ok (fv := f1) tf2.1 w ag t ⟨h1, fun a ha => m.fr a (by simp [ha]), fun a ha => m.off a (by simp [ha])⟩ (fun a ha => fr a (by simp [ha])) h.outB fun F1 H1 fp1 σ1 δ1 ag1 t1 w1 o1 tm hg => ?_⟩
      exact ih tf2.2 w1 ag1 t1 (tm ds r f2 ⟨h2, fun a ha => m.fr a (by simp [ha]), fun a ha => m.off a (by simp [ha])⟩ dj) (fun a ha => fr a (by simp [ha])) hg
  | _ =>
    intro ds vs f σ σ0 F H F0 H0 δ fp fp0 tf w ag t m fr h
    simp only [stores] at h
    exact False.elim h
theorem r_unp {ts e : E} {D : Ends} {σ : St} {H : Hp} (tf : tgFree L ts = true) (h : tR G A call X W L (.unp ts e) D σ H) : tAsg (tS G A call X W .esc e) (gTup X.K ts.len (tgSs G A call X W ts)) D σ H := by
  obtain ⟨F, δ, fp, w, h⟩ := h
  simp only [run] at h
  refine ⟨F, δ, fp, w, h.out.mono (fun x δ1 hr F1 H1 fp1 v fv t1 w1 o1 fr1 => ?_) fun _ _ _ z => z⟩
  split at hr
  · rename_i ds
    split at hr
    · rename_i hl
      obtain ⟨a, us, rfl, hs, r⟩ := o1.rep
      exact ⟨a, us, rfl, seqT_mono w1.same hs, by rw [r.length, hl], stores_ok tf w1 .refl t1 ⟨r, o1.fr, o1.off⟩ fr1 hr⟩
    · exact False.elim hr
  · exact False.elim hr
theorem unp_tup {es ts : E} {D : Ends} {σ : St} {F H : Hp} {δ : Ev} {fp : Fp} (h : OG G A X.K L σ F H fp D W (run G call (.unp ts (.tup es)) δ)) :
    RG (evs G call .esc es δ) (fun xs δ1 => ∃ ds, tmps xs = some ds ∧ ds.length = ts.len ∧ OG G A X.K L σ F H fp D W ((stores G call ts ds δ1).out fun _ δ2 => .nx δ2)) (PX G A X.K σ F H fp W) := by
  simp only [run, ev] at h
  refine h.outB.out.mono (fun xs δ1 z => ?_) fun _ _ _ z => z
  split at z
  · rename_i ds hds
    split at z
    · have z : OG G A X.K L σ F H fp D W (if ds.length = ts.len then (stores G call ts ds δ1).out fun _ δ2 => .nx δ2 else .stuck) := z
      split at z
      · rename_i hl; exact ⟨ds, hds, hl, z⟩
      · exact False.elim z
    · exact False.elim z
  · exact False.elim z
theorem r_par {i j : Nat} {es : E} {D : Ends} {σ : St} {H : Hp} (tf : tgFree L (.cons (.var i) (.cons (.var j) .nil)) = true) (h : tR G A call X W L (.unp (.cons (.var i) (.cons (.var j) .nil)) (.tup es)) D σ H) : tPar i j (tA G A call X W .esc es) D σ H := by
  obtain ⟨F, δ, fp, w, h⟩ := h
  refine ⟨F, δ, fp, w, (unp_tup h).mono (fun xs δ1 z F1 H1 fp1 vs fv t1 w1 o1 fr1 => ?_) fun _ _ _ z => z⟩
  obtain ⟨ds, hds, hl, z⟩ := z
  have r := o1.reps (tmps_eq hds)
  obtain ⟨v, r1, rfl, u, r2, rfl, rfl, q⟩ := stores_ok tf w1 .refl t1 ⟨r, fun a ha => (o1.fr a ha).1, fun a ha => (o1.fr a ha).2⟩ fr1 z
  exact ⟨v, u, rfl, q⟩
theorem r_par3 {i j l : Nat} {es : E} {D : Ends} {σ : St} {H : Hp} (tf : tgFree L (.cons (.var i) (.cons (.var j) (.cons (.var l) .nil))) = true) (h : tR G A call X W L (.unp (.cons (.var i) (.cons (.var j) (.cons (.var l) .nil))) (.tup es)) D σ H) : tPar3 i j l (tA G A call X W .esc es) D σ H := by
  obtain ⟨F, δ, fp, w, h⟩ := h
  refine ⟨F, δ, fp, w, (unp_tup h).mono (fun xs δ1 z F1 H1 fp1 vs fv t1 w1 o1 fr1 => ?_) fun _ _ _ z => z⟩
  obtain ⟨ds, hds, hl, z⟩ := z
  have r := o1.reps (tmps_eq hds)
  obtain ⟨v, r1, rfl, u, r2, rfl, x, r3, rfl, rfl, q⟩ := stores_ok tf w1 .refl t1 ⟨r, fun a ha => (o1.fr a ha).1, fun a ha => (o1.fr a ha).2⟩ fr1 z
  exact ⟨v, u, x, rfl, q⟩
theorem r_sti {i : Nat} {k e : E} {D : Ends} {σ : St} {H : Hp} (h : tR G A call X W L (.sti i k e) D σ H) : tAsg (tS G A call X W .esc e) (gSub (tVar i) (tS G A call X W .opd k) rSetB) D σ H := by
  obtain ⟨F, δ, fp, w, h⟩ := h
  simp only [run] at h
  refine ⟨F, δ, fp, w, h.out.mono (fun x δ1 hr F1 H1 fp1 v fv t1 w1 o1 fr1 => ?_) fun _ _ _ z => z⟩
  split at hr
  · rename_i d
    exact store1_ok (t := .op2 .idx (.var i) k) (g := fun δ2 => .nx δ2) rfl w1 .refl t1 o1 fr1 hr fun F2 H2 fp2 σ2 δ2 a2 t2 w2 o2 _ z => z F2 H2 fp2 σ2 a2 t2 w2
  · exact False.elim hr
theorem r_app {i : Nat} {e : E} {D : Ends} {σ : St} {H : Hp} (h : tR G A call X W L (.app i e) D σ H) : tDrop (tBM X.K "list" rAppend (tVar i) (tCons (tS G A call X W .esc e) tNil)) D σ H := by
  obtain ⟨F, δ, fp, w, h⟩ := h
  simp only [run] at h
  split at h
  · rename_i o ds0 hd0
    obtain ⟨v0, hv0, r0⟩ := w.slot hd0
    obtain ⟨a0, us0, g0, rfl, ha0, _⟩ := Vw.lst w.same ⟨_, r0⟩
    refine ⟨_, hv0, .inl ⟨rfl, us0, .of ha0⟩, ?_⟩
    refine ⟨F, δ, fp, w, h.out.mono (fun x δ1 hr F1 H1 fp1 v fv t1 w1 o1 fr1 => ?_) fun _ _ _ z => z⟩
    split at hr
    · rename_i d xs hd
      split at hr
      · rename_i hl
        obtain ⟨a, us, g, hs, ha, r, na, ef⟩ := w1.lstAt hd
        rw [hv0] at hs
        cases hs
        have o1 : Tm X.K F1 H1 (Own fp1) d v fv := o1
        obtain ⟨F2, w2, t2, s2, k2⟩ := w1.frz t1 o1.off fr1
        refine ⟨a0, us, v, rfl, rfl, ha, by rw [r.length]; exact big_lt2 hl, ?_⟩
        have w3 := w2.mut ef hv0 ((r.mono s2 fun _ _ => rfl).append (Reps.one (o1.rep.fz s2 k2)) fun b hb => by simp) (fun z => by
          rw [List.append_nil] at z; exact na z) (fun b hb j n z => by
          rw [List.append_nil] at hb; exact w2.off_in ef b hb j n z) fun b hb => by
          rw [List.append_nil] at hb; exact w2.fr_in ef b hb
        exact hr F2 _ _ σ .refl (Tr.mut t2 ef fun b hb => by
          rw [List.append_nil] at hb
          exact .inl (.inl ⟨i, by rw [ef]; simp [hb]⟩)) w3
      · exact False.elim hr
    · exact False.elim hr
  · exact False.elim h
theorem r_ext {i : Nat} {e : E} {D : Ends} {σ : St} {H : Hp} (h : tR G A call X W L (.ext i e) D σ H) : tDrop (tBM X.K "list" (rExtB X.K) (tVar i) (tCons (tS G A call X W .opd e) tNil)) D σ H := by
  obtain ⟨F, δ, fp, w, h⟩ := h
  simp only [run] at h
  split at h
  · rename_i o ds0 hd0
    obtain ⟨v0, hv0, r0⟩ := w.slot hd0
    obtain ⟨a0, us0, g0, rfl, ha0, _⟩ := Vw.lst w.same ⟨_, r0⟩
    refine ⟨_, hv0, .inl ⟨rfl, us0, .of ha0⟩, ?_⟩
    refine ⟨F, δ, fp, w, h.out.mono (fun x δ1 hr F1 H1 fp1 v fv t1 w1 o1 fr1 => ?_) fun _ _ _ z => z⟩
    split at hr
    · rename_i o' ys xs gx hd
      split at hr
      · rename_i hl
        simp only [Bool.and_eq_true, decide_eq_true_eq] at hl
        obtain ⟨a, us, g, hs, ha, r, na, ef⟩ := w1.lstAt hd
        rw [hv0] at hs
        cases hs
        obtain ⟨b, zs, gb, rfl, hb, rb⟩ := Vw.lst w1.same (o1.see w1 gx)
        have eb := Reps.nil_of_pure hl.1 rb
        subst eb
        refine .inl ⟨a0, b, us, zs, rfl, rfl, ha, hb, by rw [r.length, rb.length]; exact big_line hl.2, ?_⟩
        have w2 := w1.mut ef hv0 (r.append rb fun b hb => by simp) (fun z => by simp at z; exact na z) (fun b hb j n z => by
          simp at hb; exact w1.off_in ef b hb j n z) fun b hb => by
          simp at hb; exact w1.fr_in ef b hb
        exact hr F1 _ _ σ .refl (Tr.mut t1 ef fun b hb => by
          simp at hb
          exact .inl (.inl ⟨i, by rw [ef]; simp [hb]⟩)) w2
      · exact False.elim hr
    · rename_i ys xs gx hd
      split at hr
      · rename_i hl
        simp only [Bool.and_eq_true, decide_eq_true_eq] at hl
        obtain ⟨a, us, g, hs, ha, r, na, ef⟩ := w1.lstAt hd
        rw [hv0] at hs
        cases hs
        obtain ⟨b, zs, gb, rfl, _, hb, rb⟩ := Vw.tup w1.same (o1.see w1 gx)
        have eb := Reps.nil_of_pure hl.1 rb
        subst eb
        refine .inr ⟨a0, b, us, zs, rfl, rfl, ha, hb, by rw [r.length, rb.length]; exact big_line hl.2, ?_⟩
        have w2 := w1.mut ef hv0 (r.append rb fun b hb => by simp) (fun z => by simp at z; exact na z) (fun b hb j n z => by
          simp at hb; exact w1.off_in ef b hb j n z) fun b hb => by
          simp at hb; exact w1.fr_in ef b hb
        exact hr F1 _ _ σ .refl (Tr.mut t1 ef fun b hb => by
          simp at hb
          exact .inl (.inl ⟨i, by rw [ef]; simp [hb]⟩)) w2
      · exact False.elim hr
    · exact False.elim hr
  · exact False.elim h
/-! ### list(range(..)) -/
theorem rgV_reps {K : PySem.W.Frag} {F H : Hp} (a b : Int) : Reps K F H (rngD a b) (rgV a b) [] ∧ D.pures (rngD a b) = true := by
  have e1 : rngD a b = ((List.range (b - a).toNat).map fun (k : Nat) => a + (k : Int)).map D.int := by unfold rngD; rw [List.map_map]; rfl
  have e2 : rgV a b = ((List.range (b - a).toNat).map fun (k : Nat) => a + (k : Int)).map V.int := by unfold rgV; rw [List.map_map]; rfl
  rw [e1, e2]
  exact ⟨reps_ints _, pures_ints _⟩
theorem rgOk {a b : Int} (h1 : -100000 ≤ a) (h2 : a ≤ 100000) (h3 : -100000 ≤ b) (h4 : b ≤ 100000) : RgOk a b := by
  have l62 : (2 : Int) ^ 62 = 4611686018427387904 := by decide
  have l24 : (2 : Nat) ^ 24 = 16777216 := by decide
  unfold RgOk
  omega
theorem tS_mono {m : Md} {e : E} {σ : St} {H : Hp} {Q Q' : VK} (h : tS G A call X W m e σ H Q) (k : ∀ v H, Q v H → Q' v H) : tS G A call X W m e σ H Q' := by
  obtain ⟨F, δ, fp, w, h⟩ := h
  exact ⟨F, δ, fp, w, h.mono (fun x δ1 z F1 H1 fp1 v fv t1 w1 o1 fr1 => k _ _ (z F1 H1 fp1 v fv t1 w1 o1 fr1)) fun _ _ _ z => z⟩
theorem tA_nil {m : Md} {σ : St} {H : Hp} {Q : List V → Hp → Prop} (h : tA G A call X W m .nil σ H Q) : tNil σ H Q := by
  obtain ⟨F, δ, fp, w, h⟩ := h
  simp only [evs] at h
  exact h F H fp [] [] .refl w ⟨rfl, rfl⟩ fun a ha => absurd ha (by simp)
theorem tA_cons {m : Md} {e es : E} {σ : St} {H : Hp} {Q : List V → Hp → Prop} (h : tA G A call X W m (.cons e es) σ H Q) : tCons (tS G A call X W m e) (tA G A call X W m es) σ H Q := by
  obtain ⟨F, δ, fp, w, h⟩ := h
  simp only [evs] at h
  refine ⟨F, δ, fp, w, h.bind.mono (fun x δ1 hr F1 H1 fp1 v fv t1 w1 o1 fr1 => ?_) fun _ _ _ z => z⟩
  refine ⟨F1, δ1, fp1, w1, hr.bind.mono (fun xs δ2 h2 F2 H2 fp2 vs fvs t2 w2 o2 fr2 => ?_) fun c g δ z => z.step (t := t1)⟩
  have h2 : POs X.K σ F H fp Q (x :: xs) δ2 := h2
  refine h2 F2 H2 fp2 (v :: vs) (fv ++ fvs) (t1.trans t2) w2 ⟨v, vs, fv, fvs, rfl, o1.step t2, o2, fun a ha z => ?_, rfl⟩ fun a ha => ?_
  · obtain ⟨u, hu, _⟩ := o1.at a ha
    rcases fr2 a z with q | q
    · cases x with
      | ref i => rw [o1.2] at ha; simp at ha
      | tmp d => exact o1.off a ha q
    · rw [hu] at q; cases q
  · rcases List.mem_append.mp ha with q | q
    · exact fr1 a q
    · exact fresh_trans t1 (fr2 a q)
theorem s_lrg1 {a : E} {m : Md} {σ : St} {H : Hp} {Q : VK} (h : tS G A call X W m (.bl .lrange (.cons a .nil)) σ H Q) : tLstRg (tRg1 (tS G A call X W .opd a)) σ H Q := by
  refine tS_mono (tA_cons (s_bl h)) fun x H1 hx => ?_
  obtain ⟨F, ds, d, s, hv, e, n⟩ := tA_nil hx
  unfold runBl at e
  split at e <;> (try contradiction) <;> (try simp only [reduceCtorEq] at e)
  all_goals (try contradiction)
  · split at e
    · rename_i b _ hb
      cases e
      simp only [Bool.and_eq_true, decide_eq_true_eq] at hb
      obtain ⟨r, p⟩ := rgV_reps (K := X.K) (F := F) (H := H1) 0 b
      refine ⟨b, ?_, rgOk (by omega) (by omega) hb.2 hb.1, n.lst s p r⟩
      have q := ofInts hv
      simpa using q
    · cases e
theorem s_trg1 {a : E} {m : Md} {σ : St} {H : Hp} {Q : VK} (h : tS G A call X W m (.bl .trange (.cons a .nil)) σ H Q) : tTupRg (tRg1 (tS G A call X W .opd a)) σ H Q := by
  refine tS_mono (tA_cons (s_bl h)) fun x H1 hx => ?_
  obtain ⟨F, ds, d, s, hv, e, n⟩ := tA_nil hx
  unfold runBl at e
  split at e <;> (try contradiction) <;> (try simp only [reduceCtorEq] at e)
  all_goals (try contradiction)
  · split at e
    · rename_i b _ hb
      cases e
      simp only [Bool.and_eq_true, decide_eq_true_eq] at hb
      obtain ⟨r, p⟩ := rgV_reps (K := X.K) (F := F) (H := H1) 0 b
      refine ⟨b, ?_, rgOk (by omega) (by omega) hb.2 hb.1, n.tup s p r⟩
      have q := ofInts hv
      simpa using q
    · cases e
theorem s_lrg2 {a b : E} {m : Md} {σ : St} {H : Hp} {Q : VK} (h : tS G A call X W m (.bl .lrange (.cons a (.cons b .nil))) σ H Q) : tLstRg (tRg2 (tS G A call X W .opd a) (tS G A call X W .opd b)) σ H Q := by
  refine tS_mono (tA_cons (s_bl h)) fun x H1 hx => tS_mono (tA_cons hx) fun y H2 hy => ?_
  obtain ⟨F, ds, d, s, hv, e, n⟩ := tA_nil hy
  unfold runBl at e
  split at e <;> (try contradiction) <;> (try simp only [reduceCtorEq] at e)
  all_goals (try contradiction)
  · split at e
    · rename_i a b _ hb
      cases e
      simp only [Bool.and_eq_true, decide_eq_true_eq] at hb
      obtain ⟨r, p⟩ := rgV_reps (K := X.K) (F := F) (H := H2) a b
      have q := ofInts2 hv
      simp only [List.cons.injEq, and_true] at q
      exact ⟨a, b, q.1, q.2, rgOk hb.2 hb.1.2 hb.1.1.2 hb.1.1.1, n.lst s p r⟩
    · cases e
theorem s_trg2 {a b : E} {m : Md} {σ : St} {H : Hp} {Q : VK} (h : tS G A call X W m (.bl .trange (.cons a (.cons b .nil))) σ H Q) : tTupRg (tRg2 (tS G A call X W .opd a) (tS G A call X W .opd b)) σ H Q := by
  refine tS_mono (tA_cons (s_bl h)) fun x H1 hx => tS_mono (tA_cons hx) fun y H2 hy => ?_
  obtain ⟨F, ds, d, s, hv, e, n⟩ := tA_nil hy
  unfold runBl at e
  split at e <;> (try contradiction) <;> (try simp only [reduceCtorEq] at e)
  all_goals (try contradiction)
  · split at e
    · rename_i a b _ hb
      cases e
      simp only [Bool.and_eq_true, decide_eq_true_eq] at hb
      obtain ⟨r, p⟩ := rgV_reps (K := X.K) (F := F) (H := H2) a b
      have q := ofInts2 hv
      simp only [List.cons.injEq, and_true] at q
      exact ⟨a, b, q.1, q.2, rgOk hb.2 hb.1.2 hb.1.1.2 hb.1.1.1, n.tup s p r⟩
    · cases e
/-! ### len(set(xs)), whole numbers -/
def tLset (K : PySem.W.Frag) (ta : TE) : TE := fun σ H Q => ta σ H fun x H1 => ∃ (l : Addr) (ns : List Int), x = .ref l ∧ (SqL K H1 l (ns.map V.int) ∨ SqT K H1 l (ns.map V.int)) ∧ ns.length < 64 ∧ Q (.int (PyProof.Rows.firstMet (fun i => ns.getD i 0) ns.length).length) H1
theorem pe_lset {a : Expr} {ta : TE} {p p2 q pos : Pos} (hc : X.calm = true) (hg : Gl X (Str.ofString "len")) (hm : X.mg (Str.ofString "len") = none) (hg2 : Gl X (Str.ofString "set")) (hm2 : X.mg (Str.ofString "set") = none) (ha : PE X a ta) (hp : starEach [a] X.env = (false, eval a X.env) :: starEach [] X.env) :
    PE X (.Call (.Name (Str.ofString "len") p) [.Call (.Name (Str.ofString "set") p2) [a] [] q] [] pos) (tLset X.K ta) := by
  refine ⟨fun pins s σ H Q I h => ?_⟩
  refine PyProof.Rows.Call_ (ld_blt I hg hm boot_len (PyProof.Rows.callWith_builtin1 (PyProof.Rows.args_cons (PyProof.Rows.Call_ (ld_blt I hg2 hm2 PyProof.Rows.boot_set (PyProof.Rows.callWith_type1 (PyProof.Rows.args_cons (thn (ha.run pins s σ H _ I h) fun v s1 z => PyProof.Rows.args_nil ?_) hp) hp rfl) (by decide) (by decide)) rfl) rfl) rfl rfl) (by decide) (by decide)) rfl
  obtain ⟨x, H1, I1, r1, l, ns, rfl, hq, hl, q1⟩ := z
  obtain rfl : v = Value.ref l := r1
  have sb : (scanBound : Nat) ≤ 2 ^ 62 := by decide
  have l62 : ((2 : Nat) ^ 62 : Nat) = 4611686018427387904 := by decide
  have l62' : ((2 : Int) ^ 62) = 4611686018427387904 := by decide
  have l63 : ((2 : Int) ^ 63) = 9223372036854775808 := by decide
  rcases hq with hq | hq
  rotate_left
  · obtain ⟨its, r, pl, hz⟩ := I1.tuple hq
    refine call_set_tupI (P := X.prog) (w := X.w) ns (Cx.Ok.hd I1.ok hc) pl (by simpa using r.ints) (Nat.lt_of_lt_of_le (Nat.succ_lt_succ hl) (by decide)) fun h' tk c hS hle hk => PyProof.Rows.args_nil ?_
    obtain ⟨o, es, ep, t, ho, hex, hd, hg, hnd, hmem, hb, hf, hn, _, _⟩ := hS
    have I2 := I1.kept (t' := tk) fun b o e => hk b o e
    have ec := firstMet_count (ns := ns) hnd fun k => by rw [← hmem k]; simp
    rw [List.length_map, Array.length_toList] at ec
    refine call_len_set ho hex hd hf ?_ ⟨.int es.size, H1, I2.tok _, ⟨_, rfl⟩, by rw [ec]; exact q1⟩
    omega
  obtain ⟨its, r, pl, hz⟩ := I1.list hq
  have ln : its.length = ns.length := by
    have e := r.length
    rw [List.length_map] at e; exact e.symm
  have sz : its.toArray.size = ns.length := by rw [List.size_toArray, ln]
  refine call_set_list (Cx.Ok.hd I1.ok hc) pl.isList (by simpa using r.ints) (by rw [sz]; exact Nat.lt_of_lt_of_le (Nat.succ_lt_succ hl) (by decide)) fun h' tk hS hk => PyProof.Rows.args_nil ?_
  rw [sz] at hS
  obtain ⟨o, es, ep, t, ho, hex, hd, _, _, hb, hf, hn⟩ := hS
  have I2 := I1.kept (t' := tk) fun b o e => hk b o (Heap.lt_size e) e
  have sb : (scanBound : Nat) ≤ 2 ^ 62 := by decide
  refine call_len_set ho hex hd hf ?_ ⟨.int es.size, H1, I2.tok _, ⟨_, rfl⟩, by rw [hn]; exact q1⟩
  have : (es.size : Int) < 2 ^ 62 := by
    have l62 : ((2 : Nat) ^ 62 : Nat) = 4611686018427387904 := by decide
    have l62' : ((2 : Int) ^ 62) = 4611686018427387904 := by decide
    omega
  have l63 : ((2 : Int) ^ 63) = 9223372036854775808 := by decide
  have l62' : ((2 : Int) ^ 62) = 4611686018427387904 := by decide
  omega
theorem s_lset {a : E} {m : Md} {σ : St} {H : Hp} {Q : VK} (h : tS G A call X W m (.bl .lset (.cons a .nil)) σ H Q) : tLset X.K (tS G A call X W .opd a) σ H Q := by
  refine tS_mono (tA_cons (s_bl h)) fun x H1 hx => ?_
  obtain ⟨F, ds, d, s, hv, e, n⟩ := tA_nil hx
  unfold runBl at e
  split at e <;> (try contradiction) <;> (try simp only [reduceCtorEq] at e)
  all_goals (try contradiction)
  rotate_left
  · split at e
    · rename_i ns hns
      split at e
      · rename_i hl
        cases e
        obtain ⟨v, ev, hv1⟩ := hv.one
        have ev : x = v := by simpa using ev
        subst ev
        obtain ⟨l, us, g, rfl, ha, ha', r⟩ := hv1.tup s
        refine ⟨l, ns, rfl, .inr ?_, of_decide_eq_true hl, n.int s⟩
        rw [← r.ints hns]
        exact ha'
      · cases e
    · cases e
  split at e
  · rename_i ns hns
    split at e
    · rename_i hl
      cases e
      obtain ⟨v, ev, hv1⟩ := hv.one
      have ev : x = v := by simpa using ev
      subst ev
      obtain ⟨l, us, g, rfl, ha, r⟩ := hv1.lst s
      refine ⟨l, ns, rfl, .inl ?_, of_decide_eq_true hl, n.int s⟩
      rw [← r.ints hns]
      exact .of ha
    · cases e
  · cases e
end
end IR
namespace IR
open PySem PySem.Spec L2
/-! ### x.update(y), two dicts -/
def mrgK (kvs : List (Key × V)) : List (Key × V) → List (Key × V)
  | [] => kvs
  | p :: more => mrgK (putK kvs p.1 p.2) more
theorem mrgK_len : ∀ (more kvs : List (Key × V)), (mrgK kvs more).length ≤ kvs.length + more.length
  | [], kvs => Nat.le_refl _
  | p :: more, kvs => by
    have a := mrgK_len more (putK kvs p.1 p.2)
    have b := length_putK kvs p.1 p.2
    simp only [mrgK, List.length_cons] at a ⊢
    omega
theorem KV.mrg : ∀ {more : List (Key × V)} {ms : List (Key × Value)} {kvs : List (Key × V)} {vs : List (Key × Value)}, KV kvs vs → KV more ms → KV (mrgK kvs more) (merged vs ms)
  | [], ms, kvs, vs, r, q => by
    have : ms = [] := by cases q; rfl
    subst this
    exact r
  | p :: more, ms, kvs, vs, r, q => by
    cases q with
    | cons h t =>
      rename_i b bs
      obtain ⟨e, rv⟩ := h
      have := KV.mrg (r.put p.1 rv) t
      have e2 : merged vs (b :: bs) = merged (stored vs b.1 b.2) bs := rfl
      rw [e2, ← e]
      exact this
def rUpd : V → List V → Hp → VK → Prop := fun x xs H Q => ∃ (l b : Addr) (kvs more : List (Key × V)), x = .ref l ∧ xs = [.ref b] ∧ l ≠ b ∧ H l = some (.dK kvs) ∧ H b = some (.dK more) ∧ kvs.length + more.length ≤ sizeLine ∧ Q .non (upd H l (.dK (mrgK kvs more)))
section
variable {X : Cx}
theorem mt_upd : MtM X "dict.update" rUpd := by
  intro pins s σ H x xs v us Q I rx rv h
  obtain ⟨l, b, kvs, more, rfl, rfl, ne, hl, hb, hz, q⟩ := h
  cases rx
  obtain ⟨u, rfl, ru⟩ := rv.one
  cases ru
  obtain ⟨z1, hd1, vs, rel, dd⟩ := dk_of I.hok hl
  obtain ⟨z2, hd2, ms, rel2, dd2⟩ := dk_of I.hok hb
  refine call_meetsIn PySem.F.slot_dict_update dd.typeIs PySem.F.entry_dict_update (PySem.F.args_dict_update_2 _ _) (meets_dict_update (mixKind X.prog X.w) l b ne hd2)
    ⟨vs, ms, dd, dd2, by rw [← Paired.length rel, ← Paired.length rel2]; exact hz, fun h' d1 d2 hs => ?_⟩
  have he : ∃ q, h'.get? l = some q := let ⟨q, _, _, hq, _⟩ := d1; ⟨q, hq⟩
  exact ⟨.non, _, d_write I (by rw [hl]; exact True.intro) hs he (dk_new (Nat.le_trans (mrgK_len more kvs) hz) hd1 (KV.mrg rel rel2) d1), rfl, q⟩
end
theorem mrg_rep {K : PySem.W.Frag} {F H : Hp} : ∀ {more kvs : List (Key × V)} {ds es : List D}, Reps K F H ds (kvs.map (·.2)) [] → Reps K F H es (more.map (·.2)) [] →
    (mrgKD (kvs.map (·.1)) ds (more.map (·.1)) es).1 = (mrgK kvs more).map (·.1) ∧ Reps K F H (mrgKD (kvs.map (·.1)) ds (more.map (·.1)) es).2 ((mrgK kvs more).map (·.2)) []
  | [], kvs, ds, es, r, q => by
    have e : mrgKD (kvs.map (·.1)) ds (([] : List (Key × V)).map (·.1)) es = (kvs.map (·.1), ds) := by cases es <;> rfl
    rw [e]
    exact ⟨rfl, r⟩
  | p :: more, kvs, [], es, r, q => by
    cases es with
    | nil => simp [Reps] at q
    | cons d es =>
      obtain ⟨h1, h2⟩ := reps_nil q
      obtain ⟨c1, c2⟩ := dct_put (k := p.1) h1 r
      simp only [List.map_cons, mrgKD, mrgK]
      rw [c1]
      exact mrg_rep c2 h2
  | p :: more, kvs, x :: ds, es, r, q => by
    cases es with
    | nil => simp [Reps] at q
    | cons d es =>
      obtain ⟨h1, h2⟩ := reps_nil q
      obtain ⟨c1, c2⟩ := dct_put (k := p.1) h1 r
      simp only [List.map_cons, mrgKD, mrgK]
      rw [c1]
      exact mrg_rep c2 h2
section
variable {G : Tab} {A : Nat → Addr} {call : Calls} {X : Cx} {W : WX} {L : List Nat}
theorem r_dupd {i j : Nat} {D : Ends} {σ : L2.St} {H : Hp} (h : tR G A call X W L (.dupd i j) D σ H) : tDrop (tBM X.K "dict" rUpd (tVar i) (tCons (tVar j) tNil)) D σ H := by
  obtain ⟨F, δ, fp, w, h⟩ := h
  simp only [run] at h
  split at h
  · rename_i ks vs ks2 vs2 hi hj
    split at h
    · rename_i hc
      simp only [Bool.and_eq_true, decide_eq_true_eq] at hc
      obtain ⟨⟨⟨ne, p1⟩, p2⟩, hl⟩ := hc
      obtain ⟨v1, hv1, a, kvs, g, rfl, ha, ek, r, na, ef⟩ := w.slot hi
      obtain ⟨v2, hv2, b, more, g2, rfl, hb, ek2, r2, nb, ef2⟩ := w.slot hj
      have e1 := Reps.nil_of_pure p1 r
      have e2 := Reps.nil_of_pure p2 r2
      subst e1; subst e2; subst ek; subst ek2
      have hab : a ≠ b := fun z => w.dj i j ne a (by rw [ef]; simp) (by rw [ef2, z]; simp)
      obtain ⟨c1, c2⟩ := mrg_rep r r2
      refine ⟨_, hv1, .inr (.inr (.inl ⟨rfl, .inl ⟨kvs, ha⟩⟩)), _, hv2, a, b, kvs, more, rfl, rfl, hab, ha, hb, ?_, ?_⟩
      · simp only [List.length_map] at hl; exact big_line hl
      · have w2 := w.mutU (u := .dK (mrgK kvs more)) (dn := .dct true (mrgKD (kvs.map (·.1)) vs (more.map (·.1)) vs2).1 (mrgKD (kvs.map (·.1)) vs (more.map (·.1)) vs2).2) (g' := []) ef hv1 ⟨a, mrgK kvs more, [], rfl, upd_same, c1, c2.mono (.refl _) (fun b hb => absurd hb (by simp)), by simp, rfl⟩ (fun b hb => absurd hb (by simp)) (fun b hb => absurd hb (by simp))
        exact h F _ _ σ .refl (Tr.mut .refl ef fun b hb => absurd hb (by simp)) w2
    · exact False.elim h
  · exact False.elim h
end
end IR
namespace IR
open PySem PySem.Spec PyProof.Rows L2
/-- a set that was just made -/
abbrev fsO (w : World) : Obj := { cls := .type "set", dict := none, data := .set #[] 0 (.fresh 0 0 (!w.params.followText "set-order")) }
section
variable {P : Program} {w : World} {A : Around} {E : Value → Shared → Prop} {s : Shared}
set_option maxHeartbeats 3200000 in
/-- set(xs) of a list of ints -/
theorem call_set_lstI {lx : Addr} {vs : Array Value} (zs : List Int) {Q : Value → Shared → Prop} (calmA : A.handled = none) (isl : s.heap.IsList lx vs) (iz : IntsAre vs.toList zs) (few : zs.length + 1 < scanBound)
    (k : ∀ (g : Heap) (tk c : Nat), SetR w g s.heap.objs.size (fun j => decide (j ∈ zs)) c → c ≤ zs.length → (∀ b o, s.heap.get? b = some o → g.get? b = some o) → Q (.ref s.heap.objs.size) { s with heap := g, toks := tk }) :
    wpAny (model P w) A (call (.type "set") [.ref lx]) Q E s := by
  have vz : vs.size = zs.length := by have z := IntsAre.length iz; rwa [Array.length_toList] at z
  obtain ⟨c0, t0, mro0⟩ := F.called_set.mro
  have d1 := F.called_set.made; have d2 := F.called_set.sub
  refine wpAny_call (codeAny_of_tree ?_); show wpAny _ _ (callAny (.type "set") _) _ _ _
  refine wpAny_pure ⟨Code.quiet_builtin _ (by decide +kernel), codeAny_builtin F.entry_type_call ?_⟩; rw [Around.under_plain (weight_type_call_type "set" [.ref lx] []) rfl]
  have d3 := F.called_set.notType; have d4 := F.called_set.canCreate; have d5 := F.typeCall_set_1 (.ref lx)
  repeat (any_goals (first | assumption | wp_step))
  refine codeAny_mono (code_set_led1 (.ref lx) (E := E) (Q₁ := fun ob s₁ => ob = .ref s.heap.objs.size ∧ s₁ = { s with heap := s.heap.push (fsO w) }) ⟨rfl, rfl⟩) fun r1 u1 hr1 => ?_
  rcases r1 with z1 | f1
  · exact hr1
  cases f1 <;> first | exact hr1.elim | skip
  obtain ⟨rfl, rfl⟩ := hr1
  have o1 : (s.heap.push (fsO w)).get? s.heap.objs.size = some (fsO w) := Heap.get?_push_size _ rfl
  have o2 : Shared.TypeIs { s with heap := s.heap.push (fsO w) } (.ref s.heap.objs.size) "set" := ⟨_, o1, rfl⟩
  have d6 := F.called_set.init.lookup; have d7 := F.called_set.init.bind (.ref s.heap.objs.size)
  repeat (any_goals (first | assumption | wp_step))
  refine codeAny_mono (codeAny_call_builtin (R := wants (fun r u => r = .none ∧ ∃ g tk c, u = { s with heap := g, toks := tk } ∧ SetR w g s.heap.objs.size (fun j => decide (j ∈ zs)) c ∧ c ≤ zs.length ∧
    (∀ b o, s.heap.get? b = some o → g.get? b = some o)) E) F.called_set.init.plain F.entry_set_init (check_set_init_1 o2 ?_)) fun r2 u2 hr2 => ?_
  rotate_left
  · rcases r2 with z2 | f2
    · exact hr2
    cases f2 <;> first | exact hr2.elim | skip
    obtain ⟨rfl, g, tk, c, rfl, a1, a2, a3⟩ := hr2
    repeat (any_goals (first | assumption | wp_step))
    exact k _ _ _ a1 a2 a3
  obtain ⟨⟨lc, ldd, lda, lsl⟩, hol, hcl, nl, hdl⟩ := isl
  simp only at hcl hdl; subst hcl; subst hdl
  have o3 : (s.heap.push (fsO w)).get? lx = some { cls := .type "list", dict := ldd, data := .seq vs nl, slots := lsl } := Heap.get?_push_of_some _ hol
  have d8 := F.sub_list_set; have d9 := F.sub_list_frozenset
  have d10 : (Value.type "list" == Value.type "dict") = false := by decide
  have o4 : (s.heap.push (fsO w)).IsList lx vs := ⟨_, o3, rfl, nl, rfl⟩
  unfold Builtin.«set.__init__» noKeywords Builtin.Frozenset.updateFrom; generalize hPI : pyIter = PI
  wp_walk
  subst hPI
  refine wpAny_pyIter_list o4 ?_; refine wpAny_bind (wpAny_runValue ?_)
  have b0 : lx < s.heap.objs.size := Heap.lt_size hol
  have z0 : (s.heap.push (fsO w)).objs.size = s.heap.objs.size + 1 := Heap.size_push ..
  have b1 : lx ≠ (s.heap.push (fsO w)).objs.size := by rw [z0]; exact Nat.ne_of_lt (Nat.lt_succ_of_lt b0)
  have b2 : s.heap.objs.size ∉ [(s.heap.push (fsO w)).objs.size, lx] := by
    rw [z0]; simp only [List.mem_cons, List.not_mem_nil, or_false, not_or]; exact ⟨Nat.ne_of_lt (Nat.lt_succ_self _), Nat.ne_of_gt b0⟩
  have hv : ∀ (i : Nat) (x : Value), vs[i]? = some x → ∃ j t, zs[i]? = some j ∧ x = .int j t := fun i x hx => by
    have hi : i < zs.length := by rw [← vz]; exact (Array.getElem?_eq_some_iff.mp hx).1
    obtain ⟨t, e⟩ := PyProof.Rows.IntsAre.int_at iz i x (by rwa [Array.getElem?_toList])
    exact ⟨zs[i], t, List.getElem?_eq_getElem hi, by rw [e, List.getD_eq_getElem?_getD, List.getElem?_eq_getElem hi]; rfl⟩
  refine set_update_ints ((Walks.list (by simp [calmA]) _ lx b1 vs).toS) s.heap.objs.size b2 zs vz few hv (vs.size - 0) 0 _ (by omega) (Nat.zero_le _) ⟨⟨_, Heap.get?_push_size _ rfl, rfl, rfl⟩, o4.push _⟩ ⟨0, Nat.le_refl 0, setR_new_at (Heap.get?_push_of_some _ o1)⟩ ?_
  rintro ⟨g, g2, dr, tk, os⟩ c hm hc hS
  obtain rfl : g2 = s.gens := hm.gens
  obtain rfl : dr = s.drawn := hm.drawn
  obtain rfl : os = s.os := hm.os
  show wpAny _ _ _ _ _ _
  refine wpAny_pure ?_
  show wpAny _ _ (ret Value.none) _ _ _
  refine wpAny_pure ⟨rfl, g, tk, c, rfl, hS, by omega, fun b o e => hm.heap b o ?_ (Heap.get?_push_of_some _ (Heap.get?_push_of_some _ e))⟩
  have e0 : b < s.heap.objs.size := Heap.lt_size e
  rw [z0]; simp only [List.mem_cons, List.not_mem_nil, or_false, not_or]; exact ⟨Nat.ne_of_lt e0, Nat.ne_of_lt (Nat.lt_succ_of_lt e0)⟩
end
/-! ### sorted(set(xs)), the rule -/
def tSset (K : PySem.W.Frag) (ta : TE) : TE := fun σ H Q => ta σ H fun x H1 => ∃ (l : Addr) (ns : List Int), x = .ref l ∧ SqL K H1 l (ns.map V.int) ∧ ns.length < 64 ∧ ∀ p, H1 p = none → Q (.ref p) (upd H1 p (.lst ((setI ns).map V.int)))
section
variable {X : Cx}
theorem pe_sset {a : Expr} {ta : TE} {p p2 q pos : Pos} (hc : X.calm = true) (hg : Gl X (Str.ofString "sorted")) (hm : X.mg (Str.ofString "sorted") = none) (hg2 : Gl X (Str.ofString "set")) (hm2 : X.mg (Str.ofString "set") = none) (ha : PE X a ta) (hp : starEach [a] X.env = (false, eval a X.env) :: starEach [] X.env) :
    PE X (.Call (.Name (Str.ofString "sorted") p) [.Call (.Name (Str.ofString "set") p2) [a] [] q] [] pos) (tSset X.K ta) := by
  refine ⟨fun pins s σ H Q I h => ?_⟩
  refine PyProof.Rows.Call_ (ld_blt I hg hm PyProof.Rows.boot_sorted (PyProof.Rows.callWith_builtin1 (PyProof.Rows.args_cons (PyProof.Rows.Call_ (ld_blt I hg2 hm2 PyProof.Rows.boot_set (PyProof.Rows.callWith_type1 (PyProof.Rows.args_cons (thn (ha.run pins s σ H _ I h) fun v s1 z => PyProof.Rows.args_nil ?_) hp) hp rfl) (by decide) (by decide)) rfl) rfl) rfl rfl) (by decide) (by decide)) rfl
  obtain ⟨x, H1, I1, r1, l, ns, rfl, hq, hl, q1⟩ := z
  obtain rfl : v = Value.ref l := r1
  obtain ⟨its, r, pl, hz⟩ := I1.list hq
  have hit : IntsAre its ns := by simpa using r.ints
  refine call_set_lstI ns (Cx.Ok.hd I1.ok hc) pl.isList (by simpa using hit) (by unfold scanBound; omega) fun h' tk c hS hle hk => PyProof.Rows.args_nil ?_
  have I2 := I1.kept (t' := tk) fun b o e => hk b o e
  refine sorted_set hS (Cx.Ok.hd I2.ok hc) (by omega) fun s' p' out c' zs k g o hp' hg' hi hs hmm hln => ?_
  have hn : H1 p' = none := I2.hok.fresh hp'
  have ez : zs = setI ns := ascU hs (setI_st ns) fun k => by rw [hmm, setI_mem]; simp
  subst ez
  have hlen : ((setI ns).map V.int).length ≤ sizeLine := by rw [List.length_map, hln, sizeLine_eq]; omega
  exact ⟨.ref p', _, I2.call' (ch := []) (H' := upd H1 p' (.lst ((setI ns).map V.int))) o (Un.laid k hp' hn) (I2.hok.laid k hp' ⟨hlen, out.toList, c', vals_of_ints hi, hg'⟩) (by rw [g]; exact I2.bare) (fun _ z => nomatch z), rfl, q1 p' hn⟩
end
section
variable {G : Tab} {A : Nat → Addr} {call : Calls} {X : Cx} {W : WX}
theorem s_sset {a : E} {m : Md} {σ : L2.St} {H : Hp} {Q : VK} (h : tS G A call X W m (.bl .sset (.cons a .nil)) σ H Q) : tSset X.K (tS G A call X W .opd a) σ H Q := by
  refine tS_mono (tA_cons (s_bl h)) fun x H1 hx => ?_
  obtain ⟨F, ds, d, s, hv, e, n⟩ := tA_nil hx
  unfold runBl at e
  split at e <;> (try contradiction) <;> (try simp only [reduceCtorEq] at e)
  all_goals (try contradiction)
  split at e
  · rename_i ns hns
    split at e
    · rename_i hl
      cases e
      obtain ⟨v, ev, hv1⟩ := hv.one
      obtain rfl : x = v := by simpa using ev
      obtain ⟨l, us, g, rfl, ha, r⟩ := hv1.lst s
      exact ⟨l, ns, rfl, by rw [← r.ints hns]; exact .of ha, of_decide_eq_true hl, n.lst s (pures_ints _) (reps_ints _)⟩
    · cases e
  · cases e
end
end IR
namespace IR
open PySem PySem.Spec L2
/-! ### a walk over a dict's items: the dict is locked -/
section
variable {K : PySem.W.Frag} {F H F' H' : Hp} {σ : St} {δ : Ev} {fp : Fp}
structure Sw (K : PySem.W.Frag) (F F' : Hp) : Prop where
  tup : ∀ a xs, SqT K F a xs → SqT K F' a xs
  lst : ∀ a xs, F a = some (.lst xs) → F' a = some (.lst xs)
  sql : ∀ a xs, SqL K F a xs → SqL K F' a xs
  dct : ∀ a kvs, Rd F a (.dK kvs) → Rd F' a (.dK kvs)
mutual
theorem Rep.sw (s : Sw K F F') : ∀ {d : D} {v : V} {f : List Addr}, (∀ a ∈ f, H' a = H a) → Rep K F H d v f → Rep K F' H' d v f
  | .non, _, _, _, h | .bl _, _, _, _, h | .int _, _, _, _, h | .str _, _, _, _, h => h
  | .tup ds, _, _, k, ⟨a, xs, e, hs, hr⟩ => ⟨a, xs, e, s.tup _ _ hs, Reps.sw s k hr⟩
  | .lst true ds, _, _, k, ⟨a, xs, g, e, hs, hr, n, ef⟩ => ⟨a, xs, g, e, by rw [k a (by simp [ef])]; exact hs, Reps.sw s (fun b hb => k b (by simp [ef, hb])) hr, n, ef⟩
  | .scr ns, _, _, k, ⟨a, e, hs, ef⟩ => ⟨a, e, s.sql _ _ hs, ef⟩
  | .lst false ds, _, _, k, ⟨a, xs, e, hs, hr, ef⟩ => ⟨a, xs, e, s.lst _ _ hs, Reps.sw s (fun b hb => absurd hb (by simp)) hr, ef⟩
  | .dct true ks ds, _, _, k, ⟨a, kvs, g, e, hs, ek, hr, n, ef⟩ => ⟨a, kvs, g, e, by rw [k a (by simp [ef])]; exact hs, ek, Reps.sw s (fun b hb => k b (by simp [ef, hb])) hr, n, ef⟩
  | .dct false ks ds, _, _, k, ⟨a, kvs, e, hs, ek, hr, ef⟩ => ⟨a, kvs, e, s.dct _ _ hs, ek, Reps.sw s (fun b hb => absurd hb (by simp)) hr, ef⟩
theorem Reps.sw (s : Sw K F F') : ∀ {ds : List D} {vs : List V} {f : List Addr}, (∀ a ∈ f, H' a = H a) → Reps K F H ds vs f → Reps K F' H' ds vs f
  | [], _, _, _, h => h
  | d :: ds, _, _, k, ⟨x, r, f1, f2, e, h1, h2, dj, ef⟩ => ⟨x, r, f1, f2, e, Rep.sw s (fun a ha => k a (by simp [ef, ha])) h1, Reps.sw s (fun a ha => k a (by simp [ef, ha])) h2, dj, ef⟩
end
/-- the dict at d, locked or not -/
structure Rl (d : Addr) (kvs : List (Key × V)) (F F' : Hp) : Prop where
  ne : ∀ b, b ≠ d → F' b = F b
  a : Rd F d (.dK kvs)
  b : Rd F' d (.dK kvs)
theorem Rl.neU {d a : Addr} {kvs : List (Key × V)} (r : Rl d kvs F F') {u : HO} (h : F a = some u) (n1 : ∀ kvs, u ≠ .dK kvs) (n2 : ∀ o kvs, u ≠ .frz o (.dK kvs)) : F' a = some u := by
  by_cases e : a = d
  · subst e
    rcases r.a with z | ⟨o, z⟩
    · rw [h] at z; cases z; exact absurd rfl (n1 _)
    · rw [h] at z; cases z; exact absurd rfl (n2 _ _)
  · rw [r.ne a e]; exact h
theorem Rl.sw {d : Addr} {kvs : List (Key × V)} (r : Rl d kvs F F') : Sw K F F' where
  tup := fun a xs h => by
    rcases h with (h | ⟨o, h⟩) | h
    · exact .inl (.inl (r.neU h (fun _ z => by cases z) fun _ _ z => by cases z))
    · exact .inl (.inr ⟨o, r.neU h (fun _ z => by cases z) fun _ _ z => by cases z⟩)
    · exact .inr h
  lst := fun a xs h => r.neU h (fun _ z => by cases z) fun _ _ z => by cases z
  sql := fun a xs h => by
    rcases h with (h | ⟨o, h⟩) | h
    · exact .inl (.inl (r.neU h (fun _ z => by cases z) fun _ _ z => by cases z))
    · exact .inl (.inr ⟨o, r.neU h (fun _ z => by cases z) fun _ _ z => by cases z⟩)
    · exact .inr h
  dct := fun a ls h => by
    by_cases e : a = d
    · subst e
      have q : ls = kvs := by
        rcases r.a with z | ⟨o, z⟩ <;> rcases h with h | ⟨o', h⟩ <;> rw [h] at z <;> cases z <;> rfl
      rw [q]; exact r.b
    · unfold Rd
      rw [r.ne a e]; exact h
theorem Rl.some {d : Addr} {kvs : List (Key × V)} (r : Rl d kvs F F') : ∃ u, F d = some u := by
  rcases r.a with z | ⟨o, z⟩
  · exact ⟨_, z⟩
  · exact ⟨_, z⟩
theorem Wd.rl {d : Addr} {kvs : List (Key × V)} (w : Wd K F H σ δ fp) (r : Rl d kvs F F') (rh : ∀ b, b ≠ d → H' b = H b) (e : H' d = F' d) : Wd K F' H' σ δ fp where
  same := fun b u h => by
    by_cases q : b = d
    · subst q; rw [e]; exact h
    · rw [rh b q]; rw [r.ne b q] at h; exact w.same b u h
  rep := fun i dd h => by
    obtain ⟨v, hv, rr⟩ := w.rep i dd h
    refine ⟨v, hv, rr.sw r.sw fun a ha => rh a fun z => ?_⟩
    obtain ⟨u, hu⟩ := r.some
    have n := w.fr i a ha
    rw [z, hu] at n; cases n
  out := w.out
  dj := w.dj
  fr := fun i a ha => by
    have n := w.fr i a ha
    obtain ⟨u, hu⟩ := r.some
    rw [r.ne a fun z => by rw [z, hu] at n; cases n]; exact n
  len := w.len
end
section
variable {G : Tab} {A : Nat → Addr} {call : Calls} {X : Cx} {W : WX} {L : List Nat}
theorem OG.noerr {K : PySem.W.Frag} {σ : St} {F H : Hp} {fp : Fp} {D : Ends} {W2 : WX} {o : Out} (h : OG G A K L σ F H fp D W o.noerr) : OG G A K L σ F H fp D W2 o := by
  cases o with
  | err c g δ => exact False.elim h
  | _ => exact h
/-- the ends of what runs while d is locked -/
def lockD (d : Addr) (od : Obj) (u : HO) (D : Ends) : Ends := ⟨fun σ' H' => H' d = some (.frz od u) ∧ D.nx σ' (upd H' d u), fun v H' => H' d = some (.frz od u) ∧ D.rt v (upd H' d u), fun σ' H' => H' d = some (.frz od u) ∧ D.bk σ' (upd H' d u), fun σ' H' => H' d = some (.frz od u) ∧ D.ct σ' (upd H' d u)⟩
theorem OG.lockd {K : PySem.W.Frag} {σ : St} {F H : Hp} {fp : Fp} {D : Ends} {W2 : WX} {o : Out} {d : Addr} {od : Obj} {kvs : List (Key × V)} (hF : F d = some (.dK kvs)) (w : Same F H) (h : OG G A K L σ F H fp D W o.noerr) :
    OG G A K L σ (upd F d (.frz od (.dK kvs))) (upd H d (.frz od (.dK kvs))) fp (lockD d od (.dK kvs) D) W2 o := by
  have key : ∀ {F' H' : Hp} {fp' : Fp} {σ' : St} {δ' : Ev}, Tr (upd F d (.frz od (.dK kvs))) (upd H d (.frz od (.dK kvs))) (Own fp) F' H' (Own fp') → Wd K F' H' σ' δ' fp' →
      H' d = some (.frz od (.dK kvs)) ∧ F' d = some (.frz od (.dK kvs)) ∧ Tr F H (Own fp) (upd F' d (.dK kvs)) (upd H' d (.dK kvs)) (Own fp') ∧ Rl d kvs F' (upd F' d (.dK kvs)) ∧ Wd K (upd F' d (.dK kvs)) (upd H' d (.dK kvs)) σ' δ' fp' := by
    intro F' H' fp' σ' δ' t w'
    have f1 : F' d = some (.frz od (.dK kvs)) := t.same d _ upd_same
    have h1 : H' d = some (.frz od (.dK kvs)) := w'.same d _ f1
    have r : Rl d kvs F' (upd F' d (.dK kvs)) := ⟨fun b q => upd_ne q, .inr ⟨od, f1⟩, .inl upd_same⟩
    refine ⟨h1, f1, ⟨fun b u e => ?_, fun b u e n => ?_, fun a ha => ?_, fun a u e1 e2 m n => ?_⟩, r, w'.rl r (fun b q => upd_ne q) (by rw [upd_same, upd_same])⟩
    · by_cases q : b = d
      · subst q; rw [hF] at e; rw [upd_same]; exact e
      · rw [upd_ne q]; exact t.same b u (by rw [upd_ne q]; exact e)
    · by_cases q : b = d
      · subst q; rw [w _ _ hF] at e; rw [upd_same]; exact e
      · rw [upd_ne q]; exact t.frame b u (by rw [upd_ne q]; exact e) n
    · rcases t.fresh a ha with z | z
      · exact .inl z
      · by_cases q : a = d
        · subst q; rw [upd_same] at z; cases z
        · rw [upd_ne q] at z; exact .inr z
    · have q : a ≠ d := fun q => by rw [q, hF] at e1; cases e1
      rw [upd_ne q]
      exact t.grow a u (by rw [upd_ne q]; exact e1) (by rw [upd_ne q]; exact e2) m n
  cases o with
  | nx δ' => exact fun F' H' fp' σ' ag t w' => by obtain ⟨h1, _, t2, _, w2⟩ := key t w'; exact ⟨h1, h _ _ fp' σ' ag t2 w2⟩
  | brk δ' => exact fun F' H' fp' σ' ag t w' => by obtain ⟨h1, _, t2, _, w2⟩ := key t w'; exact ⟨h1, h _ _ fp' σ' ag t2 w2⟩
  | ct δ' => exact fun F' H' fp' σ' ag t w' => by obtain ⟨h1, _, t2, _, w2⟩ := key t w'; exact ⟨h1, h _ _ fp' σ' ag t2 w2⟩
  | ret dd δ' =>
    exact fun F' H' fp' σ' v f ag t w' m fr => by
      obtain ⟨h1, f1, t2, r, w2⟩ := key t w'
      have nd : ∀ a ∈ f, a ≠ d := fun a ha q => by
        have z := m.fr a ha
        rw [q, f1] at z; cases z
      refine ⟨h1, h _ _ fp' σ' v f ag t2 w2 ⟨m.rep.sw r.sw fun a ha => upd_ne (nd a ha), fun a ha => by rw [upd_ne (nd a ha)]; exact m.fr a ha, m.off⟩ fun a ha => ?_⟩
      rcases fr a ha with z | z
      · exact .inl z
      · by_cases q : a = d
        · subst q; rw [upd_same] at z; cases z
        · rw [upd_ne q] at z; exact .inr z
  | err c g δ' => exact False.elim h
  | stuck => exact h
theorem itemsD_at {k : Key} : ∀ {kvs : List (Key × V)} {ds : List IR.D} {i : Nat} {d : IR.D}, (itemsD (kvs.map (·.1)) ds)[i]? = some d → ∃ k v x, kvs[i]? = some (k, v) ∧ ds[i]? = some x ∧ d = .tup [keyD k, x]
  | [], ds, i, d, h => by simp [itemsD] at h
  | (l, v) :: kvs, [], i, d, h => by simp [itemsD] at h
  | (l, v) :: kvs, x :: ds, 0, d, h => by
    simp [itemsD] at h
    exact ⟨l, v, x, rfl, rfl, h.symm⟩
  | (l, v) :: kvs, x :: ds, i + 1, d, h => by
    simp only [List.map_cons, itemsD, List.getElem?_cons_succ] at h
    obtain ⟨k2, v2, x2, e1, e2, e3⟩ := itemsD_at (k := k) h
    exact ⟨k2, v2, x2, by simpa using e1, by simpa using e2, e3⟩
theorem itemsD_len : ∀ {ks : List Key} {ds : List IR.D}, ks.length = ds.length → (itemsD ks ds).length = ks.length
  | [], [], _ => rfl
  | [], _ :: _, h => by simp at h
  | _ :: _, [], h => by simp at h
  | k :: ks, d :: ds, h => by simp only [itemsD, List.length_cons]; rw [itemsD_len (by simpa using h)]
theorem Wlk.items {K : PySem.W.Frag} {F H : Hp} {a : Addr} {o : Obj} {kvs : List (Key × V)} {ds : List IR.D} (ha : F a = some (.frz o (.dK kvs))) (r : Reps K F H ds (kvs.map (·.2)) []) : Wlk K F (Iti a o kvs) (itemsD (kvs.map (·.1)) ds) := by
  have hl : (itemsD (kvs.map (·.1)) ds).length = kvs.length := by
    rw [itemsD_len (by have := r.length; simp at this ⊢; omega)]; simp
  refine ⟨fun i F' H2 s1 s2 l => ⟨s2 _ _ (s1 _ _ ha), by omega⟩, fun i F' H2 s1 s2 l => ⟨s2 _ _ (s1 _ _ ha), by omega⟩, fun i F' H2 x H3 s1 s2 y d hd => ?_⟩
  obtain ⟨T, k, v, e1, rfl, hn, rfl⟩ := y
  obtain ⟨k2, v2, x2, e2, e3, rfl⟩ := itemsD_at (k := k) hd
  rw [e1] at e2
  cases e2
  obtain ⟨z, hz, rz⟩ := r.nth0 e3
  rw [List.getElem?_map, e1] at hz
  cases hz
  have ex := Ext.updF (F := F') (H := H2) s2 hn (o := .tup [kV k, v])
  exact ⟨_, ex, T, [kV k, v], rfl, .inl (.inl upd_same), reps_mk keyD_rep (reps_mk (rz.mono (s1.trans ex.1) fun _ h => absurd h (by simp)) ⟨rfl, rfl⟩)⟩
/-- a walk over what stays -/
theorem for_fix {tg : Tg} {b : S} {D : Ends} {F H : Hp} {σ : St} {δ : Ev} {fp : Fp} {J : It} {xs : List IR.D} {wi : TI} (ht : ∀ j ∈ tg.own, j ∉ L) (w : Wd X.K F H σ δ fp) (wk : Wlk X.K F J xs) (hw : ∀ R : It → Hp → Prop, R J H → wi σ H R)
    (h : OG G A X.K L σ F H fp D W (loopF (forF G call tg b) xs δ)) : tFor wi (tTg X.K tg) (tR G A call X W L b) D σ H := by
  refine hw _ ?_
  refine ⟨fun i m σ1 H' => m = xs.length - i ∧ i ≤ xs.length ∧ ∃ F' δ' fp', Same F F' ∧ Wd X.K F' H' σ1 δ' fp' ∧ OG G A X.K L σ1 F' H' fp' D W (loopF (forF G call tg b) (xs.drop i) δ'), ⟨xs.length, rfl, Nat.zero_le _, F, δ, fp, .refl _, w, h⟩, ?_⟩
  rintro i m σ1 H' ⟨rfl, il, F', δ', fp', sF, w', h⟩
  by_cases l : i < xs.length
  · rw [List.drop_eq_getElem_cons l] at h
    unfold loopF at h
    refine .inr ⟨wk.go i F' H' sF w'.same l, fun σ2 H'' => ∃ F'' δ' fp', Same F F'' ∧ Wd X.K F'' H'' σ2 δ' fp' ∧ OG G A X.K L σ2 F'' H'' fp' D W (loopF (forF G call tg b) (xs.drop (i + 1)) δ'), fun σ' H'' z => ⟨_, by omega, rfl, by omega, z⟩, fun x Hx y => ?_⟩
    obtain ⟨F2, ex, rd⟩ := wk.yld i F' H' x Hx sF w'.same y _ (List.getElem?_eq_getElem l)
    exact for_body ht w' ex rd h fun F3 H3 fp3 σ3 δ3 a3 t3 w3 z => ⟨F3, δ3, fp3, sF.trans t3.same, w3, z⟩
  · have e : xs.drop i = [] := List.drop_eq_nil_iff.mpr (by omega)
    rw [e] at h
    exact .inl ⟨wk.stop i F' H' sF w'.same (by omega), h F' H' fp' σ1 .refl .refl w'⟩
def tForD (G : Tab) (A : Nat → Addr) (call : Calls) (X : Cx) (W : WX) (L : List Nat) (tg : Tg) (i : Nat) (b : S) : TS := tFor (iItems (tVar i)) (tTg X.K tg) (tR G A call X W L b)
theorem r_forD {tg : Tg} {i : Nat} {b : S} {D : Ends} {σ : St} {H : Hp} (ht : ∀ j ∈ tg.own, j ∉ L) (h : tR G A call X W L (.forD tg i b) D σ H) :
    tForD G A call X W L tg i b D σ H ∨ tLock (tForD G A call X W L tg i b) D σ H := by
  obtain ⟨F, δ, fp, w, h⟩ := h
  simp only [run] at h
  split at h
  · rename_i o ks vs hd
    split at h
    · rename_i pv
      obtain ⟨F2, fp2, w2, t2⟩ : ∃ F2 fp2, Wd X.K F2 H σ (δ.set i (some (IR.D.dct false ks vs))) fp2 ∧ Tr F H (Own fp) F2 H (Own fp2) := by
        obtain ⟨F2, w2, t2, _⟩ := w.freeze hd
        have e : IR.D.fz (.dct o ks vs) = .dct false ks vs := by simp only [IR.D.fz, IR.D.fzs_of_pure _ pv]
        rw [e] at w2
        exact ⟨F2, _, w2, t2⟩
      have h := OG.step h .refl t2
      have hd2 : ((δ.set i (some (IR.D.dct false ks vs)))[i]?).join = some (IR.D.dct false ks vs) := by
        have hi : i < δ.length := (List.getElem?_eq_some_iff.mp (joined hd)).1
        rw [List.getElem?_set_self hi]
        rfl
      revert h w2 hd2
      generalize δ.set i (some (IR.D.dct false ks vs)) = δ2
      intro w2 h hd2
      obtain ⟨v, hv, a, kvs, rfl, ha, rfl, hr, ef⟩ := w2.slot hd2
      rcases ha with ha | ⟨o, ha⟩
      · refine .inr ⟨a, .dK kvs, w2.same _ _ ha, trivial, fun od => ?_⟩
        have rl : Rl a kvs F2 (upd F2 a (.frz od (.dK kvs))) := ⟨fun b q => upd_ne q, .inl ha, .inr ⟨od, upd_same⟩⟩
        have wl : Wd X.K (upd F2 a (.frz od (.dK kvs))) (upd H a (.frz od (.dK kvs))) σ δ2 fp2 := w2.rl rl (fun b q => upd_ne q) (by rw [upd_same, upd_same])
        exact for_fix ht wl (Wlk.items (H := H) upd_same (hr.sw (H' := H) rl.sw fun b hb => absurd hb (by simp))) (fun R q => ⟨_, hv, a, od, kvs, rfl, upd_same, q⟩) (h.lockd ha w2.same)
      · exact .inl (for_fix ht w2 (Wlk.items ha hr) (fun R q => ⟨_, hv, a, o, kvs, rfl, w2.same _ _ ha, q⟩) h.noerr)
    · exact False.elim h
  · exact False.elim h
theorem ps_or {st : Stmt} {t t' : TS} (h : PS X st t) (h' : PS X st t') : PS X st (fun D σ H => t D σ H ∨ t' D σ H) := ⟨fun pins s σ H D I q => by
  rcases q with q | q
  · exact h.run pins s σ H D I q
  · exact h'.run pins s σ H D I q⟩
end
end IR
namespace IR
open PySem PySem.Spec L2
section
variable {X : Cx}
abbrev Hds := List (Value × Option Nat × (Addr → Value → Option Addr → TS))
/-- handlers, some with a name for the error -/
inductive HdsA (X : Cx) : List ExceptHandler → Hds → Prop
  | nil : HdsA X [] []
  | cons {x : Str} {c : Value} {ts : Addr → Value → Option Addr → TS} {b₀ : Stmt} {suite : List Stmt} {np pos' : Pos} {hds : List ExceptHandler} {l : Hds} : Names X x c →
      (∀ (a : Addr) (oe : Obj) (cls : Value) (d : Option Addr) (pn : List (Addr × Obj)), Zc cls d oe → (∃ vs, oe.data = .fields vs) → PSs (X.suite a ((a, oe) :: pn)) (b₀ :: suite) (ts a cls d)) → HdsA X hds l →
      HdsA X (.ExceptHandler (some (.Name x np)) none (b₀ :: suite) pos' :: hds) ((c, none, ts) :: l)
  | consA {x n : Str} {c : Value} {i : Nat} {ts : Addr → Value → Option Addr → TS} {b₀ : Stmt} {suite : List Stmt} {np pos' : Pos} {hds : List ExceptHandler} {l : Hds} : Names X x c → X.N[i]? = some n → X.env.kindOf n = some .local →
      (∀ (a : Addr) (oe : Obj) (cls : Value) (d : Option Addr) (pn : List (Addr × Obj)), Zc cls d oe → (∃ vs, oe.data = .fields vs) → PSs (X.suite a ((a, oe) :: pn)) (b₀ :: suite) (ts a cls d)) → HdsA X hds l →
      HdsA X (.ExceptHandler (some (.Name x np)) (some n) (b₀ :: suite) pos' :: hds) ((c, some i, ts) :: l)
def dAs (D : Ends) : Option Nat → Ends
  | none => D
  | some i => { nx := fun σ H => D.nx (σ.set i none) H, rt := D.rt, bk := fun σ H => D.bk (σ.set i none) H, ct := fun σ H => D.ct (σ.set i none) H }
def sAs (σ : St) (a : Addr) : Option Nat → St
  | none => σ
  | some i => σ.set i (some (.ref a))
def wAny (K : PySem.W.Frag) (Wout : WX) (D : Ends) : Hds → WX
  | [] => Wout
  | (c, o, ts) :: r => fun cls d σ H => ∃ b, PySem.W.exmOne K cls c = some b ∧ (b = true → ∀ a : Addr, H a = none → ts a cls d (dAs D o) (sAs σ a o) H) ∧ (b = false → wAny K Wout D r cls d σ H)
theorem ps_try_any {body : List Stmt} {h₀ : ExceptHandler} {hds : List ExceptHandler} {l : Hds} {pos : Pos} {tb : WX → TS} {Wout : WX} (hs : X.stack = X.env :: X.outer) (hf : X.env.frame = some X.env.locals) (hN : X.N.Nodup) (tk : Takes X Wout)
    (hb : ∀ (W : WX) (pn : List (Addr × Obj)) (xe : Value → Shared → Prop), Takes (X.tr pn xe) W → PassesOwn (model X.prog X.w) X.A X.env xe → PSs (X.tr pn xe) body (tb W)) (hh : HdsA X (h₀ :: hds) l) :
    PS X (.Try body (h₀ :: hds) [] [] pos) (fun D σ H => tb (wAny X.K Wout D l) D σ H) := by
  refine ⟨fun pins s σ H D I h => ?_⟩
  have ok := I.ok
  have hfr : X.A.frames = some (X.env :: X.outer) := by rw [Cx.Ok.frames ok, hs]
  refine wpAny_Try_except (wpAny_mono ((hb (wAny X.K Wout D l) (X.pn ++ pins) _ ?_ PassesOwn.looking).run [] s σ H D (I.toTry _) h) (fun f s1 hsp => ?_) (fun e s1 he => he))
  · intro u s' xx
    obtain ⟨a, B, sI, pins', σ', H', cls, d, rfl, J', nb, up, sky, na, os, ag, w⟩ := xx
    have J := J'.ofTry ok
    have sky' : Sky B (X.env :: X.outer) a (Zc cls d) X.env.locals s'.heap := by rw [← hs]; exact sky
    refine Sky.land Zc.steady hfr hf sky' fun h3 fl3 up3 => ?_
    have J3 : L2.Inv X pins σ' H' { s' with heap := h3 } := J.landed nb fl3.1 (up.trans up3) os ag
    obtain ⟨oe3, vs3, he3, hz3, hd3⟩ := HandSPX.FlyingZ.there fl3
    have nfr : a ∉ (X.env :: X.outer).filterMap (fun x => x.frame) := fun hm => by
      obtain ⟨_, o', e', hnf⟩ := Heap.FunFrames.mem fl3.2.2.1 hm
      rw [he3] at e'
      cases e'
      exact hnf vs3 hd3
    have nL : a ≠ X.env.locals := fun z => nfr (List.mem_filterMap.mpr ⟨X.env, List.mem_cons_self, by rw [hf, z]⟩)
    have nF : a ∉ X.fs := fun hm => by
      obtain ⟨e, he, q⟩ := List.mem_filterMap.mp hm
      exact nfr (List.mem_filterMap.mpr ⟨e, List.mem_cons_of_mem _ he, q⟩)
    have S3 := Inv.suite J3 he3 hd3 na nL nF
    have LT : ∀ (k : ∀ b o, h3.get? b = some o → h3.get? b = some o), PySem.W.Looks (model X.prog X.w) h3 (typeOf (.ref a)) cls := fun _ A Q E s k q => wpAny_typeOf_ref (k a oe3 he3) (by rw [hz3.1]; exact q)
    have go : ∀ {hds' : List ExceptHandler} {l' : Hds}, HdsA X hds' l' → wAny X.K Wout D l' cls d σ' H' → wpAny (model X.prog X.w) X.A (handleBy (.ref a) X.env hds') (SP X pins D) X.xe { s' with heap := h3 } := by
      intro hds' l' hk
      induction hk with
      | nil =>
        intro w
        refine wpAny_handleBy_nil ?_
        obtain ⟨k1, k2, k3, oe, vs, T, oT, ts', he, hz, hd, h1, hr⟩ := id fl3
        refine wpAny_bind (wpAny_field he hd h1 ?_)
        rw [if_neg (by simp)]
        refine wpAny_bind ?_
        rw [hf]
        refine HandSPX.setFlight_upZ fl3 fun h4 hh4 up4 => wpAny_throw (tk _ _ ⟨a, B, sI, pins, σ', H', cls, d, rfl, J, nb, (up.trans up3).trans up4, .inr (.inr (by rw [hs]; exact hh4)), na, os, ag, w⟩)
      | @cons x c ts b₀ suite np pos' hds2 l2 hc hsu r ih =>
        intro w
        obtain ⟨b, hb1, hyes, hno⟩ := w
        refine wpAny_handleBy_cons (codeAny_handlers_test ?_) (by intro q; cases q)
        have LM := PySem.W.exm_one (Inv.kIn J3) (LT fun _ _ z => z) hb1
        have test : ∀ {Q E}, Q c { s' with heap := h3 } → wpAny (model X.prog X.w) (X.A.mark (some (.ref a))) (eval (.Name x np) X.env) Q E { s' with heap := h3 } := fun {Q E} q => by
          obtain ⟨hg, hdbg, hm | ⟨hm, hv, hnn⟩⟩ := hc
          · exact ld_glob S3 hg hm q hdbg
          · exact ld_blt S3 hg hm hv q hnn hdbg
        refine test (PySem.W.Looks.here LM ?_)
        cases b with
        | false => exact ih (hno rfl)
        | true =>
          refine codeAny_handlers_suite (HandSPX.lands_againZ fl3 fun h4 fl4 up4 => ?_)
          have J4 : L2.Inv X pins σ' H' { s' with heap := h4 } := J.landed nb fl4.1 ((up.trans up3).trans up4) os ag
          obtain ⟨oe4, vs4, he4, hz4, hd4⟩ := HandSPX.FlyingZ.there fl4
          have S4 := Inv.suite J4 he4 hd4 na nL nF
          refine wpAny_mono ((hsu a oe4 cls d (X.pn ++ pins) hz4 ⟨vs4, hd4⟩).run [] _ σ' H' D S4 (hyes rfl a na)) (fun f s6 hsp => ?_) fun _ _ z => False.elim z
          cases f with
          | next => obtain ⟨σ6, H6, S6, q6⟩ := hsp; exact ⟨σ6, H6, Inv.unsuite S6 ok, q6⟩
          | brk => obtain ⟨σ6, H6, S6, q6⟩ := hsp; exact ⟨σ6, H6, Inv.unsuite S6 ok, q6⟩
          | cont => obtain ⟨σ6, H6, S6, q6⟩ := hsp; exact ⟨σ6, H6, Inv.unsuite S6 ok, q6⟩
          | ret u => obtain ⟨v6, σ6, H6, S6, r6, q6⟩ := hsp; exact ⟨v6, σ6, H6, Inv.unsuite S6 ok, r6, q6⟩
      | @consA x n c i ts b₀ suite np pos' hds2 l2 hc hi hln hsu r ih =>
        intro w
        obtain ⟨b, hb1, hyes, hno⟩ := w
        refine wpAny_handleBy_cons (codeAny_handlers_test ?_) (by intro q; cases q)
        have LM := PySem.W.exm_one (Inv.kIn J3) (LT fun _ _ z => z) hb1
        have test : ∀ {Q E}, Q c { s' with heap := h3 } → wpAny (model X.prog X.w) (X.A.mark (some (.ref a))) (eval (.Name x np) X.env) Q E { s' with heap := h3 } := fun {Q E} q => by
          obtain ⟨hg, hdbg, hm | ⟨hm, hv, hnn⟩⟩ := hc
          · exact ld_glob S3 hg hm q hdbg
          · exact ld_blt S3 hg hm hv q hnn hdbg
        refine test (PySem.W.Looks.here LM ?_)
        cases b with
        | false => exact ih (hno rfl)
        | true =>
          refine codeAny_handlers_suite_as (HandSPX.lands_againZ fl3 fun h4 fl4 up4 => ?_)
          have J4 : L2.Inv X pins σ' H' { s' with heap := h4 } := J.landed nb fl4.1 ((up.trans up3).trans up4) os ag
          obtain ⟨oe4, vs4, he4, hz4, hd4⟩ := HandSPX.FlyingZ.there fl4
          have S4 := Inv.suite J4 he4 hd4 na nL nF
          refine store_ok (X := X.suite a ((a, oe4) :: (X.pn ++ pins))) (pins := []) S4 hN hi (.inl hln) (v := .ref a) rfl (fun s5 S5 => ?_) (.inr hln)
          refine wpAny_mono ((hsu a oe4 cls d (X.pn ++ pins) hz4 ⟨vs4, hd4⟩).run [] s5 _ H' (dAs D (some i)) S5 (hyes rfl a na)) (fun f s6 hsp => ?_) fun _ _ z => False.elim z
          have fin : ∀ {σ6 : St} {H6 : Hp} {Q : Unit → Shared → Prop}, L2.Inv (X.suite a ((a, oe4) :: (X.pn ++ pins))) [] σ6 H6 s6 → (∀ s7, L2.Inv X pins (σ6.set i none) H6 s7 → Q () s7) → wpAny (model X.prog X.w) X.A (do
              bindName X.env n Value.none
              unbindBehindTheSuite X.env n pos') Q X.xe s6 := fun S6 hq => gone_ok (Inv.unsuite S6 ok) hN hi hln hq
          cases f with
          | next => obtain ⟨σ6, H6, S6, q6⟩ := hsp; exact fin S6 fun s7 J7 => ⟨_, H6, J7, q6⟩
          | brk => obtain ⟨σ6, H6, S6, q6⟩ := hsp; exact fin S6 fun s7 J7 => ⟨_, H6, J7, q6⟩
          | cont => obtain ⟨σ6, H6, S6, q6⟩ := hsp; exact fin S6 fun s7 J7 => ⟨_, H6, J7, q6⟩
          | ret u => obtain ⟨v6, σ6, H6, S6, r6, q6⟩ := hsp; exact fin S6 fun s7 J7 => ⟨v6, _, H6, J7, r6, q6⟩
    exact go hh w
  · cases f with
    | next => obtain ⟨σ', H', J', q⟩ := hsp; exact wpAny_execs_nil ⟨σ', H', J'.ofTry ok, q⟩
    | brk => obtain ⟨σ', H', J', q⟩ := hsp; exact ⟨σ', H', J'.ofTry ok, q⟩
    | cont => obtain ⟨σ', H', J', q⟩ := hsp; exact ⟨σ', H', J'.ofTry ok, q⟩
    | ret u => obtain ⟨v, σ', H', J', r, q⟩ := hsp; exact ⟨v, σ', H', J'.ofTry ok, r, q⟩
end
end IR
namespace IR
open PySem PySem.Spec L2
section
variable {G : Tab} {A : Nat → Addr} {call : Calls} {X : Cx} {W : WX} {L : List Nat}
/-! ### raising -/
theorem takesN : Takes X WN := fun u s' h => by
  obtain ⟨a, B, sI, pins, σ, H, cls, d, _, _, _, _, _, _, _, _, w⟩ := h
  exact False.elim w
theorem passN : Passes (CX X.prog X.w) X (fun _ _ _ => False) := fun pins σ H s e s' I c => passAt takesN σ pins H s e s' I c
theorem pmk_own0 {C : Addr} {bmB : List Value} {B newId initId : String} {x : Str} {p pos : Pos} (F : ExcBaseFacts B newId initId bmB) (q : PySem.W.excIn X.K C bmB newId = true) (gC : X.mg x = some (.ref C)) (kC : PySem.W.keepIn X.K (.ref C) = true) (r : Raises X (.ref C)) (hg : Gl X x)
    (hdb : (x == Str.ofString "__debug__") = false) : PMk X (.Call (.Name x p) [] [] pos) (fun σ H Q => Q (.ref C) none H) := by
  intro pins s σ H Q I h
  refine wpAny_Call_Name_kw (ld_glob I hg gC ?_ hdb)
  refine PySem.W.callWith_K0 I.kIn kC ?_
  obtain ⟨bm, N, nm, qn, bs, hdct, sn, sub, ab, col, dd, k0, k1, k2, k3, k5, mN, hC, hN, hni, T⟩ := exc_obj I.kIn q
  exact wpAny_call_exc_subT F T hC hN hni (fun h' e hm => mk_of I hm r h (I.hok.gone hm.new)) (by simp)
/-- the reading of a raised call of a class of the table -/
def tMkX (C : Addr) (fs : List Str) (ta : TA) : St → Hp → XK → Prop := fun σ H Q => ta σ H fun vs H1 => vs.length = fs.length ∧ vs.length ≤ 1000 ∧ (fs = [] → Q (.ref C) none H1) ∧ (fs ≠ [] → ∀ d, H1 d = none → Q (.ref C) (some d) (upd H1 d (.xd (fs.zip vs).reverse)))
theorem pmk_tab0 {N : List Str} {sc : Scope} {fb : Option Scope} {lvl c : Nat} {x : Xc} {p pos : Pos} (O : Xo G A call lvl N sc fb X W) (hx : G.xcs[c]? = some x) (hf : x.fs = []) (hg : Gl X x.name) (hdb : (x.name == Str.ofString "__debug__") = false) :
    PMk X (.Call (.Name x.name p) [] [] pos) (tMkX (A c) x.fs tNil) := by
  have T := O.lk.xc c x hx
  obtain ⟨bmB, B, newId, initId, F, q⟩ := T.mk0 hf
  intro pins s σ H Q I h
  have h : ([] : List V).length = x.fs.length ∧ ([] : List V).length ≤ 1000 ∧ (x.fs = [] → Q (.ref (A c)) none H) ∧ (x.fs ≠ [] → ∀ d, H d = none → Q (.ref (A c)) (some d) (upd H d (.xd (x.fs.zip []).reverse))) := h
  exact pmk_own0 F q T.nm T.kp (raises_own T.sub T.ty) hg hdb pins s σ H Q I (h.2.2.1 hf)
theorem pmk_tab {N : List Str} {sc : Scope} {fb : Option Scope} {lvl c : Nat} {x : Xc} {p pos : Pos} {e : Expr} {es : List Expr} {ta : TA} (O : Xo G A call lvl N sc fb X W) (hx : G.xcs[c]? = some x) (hf : x.fs ≠ []) (hg : Gl X x.name) (hdb : (x.name == Str.ofString "__debug__") = false)
    (hm : ∀ σ H (Q Q' : List V → Hp → Prop), (∀ vs H, Q vs H → Q' vs H) → ta σ H Q → ta σ H Q') (ha : PA X (e :: es) ta) (he : starEach (e :: es) X.env = (false, eval e X.env) :: starEach es X.env) (hpl : ((backTo pos (starEach es X.env)).any (fun y => y.1)) = false) : PMk X (.Call (.Name x.name p) (e :: es) [] pos) (tMkX (A c) x.fs ta) := by
  have T := O.lk.xc c x hx
  obtain ⟨OC, fI, fd, hi, hti, hb, hfn⟩ := T.mk1 hf
  have m := pmk_oex (p := p) (pos := pos) OC hi hti hfn (O.room.mono O.lk.two) hb (.nil : Vals [] []) passN hg T.nm ha hdb he hpl
  intro pins s σ H Q I h
  refine m pins s σ H Q I ?_
  have fin : ∀ vs H1, (vs.length = x.fs.length ∧ vs.length ≤ 1000 ∧ (x.fs = [] → Q (.ref (A c)) none H1) ∧ (x.fs ≠ [] → ∀ d, H1 d = none → Q (.ref (A c)) (some d) (upd H1 d (.xd (x.fs.zip vs).reverse)))) →
      vs.length ≤ 1000 ∧ ∀ a, H1 a = none → spInit (A c) x.fs (.ref a :: (vs ++ [])) (upd H1 a (exo a (A c) none)) (fun v H2 => v = .non ∧ ∃ d fs, H2 a = some (exo a (A c) (some d)) ∧ H2 d = some (exd d fs) ∧ H1 d = none ∧ Q (.ref (A c)) (some d) (upd (del H2 a) d (.xd fs))) (fun _ _ _ => False) := by
    rintro vs H1 ⟨l1, l2, _, k⟩
    refine ⟨l2, fun a na => ⟨a, vs ++ [], rfl, by rw [List.append_nil]; exact l1, upd_same, fun d H' nd nda keep ha hd => ⟨rfl, d, _, ha, hd, ?_, ?_⟩⟩⟩
    · rw [upd_ne nda] at nd; exact nd
    · have nd1 : H1 d = none := by rw [upd_ne nda] at nd; exact nd
      have e : upd (del H' a) d (.xd (x.fs.zip (vs ++ [])).reverse) = upd H1 d (.xd (x.fs.zip vs).reverse) := by
        funext b
        rw [List.append_nil]
        by_cases q : b = d
        · subst q; rw [upd_same, upd_same]
        · rw [upd_ne q, upd_ne q]
          by_cases q2 : b = a
          · subst q2; rw [del_same, na]
          · rw [del_ne q2, keep b q2 q, upd_ne q2]
      rw [e]
      exact k hf d nd1
  exact hm σ H _ _ fin h
theorem tA_mono {m : Md} {es : E} {σ : St} {H : Hp} {Q Q' : List V → Hp → Prop} (h : tA G A call X W m es σ H Q) (k : ∀ vs H, Q vs H → Q' vs H) : tA G A call X W m es σ H Q' := by
  obtain ⟨F, δ, fp, w, h⟩ := h
  exact ⟨F, δ, fp, w, h.mono (fun x δ1 z F1 H1 fp1 v fv t1 w1 o1 fr1 => k _ _ (z F1 H1 fp1 v fv t1 w1 o1 fr1)) fun _ _ _ z => z⟩
theorem xd_at {fs : List Str} : ∀ {vs : List V} {ds : List IR.D} {K : PySem.W.Frag} {F H : Hp}, fs.Nodup → Reps K F H ds vs [] → ds.length = fs.length → ∀ (j : Nat) f e, fs[j]? = some f → ds[j]? = some e → ∃ v, ((fs.zip vs).reverse).lookup f = some v ∧ Rep K F H e v [] := by
  have look : ∀ (l : List (Str × V)), (l.map (fun x => x.1)).Nodup → ∀ f v, (f, v) ∈ l → l.lookup f = some v := by
    intro l
    induction l with
    | nil => intro _ f v h; simp at h
    | cons p l ih =>
      intro nd f v h
      rw [List.map_cons, List.nodup_cons] at nd
      obtain ⟨a, b⟩ := p
      rcases List.mem_cons.mp h with q | q
      · cases q; simp [List.lookup]
      · have ne : f ≠ a := fun z => nd.1 (List.mem_map.mpr ⟨(f, v), q, z⟩)
        have nb : (f == a) = false := by simpa using ne
        simp only [List.lookup, nb]
        exact ih nd.2 f v q
  intro vs ds K F H nd r l j f e hf he
  obtain ⟨v, hv, rv⟩ := r.nth0 he
  refine ⟨v, look _ ?_ f v ?_, rv⟩
  · rw [List.map_reverse]
    refine (List.reverse_perm _).nodup_iff.mpr ?_
    have q : (fs.zip vs).map (fun x => x.1) = fs := by
      rw [List.map_fst_zip]
      rw [r.length]; omega
    rw [q]; exact nd
  · rw [List.mem_reverse]
    refine List.mem_of_getElem? (i := j) ?_
    rw [List.getElem?_zip_eq_some]
    exact ⟨hf, hv⟩
theorem r_rais {c : Nat} {x : Xc} {es : E} {D : Ends} {σ : St} {H : Hp} (hx : G.xcs[c]? = some x) (nd : x.fs.Nodup) (hl : es.len = x.fs.length) (h : tR G A call X W L (.rais c es) D σ H) :
    (fun (_ : Ends) σ H => tMkX (A c) x.fs (tA G A call X W .esc es) σ H fun cls d H' => W cls d σ H') D σ H := by
  obtain ⟨F, δ, fp, w, h⟩ := h
  simp only [run] at h
  refine ⟨F, δ, fp, w, (evs_len h.out hl).mono (fun xs δ1 z F1 H1 fp1 vs fv t1 w1 o1 fr1 => ?_) fun _ _ _ z => z⟩
  obtain ⟨z, ll⟩ := z
  split at z
  · rename_i ds hds
    split at z
    · rename_i p
      simp only [Bool.and_eq_true, decide_eq_true_eq] at p
      have r := o1.reps (tmps_eq hds)
      have r := (Reps.nil_of_pure p.1 r) ▸ r
      have ld : ds.length = x.fs.length := by
        have e := congrArg List.length (tmps_eq hds)
        rw [List.length_map] at e
        omega
      have lv := r.length
      have z : PY G A X.K L σ F H fp W c ds δ1 := z
      refine ⟨by omega, by omega, fun e0 => ?_, fun ne d nd1 => ?_⟩
      · refine z F1 H1 fp1 σ _ none .refl t1 w1 ⟨x, hx, rfl, ld, .inl ⟨e0, rfl⟩⟩
      · have ex : Ext F1 H1 F1 (upd H1 d (.xd (x.fs.zip vs).reverse)) := Ext.upd w1.same nd1
        refine z F1 _ fp1 σ _ (some d) .refl (t1.trans ex.tr) (w1.ext ex) ⟨x, hx, rfl, ld, .inr ⟨d, _, rfl, upd_same, fun j f e hf he => ?_⟩⟩
        obtain ⟨v, hv, rv⟩ := xd_at nd r ld j f e hf he
        exact ⟨v, hv, rv.mono (.refl _) fun a ha => absurd ha (by simp)⟩
    · exact False.elim z
  · exact False.elim z
end
end IR
namespace IR
open PySem PySem.Spec L2
section
variable {G : Tab} {A : Nat → Addr} {call : Calls} {X : Cx} {W : WX} {L : List Nat}
/-- within an except suite: a the error, of the class cls = ref (A ch) if the fields are asked -/
structure HW (G : Tab) (A : Nat → Addr) (K : PySem.W.Frag) (F H : Hp) (σ : St) (δ : Ev) (ch : Nat) (g : List D) (a : Addr) (o : Option Nat) (cls : Value) (d : Option Addr) : Prop where
  w : ∃ fp, Wd K F H σ δ fp
  er : g ≠ [] → ErrR G A K F H ch g cls d
  as : ∀ i, o = some i → σ[i]? = some (some (.ref a))
theorem ErrR.ext {K : PySem.W.Frag} {F H F' H' : Hp} {c : Nat} {g : List D} {cls : Value} {d : Option Addr} (h : ErrR G A K F H c g cls d) (e : Ext F H F' H') : ErrR G A K F' H' c g cls d := by
  obtain ⟨xc, h1, h2, h3, h4⟩ := h
  refine ⟨xc, h1, h2, h3, h4.imp id fun ⟨dd, fs, q1, q2, q3⟩ => ⟨dd, fs, q1, e.keep _ _ q2, fun j f x hf hx => ?_⟩⟩
  obtain ⟨v, hv, r⟩ := q3 j f x hf hx
  exact ⟨v, hv, r.mono e.same fun a ha => absurd ha (by simp)⟩
theorem HW.ext {K : PySem.W.Frag} {F H F' H' : Hp} {σ : St} {δ : Ev} {ch : Nat} {g : List D} {a : Addr} {o : Option Nat} {cls : Value} {d : Option Addr} (h : HW G A K F H σ δ ch g a o cls d) (e : Ext F H F' H') : HW G A K F' H' σ δ ch g a o cls d :=
  ⟨by obtain ⟨fp, w⟩ := h.w; exact ⟨fp, w.ext e⟩, fun n => (h.er n).ext e, h.as⟩
def HN (K : PySem.W.Frag) (F H : Hp) (d : D) (Q : VK) : Prop := ∀ F' H' v, Ext F H F' H' → Rep K F' H' d v [] → Q v H'
/-- the readings of a suite's expression, of several -/
def tH (G : Tab) (A : Nat → Addr) (X : Cx) (ch : Nat) (a : Addr) (o : Option Nat) (cls : Value) (d : Option Addr) (e : E) : TE := fun σ H Q => ∃ F δ g r, HW G A X.K F H σ δ ch g a o cls d ∧ evH g δ e = some r ∧ HN X.K F H r Q
def tHs (G : Tab) (A : Nat → Addr) (X : Cx) (ch : Nat) (a : Addr) (o : Option Nat) (cls : Value) (d : Option Addr) (es : E) : TA := fun σ H Q => ∃ F δ g rs, HW G A X.K F H σ δ ch g a o cls d ∧ evH.evHs g δ es = some rs ∧ ∀ F' H' vs, Ext F H F' H' → Reps X.K F' H' rs vs [] → Q vs H'
section
variable {ch : Nat} {a : Addr} {o : Option Nat} {cls : Value} {d : Option Addr} {σ : St} {H : Hp}
theorem h_lit {c : Lit} {v : V} {Q : VK} (hv : ∀ F, Rep X.K F H c.d v []) (h : tH G A X ch a o cls d (.lit c) σ H Q) : tC v σ H Q := by
  obtain ⟨F, δ, g, r, w, e, n⟩ := h
  simp only [evH, Option.some.injEq] at e
  subst e
  obtain ⟨fp, w'⟩ := w.w
  exact n F H v (.refl w'.same) (hv F)
theorem h_var {i : Nat} {Q : VK} (h : tH G A X ch a o cls d (.var i) σ H Q) : tVar i σ H Q := by
  obtain ⟨F, δ, g, r, w, e, n⟩ := h
  simp only [evH] at e
  split at e
  · rename_i d' hd
    split at e
    · rename_i p
      cases e
      obtain ⟨fp, w'⟩ := w.w
      obtain ⟨v, hv, rv⟩ := w'.slot hd
      have z := Rep.nil_of_pure p rv
      rw [z] at rv
      exact ⟨v, hv, n F H v (.refl w'.same) rv⟩
    · cases e
  · cases e
theorem h_fld {n i : Nat} {x : Xc} {f : Str} {Q : VK} (ho : o = some i) (hx : G.xcs[ch]? = some x) (hf : x.fs[n]? = some f) (h : tH G A X ch a o cls d (.gl n) σ H Q) : tXf a cls d (A ch) f (tVar i) σ H Q := by
  obtain ⟨F, δ, g, r, w, e, nn⟩ := h
  simp only [evH] at e
  obtain ⟨fp, w'⟩ := w.w
  have gn : g ≠ [] := fun z => by rw [z] at e; simp at e
  obtain ⟨xc, h1, h2, h3, h4⟩ := w.er gn
  rw [hx] at h1
  cases h1
  rcases h4 with ⟨z, _⟩ | ⟨dd, fs, q1, q2, q3⟩
  · rw [z] at hf; simp at hf
  · obtain ⟨v, hv, rv⟩ := q3 n f r hf e
    exact ⟨_, w.as i ho, rfl, h2, dd, fs, v, q1, q2, hv, nn F H v (.refl w'.same) rv⟩
theorem h_tup {es : E} {Q : VK} (h : tH G A X ch a o cls d (.tup es) σ H Q) : tTup (tHs G A X ch a o cls d es) σ H Q := by
  obtain ⟨F, δ, g, r, w, e, n⟩ := h
  simp only [evH] at e
  split at e
  · rename_i ds hds
    split at e
    · rename_i hl
      cases e
      refine ⟨F, δ, g, ds, w, hds, fun F' H' vs ex rs => ⟨big_line (by rw [rs.length]; exact hl), fun p hp => ?_⟩⟩
      have ex2 : Ext F' H' (upd F' p (.tup vs)) (upd H' p (.tup vs)) := Ext.updF ex.low hp
      exact n _ _ _ (ex.trans ex2) ⟨p, vs, rfl, .of upd_same, rs.mono ex2.same fun a ha => absurd ha (by simp)⟩
    · cases e
  · cases e
theorem hs_nil {Q : List V → Hp → Prop} (h : tHs G A X ch a o cls d .nil σ H Q) : tNil σ H Q := by
  obtain ⟨F, δ, g, r, w, e, n⟩ := h
  simp only [evH.evHs, Option.some.injEq] at e
  subst e
  obtain ⟨fp, w'⟩ := w.w
  exact n F H [] (.refl w'.same) ⟨rfl, rfl⟩
theorem hs_cons {e1 es : E} {Q : List V → Hp → Prop} (h : tHs G A X ch a o cls d (.cons e1 es) σ H Q) : tCons (tH G A X ch a o cls d e1) (tHs G A X ch a o cls d es) σ H Q := by
  obtain ⟨F, δ, g, r, w, e, n⟩ := h
  simp only [evH.evHs] at e
  split at e
  · rename_i r1 rs h1 h2
    cases e
    refine ⟨F, δ, g, r1, w, h1, fun F1 H1 v ex rv => ⟨F1, δ, g, rs, w.ext ex, h2, fun F2 H2 vs ex2 rvs => ?_⟩⟩
    exact n F2 H2 (v :: vs) (ex.trans ex2) ⟨v, vs, [], [], rfl, rv.mono ex2.same fun a ha => absurd ha (by simp), rvs, by simp, rfl⟩
  · cases e
end
/-- the handlers of a suite -/
def hdsOf (G : Tab) (A : Nat → Addr) (X : Cx) : S → Hds
  | .hd ch o (.ret e) r => (.ref (A ch), o, fun a cls d => tSeq (tRet (tH G A X ch a o cls d e)) tNext) :: hdsOf G A X r
  | _ => []
theorem Wd.as {K : PySem.W.Frag} {F H : Hp} {σ : St} {δ : Ev} {fp : Fp} (w : Wd K F H σ δ fp) (a : Addr) : ∀ o : Option Nat, ∃ fp', Wd K F H (sAs σ a o) (asOff δ o) fp' ∧ (∀ b, Own fp' b → Own fp b)
  | none => ⟨fp, w, fun _ h => h⟩
  | some i => by
    refine ⟨_, (w.drop i).less (by show (σ.set i _).length = _; rw [List.length_set]) fun j d h => ?_, fun b h => own_drop h⟩
    rcases get_set h with ⟨_, e⟩ | ⟨n, _⟩
    · cases e
    · exact List.getElem?_set_ne (Ne.symm n)
/-- no handler's name is locked -/
def hdFree (L : List Nat) : S → Bool
  | .hd _ o _ r => (match o with | some i => !L.contains i | none => true) && hdFree L r
  | _ => true
theorem sAs_ag {σ : St} {a : Addr} {o : Option Nat} (h : (match o with | some i => !L.contains i | none => true) = true) : Ag L σ (sAs σ a o) := by
  cases o with
  | none => exact .refl
  | some i => exact .set (by simpa using h)
theorem handle_ok {N : List Str} {sc : Scope} {fb : Option Scope} {lvl : Nat} (O : Xo G A call lvl N sc fb X W) {D : Ends} {c : Nat} {g : List IR.D} {δ1 : Ev} {σ0 : St} {F0 H0 : Hp} {fp0 : Fp} {F' H' : Hp} {fp' : Fp} {σ' : St} {cls : Value} {d : Option Addr}
    (ag : Ag L σ0 σ') (t : Tr F0 H0 (Own fp0) F' H' (Own fp')) (w : Wd X.K F' H' σ' δ1 fp') (er : ErrR G A X.K F' H' c g cls d) : ∀ {hs : S}, hdFree L hs = true → OG G A X.K L σ0 F0 H0 fp0 D W (handle G c g δ1 hs) → wAny X.K W D (hdsOf G A X hs) cls d σ' H' := by
  intro hs
  induction hs with
  | nop =>
    intro _ h
    exact h F' H' fp' σ' cls d ag t w er
  | hd ch o e r ihe ihr =>
    intro hl h
    simp only [hdFree, Bool.and_eq_true] at hl
    cases e with
    | ret e =>
      simp only [handle] at h
      split at h
      rotate_left
      · exact False.elim h
      rename_i hlt
      obtain ⟨xc, h1, h2, h3, h4⟩ := id er
      have te := (O.lk.xc c xc h1).te ch _ (List.getElem?_eq_getElem hlt.1)
      rw [← h2] at te
      refine ⟨_, te, fun hb a na => ?_, fun hb => ?_⟩
      · have hs : subX G c ch = true := by unfold subX; rw [h1]; exact hb
        rw [if_pos hs] at h
        split at h
        · rename_i r hr
          obtain ⟨fp2, w2, o2⟩ := w.as a o
          have h : PR X.K L σ0 F0 H0 fp0 D.rt r (asOff δ1 o) := h
          refine ⟨F', asOff δ1 o, if c = ch then g else [], r, ⟨⟨fp2, w2⟩, fun ne => ?_, fun i hi => ?_⟩, hr, fun F2 H2 v ex rv => ?_⟩
          · split at ne
            · rename_i e2; rw [if_pos e2, ← e2]; exact er
            · exact absurd rfl ne
          · subst hi
            have il : i < δ1.length := hlt.2
            show (σ'.set i _)[i]? = _
            exact List.getElem?_set_self (by rw [← w.len]; exact il)
          · have e3 : (dAs D o).rt = D.rt := by cases o <;> rfl
            show (dAs D o).rt v H2
            rw [e3]
            exact h F2 H2 fp2 (sAs σ' a o) v [] (ag.trans (sAs_ag hl.1)) ((t.to fun b hb => o2 b hb).trans ex.tr) (w2.ext ex) ⟨rv, fun a ha => absurd ha (by simp), fun a ha => absurd ha (by simp)⟩ fun a ha => absurd ha (by simp)
        · exact False.elim h
      · have hs : subX G c ch = false := by unfold subX; rw [h1]; exact hb
        rw [hs, if_neg Bool.false_ne_true] at h
        exact ihr hl.2 h
    | _ => simp only [handle] at h; exact False.elim h
  | _ => intro _ h; simp only [handle] at h; exact False.elim h
theorem r_try {N : List Str} {sc : Scope} {fb : Option Scope} {lvl : Nat} (O : Xo G A call lvl N sc fb X W) {b hs : S} (hl : hdFree L hs = true) {D : Ends} {σ : St} {H : Hp} (h : tR G A call X W L (.tryy b hs) D σ H) : tR G A call X (wAny X.K W D (hdsOf G A X hs)) L b D σ H := by
  obtain ⟨F, δ, fp, w, h⟩ := h
  simp only [run] at h
  refine ⟨F, δ, fp, w, ?_⟩
  cases q : run G call b δ with
  | err c g δ1 =>
    rw [q] at h
    exact fun F' H' fp' σ' cls d ag t w' er => handle_ok O ag t w' er hl h
  | nx δ1 => rw [q] at h; exact h
  | brk δ1 => rw [q] at h; exact h
  | ct δ1 => rw [q] at h; exact h
  | ret d δ1 => rw [q] at h; exact h
  | stuck => rw [q] at h; exact h
end
end IR
namespace IR
open PySem PySem.Spec L2
/-! ### the checker -/
inductive Nd | e (x : Expr) | t (x : Expr) | a (xs : List Expr) | w (ks : List Keyword)
abbrev Rec := Scope → Option Scope → E → Nd → Bool
def glB (sc : Scope) (y : Str) : Bool := sc.names.lookup y == some .globalImplicit && !(y == Str.ofString "__debug__")
def visB (sc : Scope) (y : Str) : Bool := (match sc.names.lookup y with | some .local => true | some .cell => true | some .free => true | _ => false) && !(y == Str.ofString "__debug__") && !(y == Str.ofString "__classdict__")
def bltB (G : Tab) (sc : Scope) (y : Str) (n : String) : Bool := glB sc y && (y == Str.ofString n) && G.bls.contains y
def plain : Expr → Bool
  | .Starred _ _ => false
  | _ => true
def notSet : Expr → Bool
  | .Set _ _ _ => false
  | _ => true
def notSlice : Expr → Bool
  | .Slice _ _ _ _ => false
  | _ => true
/-- no comprehension -/
def notComp : Expr → Bool
  | .ListComp _ _ _ _ | .SetComp _ _ _ _ | .DictComp _ _ _ _ _ => false
  | _ => true
def notCall : Expr → Bool
  | .Call _ _ _ _ => false
  | _ => true
/-- its truth is asked of its value -/
def valT : Expr → Bool
  | .UnaryOp .Not _ _ => false
  | .BoolOp _ _ _ => false
  | .IfExp _ _ _ _ => false
  | .Compare _ _ _ _ => false
  | _ => true
section
variable (G : Tab) (N : List Str) (rec : Rec) (sc : Scope) (fb : Option Scope)
def cVar (ie : E) (x : Expr) : Bool := match ie, x with
  | .var i, .Name y _ => N[i]? == some y && visB sc y
  | _, _ => false
def cLit (ie : E) (x : Expr) : Bool := match ie, x with
  | .lit .non, .Constant .none _ _ => true
  | .lit (.bl b), .Constant (.bool c) _ _ => b == c
  | .lit (.int i), .Constant (.int j) _ _ => i == j
  | .lit (.str a), .Constant (.str b) _ _ => a == b
  | _, _ => false
def cGl (ie : E) (x : Expr) : Bool := match ie, x with
  | .gl n, .Name y _ => (match G.gls[n]? with | some p => p.1 == y | none => false) && glB sc y
  | _, _ => false
def cNeg (ie : E) (x : Expr) : Bool := match ie, x with
  | .op1 .neg a, .UnaryOp .USub e _ => rec sc fb a (.e e)
  | _, _ => false
def binO : O2 → Operator → Bool
  | .add, .Add | .sub, .Sub | .mul, .Mult | .fdv, .FloorDiv | .mod, .Mod | .pow, .Pow | .band, .BitAnd => true
  | _, _ => false
def cmpO : O2 → CmpOp → Bool
  | .eq, .Eq | .ne, .NotEq | .lt, .Lt | .le, .LtE | .gt, .Gt | .ge, .GtE | .is_, .Is | .isN, .IsNot | .in_, .In | .nin, .NotIn => true
  | _, _ => false
def cBin (ie : E) (x : Expr) : Bool := match ie, x with
  | .op2 o a b, .BinOp e1 op e2 _ => binO o op && rec sc fb a (.e e1) && rec sc fb b (.e e2)
  | _, _ => false
def cCmp (ie : E) (x : Expr) : Bool := match ie, x with
  | .op2 o a b, .Compare e1 [op] [e2] _ => cmpO o op && notSet e2 && rec sc fb a (.e e1) && rec sc fb b (.e e2)
  | _, _ => false
def cIdx (ie : E) (x : Expr) : Bool := match ie, x with
  | .op2 .idx a b, .Subscript e i _ => notSlice i && rec sc fb a (.e e) && rec sc fb b (.e i)
  | _, _ => false
def cChn (ie : E) (x : Expr) : Bool := match ie, x with
  | .chn o1 o2 a b c, .Compare e1 [p1, p2] [e2, e3] _ => cmpO o1 p1 && cmpO o2 p2 && notSet e2 && notSet e3 && rec sc fb a (.e e1) && rec sc fb b (.e e2) && rec sc fb c (.e e3)
  | _, _ => false
def blNm : Bl → Option String
  | .len => some "len" | .abs => some "abs" | .int => some "int" | .list => some "list" | .tuple => some "tuple" | .all => some "all" | .any => some "any" | .sum => some "sum" | .min => some "min" | .max => some "max" | .sorted => some "sorted"
  | .lset => none | .sset => none | .lrange => none | .trange => none
def cBl (ie : E) (x : Expr) : Bool := match ie, x with
  | .bl o es, .Call (.Name y _) args [] _ => (match blNm o with | some n => bltB G sc y n | none => false) && !args.isEmpty && args.all plain && rec sc fb es (.a args)
  | _, _ => false
def cRg (ie : E) (x : Expr) : Bool := match ie, x with
  | .bl .lrange es, .Call (.Name y _) [.Call (.Name z _) args [] _] [] _ => bltB G sc y "list" && bltB G sc z "range" && args.all plain && (match es, args with
    | .cons a .nil, [p] => rec sc fb a (.e p)
    | .cons a (.cons b .nil), [p, q] => rec sc fb a (.e p) && rec sc fb b (.e q)
    | _, _ => false)
  | .bl .trange es, .Call (.Name y _) [.Call (.Name z _) args [] _] [] _ => bltB G sc y "tuple" && bltB G sc z "range" && args.all plain && (match es, args with
    | .cons a .nil, [p] => rec sc fb a (.e p)
    | .cons a (.cons b .nil), [p, q] => rec sc fb a (.e p) && rec sc fb b (.e q)
    | _, _ => false)
  | _, _ => false
def cLs (ie : E) (x : Expr) : Bool := match ie, x with
  | .bl .lset (.cons a .nil), .Call (.Name y _) [.Call (.Name z _) [e] [] _] [] _ => bltB G sc y "len" && bltB G sc z "set" && plain e && rec sc fb a (.e e)
  | .bl .sset (.cons a .nil), .Call (.Name y _) [.Call (.Name z _) [e] [] _] [] _ => bltB G sc y "sorted" && bltB G sc z "set" && plain e && rec sc fb a (.e e)
  | _, _ => false
def tyB (t : String) (x : Expr) : Bool := match x with
  | .Name y _ => bltB G sc y t && tyNames.contains t
  | _ => false
def tysB : List String → List Expr → Bool
  | [], [] => true
  | t :: ts, x :: xs => tyB G sc t x && plain x && tysB ts xs
  | _, _ => false
def cIsi (ie : E) (x : Expr) : Bool := match ie, x with
  | .isi true [t] a, .Call (.Name y _) [e, T] [] _ => bltB G sc y "isinstance" && plain e && tyB G sc t T && plain T && rec sc fb a (.e e)
  | .isi false ts a, .Call (.Name y _) [e, .Tuple Ts _ _] [] _ => bltB G sc y "isinstance" && plain e && decide (ts.length ≤ 10) && tysB G sc ts Ts && rec sc fb a (.e e)
  | _, _ => false
def cBool (ie : E) (x : Expr) : Bool := match x with
  | .BoolOp _ [e] _ => rec sc fb ie (.e e)
  | .BoolOp .And (e1 :: e2 :: r) p => (match ie with | .and a b => rec sc fb a (.e e1) && rec sc fb b (.e (.BoolOp .And (e2 :: r) p)) | _ => false)
  | .BoolOp .Or (e1 :: e2 :: r) p => (match ie with | .or a b => rec sc fb a (.e e1) && rec sc fb b (.e (.BoolOp .Or (e2 :: r) p)) | _ => false)
  | _ => false
def cNot (ie : E) (x : Expr) : Bool := match ie, x with
  | .not a, .UnaryOp .Not e _ => rec sc fb a (.e e)
  | _, _ => false
def cIte (ie : E) (x : Expr) : Bool := match ie, x with
  | .ite c a b, .IfExp c' a' b' _ => rec sc fb c (.t c') && rec sc fb a (.e a') && rec sc fb b (.e b')
  | _, _ => false
def cTup (ie : E) (x : Expr) : Bool := match ie, x with
  | .tup es, .Tuple xs _ _ => rec sc fb es (.a xs)
  | .lst es, .List xs _ => rec sc fb es (.a xs)
  | .dct0, .Dict [] [] _ => true
  | _, _ => false
def cDct (ie : E) (x : Expr) : Bool := match ie, x with
  | .dct1 (.cons a (.cons b .nil)), .Dict [some k] [v] _ => rec sc fb a (.e k) && rec sc fb b (.e v)
  | .dget i (.cons a (.cons b .nil)), .Call (.Attribute (.Name y _) m ap) [e, f] [] cp => N[i]? == some y && visB sc y && (m == Str.ofString "get") && (ap.endLine == cp.line) && plain e && plain f && rec sc fb a (.e e) && rec sc fb b (.e f)
  | _, _ => false
def partB (p : E) (x : Option Expr) : Bool := match p, x with
  | .nil, none => true
  | .cons a .nil, some e => rec sc fb a (.e e)
  | _, _ => false
def cSlc (ie : E) (x : Expr) : Bool := match ie, x with
  | .slc a lo hi, .Subscript e (.Slice l h none _) _ => rec sc fb a (.e e) && partB rec sc fb lo l && partB rec sc fb hi h
  | .rev a, .Subscript e (.Slice none none (some (.UnaryOp .USub (.Constant (.int 1) _ _) _)) _) _ => rec sc fb a (.e e)
  | .frz a, e => rec sc fb a (.e e)
  | _, _ => false
def cCall (ie : E) (x : Expr) : Bool := match ie, x with
  | .call f es, .Call (.Name y _) args [] _ => (match G.fns[f]? with | some fn => fn.name == y | none => false) && glB sc y && !args.isEmpty && args.all plain && rec sc fb es (.a args)
  | .callK f ks es kw, .Call (.Name y _) args kws _ => (match G.fns[f]? with | some fn => fn.name == y | none => false) && glB sc y && args.all plain && rec sc fb es (.a args) && rec sc fb kw (.w kws) && (match es, args with | .nil, [] => true | .cons _ _, _ :: _ => true | _, _ => false) && decide (es.len = args.length) && decide (kw.len = kws.length) && G.kws.contains (f, args.length, kws.filterMap (fun k => k.arg), ks)
  | _, _ => false
def cPop (ie : E) (x : Expr) : Bool := match ie, x with
  | .pop i es, .Call (.Attribute (.Name y _) m ap) args [] cp => N[i]? == some y && visB sc y && (m == Str.ofString "pop") && (ap.endLine == cp.line) && args.all plain && (match es, args with
    | .nil, [] => true
    | .cons a .nil, [e] => rec sc fb (.cons a .nil) (.a [e])
    | _, _ => false)
  | _, _ => false
def locB (y : Str) : Bool := (sc.names.lookup y == some .local || (sc.names.lookup y == some .cell && fnB fb y))
def nmsB : List Nat → List Expr → Bool
  | [], [] => true
  | i :: is, .Name y _ :: xs => N[i]? == some y && locB sc fb y && nmsB is xs
  | _, _ => false
def tgB : Tg → Expr → Bool
  | .nm i, .Name y _ => N[i]? == some y && locB sc fb y
  | .tp is, .Tuple xs _ _ => nmsB N sc fb is xs && decide (is.length = xs.length)
  | .tn i js, .Tuple [.Name y _, .Tuple xs _ _] _ _ => N[i]? == some y && locB sc fb y && nmsB N sc fb js xs && decide (js.length = xs.length)
  | _, _ => false
def isTupX : Expr → Bool
  | .Tuple _ _ _ => true
  | _ => false
def itB (k : ItK) (it : E) (x tg : Expr) : Bool := match k with
  | .e => (match it with | .cons a .nil => rec sc fb a (.e x) | _ => false)
  | .rng => (match x with | .Call (.Name y _) args [] _ => bltB G sc y "range" && args.all plain && rec sc fb it (.a args) && decide (args.length = it.len) && (args.length == 1 || args.length == 2 || args.length == 3) | _ => false)
  | .enm => (match it, x with | .cons a .nil, .Call (.Name y _) [e] [] _ => isTupX tg && bltB G sc y "enumerate" && plain e && rec sc fb it (.a [e]) | _, _ => false)
  | .zp => (match it, x with | .cons a (.cons b .nil), .Call (.Name y _) [e, e2] [] _ => isTupX tg && bltB G sc y "zip" && plain e && plain e2 && rec sc fb it (.a [e, e2]) | _, _ => false)
def ownOf (is : List Nat) : List (Str × Nat) := is.filterMap fun i => (N[i]?).map fun y => (y, i)
def cLc (ie : E) (x : Expr) : Bool := match ie, x with
  | .lc tg k it cond elt, .ListComp elt' [⟨tg', iter', ifs', 0⟩] scope _ => notSet iter' && itB G rec sc fb k it iter' tg' && decide (((ownOf N tg.own).map fun p => p.2) = tg.own) && blkC N sc scope (ownOf N tg.own) && tgB N (relS scope sc) (some scope) tg tg' &&
    (match cond, ifs' with | .nil, [] => true | .cons c .nil, [c'] => rec (relS scope sc) (some scope) c (.t c') | _, _ => false) && rec (relS scope sc) (some scope) elt (.e elt')
  | _, _ => false
def condB (sc : Scope) (fb : Option Scope) (c : E) (ifs : List Expr) : Bool := match c, ifs with
  | .nil, [] => true
  | .cons c .nil, [c'] => rec sc fb c (.t c')
  | _, _ => false
def cLc2 (ie : E) (x : Expr) : Bool := match ie, x with
  | .lc2 tg1 k1 it1 c1 tg2 k2 it2 c2 elt, .ListComp elt' [⟨tg1', iter1', ifs1', 0⟩, ⟨tg2', iter2', ifs2', 0⟩] scope _ => notSet iter1' && notSet iter2' && itB G rec sc fb k1 it1 iter1' tg1' && decide (((ownOf N (tg1.own ++ tg2.own)).map fun p => p.2) = tg1.own ++ tg2.own) && blkC N sc scope (ownOf N (tg1.own ++ tg2.own)) &&
    tgB N (relS scope sc) (some scope) tg1 tg1' && condB rec (relS scope sc) (some scope) c1 ifs1' && itB G rec (relS scope sc) (some scope) k2 it2 iter2' tg2' && tgB N (relS scope sc) (some scope) tg2 tg2' && condB rec (relS scope sc) (some scope) c2 ifs2' && rec (relS scope sc) (some scope) elt (.e elt')
  | _, _ => false
def chkE (ie : E) (x : Expr) : Bool := cVar N sc ie x || cLit ie x || cGl G sc ie x || cNeg rec sc fb ie x || cBin rec sc fb ie x || cCmp rec sc fb ie x || cIdx rec sc fb ie x || cChn rec sc fb ie x || cBl G rec sc fb ie x || cRg G rec sc fb ie x || cLs G rec sc fb ie x || cIsi G rec sc fb ie x ||
  cBool rec sc fb ie x || cNot rec sc fb ie x || cIte rec sc fb ie x || cTup rec sc fb ie x || cSlc rec sc fb ie x || cCall G rec sc fb ie x || cPop N rec sc fb ie x || cLc G N rec sc fb ie x || cDct N rec sc fb ie x || cLc2 G N rec sc fb ie x
def chkT (ie : E) (x : Expr) : Bool := match x with
  | .BoolOp _ [e] _ => rec sc fb ie (.t e)
  | .BoolOp .And (e1 :: e2 :: r) p => (match ie with | .and a b => rec sc fb a (.t e1) && rec sc fb b (.t (.BoolOp .And (e2 :: r) p)) | _ => false)
  | .BoolOp .Or (e1 :: e2 :: r) p => (match ie with | .or a b => rec sc fb a (.t e1) && rec sc fb b (.t (.BoolOp .Or (e2 :: r) p)) | _ => false)
  | .UnaryOp .Not e _ => (match ie with | .not a => rec sc fb a (.t e) | _ => false)
  | .Compare e1 [op] [e2] _ => (match ie with | .op2 o a b => cmpO o op && notSet e2 && rec sc fb a (.e e1) && rec sc fb b (.e e2) | _ => false)
  | .Compare e1 [p1, p2] [e2, e3] _ => (match ie with | .chn o1 o2 a b c => cmpO o1 p1 && cmpO o2 p2 && notSet e2 && notSet e3 && rec sc fb a (.e e1) && rec sc fb b (.e e2) && rec sc fb c (.e e3) | _ => false)
  | x => (match ie with | .tru a => valT x && rec sc fb a (.e x) | _ => valT x && rec sc fb ie (.e x))
def chkA : E → List Expr → Bool
  | .nil, [] => true
  | .cons e es, x :: xs => plain x && rec sc fb e (.e x) && rec sc fb es (.a xs)
  | _, _ => false
def chkW : E → List Keyword → Bool
  | .nil, [] => true
  | .cons e es, k :: ks => k.arg.isSome && rec sc fb e (.e k.value) && rec sc fb es (.w ks)
  | _, _ => false
end
def chk (G : Tab) (N : List Str) : Nat → Rec
  | 0, _, _, _, _ => false
  | n + 1, sc, fb, ie, nd => match nd with
    | .e x => chkE G N (chk G N n) sc fb ie x
    | .t x => chkT (chk G N n) sc fb ie x
    | .a xs => chkA (chk G N n) sc fb ie xs
    | .w ks => chkW (chk G N n) sc fb ie ks
end IR
namespace IR
open PySem PySem.Spec L2
section
variable (G : Tab) (A : Nat → Addr) (call : Calls) (lvl : Nat) (N : List Str)
def kwNames (ks : List Keyword) : List Str := ks.filterMap fun k => k.arg
def Snd (sc : Scope) (fb : Option Scope) (ie : E) : Nd → Prop
  | .e x => ∀ X W, Xo G A call lvl N sc fb X W → ∀ m, PE X x (tS G A call X W m ie)
  | .t x => ∀ X W, Xo G A call lvl N sc fb X W → PT X x (tT G A call X W ie) ∧ (∀ op xs p, x = .BoolOp op xs p → PW X x (tT G A call X W ie))
  | .a xs => ∀ X W, Xo G A call lvl N sc fb X W → ∀ m, PA X xs (tA G A call X W m ie)
  | .w ks => ∀ X W, Xo G A call lvl N sc fb X W → PK X ks (tA G A call X W .opd ie) ∧ ks.all (fun k => k.arg.isSome) = true
def RecOk (rec : Rec) : Prop := ∀ sc fb ie nd, rec sc fb ie nd = true → Snd G A call lvl N sc fb ie nd
end
/-! ### what the checker's tests say -/
theorem starEach_plain {e : Expr} {es : List Expr} {env : Env} (h : plain e = true) : starEach (e :: es) env = (false, eval e env) :: starEach es env := by
  cases e <;> first | rfl | (simp [plain] at h)
theorem starEach_all {env : Env} : ∀ {es : List Expr}, es.all plain = true → starEach es env = es.map fun e => (false, eval e env)
  | [], _ => rfl
  | e :: es, h => by
    rw [List.all_cons, Bool.and_eq_true] at h
    rw [starEach_plain h.1, starEach_all h.2]; rfl
theorem star_none {env : Env} {pos : Pos} {es : List Expr} (h : es.all plain = true) : ((backTo pos (starEach es env)).any fun x => x.1) = false := by
  rw [starEach_all h]
  unfold backTo
  rw [List.map_map]
  rw [List.any_eq_false]
  intro x hx
  obtain ⟨e, _, rfl⟩ := List.mem_map.mp hx
  simp
theorem kwEach {env : Env} : ∀ ks : List Keyword, keywordEach ks env = ks.map fun k => (k.arg, eval k.value env)
  | [] => rfl
  | k :: ks => by
    obtain ⟨a, v, p⟩ := k
    rw [keywordEach.eq_2, kwEach ks]; rfl
theorem behind_ok {op : CmpOp} {e : Expr} (h : notSet e = true) : behindInMarks op e = false := by
  cases e <;> first | rfl | (simp [notSet] at h)
theorem folded_ok {e : Expr} {env : Env} (h : notSet e = true) (x : Value) : foldedSetIterable e env x = pure x := by
  cases e <;> first | rfl | (simp [notSet] at h)
theorem last_ok {o1 o2 : CmpOp} {a b : Expr} (h1 : notSet a = true) (h2 : notSet b = true) : lastMarks [o1, o2] [a, b] = false := by
  cases b <;> first | rfl | (simp [notSet] at h2)
theorem plainIx_ok {e : Expr} (h : notSlice e = true) : PlainIx e := by
  cases e <;> first | (intro _ _; rfl) | (simp [notSlice] at h)
theorem swaps_ok {e : Expr} {t : Option Expr} {l : Nat} {env : Env} (h : notComp e = true) : swapsWith e t l env = pure false := by
  cases e <;> first | rfl | (simp [notComp] at h)
theorem isTrue_val {e : Expr} {env : Env} (h : valT e = true) (whole : Sem Value) : PySem.isTrue e env whole = (do let v ← whole; standAt e.pos; holding [v] (truthy v)) := by
  cases e <;> first | rfl | (simp [valT] at h) | skip
  rename_i op e p
  cases op <;> first | rfl | (simp [valT] at h)
theorem attr_ok {e : Expr} {m : Str} {env : Env} {w : Sem Value} (h : notCall e = true) : attributeBase e m env w = w := by
  cases e <;> first | rfl | (simp [notCall] at h)
section
variable {G : Tab} {A : Nat → Addr} {call : Calls} {lvl : Nat} {N : List Str} {sc : Scope} {fb : Option Scope} {X : Cx} {W : WX}
theorem glB_ok (O : Xo G A call lvl N sc fb X W) {y : Str} (h : glB sc y = true) : Gl X y ∧ (y == Str.ofString "__debug__") = false := by
  unfold glB at h
  rw [Bool.and_eq_true, Bool.not_eq_true'] at h
  refine ⟨?_, h.2⟩
  show X.env.scope.names.lookup y = _
  rw [O.sc]
  exact eq_of_beq h.1
theorem visB_ok (O : Xo G A call lvl N sc fb X W) {y : Str} (h : visB sc y = true) : Vis X.env.scope y ∧ (y == Str.ofString "__debug__") = false ∧ (y == Str.ofString "__classdict__") = false := by
  unfold visB at h
  rw [Bool.and_eq_true, Bool.and_eq_true, Bool.not_eq_true', Bool.not_eq_true'] at h
  refine ⟨?_, h.1.2, h.2⟩
  rw [O.sc]
  have q := h.1.1
  split at q
  · rename_i e; exact .inl e
  · rename_i e; exact .inr (.inl e)
  · rename_i e; exact .inr (.inr e)
  · cases q
theorem locB_ok (O : Xo G A call lvl N sc fb X W) {y : Str} (h : locB sc fb y = true) : L2.Loc X.env.scope y ∧ (X.fn y = true ∨ X.env.scope.names.lookup y = some .local) := by
  unfold locB at h
  rw [Bool.or_eq_true, Bool.and_eq_true] at h
  rw [O.sc]
  rcases h with h | h
  · have e := eq_of_beq h
    exact ⟨.inl e, .inr e⟩
  · exact ⟨.inr (eq_of_beq h.1), .inl (O.fn y h.2)⟩
theorem bltB_ok (O : Xo G A call lvl N sc fb X W) {y : Str} {n : String} (h : bltB G sc y n = true) : y = Str.ofString n ∧ Gl X y ∧ X.mg y = none := by
  unfold bltB at h
  rw [Bool.and_eq_true, Bool.and_eq_true] at h
  exact ⟨eq_of_beq h.1.2, (glB_ok O h.1.1).1, O.lk.bl y (by simpa using h.2)⟩
theorem hu_of (O : Xo G A call lvl N sc fb X W) : X.A.units + 64 < cLine := by have := O.room.un; omega
theorem slot_ok (O : Xo G A call lvl N sc fb X W) {i : Nat} {y : Str} (h : (N[i]? == some y) = true) : X.N[i]? = some y := by
  rw [O.hN]; exact eq_of_beq h
theorem nd_ok (O : Xo G A call lvl N sc fb X W) : X.N.Nodup := by rw [O.hN]; exact O.nd
theorem Vw.tru {K : PySem.W.Frag} {F H : Hp} {d : D} {v : V} {b : Bool} (s : Same F H) (h : Vw K F H d v) (e : truD d = some b) : TruV K v H b := by
  have emp : ∀ {ds : List D} {xs : List V} {g : List Addr}, Reps K F H ds xs g → xs.isEmpty = ds.isEmpty := fun {ds xs g} r => by
    have l := r.length
    cases ds with
    | nil => rw [r.1]; rfl
    | cons d ds => cases xs with
      | nil => simp at l
      | cons _ _ => rfl
  cases d <;> simp only [truD, Option.some.injEq, reduceCtorEq] at e
  · rw [h.non]; exact e.symm
  · rw [h.bl]; exact e.symm
  · rw [h.int]; exact e.symm
  · obtain ⟨a, us, g, rfl, _, ha, r⟩ := h.tup s
    exact .inr (.inl ⟨us, ha, by rw [emp r]; exact e.symm⟩)
  · obtain ⟨a, us, g, rfl, ha, r⟩ := h.lst s
    exact .inl ⟨us, .of ha, by rw [emp r]; exact e.symm⟩
theorem t_tru {a : E} {σ : St} {H : Hp} {Q : Bool → Hp → Prop} (h : tT G A call X W (.tru a) σ H Q) : tS G A call X W .opd a σ H fun x H' => ∃ k, TruV X.K x H' k ∧ Q k H' := by
  obtain ⟨F, δ, fp, w, h⟩ := h
  rw [RG.evB_iff] at h
  simp only [ev] at h
  refine s1 (β := Opd) w (ok := fun (x : Opd) δ1 => ∃ b, x.get δ1 = some (D.bl b) ∧ PB X.K σ F H fp Q b δ1) h fun x δ1 F1 H1 fp1 v fv t1 w1 o1 fr1 h1 => ?_
  split at h1
  · rename_i d gx
    obtain ⟨z, ez, b, eb, q⟩ := RG.ofO h1
    obtain ⟨k, ek, rfl⟩ := Option.map_eq_some_iff.mp ez
    have e2 : k = b := by simpa [Opd.get] using eb
    subst e2
    exact ⟨k, Vw.tru w1.same (o1.see w1 gx) ek, q F1 H1 fp1 t1 w1⟩
  · exact False.elim h1
end
end IR
namespace IR
open PySem PySem.Spec L2
section
variable {G : Tab} {A : Nat → Addr} {call : Calls} {lvl : Nat} {N : List Str} {sc : Scope} {fb : Option Scope} {X : Cx} {W : WX} {rec : Rec} {ie : E} {x : Expr} {m : Md}
theorem k_var (O : Xo G A call lvl N sc fb X W) (h : cVar N sc ie x = true) : PE X x (tS G A call X W m ie) := by
  unfold cVar at h
  split at h
  · rename_i i y p
    rw [Bool.and_eq_true] at h
    obtain ⟨v, d1, d2⟩ := visB_ok O h.2
    exact pe_imp (pe_var (slot_ok O h.1) v d1 d2) fun σ H Q q => s_var q
  · cases h
theorem k_lit (h : cLit ie x = true) : PE X x (tS G A call X W m ie) := by
  unfold cLit at h
  split at h
  · exact pe_imp pe_non fun σ H Q q => s_lit (c := .non) (fun _ => ⟨rfl, rfl⟩) q
  · rename_i b c _ _
    rw [eq_of_beq h]; exact pe_imp pe_bl fun σ H Q q => s_lit (c := .bl c) (fun _ => ⟨rfl, rfl⟩) q
  · rename_i b c _ _
    rw [eq_of_beq h]; exact pe_imp pe_int fun σ H Q q => s_lit (c := .int c) (fun _ => ⟨rfl, rfl⟩) q
  · rename_i b c _ _
    rw [eq_of_beq h]; exact pe_imp pe_str fun σ H Q q => s_lit (c := .str c) (fun _ => ⟨rfl, rfl⟩) q
  · cases h
theorem k_gl (O : Xo G A call lvl N sc fb X W) (h : cGl G sc ie x = true) : PE X x (tS G A call X W m ie) := by
  unfold cGl at h
  split at h
  · rename_i n y p
    rw [Bool.and_eq_true] at h
    obtain ⟨h1, h2⟩ := h
    split at h1
    · rename_i q hq
      obtain ⟨g, d⟩ := glB_ok O h2
      have hz := O.lk.gl n q hq
      obtain ⟨q1, q2⟩ := q
      have e : q1 = y := eq_of_beq h1
      subst e
      cases q2 with
      | int i =>
        obtain ⟨t, ht⟩ := hz
        exact pe_imp (pe_glob g ht (v := .int i) ⟨_, rfl⟩ d) fun σ H Q z => s_gl hq (fun _ => ⟨rfl, rfl⟩) z
      | str z =>
        obtain ⟨t, ht⟩ := hz
        exact pe_imp (pe_glob g ht (v := .str z) ⟨_, rfl⟩ d) fun σ H Q z => s_gl hq (fun _ => ⟨rfl, rfl⟩) z
      | non => exact hz.elim
      | bl b => exact hz.elim
    · cases h1
  · cases h
theorem k_neg (O : Xo G A call lvl N sc fb X W) (ih : RecOk G A call lvl N rec) (h : cNeg rec sc fb ie x = true) : PE X x (tS G A call X W m ie) := by
  unfold cNeg at h
  split at h
  · exact pe_imp (pe_un o_neg (ih _ _ _ _ h X W O .opd)) fun σ H Q q => s_op1 q
  · cases h
theorem binO_ok {o : O2} {op : Operator} (h : binO o op = true) : OpR X (binaryOp op) (rD X.K (run2 o)) := by
  unfold binO at h
  split at h
  · exact o_add
  · exact o_sub
  · exact o_mul
  · exact o_fdv
  · exact o_mod
  · exact o_pow
  · exact o_band
  · cases h
theorem cmpO_ok (O : Xo G A call lvl N sc fb X W) {o : O2} {op : CmpOp} (h : cmpO o op = true) : OpR X (compareOp op) (rD X.K (run2 o)) := by
  have hu := hu_of O
  unfold cmpO at h
  split at h
  · exact o_eq hu
  · exact o_ne hu
  · exact o_lt
  · exact o_le
  · exact o_gt
  · exact o_ge
  · exact o_is
  · exact o_isN
  · exact o_in
  · exact o_nin
  · cases h
theorem k_bin (O : Xo G A call lvl N sc fb X W) (ih : RecOk G A call lvl N rec) (h : cBin rec sc fb ie x = true) : PE X x (tS G A call X W m ie) := by
  unfold cBin at h
  split at h
  · rw [Bool.and_eq_true, Bool.and_eq_true] at h
    exact pe_imp (pe_op (binO_ok h.1.1) (ih _ _ _ _ h.1.2 X W O .opd) (ih _ _ _ _ h.2 X W O .opd)) fun σ H Q q => s_op2 q
  · cases h
theorem k_cmp (O : Xo G A call lvl N sc fb X W) (ih : RecOk G A call lvl N rec) (h : cCmp rec sc fb ie x = true) : PE X x (tS G A call X W m ie) := by
  unfold cCmp at h
  split at h
  · rw [Bool.and_eq_true, Bool.and_eq_true, Bool.and_eq_true] at h
    exact pe_imp (pe_cmpR (cmpO_ok O h.1.1.1) (ih _ _ _ _ h.1.2 X W O .opd) (ih _ _ _ _ h.2 X W O .opd) (behind_ok h.1.1.2)) fun σ H Q q => s_op2 q
  · cases h
theorem k_idx (O : Xo G A call lvl N sc fb X W) (ih : RecOk G A call lvl N rec) (h : cIdx rec sc fb ie x = true) : PE X x (tS G A call X W m ie) := by
  unfold cIdx at h
  split at h
  · rw [Bool.and_eq_true, Bool.and_eq_true] at h
    exact pe_imp (pe_ix o_idx (ih _ _ _ _ h.1.2 X W O .opd) (ih _ _ _ _ h.2 X W O .opd) (plainIx_ok h.1.1)) fun σ H Q q => s_op2 q
  · cases h
theorem k_chn (O : Xo G A call lvl N sc fb X W) (ih : RecOk G A call lvl N rec) (h : cChn rec sc fb ie x = true) : PE X x (tS G A call X W m ie) := by
  unfold cChn at h
  split at h
  · simp only [Bool.and_eq_true] at h
    obtain ⟨⟨⟨⟨⟨⟨h1, h2⟩, h3⟩, h4⟩, h5⟩, h6⟩, h7⟩ := h
    exact pe_imp (pe_chain (cmpO_ok O h1) (cmpO_ok O h2) (ih _ _ _ _ h5 X W O .opd) (ih _ _ _ _ h6 X W O .opd) (ih _ _ _ _ h7 X W O .opd) (last_ok h3 h4)) fun σ H Q q => s_chn q
  · cases h
theorem k_bl (O : Xo G A call lvl N sc fb X W) (ih : RecOk G A call lvl N rec) (h : cBl G rec sc fb ie x = true) : PE X x (tS G A call X W m ie) := by
  unfold cBl at h
  split at h
  · rename_i o es y p args pos
    simp only [Bool.and_eq_true] at h
    obtain ⟨⟨⟨h1, h2⟩, h3⟩, h4⟩ := h
    split at h1
    · rename_i n hn
      obtain ⟨rfl, g, hm⟩ := bltB_ok O h1
      cases args with
      | nil => simp at h2
      | cons e args =>
        have ha := ih _ _ _ _ h4 X W O .opd
        rw [List.all_cons, Bool.and_eq_true] at h3
        have he : starEach (e :: args) X.env = _ := starEach_plain h3.1
        have hs := star_none (env := X.env) (pos := pos) h3.2
        have hc := O.calm
        refine pe_imp (t := tCB (rDs X.K (runBl o)) (tA G A call X W .opd es)) ?_ fun σ H Q q => s_bl q
        cases o <;> simp only [blNm, Option.some.injEq, reduceCtorEq] at hn <;> subst hn
        · exact pe_callB b_len g hm (by decide +kernel) ha (by decide) (by decide) he hs
        · exact pe_callB b_abs g hm (by decide +kernel) ha (by decide) (by decide) he hs
        · exact pe_callTy b_int g hm (by decide +kernel) ha (by decide) (by decide) he hs
        · exact pe_callTy b_list g hm (by decide +kernel) ha (by decide) (by decide) he hs
        · exact pe_callTy b_tuple g hm (by decide +kernel) ha (by decide) (by decide) he hs
        · exact pe_callB (b_all hc) g hm (by decide +kernel) ha (by decide) (by decide) he hs
        · exact pe_callB (b_any hc) g hm (by decide +kernel) ha (by decide) (by decide) he hs
        · exact pe_callB (b_sum hc) g hm (by decide +kernel) ha (by decide) (by decide) he hs
        · exact pe_callB (b_min hc (hu_of O)) g hm (by decide +kernel) ha (by decide) (by decide) he hs
        · exact pe_callB (b_max hc) g hm (by decide +kernel) ha (by decide) (by decide) he hs
        · exact pe_callB (b_sorted (hu_of O)) g hm (by decide +kernel) ha (by decide) (by decide) he hs
    · cases h1
  · cases h
theorem k_rg (O : Xo G A call lvl N sc fb X W) (ih : RecOk G A call lvl N rec) (h : cRg G rec sc fb ie x = true) : PE X x (tS G A call X W m ie) := by
  unfold cRg at h
  split at h
  · simp only [Bool.and_eq_true] at h
    obtain ⟨⟨⟨h1, h2⟩, h3⟩, h4⟩ := h
    obtain ⟨rfl, g1, m1⟩ := bltB_ok O h1
    obtain ⟨rfl, g2, m2⟩ := bltB_ok O h2
    split at h4
    · simp only [List.all_cons, Bool.and_eq_true] at h3
      exact pe_imp (pe_listRg O.calm g1 m1 (prg_1 g2 m2 (ih _ _ _ _ h4 X W O .opd) (starEach_plain h3.1)) (starEach_plain rfl)) fun σ H Q q => s_lrg1 q
    · simp only [List.all_cons, Bool.and_eq_true] at h3 h4
      exact pe_imp (pe_listRg O.calm g1 m1 (prg_2 g2 m2 (ih _ _ _ _ h4.1 X W O .opd) (ih _ _ _ _ h4.2 X W O .opd) (starEach_plain h3.1) (starEach_plain h3.2.1) (star_none (by simp [h3.2.1]))) (starEach_plain rfl)) fun σ H Q q => s_lrg2 q
    · cases h4
  · simp only [Bool.and_eq_true] at h
    obtain ⟨⟨⟨h1, h2⟩, h3⟩, h4⟩ := h
    obtain ⟨rfl, g1, m1⟩ := bltB_ok O h1
    obtain ⟨rfl, g2, m2⟩ := bltB_ok O h2
    split at h4
    · simp only [List.all_cons, Bool.and_eq_true] at h3
      exact pe_imp (pe_tupRg O.calm g1 m1 (prg_1 g2 m2 (ih _ _ _ _ h4 X W O .opd) (starEach_plain h3.1)) (starEach_plain rfl)) fun σ H Q q => s_trg1 q
    · simp only [List.all_cons, Bool.and_eq_true] at h3 h4
      exact pe_imp (pe_tupRg O.calm g1 m1 (prg_2 g2 m2 (ih _ _ _ _ h4.1 X W O .opd) (ih _ _ _ _ h4.2 X W O .opd) (starEach_plain h3.1) (starEach_plain h3.2.1) (star_none (by simp [h3.2.1]))) (starEach_plain rfl)) fun σ H Q q => s_trg2 q
    · cases h4
  · cases h
theorem k_ls (O : Xo G A call lvl N sc fb X W) (ih : RecOk G A call lvl N rec) (h : cLs G rec sc fb ie x = true) : PE X x (tS G A call X W m ie) := by
  unfold cLs at h
  split at h
  · simp only [Bool.and_eq_true] at h
    obtain ⟨⟨⟨h1, h2⟩, h3⟩, h4⟩ := h
    obtain ⟨rfl, g1, m1⟩ := bltB_ok O h1
    obtain ⟨rfl, g2, m2⟩ := bltB_ok O h2
    exact pe_imp (pe_lset O.calm g1 m1 g2 m2 (ih _ _ _ _ h4 X W O .opd) (starEach_plain h3)) fun σ H Q q => s_lset q
  · simp only [Bool.and_eq_true] at h
    obtain ⟨⟨⟨h1, h2⟩, h3⟩, h4⟩ := h
    obtain ⟨rfl, g1, m1⟩ := bltB_ok O h1
    obtain ⟨rfl, g2, m2⟩ := bltB_ok O h2
    exact pe_imp (pe_sset O.calm g1 m1 g2 m2 (ih _ _ _ _ h4 X W O .opd) (starEach_plain h3)) fun σ H Q q => s_sset q
  · cases h
theorem boot_ty : ∀ t ∈ tyNames, bootBuiltins (Str.ofString t) = some (.type t) ∧ Str.ofString t ≠ Str.ofString "__name__" ∧ (Str.ofString t == Str.ofString "__debug__") = false := by decide +kernel
theorem ty_ok (O : Xo G A call lvl N sc fb X W) {t : String} {x : Expr} (h : tyB G sc t x = true) : t ∈ tyNames ∧ PE X x (tC (.ty t)) := by
  unfold tyB at h
  split at h
  · rename_i y p
    rw [Bool.and_eq_true] at h
    obtain ⟨rfl, g, hm⟩ := bltB_ok O h.1
    have ht : t ∈ tyNames := by simpa using h.2
    obtain ⟨b1, b2, b3⟩ := boot_ty t ht
    exact ⟨ht, pe_bltn g hm b1 (v := .ty t) rfl b2 b3⟩
  · cases h
theorem tys_ok (O : Xo G A call lvl N sc fb X W) : ∀ {ts : List String} {xs : List Expr}, tysB G sc ts xs = true → (∀ t ∈ ts, t ∈ tyNames) ∧ PA X xs (tTys ts)
  | [], [], _ => ⟨by simp, pa_nil⟩
  | [], _ :: _, h => by simp [tysB] at h
  | _ :: _, [], h => by simp [tysB] at h
  | t :: ts, x :: xs, h => by
    simp only [tysB, Bool.and_eq_true] at h
    obtain ⟨a, b⟩ := tys_ok O h.2
    obtain ⟨c, d⟩ := ty_ok O h.1.1
    refine ⟨fun u hu => ?_, pa_cons d b (starEach_plain h.1.2)⟩
    rcases List.mem_cons.mp hu with e | e
    · rw [e]; exact c
    · exact a u e
theorem k_isi (O : Xo G A call lvl N sc fb X W) (ih : RecOk G A call lvl N rec) (h : cIsi G rec sc fb ie x = true) : PE X x (tS G A call X W m ie) := by
  unfold cIsi at h
  split at h
  · simp only [Bool.and_eq_true] at h
    obtain ⟨⟨⟨⟨h1, h2⟩, h3⟩, h4⟩, h5⟩ := h
    obtain ⟨rfl, g, hm⟩ := bltB_ok O h1
    obtain ⟨ht, hp⟩ := ty_ok O h3
    exact pe_imp (pe_callB call_isi g hm (by decide +kernel) (pa_cons (ih _ _ _ _ h5 X W O .opd) (pa_cons hp pa_nil (starEach_plain h4)) (starEach_plain h2)) (by decide) (by decide) (starEach_plain h2) (star_none (by simp [h4]))) fun σ H Q q => s_isi1 ht q
  · simp only [Bool.and_eq_true, decide_eq_true_eq] at h
    obtain ⟨⟨⟨⟨h1, h2⟩, h3⟩, h4⟩, h5⟩ := h
    obtain ⟨rfl, g, hm⟩ := bltB_ok O h1
    obtain ⟨ht, hp⟩ := tys_ok O h4
    exact pe_imp (pe_callB call_isiT g hm (by decide +kernel) (pa_cons (ih _ _ _ _ h5 X W O .opd) (pa_cons (pe_tup hp) pa_nil (starEach_plain rfl)) (starEach_plain h2)) (by decide) (by decide) (starEach_plain h2) (star_none rfl)) fun σ H Q q => s_isiT h3 ht q
  · cases h
theorem k_bool (O : Xo G A call lvl N sc fb X W) (ih : RecOk G A call lvl N rec) (h : cBool rec sc fb ie x = true) : PE X x (tS G A call X W m ie) := by
  unfold cBool at h
  have low : ∀ {b : E} {y : Expr}, rec sc fb b (.e y) = true → PE X y (fun σ H Q => tS G A call X W .opd b σ H fun y H1 => ∃ c, y = .bl c ∧ Q (.bl c) H1) := fun {b y} h =>
    pe_imp (ih _ _ _ _ h X W O .opd) fun σ H Q q => tS_mono q fun v H ⟨c, e, z⟩ => by rw [e]; exact z
  split at h
  · exact pe_one (ih _ _ _ _ h X W O m)
  · split at h
    · rw [Bool.and_eq_true] at h
      exact pe_imp (pe_and (ih _ _ _ _ h.1 X W O .opd) (low h.2)) fun σ H Q q => s_and q
    · cases h
  · split at h
    · rw [Bool.and_eq_true] at h
      exact pe_imp (pe_or (ih _ _ _ _ h.1 X W O .opd) (low h.2)) fun σ H Q q => s_or q
    · cases h
  · cases h
theorem k_not (O : Xo G A call lvl N sc fb X W) (ih : RecOk G A call lvl N rec) (h : cNot rec sc fb ie x = true) : PE X x (tS G A call X W m ie) := by
  unfold cNot at h
  split at h
  · exact pe_imp (pe_not (ih _ _ _ _ h X W O .opd)) fun σ H Q q => s_not q
  · cases h
theorem k_ite (O : Xo G A call lvl N sc fb X W) (ih : RecOk G A call lvl N rec) (h : cIte rec sc fb ie x = true) : PE X x (tS G A call X W m ie) := by
  unfold cIte at h
  split at h
  · simp only [Bool.and_eq_true] at h
    exact pe_imp (pe_ifExp (ih _ _ _ _ h.1.1 X W O).1 (ih _ _ _ _ h.1.2 X W O m) (ih _ _ _ _ h.2 X W O m)) fun σ H Q q => s_ite q
  · cases h
theorem k_tup (O : Xo G A call lvl N sc fb X W) (ih : RecOk G A call lvl N rec) (h : cTup rec sc fb ie x = true) : PE X x (tS G A call X W m ie) := by
  unfold cTup at h
  split at h
  · exact pe_imp (pe_tup (ih _ _ _ _ h X W O m.in)) fun σ H Q q => s_tup q
  · exact pe_imp (pe_lst (ih _ _ _ _ h X W O m.in)) fun σ H Q q => s_lst q
  · exact pe_imp pe_dnewK fun σ H Q q => s_dct0 q
  · cases h
theorem k_dct (O : Xo G A call lvl N sc fb X W) (ih : RecOk G A call lvl N rec) (h : cDct N rec sc fb ie x = true) : PE X x (tS G A call X W m ie) := by
  unfold cDct at h
  split at h
  · rw [Bool.and_eq_true] at h
    exact pe_imp (pe_disp (pps_cons (ih _ _ _ _ h.1 X W O .esc) (ih _ _ _ _ h.2 X W O .esc) pps_nil) rfl rfl (fun z => by cases z) (by simp)) fun σ H Q q => s_dct1 q
  · rename_i i a b y p mt ap e f cp
    simp only [Bool.and_eq_true] at h
    obtain ⟨⟨⟨⟨⟨⟨⟨h1, h2⟩, h3⟩, h4⟩, h5⟩, h6⟩, h7⟩, h8⟩ := h
    obtain ⟨v, d1, d2⟩ := visB_ok O h2
    have em : mt = Str.ofString "get" := eq_of_beq h3
    subst em
    have tr : backTo cp (starEach [e, f] X.env) = [(false, eval e X.env), (false, eval f X.env)] := by
      rw [starEach_plain h5, starEach_plain h6]; rfl
    exact pe_imp (pe_dget2 (by have := hu_of O; omega) (pe_var (slot_ok O h1) v d1 d2) (ih _ _ _ _ h7 X W O .opd) (ih _ _ _ _ h8 X W O .opd) ⟨attr_ok rfl, by rw [tr]; rfl, h4, tr⟩) fun σ H Q q => s_dget q
  · cases h
theorem part_ok (O : Xo G A call lvl N sc fb X W) (ih : RecOk G A call lvl N rec) {p : E} {y : Option Expr} (h : partB rec sc fb p y = true) : L2.PO X y (tO G A call X W p) := by
  unfold partB at h
  split at h
  · exact ⟨fun pins s σ H Q I q => po_none.run pins s σ H Q I (s_o0 q)⟩
  · exact ⟨fun pins s σ H Q I q => (po_some (ih _ _ _ _ h X W O .opd)).run pins s σ H Q I (s_o1 q)⟩
  · cases h
theorem k_slc (O : Xo G A call lvl N sc fb X W) (ih : RecOk G A call lvl N rec) (h : cSlc rec sc fb ie x = true) : PE X x (tS G A call X W m ie) := by
  unfold cSlc at h
  split at h
  · simp only [Bool.and_eq_true] at h
    exact pe_imp (pe_slice o_sl (ih _ _ _ _ h.1.1 X W O .opd) (part_ok O ih h.1.2) (part_ok O ih h.2)) fun σ H Q q => s_slc q
  · exact pe_imp (pe_revA (ih _ _ _ _ h X W O .opd)) fun σ H Q q => s_rev q
  · exact pe_imp (ih _ _ _ _ h X W O .esc) fun σ H Q q => s_frz q
  · cases h
end
end IR
namespace IR
open PySem PySem.Spec L2
section
variable {G : Tab} {A : Nat → Addr} {call : Calls} {lvl : Nat} {N : List Str} {sc : Scope} {fb : Option Scope} {X : Cx} {W : WX} {rec : Rec} {ie : E} {x : Expr} {m : Md}
theorem kw_all {ks : List Keyword} {env : Env} {pos : Pos} (h : ks.all (fun k => k.arg.isSome) = true) : (backToKw pos (keywordEach ks env)).all (fun y => y.1.isSome) = true := by
  rw [kwEach]
  unfold backToKw
  rw [List.map_map, List.all_map]
  exact h
theorem kw_none {ks : List Keyword} {env : Env} {pos : Pos} (h : ks.all (fun k => k.arg.isSome) = true) : (backToKw pos (keywordEach ks env)).any (fun y => y.1.isNone) = false := by
  rw [kwEach]
  unfold backToKw
  rw [List.map_map, List.any_eq_false]
  intro y hy
  obtain ⟨k, hk, rfl⟩ := List.mem_map.mp hy
  have q := List.all_eq_true.mp h k hk
  show ¬ (k.arg.isNone = true)
  cases e : k.arg with
  | none => rw [e] at q; cases q
  | some z => simp
theorem kw_names {ks : List Keyword} {env : Env} {pos : Pos} : (backToKw pos (keywordEach ks env)).filterMap (fun y => y.1) = kwNames ks := by
  rw [kwEach]
  unfold backToKw kwNames
  rw [List.map_map, List.filterMap_map]
  rfl
theorem kw_len {ks : List Keyword} (h : ks.all (fun k => k.arg.isSome) = true) : (kwNames ks).length = ks.length := by
  unfold kwNames
  induction ks with
  | nil => rfl
  | cons k ks ih =>
    rw [List.all_cons, Bool.and_eq_true] at h
    cases e : k.arg with
    | none => rw [e] at h; cases h.1
    | some z => rw [List.filterMap_cons_some e, List.length_cons, List.length_cons, ih h.2]
theorem k_call (O : Xo G A call lvl N sc fb X W) (ih : RecOk G A call lvl N rec) (h : cCall G rec sc fb ie x = true) : PE X x (tS G A call X W m ie) := by
  unfold cCall at h
  split at h
  · rename_i f es y p args pos
    simp only [Bool.and_eq_true] at h
    obtain ⟨⟨⟨⟨h1, h2⟩, h3⟩, h4⟩, h5⟩ := h
    split at h1
    · rename_i fn hf
      obtain ⟨fa, fd, hm, hk, hb, hio, F, _⟩ := O.lk.fn f fn hf
      obtain ⟨g, d⟩ := glB_ok O h2
      have e : fn.name = y := eq_of_beq h1
      rw [e] at hm
      cases args with
      | nil => simp at h3
      | cons e args =>
        rw [List.all_cons, Bool.and_eq_true] at h4
        exact pe_imp (pe_callS (E := WE W) F O.room g hm hk hb (fun σ => passAt O.tk σ) (ih _ _ _ _ h5 X W O .opd) d (starEach_plain h4.1) (star_none h4.2)) fun σ H Q q => s_call hf hio q
    · cases h1
  · rename_i f ks es kw y p args kws pos
    simp only [Bool.and_eq_true, decide_eq_true_eq] at h
    obtain ⟨⟨⟨⟨⟨⟨⟨⟨h1, h2⟩, h3⟩, h4⟩, h5⟩, h9⟩, h6⟩, h7⟩, h8⟩ := h
    split at h1
    · rename_i fn hf
      obtain ⟨fa, fd, hm, hk, hb, hio, F, hkw⟩ := O.lk.fn f fn hf
      obtain ⟨g, d⟩ := glB_ok O h2
      have e : fn.name = y := eq_of_beq h1
      rw [e] at hm
      have hw := ih _ _ _ _ h5 X W O
      have hK := hkw args.length (kwNames kws) ks (by simpa [kwNames] using h8)
      have ln := kw_len hw.2
      have hpl : ∀ as : List Expr, as.all plain = true → ((backTo pos (starEach as X.env)).any (fun y => y.1) || (backToKw pos (keywordEach kws X.env)).any (fun y => y.1.isNone)) = false := fun as ha => by
        rw [star_none ha, kw_none hw.2]; rfl
      split at h9
      · refine pe_imp (pe_callKS0 (E := WE W) F O.room g hm hk hK (fun σ => passAt O.tk σ) hw.1 (kw_all hw.2) kw_names d (hpl [] rfl)) fun σ H Q q => ?_
        have q2 := s_callK hf hio q
        rw [h6, h7, ← ln] at q2
        exact tA_nil q2
      · refine pe_imp (pe_callKS (E := WE W) F O.room g hm hk hK (fun σ => passAt O.tk σ) (ih _ _ _ _ h4 X W O .opd) hw.1 (kw_all hw.2) kw_names d (by rw [List.all_cons, Bool.and_eq_true] at h3; exact starEach_plain h3.1) (hpl _ h3)) fun σ H Q q => ?_
        have q2 := s_callK hf hio q
        rw [h6, h7, ← ln] at q2
        exact q2
      · cases h9
    · cases h1
  · cases h
theorem k_pop (O : Xo G A call lvl N sc fb X W) (ih : RecOk G A call lvl N rec) (h : cPop N rec sc fb ie x = true) : PE X x (tS G A call X W m ie) := by
  unfold cPop at h
  split at h
  · rename_i i es y p mt ap args cp
    simp only [Bool.and_eq_true] at h
    obtain ⟨⟨⟨⟨⟨h1, h2⟩, h3⟩, h4⟩, h5⟩, h6⟩ := h
    obtain ⟨v, d1, d2⟩ := visB_ok O h2
    have pv := pe_var (pos := p) (slot_ok O h1) v d1 d2
    have em : mt = Str.ofString "pop" := eq_of_beq h3
    subst em
    split at h6
    · exact pe_imp (pe_bm0 PySem.F.plainAttrs_list PySem.F.slot_list_pop PySem.F.type_list_pop mt_pop pv (attr_ok rfl) h4) fun σ H Q q => s_pop0 q
    · rename_i a e
      have pl : plain e = true := by simpa using h5
      refine pe_imp (pe_bm PySem.F.plainAttrs_list PySem.F.slot_list_pop PySem.F.type_list_pop mt_popAt pv (ih _ _ _ _ h6 X W O .opd) (attr_ok rfl) ?_ h4 (starEach_plain pl) (star_none rfl)) fun σ H Q q => s_pop1 rfl q
      rw [starEach_plain pl]; rfl
    · cases h6
  · cases h
theorem nms_ok (O : Xo G A call lvl N sc fb X W) : ∀ {is : List Nat} {xs : List Expr}, nmsB N sc fb is xs = true → PGs X xs (tgNm is) ∧ (assignEach xs X.env).findIdx? (fun x => x.1) = none ∧ (assignEach xs X.env).length = is.length
  | [], [], _ => ⟨pgs_nil, rfl, rfl⟩
  | [], _ :: _, h => by simp [nmsB] at h
  | _ :: _, [], h => by simp [nmsB] at h
  | i :: is, .Name y p :: xs, h => by
    simp only [nmsB, Bool.and_eq_true] at h
    obtain ⟨a, b, c⟩ := nms_ok O h.2
    obtain ⟨l1, l2⟩ := locB_ok O h.1.2
    refine ⟨pgs_cons (pg_name (nd_ok O) (slot_ok O h.1.1) l1 l2) a rfl, ?_, ?_⟩
    · show List.findIdx? _ ((false, assign (.Name y p) X.env) :: assignEach xs X.env) = none
      rw [List.findIdx?_cons]
      simp [b]
    · show ((false, assign (.Name y p) X.env) :: assignEach xs X.env).length = _
      rw [List.length_cons, c]; rfl
  | _ :: _, .BoolOp _ _ _ :: _, h | _ :: _, .NamedExpr _ _ _ :: _, h | _ :: _, .BinOp _ _ _ _ :: _, h | _ :: _, .UnaryOp _ _ _ :: _, h | _ :: _, .Lambda _ _ _ _ :: _, h | _ :: _, .IfExp _ _ _ _ :: _, h | _ :: _, .Dict _ _ _ :: _, h
  | _ :: _, .Set _ _ _ :: _, h | _ :: _, .ListComp _ _ _ _ :: _, h | _ :: _, .SetComp _ _ _ _ :: _, h | _ :: _, .DictComp _ _ _ _ _ :: _, h | _ :: _, .GeneratorExp _ _ _ _ :: _, h | _ :: _, .Await _ _ :: _, h | _ :: _, .Yield _ _ :: _, h
  | _ :: _, .YieldFrom _ _ :: _, h | _ :: _, .Compare _ _ _ _ :: _, h | _ :: _, .Call _ _ _ _ :: _, h | _ :: _, .FormattedValue _ _ _ _ :: _, h | _ :: _, .JoinedStr _ _ :: _, h | _ :: _, .Constant _ _ _ :: _, h | _ :: _, .Attribute _ _ _ :: _, h
  | _ :: _, .Subscript _ _ _ :: _, h | _ :: _, .Starred _ _ :: _, h | _ :: _, .List _ _ :: _, h | _ :: _, .Tuple _ _ _ :: _, h | _ :: _, .Slice _ _ _ _ :: _, h => by simp [nmsB] at h
theorem tg_ok (O : Xo G A call lvl N sc fb X W) {tg : Tg} {x : Expr} (h : tgB N sc fb tg x = true) : PG X x (tTg X.K tg) := by
  unfold tgB at h
  split at h
  · rw [Bool.and_eq_true] at h
    obtain ⟨l1, l2⟩ := locB_ok O h.2
    exact pg_name (nd_ok O) (slot_ok O h.1) l1 l2
  · rw [Bool.and_eq_true] at h
    obtain ⟨a, b, c⟩ := nms_ok O h.1
    exact pg_tup O.calm a c b
  · simp only [Bool.and_eq_true, decide_eq_true_eq] at h
    obtain ⟨⟨⟨h1, h2⟩, h3⟩, h4⟩ := h
    obtain ⟨l1, l2⟩ := locB_ok O h2
    obtain ⟨a, b, c⟩ := nms_ok O h3
    exact pg_tup O.calm (pgs_cons (pg_name (nd_ok O) (slot_ok O h1) l1 l2) (pgs_cons (pg_tup O.calm a c b) pgs_nil rfl) rfl) rfl rfl
  · cases h
theorem it_pi (O : Xo G A call lvl N sc fb X W) (ih : RecOk G A call lvl N rec) {k : ItK} {it : E} {tg x : Expr} (h : itB G rec sc fb k it x tg = true) : PI X tg x (tIt G A call X W k it) ∧ itOk k it = true := by
  unfold itB at h
  split at h
  · split at h
    · rename_i a
      have pe := ih _ _ _ _ h X W O .opd
      refine ⟨⟨fun pins s σ H R I q => ?_⟩, rfl⟩
      rcases (show iList X.K (tS G A call X W .opd a) σ H R ∨ iTup X.K (tS G A call X W .opd a) σ H R from q) with q | q
      · exact (pi_list pe).run pins s σ H R I q
      · exact (pi_tup pe).run pins s σ H R I q
    · cases h
  · split at h
    · rename_i y p args pos
      simp only [Bool.and_eq_true, decide_eq_true_eq, Bool.or_eq_true, beq_iff_eq] at h
      obtain ⟨⟨⟨⟨h1, h2⟩, h3⟩, h4⟩, h5⟩ := h
      obtain ⟨rfl, g, hm⟩ := bltB_ok O h1
      have pa := ih _ _ _ _ h3 X W O .opd
      have e : tIt G A call X W .rng it = if it.len = 1 then iRng1 (tA G A call X W .opd it) else if it.len = 2 then iRng2 (tA G A call X W .opd it) else iRng3 (tA G A call X W .opd it) := rfl
      refine ⟨?_, by simp only [itOk, Bool.or_eq_true, beq_iff_eq]; omega⟩
      rw [e]
      rcases h5 with (h5 | h5) | h5
      · rw [if_pos (by omega)]
        match args, h5, h2, pa with
        | [a], _, h2, pa =>
          simp only [List.all_cons, Bool.and_eq_true] at h2
          exact pi_range1 g hm pa (by rw [starEach_plain h2.1]; rfl)
      · rw [if_neg (by omega), if_pos (by omega)]
        match args, h5, h2, pa with
        | [a, b], _, h2, pa =>
          simp only [List.all_cons, Bool.and_eq_true] at h2
          exact pi_range2 g hm pa (by rw [starEach_plain h2.1, starEach_plain h2.2.1]; rfl) (by rw [starEach_plain h2.2.1]; rfl)
      · rw [if_neg (by omega), if_neg (by omega)]
        match args, h5, h2, pa with
        | [a, b, c], _, h2, pa =>
          simp only [List.all_cons, Bool.and_eq_true] at h2
          exact pi_range3 g hm pa (starEach_plain h2.1) (star_none (by simp [h2.2.1, h2.2.2.1]))
    · cases h
  · split at h
    · rename_i a y p e pos
      simp only [Bool.and_eq_true] at h
      obtain ⟨⟨⟨h1, h2⟩, h3⟩, h4⟩ := h
      obtain ⟨rfl, g, hm⟩ := bltB_ok O h2
      have pa := ih _ _ _ _ h4 X W O .esc
      refine ⟨?_, rfl⟩
      cases tg <;> simp only [isTupX, Bool.false_eq_true] at h1
      refine ⟨fun pins s σ H R I q => ?_⟩
      rcases (show iEnum X.K (tA G A call X W .esc (.cons a .nil)) σ H R ∨ iEnmT X.K (tA G A call X W .esc (.cons a .nil)) σ H R from q) with q | q
      · exact (pi_enum g hm pa (by rw [starEach_plain h3]; rfl)).run pins s σ H R I q
      · exact (pi_enmT g hm pa (by rw [starEach_plain h3]; rfl)).run pins s σ H R I q
    · cases h
  · split at h
    · rename_i a b y p e e2 pos
      simp only [Bool.and_eq_true] at h
      obtain ⟨⟨⟨⟨h1, h2⟩, h3⟩, h3'⟩, h4⟩ := h
      obtain ⟨rfl, g, hm⟩ := bltB_ok O h2
      have pa := ih _ _ _ _ h4 X W O .esc
      refine ⟨?_, rfl⟩
      cases tg <;> simp only [isTupX, Bool.false_eq_true] at h1
      exact pi_zip g hm pa (by rw [starEach_plain h3]) (by rw [starEach_plain h3']; rfl)
    · cases h
theorem blk_xo (O : Xo G A call lvl N sc fb X W) {scope : Scope} {own : List (Str × Nat)} (b : BlkOk N sc scope own) (s : Shared) (H : Hp) (C : Addr) (cl : List (Str × Addr)) (fp : List Addr) : Xo G A call lvl N (relS scope sc) (some scope) (X.blk s H scope (compEnvC scope cl C X.env) fp) WN where
  fn := fun y h => h
  kd := b.kind
  hN := O.hN
  nd := O.nd
  sc := by rw [← O.sc]; rfl
  calm := O.calm
  room := O.room
  lk := O.lk
  tk := takesN
theorem k_lc (O : Xo G A call lvl N sc fb X W) (ih : RecOk G A call lvl N rec) (h : cLc G N rec sc fb ie x = true) : PE X x (tS G A call X W m ie) := by
  unfold cLc at h
  split at h
  · rename_i tg k it cond elt elt' tg' iter' ifs' scope pos
    simp only [Bool.and_eq_true, decide_eq_true_eq] at h
    obtain ⟨⟨⟨⟨⟨⟨h1, h2⟩, h3⟩, h4⟩, h5⟩, h6⟩, h7⟩ := h
    obtain ⟨pi, io⟩ := it_pi (tg := tg') O ih h2
    have bk : BlkOk N sc scope (ownOf N tg.own) := blkOk_by h4
    have bk2 : BlkOk X.N X.env.scope scope (ownOf N tg.own) := by rw [O.hN, O.sc]; exact bk
    have hc : cond = .nil ∨ ∃ e, cond = .cons e .nil := by
      split at h6
      · exact .inl rfl
      · exact .inr ⟨_, rfl⟩
      · cases h6
    have ht : ∀ (s : Shared) (H : Hp) (C : Addr) (cl : List (Str × Addr)) (fp : List Addr), PTs (X.blk s H scope (compEnvC scope cl C X.env) fp) ifs' (tCd G A call X cond) := by
      intro s H C cl fp
      split at h6
      · exact pts_nil
      · exact pts_one (ih _ _ _ _ h6 _ _ (blk_xo O bk s H C cl fp)).1
      · cases h6
    have P := pe_lc (ifs := ifs') (wi := tIt G A call X W k it) (g := tTg X.K tg) (tt := tCd G A call X cond) (te := tS G A call X WN .esc elt) (pos := pos) O.calm (nd_ok O) pi bk2
      (fun s H C cl fp => tg_ok (blk_xo O bk s H C cl fp) h5)
      ht
      (fun s H C cl fp => ih _ _ _ _ h7 _ _ (blk_xo O bk s H C cl fp) .esc) (folded_ok h1)
    rw [h3] at P
    exact pe_imp P fun σ H Q q => s_lc io hc q
  · cases h
theorem cond_ok (O : Xo G A call lvl N sc fb X WN) (ih : RecOk G A call lvl N rec) {c : E} {ifs : List Expr} (h : condB rec sc fb c ifs = true) : PTs X ifs (tCd G A call X c) ∧ (c = .nil ∨ ∃ e, c = .cons e .nil) := by
  unfold condB at h
  split at h
  · exact ⟨pts_nil, .inl rfl⟩
  · exact ⟨pts_one (ih _ _ _ _ h _ _ O).1, .inr ⟨_, rfl⟩⟩
  · cases h
theorem k_lc2 (O : Xo G A call lvl N sc fb X W) (ih : RecOk G A call lvl N rec) (h : cLc2 G N rec sc fb ie x = true) : PE X x (tS G A call X W m ie) := by
  unfold cLc2 at h
  split at h
  · rename_i tg1 k1 it1 c1 tg2 k2 it2 c2 elt elt' tg1' iter1' ifs1' tg2' iter2' ifs2' scope pos
    simp only [Bool.and_eq_true, decide_eq_true_eq] at h
    obtain ⟨⟨⟨⟨⟨⟨⟨⟨⟨⟨h1, h1'⟩, h2⟩, h3⟩, h4⟩, h5⟩, h6⟩, h7⟩, h8⟩, h9⟩, h10⟩ := h
    obtain ⟨pi, io⟩ := it_pi (tg := tg1') O ih h2
    have bk : BlkOk N sc scope (ownOf N (tg1.own ++ tg2.own)) := blkOk_by h4
    have bk2 : BlkOk X.N X.env.scope scope (ownOf N (tg1.own ++ tg2.own)) := by rw [O.hN, O.sc]; exact bk
    have hv : ∀ i ∈ tg2.own, i ∈ (ownOf N (tg1.own ++ tg2.own)).map (·.2) := fun i hi => by rw [h3]; simp [hi]
    have B := fun (s : Shared) (H : Hp) (C : Addr) (cl : List (Str × Addr)) (fp : List Addr) => blk_xo O bk s H C cl fp
    have io2 : itOk k2 it2 = true := by
      unfold itB at h7
      split at h7
      · split at h7
        · rfl
        · cases h7
      · split at h7
        · simp only [Bool.and_eq_true, decide_eq_true_eq, Bool.or_eq_true, beq_iff_eq] at h7
          simp only [itOk, Bool.or_eq_true, beq_iff_eq]
          omega
        · cases h7
      · split at h7
        · rfl
        · cases h7
      · split at h7
        · rfl
        · cases h7
    have hc1 : c1 = .nil ∨ ∃ e, c1 = .cons e .nil := by
      unfold condB at h6
      split at h6
      · exact .inl rfl
      · exact .inr ⟨_, rfl⟩
      · cases h6
    have hc2 : c2 = .nil ∨ ∃ e, c2 = .cons e .nil := by
      unfold condB at h9
      split at h9
      · exact .inl rfl
      · exact .inr ⟨_, rfl⟩
      · cases h9
    have P := pe_lc2 (ifs := ifs1') (ifs1 := ifs2') (wi := tIt G A call X W k1 it1) (g := tTg X.K tg1) (tt := tCd G A call X c1) (wi1 := tIt G A call X WN k2 it2) (g1 := tTg X.K tg2) (tt1 := tCd G A call X c2) (te := tS G A call X WN .esc elt) (vs1 := tg2.own) (pos := pos) O.calm (nd_ok O) pi bk2 hv
      (fun s H C cl fp => tg_ok (B s H C cl fp) h5) (fun s H C cl fp => (cond_ok (B s H C cl fp) ih h6).1)
      (fun s H C cl fp => (it_pi (tg := tg2') (B s H C cl fp) ih h7).1) (fun s H C cl fp => tg_ok (B s H C cl fp) h8) (fun s H C cl fp => (cond_ok (B s H C cl fp) ih h9).1)
      (fun s H C cl fp => ih _ _ _ _ h10 _ _ (B s H C cl fp) .esc) (folded_ok h1) (fun env y => folded_ok h1' y)
    rw [h3] at P
    exact pe_imp P fun σ H Q q => s_lc2 io io2 hc1 hc2 q
  · cases h
/-- expressions -/
theorem chkE_ok (O : Xo G A call lvl N sc fb X W) (ih : RecOk G A call lvl N rec) (h : chkE G N rec sc fb ie x = true) : PE X x (tS G A call X W m ie) := by
  unfold chkE at h
  simp only [Bool.or_eq_true] at h
  rcases h with h | h
  rotate_left
  · exact k_lc2 O ih h
  rcases h with h | h
  rotate_left
  · exact k_dct O ih h
  rcases h with h | h
  rotate_left
  · exact k_lc O ih h
  rcases h with h | h
  rotate_left
  · exact k_pop O ih h
  rcases h with h | h
  rotate_left
  · exact k_call O ih h
  rcases h with h | h
  rotate_left
  · exact k_slc O ih h
  rcases h with h | h
  rotate_left
  · exact k_tup O ih h
  rcases h with h | h
  rotate_left
  · exact k_ite O ih h
  rcases h with h | h
  rotate_left
  · exact k_not O ih h
  rcases h with h | h
  rotate_left
  · exact k_bool O ih h
  rcases h with h | h
  rotate_left
  · exact k_isi O ih h
  rcases h with h | h
  rotate_left
  · exact k_ls O ih h
  rcases h with h | h
  rotate_left
  · exact k_rg O ih h
  rcases h with h | h
  rotate_left
  · exact k_bl O ih h
  rcases h with h | h
  rotate_left
  · exact k_chn O ih h
  rcases h with h | h
  rotate_left
  · exact k_idx O ih h
  rcases h with h | h
  rotate_left
  · exact k_cmp O ih h
  rcases h with h | h
  rotate_left
  · exact k_bin O ih h
  rcases h with h | h
  rotate_left
  · exact k_neg O ih h
  rcases h with h | h
  rotate_left
  · exact k_gl O h
  rcases h with h | h
  · exact k_var O h
  · exact k_lit h
theorem s_cmpT {o : O2} {a b : E} {σ : St} {H : Hp} {Q : Bool → Hp → Prop} (h : tT G A call X W (.op2 o a b) σ H Q) : tTest (tOp (rD X.K (run2 o)) (tS G A call X W .opd a) (tS G A call X W .opd b)) σ H Q := by
  have q := s_op2 (tT_tS h)
  exact q
theorem chkT_ok (O : Xo G A call lvl N sc fb X W) (ih : RecOk G A call lvl N rec) (h : chkT rec sc fb ie x = true) : PT X x (tT G A call X W ie) ∧ (∀ op xs p, x = .BoolOp op xs p → PW X x (tT G A call X W ie)) := by
  have pw_imp : ∀ {e : Expr} {t t' : TT}, PW X e t → (∀ σ H Q, t' σ H Q → t σ H Q) → PW X e t' := fun h k => ⟨fun wh pins s σ H Q I q => h.run wh pins s σ H Q I (k σ H Q q)⟩
  have both : ∀ {e : Expr}, PW X e (tT G A call X W ie) → PT X e (tT G A call X W ie) ∧ (∀ op xs p, e = .BoolOp op xs p → PW X e (tT G A call X W ie)) := fun h => ⟨h.pt, fun _ _ _ _ => h⟩
  unfold chkT at h
  split at h
  · rename_i op e p
    have q := (ih _ _ _ _ h X W O).1
    cases op with
    | And => exact both (pw_and1 q)
    | Or => exact both (pw_or1 q)
  · split at h
    · rw [Bool.and_eq_true] at h
      exact both (pw_imp (pw_and (ih _ _ _ _ h.1 X W O).1 ((ih _ _ _ _ h.2 X W O).2 _ _ _ rfl)) fun σ H Q q => t_and q)
    · cases h
  · split at h
    · rw [Bool.and_eq_true] at h
      exact both (pw_imp (pw_or (ih _ _ _ _ h.1 X W O).1 ((ih _ _ _ _ h.2 X W O).2 _ _ _ rfl)) fun σ H Q q => t_or q)
    · cases h
  · split at h
    · exact ⟨pt_imp (pt_not (ih _ _ _ _ h X W O).1) fun σ H Q q => t_not q, fun _ _ _ e => by cases e⟩
    · cases h
  · split at h
    · simp only [Bool.and_eq_true] at h
      exact ⟨pt_imp (pt_cmpR (cmpO_ok O h.1.1.1) (ih _ _ _ _ h.1.2 X W O .opd) (ih _ _ _ _ h.2 X W O .opd) (behind_ok h.1.1.2)) fun σ H Q q => s_cmpT q, fun _ _ _ e => by cases e⟩
    · cases h
  · split at h
    · simp only [Bool.and_eq_true] at h
      obtain ⟨⟨⟨⟨⟨⟨h1, h2⟩, h3⟩, h4⟩, h5⟩, h6⟩, h7⟩ := h
      exact ⟨pt_imp (pt_chain (cmpO_ok O h1) (cmpO_ok O h2) (ih _ _ _ _ h5 X W O .opd) (ih _ _ _ _ h6 X W O .opd) (ih _ _ _ _ h7 X W O .opd) (last_ok h3 h4)) fun σ H Q q => s_chn (tT_tS q), fun _ _ _ e => by cases e⟩
    · cases h
  · split at h
    · rw [Bool.and_eq_true] at h
      refine ⟨pt_imp (pt_truth (ih _ _ _ _ h.2 X W O .opd) (isTrue_val h.1)) fun σ H Q q => t_tru q, fun op xs p e => ?_⟩
      subst e
      cases h.1
    · rw [Bool.and_eq_true] at h
      refine ⟨pt_plain (ih _ _ _ _ h.2 X W O .opd) (isTrue_val h.1), fun op xs p e => ?_⟩
      subst e
      cases h.1
theorem chkA_ok (O : Xo G A call lvl N sc fb X W) (ih : RecOk G A call lvl N rec) {xs : List Expr} (h : chkA rec sc fb ie xs = true) : PA X xs (tA G A call X W m ie) := by
  unfold chkA at h
  split at h
  · exact pa_imp pa_nil fun σ H Q q => tA_nil q
  · simp only [Bool.and_eq_true] at h
    exact pa_imp (pa_cons (ih _ _ _ _ h.1.2 X W O m) (ih _ _ _ _ h.2 X W O m) (starEach_plain h.1.1)) fun σ H Q q => tA_cons q
  · cases h
theorem chkW_ok (O : Xo G A call lvl N sc fb X W) (ih : RecOk G A call lvl N rec) {ks : List Keyword} (h : chkW rec sc fb ie ks = true) : PK X ks (tA G A call X W .opd ie) ∧ ks.all (fun k => k.arg.isSome) = true := by
  unfold chkW at h
  split at h
  · exact ⟨⟨fun pos pins s σ H Q I q => pk_nil.run pos pins s σ H Q I (tA_nil q)⟩, rfl⟩
  · rename_i e es k ks
    obtain ⟨ka, kv, kp⟩ := k
    simp only [Bool.and_eq_true] at h
    obtain ⟨r1, r2⟩ := ih _ _ _ _ h.2 X W O
    refine ⟨⟨fun pos pins s σ H Q I q => (pk_cons (ih _ _ _ _ h.1.2 X W O .opd) r1).run pos pins s σ H Q I (tA_cons q)⟩, ?_⟩
    rw [List.all_cons, h.1.1, r2]; rfl
  · cases h
theorem chk_ok : ∀ n, RecOk G A call lvl N (chk G N n)
  | 0, sc, fb, ie, nd, h => by simp [chk] at h
  | n + 1, sc, fb, ie, nd, h => by
    have ih : RecOk G A call lvl N (chk G N n) := chk_ok n
    cases nd with
    | e x => exact fun X W O m => chkE_ok O ih h
    | t x => exact fun X W O => chkT_ok O ih h
    | a xs => exact fun X W O m => chkA_ok O ih h
    | w ks => exact fun X W O => chkW_ok O ih h
end
end IR
namespace IR
open PySem PySem.Spec L2
/-! ### statements: the checker -/
def isName (sc : Scope) (l : Nat) : Expr → Option Str
  | .Name y p => if sc.names.lookup y == some .local && p.line == l then some y else none
  | _ => none
/-- several names are stored the other way round -/
def swNone (sc : Scope) (ts vs : List Expr) : Bool :=
  let l := Option.getD (Option.map (fun x => x.pos.line) ts.head?) 0
  let names := ts.filterMap (isName sc l)
  (!(ts.length == 2 || ts.length == 3) || vs.length != ts.length) || names.length != ts.length || vs.all (foldedForSure 8)
def swSome (sc : Scope) (ts vs : List Expr) (ns : List Str) : Bool :=
  let l := Option.getD (Option.map (fun x => x.pos.line) ts.head?) 0
  let names := ts.filterMap (isName sc l)
  (ts.length == 2 || ts.length == 3) && vs.length == ts.length && vs.all plain && (names == ns) && (ns.length == ts.length) && (ns.eraseDups.length == ns.length) && !vs.all (foldedForSure 8) && !vs.all (constantsAlone 8)
def compSw (sc : Scope) (y : Str) (p : Pos) : Expr → Bool
  | .ListComp _ _ scope q => sc.names.lookup y == some .local && p.line == q.line && !(scope.names.any fun z => z.1 == y && (z.2 == .local || z.2 == .cell))
  | _ => false
def isLc : Expr → Bool
  | .ListComp _ _ _ _ => true
  | _ => false
def disj (L : List Nat) (is : List Nat) : Bool := is.all fun i => !L.contains i
section
variable (G : Tab) (N : List Str) (n : Nat) (sc : Scope)
def tgE (t : E) (x : Expr) : Bool := match t, x with
  | .var i, .Name y _ => N[i]? == some y && locB sc none y
  | .op2 .idx (.var i) k, .Subscript (.Name y _) kx _ => N[i]? == some y && visB sc y && notSlice kx && chk G N n sc none k (.e kx)
  | _, _ => false
def tgEs : E → List Expr → Bool
  | .nil, [] => true
  | .cons t ts, x :: xs => tgE G N n sc t x && tgEs ts xs
  | _, _ => false
/-- a = [.. for ..] on one line -/
def setLc (i : Nat) (e : E) (y : Str) (x : Expr) : Bool := match e, x with
  | .lc tg k it cond elt, .ListComp elt' [⟨tg', iter', ifs', 0⟩] scope pos => cLc G N (chk G N n) sc none e x && sc.names.lookup y == some .local
  | .lc2 _ _ _ _ _ _ _ _ _, .ListComp _ [⟨_, _, _, 0⟩, ⟨_, _, _, 0⟩] _ _ => cLc2 G N (chk G N n) sc none e x && sc.names.lookup y == some .local
  | _, _ => false
def chkH (ch : Nat) (o : Option Nat) : E → Expr → Bool
  | .lit c, x => cLit (.lit c) x
  | .var i, .Name y _ => N[i]? == some y && visB sc y
  | .gl j, .Attribute (.Name y _) f _ => (match o, G.xcs[ch]? with | some i, some xc => N[i]? == some y && visB sc y && xc.fs[j]? == some f | _, _ => false)
  | .tup es, .Tuple xs _ _ => chkHs ch o es xs
  | _, _ => false
where chkHs (ch : Nat) (o : Option Nat) : E → List Expr → Bool
  | .nil, [] => true
  | .cons e es, x :: xs => plain x && chkH ch o e x && chkHs ch o es xs
  | _, _ => false
def chkHd : S → List ExceptHandler → Bool
  | .nop, [] => true
  | .hd ch o (.ret e) r, .ExceptHandler (some (.Name y _)) as [.Return (some x) _] _ :: hds => (match G.xcs[ch]? with | some xc => xc.name == y | none => false) && glB sc y && (match o, as with
      | none, none => true
      | some i, some z => N[i]? == some z && sc.names.lookup z == some .local
      | _, _ => false) && chkH G N sc ch o e x && chkHd r hds
  | _, _ => false
mutual
def chk1 (L : List Nat) : S → Stmt → Bool
  | .set i e, .Assign [.Name y p] x _ => N[i]? == some y && locB sc none y && !L.contains i && (if compSw sc y p x then setLc G N n sc i e y x else (notComp x || isLc x) && chk G N n sc none e (.e x))
  | .unp ts e, .Assign [.Tuple tgs _ _] x _ => notComp x && tgFree L ts && decide (ts.len = tgs.length) && ((match x with | .Tuple vs _ _ => swNone sc tgs vs | _ => true) && tgEs G N n sc ts tgs && chk G N n sc none e (.e x) ||
      (match ts, e, tgs, x with
        | .cons (.var i) (.cons (.var j) .nil), .tup es, [.Name a _, .Name b _], .Tuple [v, w] _ _ => N[i]? == some a && N[j]? == some b && i != j && sc.names.lookup a == some .local && sc.names.lookup b == some .local && swSome sc tgs [v, w] [a, b] && chk G N n sc none es (.a [v, w])
        | .cons (.var i) (.cons (.var j) (.cons (.var l) .nil)), .tup es, [.Name a _, .Name b _, .Name c _], .Tuple [v, w, u] _ _ => N[i]? == some a && N[j]? == some b && N[l]? == some c && i != j && i != l && j != l && sc.names.lookup a == some .local && sc.names.lookup b == some .local && sc.names.lookup c == some .local && swSome sc tgs [v, w, u] [a, b, c] && chk G N n sc none es (.a [v, w, u])
        | _, _, _, _ => false))
  | .sti i k e, .Assign [.Subscript (.Name y _) kx _] x _ => N[i]? == some y && visB sc y && notSlice kx && chk G N n sc none k (.e kx) && chk G N n sc none e (.e x)
  | .exp e, .Expr x _ => notComp x && chk G N n sc none e (.e x)
  | .app i e, .Expr (.Call (.Attribute (.Name y _) m ap) [x] [] cp) _ => N[i]? == some y && visB sc y && (m == Str.ofString "append") && (ap.endLine == cp.line) && plain x && chk G N n sc none e (.e x)
  | .ext i e, .Expr (.Call (.Attribute (.Name y _) m ap) [x] [] cp) _ => N[i]? == some y && visB sc y && (m == Str.ofString "extend") && (ap.endLine == cp.line) && plain x && chk G N n sc none e (.e x)
  | .dupd i j, .Expr (.Call (.Attribute (.Name y _) m ap) [.Name z _] [] cp) _ => N[i]? == some y && visB sc y && (m == Str.ofString "update") && (ap.endLine == cp.line) && N[j]? == some z && visB sc z
  | .iff c a b, .If cx as bs _ => chk G N n sc none c (.t cx) && chkL L a as && chkL L b bs
  | .whl c b, .While cx bs [] _ => chk G N n sc none c (.t cx) && chkL L b bs
  | .for_ tg k it b, .For tgx itx bs [] _ => notSet itx && itB G (chk G N n) sc none k it itx tgx && tgB N sc none tg tgx && disj (lockOf k it ++ L) tg.own && chkL (lockOf k it ++ L) b bs
  | .forD tg i b, .For tgx (.Call (.Attribute (.Name y _) m ap) [] [] cp) bs [] _ => N[i]? == some y && visB sc y && (m == Str.ofString "items") && (ap.endLine == cp.line) && isTupX tgx && tgB N sc none tg tgx && disj L tg.own && chkL L b bs
  | .brk, .Break _ => true
  | .cont, .Continue _ => true
  | .nop, .Pass _ => true
  | .ret e, .Return (some x) _ => chk G N n sc none e (.e x)
  | .rais c es, .Raise (some (.Call (.Name y _) args [] _)) none _ => (match G.xcs[c]? with
      | some xc => xc.name == y && glB sc y && args.all plain && decide xc.fs.Nodup && decide (es.len = xc.fs.length) && (match es, args with | .nil, [] => true | .cons _ _, _ :: _ => true | _, _ => false) && chk G N n sc none es (.a args)
      | none => false)
  | .tryy b hs, .Try bs hds [] [] _ => !hds.isEmpty && chkL L b bs && chkHd G N sc hs hds && hdFree L hs
  | .never, _ => true
  | _, _ => false
def chkL (L : List Nat) : S → List Stmt → Bool
  | .nop, [] => true
  | .seq a b, st :: rest => chk1 L a st && chkL L b rest
  | .never, _ => true
  | _, _ => false
end
end
end IR
namespace IR
open PySem PySem.Spec L2
def isStar : Expr → Bool
  | .Starred _ _ => true
  | _ => false
theorem sw_eq {env : Env} {ts vs : List Expr} {k k2 : Nat} {p p2 : Pos} : ∃ r, swappedStores [.Tuple ts k p] (.Tuple vs k2 p2) env =
    if (!(ts.length == 2 || ts.length == 3) || vs.length != ts.length || env.blockKind != .function) = true then pure none
    else if (vs.any isStar) = true then pure none
    else if ((ts.filterMap (isName env.scope (Option.getD (Option.map (fun x => x.pos.line) ts.head?) 0))).length != ts.length || (ts.filterMap (isName env.scope (Option.getD (Option.map (fun x => x.pos.line) ts.head?) 0))).eraseDups.length != (ts.filterMap (isName env.scope (Option.getD (Option.map (fun x => x.pos.line) ts.head?) 0))).length) = true then pure none
    else if vs.all (foldedForSure 8) = true then pure none
    else if vs.all (constantsAlone 8) = true then r
    else pure (some (ts.filterMap (isName env.scope (Option.getD (Option.map (fun x => x.pos.line) ts.head?) 0)))) := ⟨_, rfl⟩
theorem sw_none {env : Env} {sc : Scope} {ts vs : List Expr} {k k2 : Nat} {p p2 : Pos} (h : env.scope = sc) (hn : swNone sc ts vs = true) : swappedStores [.Tuple ts k p] (.Tuple vs k2 p2) env = pure none := by
  obtain ⟨r, e⟩ := sw_eq (env := env) (ts := ts) (vs := vs) (k := k) (k2 := k2) (p := p) (p2 := p2)
  rw [e, h]
  unfold swNone at hn
  simp only [Bool.or_eq_true] at hn
  split
  · rfl
  · rename_i c1
    split
    · rfl
    · split
      · rfl
      · rename_i c2
        split
        · rfl
        · rename_i c3
          exfalso
          simp only [Bool.or_eq_true] at c1 c2
          rcases hn with (hn | hn) | hn
          · exact c1 (.inl hn)
          · exact c2 (.inl hn)
          · exact c3 hn
theorem sw_some {env : Env} {sc : Scope} {ts vs : List Expr} {k k2 : Nat} {p p2 : Pos} {ns : List Str} (h : env.scope = sc) (hk : sc.kind = .function) (hn : swSome sc ts vs ns = true) : swappedStores [.Tuple ts k p] (.Tuple vs k2 p2) env = pure (some ns) := by
  unfold swSome at hn
  simp only [Bool.and_eq_true, Bool.not_eq_true'] at hn
  obtain ⟨⟨⟨⟨⟨⟨⟨h1, h2⟩, h3⟩, h4⟩, h5⟩, h6⟩, h7⟩, h8⟩ := hn
  have e4 := eq_of_beq h4
  have bk : env.blockKind = .function := by
    unfold Env.blockKind
    rw [h, hk]; rfl
  obtain ⟨r, e⟩ := sw_eq (env := env) (ts := ts) (vs := vs) (k := k) (k2 := k2) (p := p) (p2 := p2)
  rw [e, h, e4, bk]
  have star : vs.any isStar = false := by
    rw [List.any_eq_false]
    intro x hx
    have q := List.all_eq_true.mp h3 x hx
    cases x <;> first | (simp [isStar]; done) | (simp [plain] at q)
  have c1 : (!(ts.length == 2 || ts.length == 3) || vs.length != ts.length || ScopeKind.function != ScopeKind.function) = false := by
    have q := eq_of_beq h2
    rw [Bool.or_eq_true] at h1
    simp [q]
    rcases h1 with z | z
    · intro n; exact absurd (eq_of_beq z) n
    · intro _; exact eq_of_beq z
  have e5 : ns.length = ts.length := eq_of_beq h5
  have e6 : ns.eraseDups.length = ns.length := eq_of_beq h6
  have c2 : (ns.length != ts.length || ns.eraseDups.length != ns.length) = false := by rw [e6, e5]; simp
  rw [c1, star, c2, h7, h8]
  rfl
theorem sw_noTup {env : Env} {ts : List Expr} {k : Nat} {p : Pos} {x : Expr} (h : ∀ vs k p, x ≠ .Tuple vs k p) : swappedStores [.Tuple ts k p] x env = pure none := by
  cases x <;> first | rfl | (exact absurd rfl (h _ _ _))
theorem sw_sub {env : Env} {o i x : Expr} {p : Pos} : swappedStores [.Subscript o i p] x env = pure none := by
  cases x <;> rfl
theorem sws_sub {env : Env} {o i x : Expr} {p : Pos} {l : Nat} : swapsWithSole [.Subscript o i p] x l env = pure false := by
  show swapsWith x (some (.Subscript o i p)) l env = pure false
  cases x <;> rfl
theorem sws_tup {env : Env} {ts : List Expr} {k : Nat} {x : Expr} {p : Pos} {l : Nat} : swapsWithSole [.Tuple ts k p] x l env = pure false := by
  show swapsWith x (some (.Tuple ts k p)) l env = pure false
  cases x <;> rfl
theorem sw_lc0 {env : Env} {sc : Scope} {y : Str} {p : Pos} {x : Expr} {l : Nat} (h : env.scope = sc) (hk : sc.kind = .function) (hc : compSw sc y p x = false) (hx : (notComp x || isLc x) = true) : swapsWith x (some (.Name y p)) l env = pure false := by
  rw [Bool.or_eq_true] at hx
  rcases hx with hx | hx
  · exact swaps_ok hx
  · cases x <;> simp only [isLc, Bool.false_eq_true, reduceCtorEq] at hx
    rename_i elt gs scope q
    have bk : env.blockKind = .function := by
      unfold Env.blockKind
      rw [h, hk]; rfl
    show pure (env.blockKind == .function && env.kindOf y == some .local && p.line == q.line && !(scope.names.any fun x => match x with | (n, k) => n == y && (k == .local || k == .cell))) = pure false
    have e : env.kindOf y = sc.names.lookup y := by rw [← h]; rfl
    rw [bk, e]
    simp only [compSw] at hc
    congr 1
theorem sw_lc1 {env : Env} {sc : Scope} {y : Str} {p : Pos} {elt : Expr} {gs : List Comprehension} {scope : Scope} {q : Pos} {l : Nat} (h : env.scope = sc) (hk : sc.kind = .function) (hc : compSw sc y p (.ListComp elt gs scope q) = true) : swapsWith (.ListComp elt gs scope q) (some (.Name y p)) l env = pure true := by
  simp only [compSw, Bool.and_eq_true, Bool.not_eq_true'] at hc
  refine sw_true (by rw [h]; exact hk) (by rw [h]; exact eq_of_beq hc.1.1) hc.1.2 hc.2
end IR
namespace IR
open PySem PySem.Spec L2
/-- a def's body: what statements want besides -/
structure Xs (G : Tab) (A : Nat → Addr) (call : Calls) (lvl : Nat) (N : List Str) (sc : Scope) (X : Cx) (W : WX) : Prop where
  o : Xo G A call lvl N sc none X W
  po : PassesOwn (model X.prog X.w) X.A X.env X.xe
  hs : X.stack = X.env :: X.outer
  hf : X.env.frame = some X.env.locals
theorem ps_imp {X : Cx} {st : Stmt} {t t' : TS} (h : PS X st t) (k : ∀ D σ H, t' D σ H → t D σ H) : PS X st t' := ⟨fun pins s σ H D I q => h.run pins s σ H D I (k D σ H q)⟩
theorem pss_imp {X : Cx} {st : List Stmt} {t t' : TS} (h : PSs X st t) (k : ∀ D σ H, t' D σ H → t D σ H) : PSs X st t' := ⟨fun pins s σ H D I q => h.run pins s σ H D I (k D σ H q)⟩
section
variable {G : Tab} {A : Nat → Addr} {call : Calls} {lvl : Nat} {N : List Str} {n : Nat} {sc : Scope} {X : Cx} {W : WX} {L : List Nat}
theorem e_ok (O : Xo G A call lvl N sc none X W) {e : E} {x : Expr} (h : chk G N n sc none e (.e x) = true) (m : Md) : PE X x (tS G A call X W m e) := chk_ok n _ _ _ _ h X W O m
theorem t_ok (O : Xo G A call lvl N sc none X W) {e : E} {x : Expr} (h : chk G N n sc none e (.t x) = true) : PT X x (tT G A call X W e) := (chk_ok n _ _ _ _ h X W O).1
theorem a_ok (O : Xo G A call lvl N sc none X W) {e : E} {xs : List Expr} (h : chk G N n sc none e (.a xs) = true) (m : Md) : PA X xs (tA G A call X W m e) := chk_ok n _ _ _ _ h X W O m
theorem not_in {L : List Nat} {i : Nat} (h : (!L.contains i) = true) : i ∉ L := by simpa using h
theorem assign_sub {o i : Expr} {p : Pos} {env : Env} (v : Value) (h : notSlice i = true) : assign (.Subscript o i p) env v = (do
    let ov ← holding [v] (eval o env)
    let iv ← holding [v, ov] (eval i env)
    standAt p
    holding [v, ov, iv] (setItem ov iv v)
    release [v, ov, iv] []) := by
  cases i <;> first | rfl | (simp [notSlice] at h)
theorem tgE_ok (O : Xo G A call lvl N sc none X W) {t : E} {x : Expr} (h : tgE G N n sc t x = true) : PG X x (tgS G A call X W t) ∧ plain x = true := by
  unfold tgE at h
  split at h
  · rw [Bool.and_eq_true] at h
    obtain ⟨l1, l2⟩ := locB_ok O h.2
    exact ⟨pg_name (nd_ok O) (slot_ok O h.1) l1 l2, rfl⟩
  · simp only [Bool.and_eq_true] at h
    obtain ⟨⟨⟨h1, h2⟩, h3⟩, h4⟩ := h
    obtain ⟨v, d1, d2⟩ := visB_ok O h2
    exact ⟨pg_sub (pe_var (slot_ok O h1) v d1 d2) (e_ok O h4 .opd) (set_both (by have := hu_of O; omega)) (fun v => assign_sub v h3), rfl⟩
  · cases h
theorem tgEs_ok (O : Xo G A call lvl N sc none X W) : ∀ {ts : E} {xs : List Expr}, tgEs G N n sc ts xs = true → PGs X xs (tgSs G A call X W ts) ∧ (assignEach xs X.env).findIdx? (fun x => x.1) = none ∧ (assignEach xs X.env).length = xs.length
  | .nil, [], _ => ⟨pgs_nil, rfl, rfl⟩
  | .cons t ts, x :: xs, h => by
    simp only [tgEs, Bool.and_eq_true] at h
    obtain ⟨a, b, c⟩ := tgEs_ok O h.2
    obtain ⟨g, p⟩ := tgE_ok O h.1
    have e : assignEach (x :: xs) X.env = (false, assign x X.env) :: assignEach xs X.env := by
      cases x <;> first | rfl | (simp [plain] at p)
    refine ⟨pgs_cons g a (by rw [e]; rfl), ?_, ?_⟩
    · rw [e, List.findIdx?_cons]; simp [b]
    · rw [e, List.length_cons, c]; rfl
  | .nil, _ :: _, h => by simp [tgEs] at h
  | .cons _ _, [], h => by simp [tgEs] at h
  | .var _, _, h | .lit _, _, h | .gl _, _, h | .op1 _ _, _, h | .op2 _ _ _, _, h | .bl _ _, _, h | .isi _ _ _, _, h | .and _ _, _, h | .or _ _, _, h | .not _, _, h | .ite _ _ _, _, h | .chn _ _ _ _ _, _, h | .tup _, _, h | .lst _, _, h | .dct0, _, h | .dct1 _, _, h | .dget _ _, _, h
  | .slc _ _ _, _, h | .rev _, _, h | .call _ _, _, h | .callK _ _ _ _, _, h | .pop _ _, _, h | .lc _ _ _ _ _, _, h | .tru _, _, h | .frz _, _, h | .lc2 _ _ _ _ _ _ _ _ _, _, h => by simp [tgEs] at h
/-- y = [.. for ..] on one line -/
theorem setLc_ok (O : Xo G A call lvl N sc none X W) {i : Nat} {e : E} {y : Str} {x : Expr} {p q : Pos} (hi : X.N[i]? = some y) (hL : i ∉ L) (hc : compSw sc y p x = true) (h : setLc G N n sc i e y x = true) : PS X (.Assign [.Name y p] x q) (tR G A call X W L (.set i e)) := by
  unfold setLc at h
  split at h
  · rename_i tg k it cond elt elt' tg' iter' ifs' scope pos
    rw [Bool.and_eq_true] at h
    obtain ⟨h, hl⟩ := h
    have hl := eq_of_beq hl
    have ih : RecOk G A call lvl N (chk G N n) := chk_ok n
    unfold cLc at h
    simp only [Bool.and_eq_true, decide_eq_true_eq] at h
    obtain ⟨⟨⟨⟨⟨⟨h1, h2⟩, h3⟩, h4⟩, h5⟩, h6⟩, h7⟩ := h
    obtain ⟨pi, io⟩ := it_pi (tg := tg') O ih h2
    have bk : BlkOk N sc scope (ownOf N tg.own) := blkOk_by h4
    have bk2 : BlkOk X.N X.env.scope scope (ownOf N tg.own) := by rw [O.hN, O.sc]; exact bk
    have hcd : cond = .nil ∨ ∃ e, cond = .cons e .nil := by
      split at h6
      · exact .inl rfl
      · exact .inr ⟨_, rfl⟩
      · cases h6
    have ht : ∀ (s : Shared) (H : Hp) (C : Addr) (cl : List (Str × Addr)) (fp : List Addr), PTs (X.blk s H scope (compEnvC scope cl C X.env) fp) ifs' (tCd G A call X cond) := by
      intro s H C cl fp
      split at h6
      · exact pts_nil
      · exact pts_one (ih _ _ _ _ h6 _ _ (blk_xo O bk s H C cl fp)).1
      · cases h6
    have P := ps_setLc (i := i) (y := y) (py := p) (spos := q) (ifs := ifs') (wi := tIt G A call X W k it) (g := tTg X.K tg) (tt := tCd G A call X cond) (te := tS G A call X WN .esc elt) (pos := pos) O.calm (nd_ok O) hi (by rw [O.sc]; exact hl)
      (sw_lc1 O.sc O.kd hc) pi bk2
      (fun s H C cl fp => tg_ok (blk_xo O bk s H C cl fp) h5) ht
      (fun s H C cl fp => ih _ _ _ _ h7 _ _ (blk_xo O bk s H C cl fp) .esc) (folded_ok h1)
    rw [h3] at P
    exact ps_imp P fun D σ H z => s_lc io hcd (r_set hL z)
  · rename_i tg1 k1 it1 c1 tg2 k2 it2 c2 elt elt' tg1' iter1' ifs1' tg2' iter2' ifs2' scope pos
    rw [Bool.and_eq_true] at h
    obtain ⟨h, hl⟩ := h
    have hl := eq_of_beq hl
    have ih : RecOk G A call lvl N (chk G N n) := chk_ok n
    unfold cLc2 at h
    simp only [Bool.and_eq_true, decide_eq_true_eq] at h
    obtain ⟨⟨⟨⟨⟨⟨⟨⟨⟨⟨h1, h1'⟩, h2⟩, h3⟩, h4⟩, h5⟩, h6⟩, h7⟩, h8⟩, h9⟩, h10⟩ := h
    obtain ⟨pi, io⟩ := it_pi (tg := tg1') O ih h2
    have bk : BlkOk N sc scope (ownOf N (tg1.own ++ tg2.own)) := blkOk_by h4
    have bk2 : BlkOk X.N X.env.scope scope (ownOf N (tg1.own ++ tg2.own)) := by rw [O.hN, O.sc]; exact bk
    have hv : ∀ i ∈ tg2.own, i ∈ (ownOf N (tg1.own ++ tg2.own)).map (·.2) := fun i hi => by rw [h3]; simp [hi]
    have B := fun (s : Shared) (H : Hp) (C : Addr) (cl : List (Str × Addr)) (fp : List Addr) => blk_xo O bk s H C cl fp
    have io2 : itOk k2 it2 = true := by
      unfold itB at h7
      split at h7
      · split at h7
        · rfl
        · cases h7
      · split at h7
        · simp only [Bool.and_eq_true, decide_eq_true_eq, Bool.or_eq_true, beq_iff_eq] at h7
          simp only [itOk, Bool.or_eq_true, beq_iff_eq]
          omega
        · cases h7
      · split at h7
        · rfl
        · cases h7
      · split at h7
        · rfl
        · cases h7
    have hc1 : c1 = .nil ∨ ∃ e, c1 = .cons e .nil := by
      unfold condB at h6
      split at h6
      · exact .inl rfl
      · exact .inr ⟨_, rfl⟩
      · cases h6
    have hc2 : c2 = .nil ∨ ∃ e, c2 = .cons e .nil := by
      unfold condB at h9
      split at h9
      · exact .inl rfl
      · exact .inr ⟨_, rfl⟩
      · cases h9
    have P := ps_setLc2 (i := i) (y := y) (py := p) (spos := q) (ifs := ifs1') (ifs1 := ifs2') (wi := tIt G A call X W k1 it1) (g := tTg X.K tg1) (tt := tCd G A call X c1) (wi1 := tIt G A call X WN k2 it2) (g1 := tTg X.K tg2) (tt1 := tCd G A call X c2) (te := tS G A call X WN .esc elt) (vs1 := tg2.own) (pos := pos) O.calm (nd_ok O) hi (by rw [O.sc]; exact hl)
      (sw_lc1 O.sc O.kd hc) pi bk2 hv
      (fun s H C cl fp => tg_ok (B s H C cl fp) h5) (fun s H C cl fp => (cond_ok (B s H C cl fp) ih h6).1)
      (fun s H C cl fp => (it_pi (tg := tg2') (B s H C cl fp) ih h7).1) (fun s H C cl fp => tg_ok (B s H C cl fp) h8) (fun s H C cl fp => (cond_ok (B s H C cl fp) ih h9).1)
      (fun s H C cl fp => ih _ _ _ _ h10 _ _ (B s H C cl fp) .esc) (folded_ok h1) (fun env y => folded_ok h1' y)
    rw [h3] at P
    exact ps_imp P fun D σ H z => s_lc2 io io2 hc1 hc2 (r_set hL z)
  · cases h
end
end IR
namespace IR
open PySem PySem.Spec L2
section
variable {G : Tab} {A : Nat → Addr} {call : Calls} {lvl : Nat} {N : List Str} {n : Nat} {sc : Scope} {X : Cx} {W : WX} {L : List Nat}
section
variable {ch : Nat} {o : Option Nat} {a : Addr} {oe : Obj} {cls : Value} {d : Option Addr} {pn : List (Addr × Obj)}
theorem chkH_lit {ie : E} {x : Expr} (h : cLit ie x = true) : PE (X.suite a ((a, oe) :: pn)) x (tH G A X ch a o cls d ie) := by
  unfold cLit at h
  split at h
  · exact pe_imp pe_non fun σ H Q q => h_lit (c := .non) (fun _ => ⟨rfl, rfl⟩) q
  · rename_i b c _ _
    rw [eq_of_beq h]; exact pe_imp pe_bl fun σ H Q q => h_lit (c := .bl c) (fun _ => ⟨rfl, rfl⟩) q
  · rename_i b c _ _
    rw [eq_of_beq h]; exact pe_imp pe_int fun σ H Q q => h_lit (c := .int c) (fun _ => ⟨rfl, rfl⟩) q
  · rename_i b c _ _
    rw [eq_of_beq h]; exact pe_imp pe_str fun σ H Q q => h_lit (c := .str c) (fun _ => ⟨rfl, rfl⟩) q
  · cases h
theorem chkH_fld (O : Xo G A call lvl N sc none X W) (hz : Zc cls d oe) (hf : ∃ vs, oe.data = .fields vs) {j : Nat} {y f : Str} {p p2 : Pos} (h : chkH G N sc ch o (.gl j) (.Attribute (.Name y p) f p2) = true) : PE (X.suite a ((a, oe) :: pn)) (.Attribute (.Name y p) f p2) (tH G A X ch a o cls d (.gl j)) := by
  simp only [chkH] at h
  split at h
  · rename_i i xc hx
    simp only [Bool.and_eq_true] at h
    obtain ⟨⟨h1, h2⟩, h3⟩ := h
    obtain ⟨v, d1, d2⟩ := visB_ok O h2
    have hfj := eq_of_beq h3
    have T := O.lk.xc ch xc hx
    obtain ⟨xf, nf⟩ := T.xf (fun z => by rw [z] at hfj; simp at hfj)
    exact pe_imp (pe_xf xf (nf _ (List.mem_of_getElem? hfj)) hz hf (pe_var (X := X.suite a ((a, oe) :: pn)) (slot_ok O h1) v d1 d2) (attr_ok rfl)) fun σ H Q q => h_fld rfl hx hfj q
  · cases h
theorem chkH_ok (O : Xo G A call lvl N sc none X W) (hz : Zc cls d oe) (hf : ∃ vs, oe.data = .fields vs) : ∀ (e : E), (∀ x, chkH G N sc ch o e x = true → PE (X.suite a ((a, oe) :: pn)) x (tH G A X ch a o cls d e)) ∧ (∀ xs, chkH.chkHs G N sc ch o e xs = true → PA (X.suite a ((a, oe) :: pn)) xs (tHs G A X ch a o cls d e)) := by
  intro e
  induction e with
  | nil =>
    refine ⟨fun x h => by cases x <;> simp [chkH] at h, fun xs h => ?_⟩
    cases xs with
    | nil => exact pa_imp pa_nil fun σ H Q q => hs_nil q
    | cons _ _ => simp [chkH.chkHs] at h
  | cons e es ihe ihs =>
    refine ⟨fun x h => by cases x <;> simp [chkH] at h, fun xs h => ?_⟩
    cases xs with
    | nil => simp [chkH.chkHs] at h
    | cons x xs =>
      simp only [chkH.chkHs, Bool.and_eq_true] at h
      exact pa_imp (pa_cons (ihe.1 x h.1.2) (ihs.2 xs h.2) (starEach_plain h.1.1)) fun σ H Q q => hs_cons q
  | lit c =>
    refine ⟨fun x h => ?_, fun xs h => by cases xs <;> simp [chkH.chkHs] at h⟩
    have h : cLit (.lit c) x = true := by cases x <;> simpa [chkH] using h
    exact chkH_lit h
  | var i =>
    refine ⟨fun x h => ?_, fun xs h => by cases xs <;> simp [chkH.chkHs] at h⟩
    cases x <;> simp only [chkH, Bool.false_eq_true, Bool.and_eq_true] at h
    obtain ⟨v, d1, d2⟩ := visB_ok O h.2
    exact pe_imp (pe_var (X := X.suite a ((a, oe) :: pn)) (slot_ok O h.1) v d1 d2) fun σ H Q q => h_var q
  | gl j =>
    refine ⟨fun x h => ?_, fun xs h => by cases xs <;> simp [chkH.chkHs] at h⟩
    cases x with
    | Attribute b f p2 =>
      cases b with
      | Name y p => exact chkH_fld O hz hf h
      | _ => simp [chkH] at h
    | _ => simp [chkH] at h
  | tup es ih =>
    refine ⟨fun x h => ?_, fun xs h => by cases xs <;> simp [chkH.chkHs] at h⟩
    cases x <;> simp only [chkH, Bool.false_eq_true] at h
    exact pe_imp (pe_tup (ih.2 _ h)) fun σ H Q q => h_tup q
  | _ => exact ⟨fun x h => by cases x <;> simp [chkH] at h, fun xs h => by cases xs <;> simp [chkH.chkHs] at h⟩
end
theorem chkHd_ok (O : Xo G A call lvl N sc none X W) : ∀ {hs : S} {hds : List ExceptHandler}, chkHd G N sc hs hds = true → HdsA X hds (hdsOf G A X hs) := by
  intro hs
  induction hs with
  | nop =>
    intro hds h
    cases hds with
    | nil => exact .nil
    | cons _ _ => simp [chkHd] at h
  | hd ch o e r ihe ihr =>
    intro hds h
    unfold chkHd at h
    split at h
    · rename_i e1; cases e1
    · rename_i ch' o' e' r' y np as x rp hp hds e1
      cases e1
      simp only [Bool.and_eq_true] at h
      obtain ⟨⟨⟨⟨h1, h2⟩, h3⟩, h4⟩, h5⟩ := h
      obtain ⟨g, db⟩ := glB_ok O h2
      split at h1
      · rename_i xc hx
        have en : xc.name = y := eq_of_beq h1
        have hm := (O.lk.xc ch xc hx).nm
        rw [en] at hm
        have nm : Names X y (.ref (A ch)) := ⟨g, db, .inl hm⟩
        have su : ∀ (a : Addr) (oe : Obj) (cls : Value) (d : Option Addr) (pn : List (Addr × Obj)), Zc cls d oe → (∃ vs, oe.data = .fields vs) → PSs (X.suite a ((a, oe) :: pn)) [.Return (some x) rp] (tSeq (tRet (tH G A X ch a o cls d e')) tNext) := fun a oe cls d pn hz hf =>
          pss_cons (ps_ret ((chkH_ok O hz hf e').1 x h4)) pss_nil
        split at h3
        · exact .cons nm su (ihr h5)
        · rw [Bool.and_eq_true] at h3
          refine .consA nm (slot_ok O h3.1) ?_ su (ihr h5)
          show X.env.scope.names.lookup _ = _
          rw [O.sc]; exact eq_of_beq h3.2
        · cases h3
      · cases h1
    · cases h
  | _ => intro hds h; simp [chkHd] at h
mutual
theorem chk1_ok (s : S) {L : List Nat} {st : Stmt} {X : Cx} {W : WX} (O : Xs G A call lvl N sc X W) (h : chk1 G N n sc L s st = true) : PS X st (tR G A call X W L s) := by
  unfold chk1 at h
  split at h
  · -- set
    simp only [Bool.and_eq_true] at h
    obtain ⟨⟨⟨h1, h2⟩, h3⟩, h4⟩ := h
    obtain ⟨l1, l2⟩ := locB_ok O.o h2
    split at h4
    · rename_i hc; exact setLc_ok O.o (slot_ok O.o h1) (not_in h3) hc h4
    · rename_i hc
      rw [Bool.and_eq_true] at h4
      exact ps_imp (ps_set (nd_ok O.o) (slot_ok O.o h1) l1 (e_ok O.o h4.2 .esc) (sw_lc0 O.o.sc O.o.kd (by simpa using hc) h4.1) l2) fun D σ H z => r_set (not_in h3) z
  · -- unp
    simp only [Bool.and_eq_true, Bool.or_eq_true, decide_eq_true_eq] at h
    obtain ⟨⟨⟨h0, h1⟩, h2⟩, h3⟩ := h
    rcases h3 with ⟨⟨h3, h4⟩, h5⟩ | h3
    · obtain ⟨g, f, l⟩ := tgEs_ok O.o h4
      refine ps_imp (ps_asg (e_ok O.o h5 .esc) (pg_tup O.o.calm g l f) sws_tup ?_ rfl) fun D σ H z => by
        have q := r_unp h1 z
        rw [h2] at q
        exact q
      split at h3
      · exact sw_none O.o.sc h3
      · rename_i hn; exact sw_noTup hn
    · split at h3
      · simp only [Bool.and_eq_true, bne_iff_ne, ne_eq] at h3
        obtain ⟨⟨⟨⟨⟨⟨a1, a2⟩, a3⟩, a4⟩, a5⟩, a6⟩, a7⟩ := h3
        exact ps_imp (ps_par O.o.calm (nd_ok O.o) (slot_ok O.o a1) (slot_ok O.o a2) a3 (by rw [O.o.sc]; exact eq_of_beq a4) (by rw [O.o.sc]; exact eq_of_beq a5) (a_ok O.o a7 .esc) (sw_some O.o.sc O.o.kd a6) sws_tup) fun D σ H z => r_par h1 z
      · simp only [Bool.and_eq_true, bne_iff_ne, ne_eq] at h3
        obtain ⟨⟨⟨⟨⟨⟨⟨⟨⟨⟨a1, a2⟩, a3⟩, a4⟩, a5⟩, a6⟩, a7⟩, a8⟩, a9⟩, b1⟩, b2⟩ := h3
        exact ps_imp (ps_par3 O.o.calm (nd_ok O.o) (slot_ok O.o a1) (slot_ok O.o a2) (slot_ok O.o a3) a4 a5 a6 (by rw [O.o.sc]; exact eq_of_beq a7) (by rw [O.o.sc]; exact eq_of_beq a8) (by rw [O.o.sc]; exact eq_of_beq a9) (a_ok O.o b2 .esc) (sw_some O.o.sc O.o.kd b1) sws_tup) fun D σ H z => r_par3 h1 z
      · cases h3
  · -- sti
    simp only [Bool.and_eq_true] at h
    obtain ⟨⟨⟨⟨h1, h2⟩, h3⟩, h4⟩, h5⟩ := h
    obtain ⟨v, d1, d2⟩ := visB_ok O.o h2
    exact ps_imp (ps_asg (e_ok O.o h5 .esc) (pg_sub (pe_var (slot_ok O.o h1) v d1 d2) (e_ok O.o h4 .opd) (set_both (by have := hu_of O.o; omega)) (fun v => assign_sub v h3)) sws_sub sw_sub rfl) fun D σ H z => r_sti z
  · -- exp
    rw [Bool.and_eq_true] at h
    exact ps_imp (ps_expr (e_ok O.o h.2 .opd) (swaps_ok h.1)) fun D σ H z => r_exp z
  · -- app
    simp only [Bool.and_eq_true] at h
    obtain ⟨⟨⟨⟨⟨h1, h2⟩, h3⟩, h4⟩, h5⟩, h6⟩ := h
    obtain ⟨v, d1, d2⟩ := visB_ok O.o h2
    have em := eq_of_beq h3
    subst em
    exact ps_imp (ps_expr (pe_bm PySem.F.plainAttrs_list PySem.F.slot_list_append PySem.F.type_list_append mt_append (pe_var (slot_ok O.o h1) v d1 d2) (pa_cons (e_ok O.o h6 .esc) pa_nil (starEach_plain h5)) (attr_ok rfl) (by rw [starEach_plain h5]; rfl) h4 (starEach_plain h5) (star_none rfl)) (swaps_ok rfl)) fun D σ H z => r_app z
  · -- ext
    simp only [Bool.and_eq_true] at h
    obtain ⟨⟨⟨⟨⟨h1, h2⟩, h3⟩, h4⟩, h5⟩, h6⟩ := h
    obtain ⟨v, d1, d2⟩ := visB_ok O.o h2
    have em := eq_of_beq h3
    subst em
    exact ps_imp (ps_expr (pe_bm PySem.F.plainAttrs_list PySem.F.slot_list_extend PySem.F.type_list_extend mt_extB (pe_var (slot_ok O.o h1) v d1 d2) (pa_cons (e_ok O.o h6 .opd) pa_nil (starEach_plain h5)) (attr_ok rfl) (by rw [starEach_plain h5]; rfl) h4 (starEach_plain h5) (star_none rfl)) (swaps_ok rfl)) fun D σ H z => r_ext z
  · -- update
    simp only [Bool.and_eq_true] at h
    obtain ⟨⟨⟨⟨⟨h1, h2⟩, h3⟩, h4⟩, h5⟩, h6⟩ := h
    obtain ⟨v, d1, d2⟩ := visB_ok O.o h2
    obtain ⟨v', d1', d2'⟩ := visB_ok O.o h6
    have em := eq_of_beq h3
    subst em
    exact ps_imp (ps_expr (pe_bm PySem.F.plainAttrs_dict PySem.F.slot_dict_update PySem.F.type_dict_update mt_upd (pe_var (slot_ok O.o h1) v d1 d2) (pa_cons (pe_var (slot_ok O.o h5) v' d1' d2') pa_nil rfl) (attr_ok rfl) rfl h4 rfl rfl) (swaps_ok rfl)) fun D σ H z => r_dupd z
  · -- if
    simp only [Bool.and_eq_true] at h
    exact ps_imp (ps_if (t_ok O.o h.1.1) (chkL_ok _ O h.1.2) (chkL_ok _ O h.2)) fun D σ H z => r_if z
  · -- while
    rw [Bool.and_eq_true] at h
    exact ps_imp (ps_while O.po (t_ok O.o h.1) (chkL_ok _ O h.2)) fun D σ H z => r_whl z
  · -- for
    simp only [Bool.and_eq_true] at h
    obtain ⟨⟨⟨⟨h1, h2⟩, h3⟩, h4⟩, h5⟩ := h
    obtain ⟨pi, io⟩ := it_pi O.o (chk_ok n) h2
    exact ps_imp (ps_for O.po O.o.calm pi (tg_ok O.o h3) (chkL_ok _ O h5) (folded_ok h1)) fun D σ H z => r_for io (fun j hj => not_in (List.all_eq_true.mp h4 j hj)) z
  · -- for over a dict's items
    rename_i tg i b tgx y p mt ap cp bs q
    simp only [Bool.and_eq_true] at h
    obtain ⟨⟨⟨⟨⟨⟨⟨h1, h2⟩, h3⟩, h4⟩, h5⟩, h6⟩, h7⟩, h8⟩ := h
    obtain ⟨v, d1, d2⟩ := visB_ok O.o h2
    have em := eq_of_beq h3
    subst em
    cases tgx <;> simp only [isTupX, Bool.false_eq_true] at h5
    have P := ps_for (body := bs) (pos := q) O.po O.o.calm (pi_items (pe_var (pos := p) (slot_ok O.o h1) v d1 d2) (attr_ok rfl) h4) (tg_ok O.o h6) (chkL_ok _ O h8) (folded_ok rfl)
    exact ps_imp (ps_or P (ps_lock P)) fun D σ H z => r_forD (fun j hj => not_in (List.all_eq_true.mp h7 j hj)) z
  · exact ps_imp ps_break fun D σ H z => r_brk z
  · exact ps_imp ps_continue fun D σ H z => r_cont z
  · exact ps_imp ps_pass fun D σ H z => r_nop z
  · exact ps_imp (ps_ret (e_ok O.o h .mov)) fun D σ H z => r_ret z
  · -- raise
    split at h
    · rename_i xc hx
      simp only [Bool.and_eq_true, decide_eq_true_eq] at h
      obtain ⟨⟨⟨⟨⟨⟨h1, h2⟩, h3⟩, h4⟩, h5⟩, h6⟩, h7⟩ := h
      obtain ⟨g, db⟩ := glB_ok O.o h2
      have en : xc.name = _ := eq_of_beq h1
      rw [← en] at g db
      rw [← en]
      have hp := a_ok O.o h7 .esc
      split at h6
      · have e0 : xc.fs = [] := by
          cases q : xc.fs with
          | nil => rfl
          | cons _ _ => rw [q] at h5; simp [E.len] at h5
        refine ps_imp (ps_raise O.o.calm O.o.tk (pmk_tab0 O.o hx e0 g db)) fun D σ H z => ?_
        exact tA_nil (r_rais hx h4 h5 z)
      · have e0 : xc.fs ≠ [] := fun q => by rw [q] at h5; simp [E.len] at h5
        rw [List.all_cons, Bool.and_eq_true] at h3
        refine ps_imp (ps_raise O.o.calm O.o.tk (pmk_tab (ta := tA G A call X W .esc (.cons _ _)) O.o hx e0 g db (fun σ H Q Q' k q => tA_mono q k) hp (starEach_plain h3.1) (star_none h3.2))) fun D σ H z => ?_
        exact r_rais hx h4 h5 z
      · cases h6
    · cases h
  · -- try
    rename_i b hs bs hds p
    simp only [Bool.and_eq_true] at h
    obtain ⟨⟨⟨h1, h2⟩, h3⟩, h4⟩ := h
    cases hds with
    | nil => simp at h1
    | cons h₀ hds =>
      refine ps_imp (ps_try_any (tb := fun W' => tR G A call X W' L b) O.hs O.hf (nd_ok O.o) O.o.tk (fun W' pn xe tk po => ?_) (chkHd_ok O.o h3)) fun D σ H z => r_try O.o h4 z
      exact chkL_ok b (X := X.tr pn xe) (W := W') ⟨⟨O.o.fn, O.o.kd, O.o.hN, O.o.nd, O.o.sc, O.o.calm, O.o.room, O.o.lk, tk⟩, po, O.hs, O.hf⟩ h2
  · exact ps_imp ps_never fun D σ H z => r_never z
  · cases h
termination_by sizeOf s
theorem chkL_ok (s : S) {L : List Nat} {sts : List Stmt} {X : Cx} {W : WX} (O : Xs G A call lvl N sc X W) (h : chkL G N n sc L s sts = true) : PSs X sts (tR G A call X W L s) := by
  unfold chkL at h
  split at h
  · exact pss_imp pss_nil fun D σ H z => r_nop z
  · rw [Bool.and_eq_true] at h
    exact pss_imp (pss_cons (chk1_ok _ O h.1) (chkL_ok _ O h.2)) fun D σ H z => r_seq z
  · exact ⟨fun pins s σ H D I q => (r_never q).elim⟩
  · cases h
termination_by sizeOf s
end
end
end IR
namespace IR
open PySem PySem.Spec L2
/-- the footprints of arguments, one by one -/
theorem Reps.split {K : PySem.W.Frag} {F H : Hp} : ∀ {ds : List D} {vs : List V} {f : List Addr}, Reps K F H ds vs f → ∃ fs : Fp, (∀ (k : Nat) d, ds[k]? = some d → ∃ v, vs[k]? = some v ∧ Rep K F H d v (fs k)) ∧ (∀ k, ds.length ≤ k → fs k = []) ∧ (∀ j k, j ≠ k → ∀ a ∈ fs j, a ∉ fs k) ∧ (∀ a, a ∈ f ↔ Own fs a)
  | [], _, f, h => ⟨fun _ => [], fun k d e => by simp at e, fun _ _ => rfl, fun j k _ a ha => by simp at ha, fun a => by rw [h.2]; simp [Own]⟩
  | d :: ds, _, _, ⟨v, r, f1, f2, e, h1, h2, dj, ef⟩ => by
    obtain ⟨fs, k1, k2, k3, k4⟩ := Reps.split h2
    refine ⟨fun | 0 => f1 | k + 1 => fs k, fun k x hx => ?_, fun k hk => ?_, fun j k n a ha => ?_, fun a => ?_⟩
    · cases k with
      | zero =>
        have q : d = x := by simpa using hx
        subst q
        exact ⟨v, by rw [e]; rfl, h1⟩
      | succ k =>
        obtain ⟨u, hu, ru⟩ := k1 k x (by simpa using hx)
        exact ⟨u, by rw [e]; simpa using hu, ru⟩
    · cases k with
      | zero => simp at hk
      | succ k => exact k2 k (by simpa using hk)
    · cases j with
      | zero =>
        cases k with
        | zero => exact absurd rfl n
        | succ k => exact fun z => dj a ha ((k4 a).mpr ⟨k, z⟩)
      | succ j =>
        cases k with
        | zero => exact fun z => dj a z ((k4 a).mpr ⟨j, ha⟩)
        | succ k => exact k3 j k (fun z => n (by rw [z])) a ha
    · rw [ef, List.mem_append, k4]
      constructor
      · rintro (z | ⟨j, z⟩)
        · exact ⟨0, z⟩
        · exact ⟨j + 1, z⟩
      · rintro ⟨j, z⟩
        cases j with
        | zero => exact .inl z
        | succ j => exact .inr ⟨j, z⟩
theorem start_at {ds : List D} {N : List Str} {k : Nat} {d : D} (h : (ds.map some ++ List.replicate (N.length - ds.length) none)[k]? = some (some d)) : ds[k]? = some d := by
  by_cases l : k < ds.length
  · rw [List.getElem?_append_left (by simpa using l), List.getElem?_map] at h
    cases q : ds[k]? with
    | none => rw [q] at h; cases h
    | some z => rw [q] at h; simpa using h
  · rw [List.getElem?_append_right (by simpa using l)] at h
    rw [List.getElem?_replicate] at h
    split at h <;> simp at h
theorem start_wd {K : PySem.W.Frag} {F H : Hp} {ds : List D} {vs : List V} {f : List Addr} {N : List Str} (s : Same F H) (r : Reps K F H ds vs f) (fr : ∀ a ∈ f, F a = none) :
    ∃ fp, Wd K F H (L2.start N vs) (ds.map some ++ List.replicate (N.length - ds.length) none) fp ∧ ∀ a, a ∈ f ↔ Own fp a := by
  obtain ⟨fs, k1, k2, k3, k4⟩ := r.split
  have l := r.length
  refine ⟨fs, ⟨s, fun i d e => ?_, fun i e => ?_, k3, fun i a ha => fr a ((k4 a).mpr ⟨i, ha⟩), ?_⟩, k4⟩
  · have e2 := start_at e
    obtain ⟨v, hv, rv⟩ := k1 i d e2
    refine ⟨v, ?_, rv⟩
    have il : i < vs.length := (List.getElem?_eq_some_iff.mp hv).1
    rw [L2.start.eq_1, List.getElem?_append_left (by simpa using il), List.getElem?_map, hv]; rfl
  · by_cases q : i < ds.length
    · exfalso
      refine e ds[i] ?_
      rw [List.getElem?_append_left (by simpa using q), List.getElem?_map, List.getElem?_eq_getElem q]; rfl
    · exact k2 i (by omega)
  · rw [L2.start.eq_1]; simp [l]
/-- the in-out parameters -/
def ioAt : List Bool → Nat → List Nat
  | [], _ => []
  | true :: bs, i => i :: ioAt bs (i + 1)
  | false :: bs, i => ioAt bs (i + 1)
theorem ioAt_ge : ∀ {bs : List Bool} {i j : Nat}, j ∈ ioAt bs i → i ≤ j
  | [], _, _, h => by simp [ioAt] at h
  | true :: bs, i, j, h => by
    rcases List.mem_cons.mp h with e | e
    · omega
    · have := ioAt_ge e; omega
  | false :: bs, i, j, h => by have := ioAt_ge (bs := bs) h; omega
theorem ios_end {K : PySem.W.Frag} {F H : Hp} {σ : St} {δ : Ev} {fp : Fp} (w : Wd K F H σ δ fp) : ∀ {io : List Bool} {vs : List V} {i : Nat}, io.length = vs.length → (∀ (k : Nat) v, vs[k]? = some v → (i + k) ∈ ioAt io i → σ[i + k]? = some (some v)) →
    ∃ fi, IoR K F H io vs (iosOf δ io i) fi ∧ ∀ a, a ∈ fi → ∃ j ∈ ioAt io i, a ∈ fp j
  | [], [], i, _, _ => ⟨[], rfl, by simp⟩
  | [], _ :: _, _, h, _ => by simp at h
  | _ :: _, [], _, h, _ => by simp at h
  | b :: io, v :: vs, i, h, k => by
    have kk : ∀ (m : Nat) u, vs[m]? = some u → (i + 1 + m) ∈ ioAt io (i + 1) → σ[i + 1 + m]? = some (some u) := fun m u hm hi => by
      have q := k (m + 1) u (by simpa using hm) (by
        have e : i + (m + 1) = i + 1 + m := by omega
        rw [e]
        cases b with
        | true => exact List.mem_cons_of_mem _ hi
        | false => exact hi)
      have e : i + (m + 1) = i + 1 + m := by omega
      rw [e] at q; exact q
    obtain ⟨fi, h1, h2⟩ := ios_end w (by simpa using h) kk
    cases b with
    | false => exact ⟨fi, h1, h2⟩
    | true =>
      have hv := k 0 v rfl (by simp [ioAt])
      rw [Nat.add_zero] at hv
      refine ⟨fp i ++ fi, ⟨fp i, fi, ?_, h1, fun a ha z => ?_, rfl⟩, fun a ha => ?_⟩
      · cases q : (δ[i]?).join with
        | none => exact w.out i fun d z => by rw [z] at q; cases q
        | some d =>
          obtain ⟨u, hu, r⟩ := w.slot q
          rw [hv] at hu
          cases hu
          exact r
      · obtain ⟨j, hj, z⟩ := h2 a z
        have := ioAt_ge hj
        exact w.dj i j (by omega) a ha z
      · rcases List.mem_append.mp ha with z | z
        · exact ⟨i, by simp [ioAt], z⟩
        · obtain ⟨j, hj, z⟩ := h2 a z
          exact ⟨j, List.mem_cons_of_mem _ hj, z⟩
/-- what the top has of a def of the table -/
structure FnTop (G : Tab) (K : PySem.W.Frag) (fn : Fn) (fd : FuncData) (f : Addr) : Prop where
  ex : ∃ qual params body scope, FunD K fn.name qual params body scope [] [] f fd ∧ FnScope fn.N fn.ps scope ∧ chkL G fn.N 3000 scope (ioAt fn.io 0) fn.body body = true
  io : fn.io.length = fn.ps.length
  bd : ∀ (s : Shared) (us : List Value), us.length = fn.ps.length → BindsTo s fd { pos := us } (fn.ps.zip us)
theorem fn_ok {G : Tab} {A : Nat → Addr} {n lvl k : Nat} {P : Program} {w : World} {K : PySem.W.Frag} {mg : Str → Option Value} {base : Heap} {fn : Fn} {f : Addr} {fd : FuncData} (lk : Lk G A (callF G n) lvl P w K mg base) (hf : G.fns[k]? = some fn) (T : FnTop G K fn fd f) :
    FnOk P w K mg base (L2.CX P w) (lvl + 1) f fd fn.ps (spOf G A K (callF G (n + 1) k) fn) := by
  obtain ⟨⟨qual, params, body, scope, fu, fs, ck⟩, hio, _⟩ := T
  refine FunD.ok (CX := L2.CX P w) fu fs (fun vs H Q E h => h.1) fun cdv Ar outer s H vs Q E room h => ?_
  refine ⟨tR G A (callF G n) (cxOf (CX P w) P w K mg base fn.N qual scope f cdv Ar outer s H E) (fun cls d _ H => E cls d H) (ioAt fn.io 0) fn.body, ?_, ?_⟩
  · exact chkL_ok fn.body (n := 3000) ⟨⟨fun _ _ => rfl, fs.kind, rfl, fs.nd, rfl, rfl, room, lk, takes_of rfl rfl rfl rfl⟩, passes_of rfl, rfl, rfl⟩ ck
  · obtain ⟨hl, F, ds, fo, sm, r, fr, pu, h⟩ := h
    obtain ⟨fp, wd, own⟩ := start_wd (N := fn.N) sm r fr
    refine ⟨F, _, fp, wd, ?_⟩
    have ld := r.length
    simp only [callF, hf] at h
    unfold runBody at h
    rw [if_pos (by omega)] at h
    have trd : ∀ {F' H' : Hp} {o' o2 : Addr → Prop}, Tr F H (Own fp) F' H' o' → (∀ a, o2 a → o' a ∨ (Own fp a ∨ H a = none)) → Tr F H (· ∈ fo) F' H' o2 := fun {F' H' o' o2} t l => ⟨t.same, fun b u e q => t.frame b u e fun z => q ((own b).mpr z), fun a ha => by
      rcases l a ha with z | z
      · exact (t.fresh a z).imp (own a).mpr id
      · exact z.imp (own a).mpr id, fun a u e1 e2 m q => t.grow a u e1 e2 m fun z => q ((own a).mpr z)⟩
    have par : ∀ {σ' : St}, Ag (ioAt fn.io 0) (L2.start fn.N vs) σ' → ∀ (k : Nat) v, vs[k]? = some v → (0 + k) ∈ ioAt fn.io 0 → σ'[0 + k]? = some (some v) := fun {σ'} ag k v hv hk => by
      rw [ag _ hk, Nat.zero_add, L2.start.eq_1, List.getElem?_append_left (by
        have := (List.getElem?_eq_some_iff.mp hv).1
        simpa using this), List.getElem?_map, hv]; rfl
    cases q : run G (callF G n) fn.body (ds.map some ++ List.replicate (fn.N.length - ds.length) none) with
    | nx δ' =>
      rw [q] at h
      intro F' H' fp' σ' ag t w'
      obtain ⟨fi, i1, i2⟩ := ios_end w' (by rw [hio, hl]) (par ag)
      exact h F' H' .non [] fi (trd t fun a ha => by
        rcases ha with z | z
        · simp at z
        · obtain ⟨j, _, z⟩ := i2 a z; exact .inl ⟨j, z⟩) w'.same ⟨rfl, rfl⟩ i1 (by simp) fun a ha => by
        rcases ha with z | z
        · simp at z
        · obtain ⟨j, _, z⟩ := i2 a z; exact w'.fr j a z
    | ret d δ' =>
      rw [q] at h
      intro F' H' fp' σ' v fv ag t w' tm nw
      obtain ⟨fi, i1, i2⟩ := ios_end w' (by rw [hio, hl]) (par ag)
      exact h F' H' v fv fi (trd t fun a ha => by
        rcases ha with z | z
        · exact .inr (nw a z)
        · obtain ⟨j, _, z⟩ := i2 a z; exact .inl ⟨j, z⟩) w'.same tm.rep i1 (fun a ha z => by
        obtain ⟨j, _, z⟩ := i2 a z; exact tm.off a ha ⟨j, z⟩) fun a ha => by
        rcases ha with z | z
        · exact tm.fr a z
        · obtain ⟨j, _, z⟩ := i2 a z; exact w'.fr j a z
    | err c g δ' =>
      rw [q] at h
      intro F' H' fp' σ' cls d ag t w' er
      exact h F' H' cls d (trd t fun a ha => ha.elim) w'.same er
    | brk δ' => rw [q] at h; exact False.elim h
    | ct δ' => rw [q] at h; exact False.elim h
    | stuck => rw [q] at h; exact h
end IR
namespace IR
open PySem PySem.Spec L2
theorem FnOk.weak {P : Program} {w : World} {K : PySem.W.Frag} {mg : Str → Option Value} {base : Heap} {CX : CXT} {k : Nat} {f : Addr} {fd : FuncData} {ps : List Str} {sp sp' : Sp} (h : FnOk P w K mg base CX k f fd ps sp) (i : ∀ vs H Q E, sp' vs H Q E → sp vs H Q E) : FnOk P w K mg base CX k f fd ps sp' :=
  ⟨fun vs H Q E q => h.len vs H Q E (i _ _ _ _ q), fun A outer s H args us vs Q E r e b v q => h.run A outer s H args us vs Q E r e b v (i _ _ _ _ q)⟩
/-- what the top has left -/
structure TopOk (G : Tab) (A : Nat → Addr) (P : Program) (w : World) (K : PySem.W.Frag) (mg : Str → Option Value) (base : Heap) : Prop where
  gl : ∀ (n : Nat) (p : Str × Lit), G.gls[n]? = some p → GlAt mg p.1 p.2
  bl : ∀ x ∈ G.bls, mg x = none
  xc : ∀ (c : Nat) (x : Xc), G.xcs[c]? = some x → XcOk G A P w K mg base c x
  fn : ∀ (k : Nat) (fn : Fn), G.fns[k]? = some fn → ∃ f fd, mg fn.name = some (.ref f) ∧ PySem.W.keepIn K (.ref f) = true ∧ Binds K fd fn.ps [] ∧ FnTop G K fn fd f ∧
    ∀ (n : Nat) (ns : List Str) (ks : List Nat), (k, n, ns, ks) ∈ G.kws → KBn K fd fn.ps n ns (gK .none ks) (gK V.non ks)
theorem lk_all {G : Tab} {A : Nat → Addr} {P : Program} {w : World} {K : PySem.W.Frag} {mg : Str → Option Value} {base : Heap} (T : TopOk G A P w K mg base) : ∀ n, Lk G A (callF G n) (n + 2) P w K mg base
  | 0 => ⟨T.gl, T.bl, by omega, T.xc, fun k fn h => by
    obtain ⟨f, fd, h1, h2, h3, h4, h5⟩ := T.fn k fn h
    have no : ∀ vs H Q E, ¬ spOf G A K (callF G 0 k) fn vs H Q E := fun vs H Q E q => by
      obtain ⟨_, F, ds, fo, _, _, _, _, z⟩ := q
      simp only [callF] at z
    exact ⟨f, fd, h1, h2, h3, h4.io, ⟨fun vs H Q E q => (no vs H Q E q).elim, fun A outer s H args us vs Q E r e b v q => (no vs H Q E q).elim⟩, h5⟩⟩
  | n + 1 => by
    have L := lk_all T n
    exact ⟨T.gl, T.bl, by omega, T.xc, fun k fn h => by
      obtain ⟨f, fd, h1, h2, h3, h4, h5⟩ := T.fn k fn h
      exact ⟨f, fd, h1, h2, h3, h4.io, fn_ok L h h4, h5⟩⟩
/-- the law's def, at the law's script -/
theorem law_ok {G : Tab} {A : Nat → Addr} {P : Program} {w : World} {K : PySem.W.Frag} {mg : Str → Option Value} {base : Heap} (T : TopOk G A P w K mg base) {n k m : Nat} {fn : Fn} (hf : G.fns[k]? = some fn) (hp : fn.ps.length = 1) (hi : fn.io = [false])
    (hlaw : ∀ ns : List Int, ns.length ≤ m → callF G (n + 1) k [.scr ns] = .ok (.bl true) []) {f : Addr} (hm : mg fn.name = some (.ref f)) :
    ∃ fd, (∃ oc od osl, K.lookup f = some { cls := oc, dict := od, data := .func fd, slots := osl }) ∧ (∀ (s : Shared) (us : List Value), us.length = fn.ps.length → BindsTo s fd { pos := us } (fn.ps.zip us)) ∧
      FnOk P w K mg base (L2.CX P w) (n + 3) f fd fn.ps (fun vs H Q _ => ∃ (a : Addr) (ns : List Int), vs = [.ref a] ∧ ns.length ≤ m ∧ SqL K H a (ns.map V.int) ∧ ∀ H', Q (.bl true) H') := by
  obtain ⟨f', fd, h1, h2, h3, h4, _⟩ := T.fn k fn hf
  have e : f' = f := by rw [hm] at h1; cases h1; rfl
  subst e
  have h5 := fn_ok (lk_all T n) hf h4
  refine ⟨fd, ?_, h4.bd, FnOk.weak h5 fun vs H Q E ⟨a, ns, ev, hl, hs, q⟩ => ?_⟩
  · obtain ⟨⟨qual, params, body, scope, ⟨⟨oc, od, dV, kV, doc, pm, an, cdv, ct, osl, _, lk, _⟩, _⟩, _⟩, _, _⟩ := h4
    exact ⟨oc, od, osl, lk⟩
  · subst ev
    refine ⟨by rw [hp]; rfl, H, [.scr ns], [], .refl _, ⟨_, [], [], [], rfl, ⟨a, rfl, hs, rfl⟩, ⟨rfl, rfl⟩, by simp, rfl⟩, by simp, fun i d _ e => ?_, ?_⟩
    · cases i with
      | zero => have z : D.scr ns = d := by simpa using e
                subst z; rfl
      | succ i => simp at e
    · rw [hlaw ns hl]
      intro F' H' v fv fi _ _ r _ _ _
      rw [r.1]
      exact q H'
/-- a promise that never raises -/
theorem FnOk.calm {P : Program} {w : World} {K : PySem.W.Frag} {mg : Str → Option Value} {base : Heap} {k : Nat} {f : Addr} {fd : FuncData} {ps : List Str} {sp : Sp} (h : FnOk P w K mg base (L2.CX P w) k f fd ps sp) (i : ∀ vs H Q E E', sp vs H Q E → sp vs H Q E') : FnOk P w K mg base CX0 k f fd ps sp :=
  ⟨h.len, fun A outer s H args us vs Q E r e b v q => codeAny_mono (h.run A outer s H args us vs Q (fun _ _ _ => False) r e b v (i _ _ _ _ _ q)) fun r s' z => by
    cases r with
    | error u =>
      obtain ⟨a, B, H', cls, d, _, _, _, _, _, _, _, no⟩ := z
      exact False.elim no
    | ok fl => cases fl <;> exact z⟩
/-- for every base the same def -/
theorem law_all {G : Tab} {A : Nat → Addr} {P : Program} {w : World} {K : PySem.W.Frag} {mg : Str → Option Value} (T : ∀ base, TopOk G A P w K mg base) (h0 : Heap) {n k m : Nat} {fn : Fn} (hf : G.fns[k]? = some fn) (hp : fn.ps.length = 1) (hi : fn.io = [false])
    (hlaw : ∀ ns : List Int, ns.length ≤ m → callF G (n + 1) k [.scr ns] = .ok (.bl true) []) {f : Addr} (hm : mg fn.name = some (.ref f)) :
    ∃ fd, (∀ (s : Shared) (us : List Value), us.length = fn.ps.length → BindsTo s fd { pos := us } (fn.ps.zip us)) ∧
      ∀ base, FnOk P w K mg base CX0 (n + 3) f fd fn.ps (fun vs H Q _ => ∃ (a : Addr) (ns : List Int), vs = [.ref a] ∧ ns.length ≤ m ∧ SqL K H a (ns.map V.int) ∧ ∀ H', Q (.bl true) H') := by
  obtain ⟨fd, ⟨oc, od, osl, lk⟩, b, _⟩ := law_ok (T h0) hf hp hi hlaw hm
  refine ⟨fd, b, fun base => ?_⟩
  obtain ⟨fd', ⟨oc', od', osl', lk'⟩, _, F⟩ := law_ok (T base) hf hp hi hlaw hm
  have e : fd' = fd := by rw [lk] at lk'; cases lk'; rfl
  rw [← e]; exact FnOk.calm F fun _ _ _ _ _ q => q
/-! ### an __init__ that stores its parameters -/
def iniB (N : List Str) (sc : Scope) : Nat → List Str → List Stmt → Bool
  | _, [], [] => true
  | i, f :: fs, .Assign [.Attribute (.Name x _) g _] (.Name y _) _ :: r => (x == Str.ofString "self") && (g == f) && N[i]? == some y && visB sc x && visB sc y && (N[0]? == some x) && iniB N sc (i + 1) fs r
  | _, _, _ => false
def tIni (K : PySem.W.Frag) : Nat → List Str → TS
  | _, [] => tNext
  | i, f :: fs => tSeq (tOst K f (tVar 0) (tVar i)) (tIni K (i + 1) fs)
theorem visB_at {X : Cx} {sc : Scope} (hs : X.env.scope = sc) {y : Str} (h : visB sc y = true) : Vis X.env.scope y ∧ (y == Str.ofString "__debug__") = false ∧ (y == Str.ofString "__classdict__") = false := by
  unfold visB at h
  rw [Bool.and_eq_true, Bool.and_eq_true, Bool.not_eq_true', Bool.not_eq_true'] at h
  refine ⟨?_, h.1.2, h.2⟩
  rw [hs]
  have q := h.1.1
  split at q
  · rename_i e; exact .inl e
  · rename_i e; exact .inr (.inl e)
  · rename_i e; exact .inr (.inr e)
  · cases q
theorem ini_pss {X : Cx} {N : List Str} {sc : Scope} (hN : X.N = N) (hs : X.env.scope = sc) : ∀ {fs : List Str} {i : Nat} {b : List Stmt}, iniB N sc i fs b = true → PSs X b (tIni X.K i fs)
  | [], i, [], _ => pss_nil
  | [], i, _ :: _, h => by simp [iniB] at h
  | f :: fs, i, [], h => by simp [iniB] at h
  | f :: fs, i, st :: r, h => by
    unfold iniB at h
    split at h
    · rename_i e1 e2; cases e1
    · rename_i i' f' fs' x p g p2 y p3 p4 r' e1 e2
      cases e1; cases e2
      simp only [Bool.and_eq_true] at h
      obtain ⟨⟨⟨⟨⟨⟨h1, h2⟩, h3⟩, h4⟩, h5⟩, h6⟩, h7⟩ := h
      have eg := eq_of_beq h2
      subst eg
      obtain ⟨v1, a1, a2⟩ := visB_at hs h4
      obtain ⟨v2, b1, b2⟩ := visB_at hs h5
      exact pss_cons (ps_ost (pe_var (by rw [hN]; exact eq_of_beq h6) v1 a1 a2) (pe_var (by rw [hN]; exact eq_of_beq h3) v2 b1 b2) (swaps_ok rfl)) (ini_pss hN hs h7)
    · cases h
theorem ini_more {K : PySem.W.Frag} {C a d : Addr} {D : Ends} (OC : OexC K C) : ∀ {fs : List Str} {i : Nat} {us : List V} {l : List (Str × V)} {σ : St} {H : Hp}, (∀ f ∈ fs, PySem.W.findIn K (.ref C) f = some none) → σ[0]? = some (some (.ref a)) → (∀ (k : Nat) u, us[k]? = some u → σ[i + k]? = some (some u)) → us.length = fs.length →
    H a = some (exo a C (some d)) → H d = some (exd d l) → d ≠ a → l.length + fs.length ≤ 800 → (∀ H', (∀ b, b ≠ a → b ≠ d → H' b = H b) → H' a = some (exo a C (some d)) → H' d = some (exd d ((fs.zip us).reverse ++ l)) → D.nx σ H') → tIni K i fs D σ H
  | [], i, us, l, σ, H, _, _, _, hl, ha, hd, _, _, k => by
    have e : us = [] := by cases us with | nil => rfl | cons _ _ => simp at hl
    subst e
    exact k H (fun _ _ _ => rfl) ha (by simpa using hd)
  | f :: fs, i, [], l, σ, H, _, _, _, hl, _, _, _, _, _ => by simp at hl
  | f :: fs, i, u :: us, l, σ, H, hf, h0, hu, hl, ha, hd, nda, ll, k => by
    have hu0 := hu 0 u rfl
    rw [Nat.add_zero] at hu0
    refine ⟨u, hu0, .ref a, h0, a, C, rfl, OC, hf f (by simp), .inr ⟨d, l, ha, hd, by simp at ll; omega, ?_⟩⟩
    refine ini_more (D := D) OC (fs := fs) (i := i + 1) (us := us) (l := (f, u) :: l) (fun g hg => hf g (by simp [hg])) h0 (fun m v hv => ?_) (by simpa using hl) (by rw [upd_ne (Ne.symm nda)]; exact ha) upd_same nda (by simp at ll ⊢; omega) fun H' hb ha' hd' => k H' (fun b n1 n2 => by rw [hb b n1 n2, upd_ne n2]) ha' (by rw [hd']; simp)
    have q := hu (m + 1) v (by simpa using hv)
    have e : i + 1 + m = i + (m + 1) := by omega
    rw [e]; exact q
theorem ini_ok {P : Program} {w : World} {K : PySem.W.Frag} {mg : Str → Option Value} {base : Heap} {C fI : Addr} {fd : FuncData} {fs : List Str} {nm qual : Str} {params : Arguments} {body : List Stmt} {scope : Scope} (OC : OexC K C) (hne : fs ≠ []) (hf : ∀ f ∈ fs, PySem.W.findIn K (.ref C) f = some none) (hl : fs.length ≤ 100)
    (F : FunD K nm qual params body scope [] [] fI fd) (S : FnScope (Str.ofString "self" :: fs) (Str.ofString "self" :: fs) scope) (hb : iniB (Str.ofString "self" :: fs) scope 1 fs body = true) : FnOk P w K mg base (L2.CX P w) 1 fI fd (Str.ofString "self" :: fs) (spInit C fs) := by
  refine FunD.ok (CX := L2.CX P w) F S (fun vs H Q E h => ?_) fun cdv Ar outer s H vs Q E room h => ⟨tIni K 1 fs, ini_pss rfl rfl hb, ?_⟩
  · obtain ⟨a, us, rfl, l, _⟩ := h
    simp [l]
  · obtain ⟨a, us, rfl, l, ha, k⟩ := h
    have st : ∀ (m : Nat) v, (V.ref a :: us)[m]? = some v → (L2.start (Str.ofString "self" :: fs) (.ref a :: us))[m]? = some (some v) := fun m v hv => by
      have ml := (List.getElem?_eq_some_iff.mp hv).1
      rw [L2.start.eq_1, List.getElem?_append_left (by simpa using ml), List.getElem?_map, hv]; rfl
    cases fs with
    | nil => exact absurd rfl hne
    | cons f fs =>
      cases us with
      | nil => simp at l
      | cons u us =>
        refine ⟨u, st 1 u rfl, .ref a, st 0 _ rfl, a, C, rfl, OC, hf f (by simp), .inl ⟨ha, fun dx ndx nda => ?_⟩⟩
        refine ini_more (D := { nx := fun _ H' => Q .non H', rt := Q }) OC (fs := fs) (i := 2) (us := us) (l := [(f, u)]) (fun g hg => hf g (by simp [hg])) (st 0 _ rfl) (fun m v hv => ?_) (by simpa using l) upd_same (by rw [upd_ne nda]; exact upd_same) nda (by simp at hl ⊢; omega) fun H' hb ha' hd' => ?_
        · have e : 2 + m = m + 2 := by omega
          rw [e]; exact st (m + 2) v (by simpa using hv)
        · exact k dx H' ndx nda (fun b n1 n2 => by rw [hb b n1 n2, upd_ne n1, upd_ne n2]) ha' (by rw [hd']; simp)
end IR
namespace IR
open PySem PySem.Spec L2
/-! ### the head's hook: a Bool of facts, and the defs -/
abbrev AlX := Bool × He.AlD
def obsX (n : Nat) (xb : PySem.W.Frag → Bool) (fn : List He.DefD) (g : Addr → Option Obj) : AlX :=
  (xb (He.frG g (He.asD g n)), He.obsD [] fn (He.frG g (He.asD g n)))
def SaysX (xb : PySem.W.Frag → Bool) (fn : List He.DefD) (K : PySem.W.Frag) : Prop := xb K = true ∧ He.SaysD [] fn K
def hookX (n : Nat) (xb : PySem.W.Frag → Bool) (fn : List He.DefD) : PySem.W.Hook where
  α := AlX
  obs := fun s => obsX n xb fn s.heap.get?
  val := fun _ => (true, He.valD fn)
  says := fun _ h => ∃ K : PySem.W.Frag, K.In h ∧ SaysX xb fn K
  of := fun w s e => by
    have e1 := congrArg Prod.fst e
    have e2 := congrArg Prod.snd e
    exact ⟨_, He.frG_in, e1, e2⟩
  keeps := fun w h h' ⟨K, hK, r⟩ k => ⟨K, fun a o e => k a o (hK a o e), r⟩
theorem obsX_eq {n : Nat} {xb : PySem.W.Frag → Bool} {fn : List He.DefD} {g : Addr → Option Obj} {s : Shared} (h : ∀ a, g a = s.heap.get? a) : obsX n xb fn g = (hookX n xb fn).obs s := by
  have e : g = s.heap.get? := funext h
  rw [e]; rfl
/-! ### the facts -/
/-- an exception class that stores its __init__'s parameters -/
def oexB (K : PySem.W.Frag) (C : Addr) : Bool := match K.lookup C with
  | some ⟨.type "type", _, .cls cd, sl⟩ => (match cd.mro, sl.toList with
    | .ref C' :: bm, [_, _, _, _, some (.builtin n), _] => C' == C && n == "ValueError.__new__" && !cd.hasDel && cd.hasDict && HandSPX.refsVE bm
    | _, _ => false) && decide (PySem.W.findIn K (.ref C) (Str.ofString "__setattr__") = some (some (.builtin "object.__setattr__"))) && decide (PySem.W.subIn K (.ref C) (.type "BaseException") = some true) && decide (PySem.W.typeIn K (.ref C) = some (.type "type")) && PySem.W.keepIn K (.ref C)
  | _ => false
theorem oexB_ok {K : PySem.W.Frag} {C : Addr} (h : oexB K C = true) : OexC K C := by
  unfold oexB at h
  split at h
  · rename_i dct cd sl hl
    simp only [Bool.and_eq_true, decide_eq_true_eq] at h
    obtain ⟨⟨⟨⟨h1, h2⟩, h3⟩, h4⟩, h5⟩ := h
    split at h1
    · rename_i C' bm k0 k1 k2 k3 n k5 hm hs
      simp only [Bool.and_eq_true, Bool.not_eq_true', beq_iff_eq] at h1
      obtain ⟨⟨⟨⟨rfl, rfl⟩, h1c⟩, h1d⟩, h1e⟩ := h1
      refine ⟨⟨cd.name, cd.qualname, cd.ns, cd.bases, bm, cd.slotNames, cd.subclasses, cd.abstract, cd.collection, dct, k0, k1, k2, k3, k5, ?_, h1e⟩, h2, h3, h4, h5⟩
      rw [hl]
      obtain ⟨nm, bs, mro, ns, q, hd, sn, sub, ab, col, del⟩ := cd
      obtain ⟨l⟩ := sl
      subst hm; subst hs; subst h1c; subst h1d
      rfl
    · cases h1
  · cases h
def initName : Str := Str.ofString "__init__"
def A0 (G : Tab) (K : PySem.W.Frag) (c : Nat) : Addr := match G.xcs[c]? with
  | some x => He.ga K x.name
  | none => 0
/-- facts of the class c -/
def xcB (G : Tab) (K : PySem.W.Frag) (c : Nat) (x : Xc) : Bool :=
  He.Fa.ok K (.glo x.name) && ((List.range G.xcs.length).all fun ch => decide (PySem.W.exmOne K (.ref (He.ga K x.name)) (.ref (A0 G K ch)) = some (x.sup.contains ch))) &&
  decide (PySem.W.subIn K (.ref (He.ga K x.name)) (.type "BaseException") = some true) && decide (PySem.W.typeIn K (.ref (He.ga K x.name)) = some (.type "type")) && PySem.W.keepIn K (.ref (He.ga K x.name)) &&
  (if x.fs.isEmpty then PySem.W.excIn K (He.ga K x.name) He.veBase "ValueError.__new__"
   else xfB K (He.ga K x.name) && (x.fs.all fun f => decide (PySem.W.findIn K (.ref (He.ga K x.name)) f = some none)) && oexB K (He.ga K x.name) &&
    decide (PySem.W.findIn K (.ref (He.ga K x.name)) initName = some (some (.ref (He.ma K (He.ga K x.name) initName)))) && decide (PySem.W.typeIn K (.ref (He.ma K (He.ga K x.name) initName)) = some (.type "function")))
def glFB (K : PySem.W.Frag) (x : Str) : Lit → Bool
  | .int i => He.Fa.ok K (.int x i)
  | .str z => He.Fa.ok K (.str x z)
  | _ => false
def topB (G : Tab) (K : PySem.W.Frag) : Bool :=
  (G.gls.all fun p => glFB K p.1 p.2) && (G.bls.all fun x => He.Fa.ok K (.free x)) && ((List.range G.xcs.length).all fun c => match G.xcs[c]? with | some x => xcB G K c x | none => false) && (G.fns.all fun f => He.Fa.ok K (.glo f.name) && PySem.W.keepIn K (.ref (He.ga K f.name)))
/-! ### plain parameters -/
def argsB (p : Arguments) (ps : List Str) : Bool := match p with
  | ⟨[], as, none, [], [], none, []⟩ => decide (as.map (fun a => a.arg) = ps)
  | _ => false
/-- a def and how it stands in the program -/
structure DefE where
  qual : Str
  params : Arguments
  body : List Stmt
  scope : Scope
def stE (qual : Str) : Stmt → DefE
  | .FunctionDef _ args b _ _ _ sc _ _ _ => ⟨qual, args, b, sc⟩
  | _ => ⟨qual, ⟨[], [], none, [], [], none, []⟩, [], ⟨.class, [], false, false, []⟩⟩
def DefE.d (e : DefE) (at_ : Str × Option Str) (nm : Str) : He.DefD := ⟨at_, nm, e.qual, e.params, e.body, e.scope, [], []⟩
def scB (N ps : List Str) (sc : Scope) : Bool := (match sc.kind with | .function => true | _ => false) && !sc.isCoroutine && !sc.isGenerator && decide N.Nodup && decide (N.take ps.length = ps) && (ps.all fun x => sc.names.lookup x == some .local || sc.names.lookup x == some .cell) && (sc.names.all fun y => !(y.2 == .free))
theorem scB_ok {N ps : List Str} {sc : Scope} (h : scB N ps sc = true) : FnScope N ps sc := by
  unfold scB at h
  simp only [Bool.and_eq_true, Bool.not_eq_true', decide_eq_true_eq] at h
  obtain ⟨⟨⟨⟨⟨⟨h1, h2⟩, h3⟩, h4⟩, h5⟩, h6⟩, h7⟩ := h
  refine ⟨?_, h2, h3, h4, h5, fun x hx => ?_, fun y hy e => ?_⟩
  · split at h1
    · rename_i e; exact e
    · cases h1
  · have q := List.all_eq_true.mp h6 x hx
    rw [Bool.or_eq_true] at q
    exact q.imp eq_of_beq eq_of_beq
  · have q := List.all_eq_true.mp h7 y hy
    rw [e] at q; cases q
/-- the check of a def: its text is the term -/
def defB (G : Tab) (fn : Fn) (e : DefE) : Bool := scB fn.N fn.ps e.scope && argsB e.params fn.ps && decide (fn.io.length = fn.ps.length) && chkL G fn.N 3000 e.scope (ioAt fn.io 0) fn.body e.body
end IR
namespace IR
open PySem PySem.Spec L2
/-- how arguments are bound, by place; by name -/
def BindN (ps : List Str) : Prop := ∀ (as : List Arg) (nm qual : Str) (body : List Stmt) (scope : Scope) (kV doc pm : Value) (an : Option Addr) (cdv ct : Value) (us : List Value), as.map (fun a => a.arg) = ps → us.length = ps.length →
  bindArgs (PySem.W.fnOf nm qual ⟨[], as, none, [], [], none, []⟩ body scope .none kV doc pm an cdv ct) { pos := us } = pure (ps.zip us)
def BindK (ps : List Str) (n : Nat) (ns : List Str) (ks : List Nat) : Prop := ∀ (as : List Arg) (nm qual : Str) (body : List Stmt) (scope : Scope) (kV doc pm : Value) (an : Option Addr) (cdv ct : Value) (us ws : List Value), as.map (fun a => a.arg) = ps → us.length = n → ws.length = ns.length →
  bindArgs (PySem.W.fnOf nm qual ⟨[], as, none, [], [], none, []⟩ body scope .none kV doc pm an cdv ct) { pos := us, kw := ns.zip ws } = pure (ps.zip (gK .none ks us ws))
theorem argsB_ok {p : Arguments} {ps : List Str} (h : argsB p ps = true) : ∃ as, p = ⟨[], as, none, [], [], none, []⟩ ∧ as.map (fun a => a.arg) = ps := by
  unfold argsB at h
  split at h
  · exact ⟨_, rfl, of_decide_eq_true h⟩
  · cases h
theorem binds_of {K : PySem.W.Frag} {x qual : Str} {params : Arguments} {body : List Stmt} {scope : Scope} {f : Addr} {fd : FuncData} {ps : List Str} (F : FunD K x qual params body scope [] [] f fd) (h : argsB params ps = true) (b : BindN ps) : Binds K fd ps [] := by
  obtain ⟨as, rfl, e⟩ := argsB_ok h
  exact F.bindsN fun kV doc pm an cdv ct us hl => b as x qual body scope kV doc pm an cdv ct us e hl
theorem bindsA_of {K : PySem.W.Frag} {x qual : Str} {params : Arguments} {body : List Stmt} {scope : Scope} {f : Addr} {fd : FuncData} {ps : List Str} (F : FunD K x qual params body scope [] [] f fd) (h : argsB params ps = true) (b : BindN ps) (s : Shared) (us : List Value) (hl : us.length = ps.length) : BindsTo s fd { pos := us } (ps.zip us) := by
  obtain ⟨as, rfl, e⟩ := argsB_ok h
  exact F.bindsA (fun kV doc pm an cdv ct us hl => b as x qual body scope kV doc pm an cdv ct us e hl) s us hl
theorem gK_rel {ks : List Nat} {vs zs : List V} {us ws : List Value} (r : Vals vs us) (r2 : Vals zs ws) : Vals (gK V.non ks vs zs) (gK .none ks us ws) := by
  have app : ∀ {vs zs : List V} {us ws : List Value}, Vals vs us → Vals zs ws → Vals (vs ++ zs) (us ++ ws) := by
    intro vs zs us ws r r2
    induction r with
    | nil => exact r2
    | cons a _ ih => exact .cons a ih
  have nth : ∀ {vs : List V} {us : List Value} (k : Nat), Vals vs us → RelV ((vs[k]?).getD .non) ((us[k]?).getD .none) := by
    intro vs us k r
    induction r generalizing k with
    | nil => exact rfl
    | cons a _ ih =>
      cases k with
      | zero => exact a
      | succ k => simpa using ih k
  have a := app r r2
  unfold gK
  induction ks with
  | nil => exact .nil
  | cons k ks ih => exact .cons (nth k a) ih
theorem kbn_of {K : PySem.W.Frag} {x qual : Str} {params : Arguments} {body : List Stmt} {scope : Scope} {f : Addr} {fd : FuncData} {ps : List Str} {n : Nat} {ns : List Str} {ks : List Nat} (F : FunD K x qual params body scope [] [] f fd) (h : argsB params ps = true) (b : BindK ps n ns ks) :
    KBn K fd ps n ns (gK .none ks) (gK V.non ks) := by
  obtain ⟨as, rfl, e⟩ := argsB_ok h
  obtain ⟨⟨oc, od, dV, kV, doc, pm, an, cdv, ct, osl, ef, _, _, hd, _⟩, _⟩ := F
  have ed : dV = .none := by
    rcases hd with ⟨_, z⟩ | ⟨z, _⟩
    · exact z
    · exact absurd rfl z
  subst ed
  subst ef
  refine ⟨fun s us ws _ h1 h2 => ?_, fun r r2 => gK_rel r r2⟩
  exact BindsTo.of_eq (b as x qual body scope kV doc pm an cdv ct us ws e h1 h2)
/-! ### the whole top -/
def dsOf (G : Tab) (es : List DefE) (is : List (Option DefE)) : List He.DefD :=
  ((G.fns.zip es).map fun p => p.2.d (p.1.name, none) p.1.name) ++ (G.xcs.zip is).filterMap fun p => p.2.map fun e => e.d (p.1.name, some initName) initName
def selfs (fs : List Str) : List Str := Str.ofString "self" :: fs
def inB (x : Xc) (o : Option DefE) : Bool := x.fs.isEmpty || (match o with
  | some e => scB (selfs x.fs) (selfs x.fs) e.scope && argsB e.params (selfs x.fs) && decide (x.fs.length ≤ 100) && iniB (selfs x.fs) e.scope 1 x.fs e.body
  | none => false)
def allB (G : Tab) (es : List DefE) (is : List (Option DefE)) : Bool := decide (es.length = G.fns.length) && ((G.fns.zip es).all fun p => defB G p.1 p.2) && decide (is.length = G.xcs.length) && ((G.xcs.zip is).all fun p => inB p.1 p.2)
structure BindAll (G : Tab) : Prop where
  n : ∀ fn ∈ G.fns, BindN fn.ps
  x : ∀ x ∈ G.xcs, x.fs ≠ [] → BindN (selfs x.fs)
  k : ∀ (k n : Nat) (ns : List Str) (ks : List Nat), (k, n, ns, ks) ∈ G.kws → ∀ fn, G.fns[k]? = some fn → BindK fn.ps n ns ks
theorem zip_at {α β : Type} {as : List α} {bs : List β} (h : bs.length = as.length) {k : Nat} {a : α} (ha : as[k]? = some a) : ∃ b, bs[k]? = some b ∧ (a, b) ∈ as.zip bs := by
  have kl : k < bs.length := by rw [h]; exact (List.getElem?_eq_some_iff.mp ha).1
  refine ⟨bs[k], List.getElem?_eq_getElem kl, ?_⟩
  refine List.mem_of_getElem? (i := k) ?_
  rw [List.getElem?_zip_eq_some]
  exact ⟨ha, List.getElem?_eq_getElem kl⟩
theorem def_mem {ds : List He.DefD} {K : PySem.W.Frag} (c : He.SaysD [] ds K) {d : He.DefD} (h : d ∈ ds) : ∃ fd, FunD K d.name d.qual d.params d.body d.scope (d.dvs K) (d.kws K) (He.fAd K d.at_) fd := by
  obtain ⟨i, hi⟩ := List.mem_iff_getElem?.mp h
  exact c.def_ i hi
theorem glF_ok {K : PySem.W.Frag} {h : Heap} {mg : Str → Option Value} (X : K.In h) (Gm : h.Ns mainGlobals mg) {x : Str} : ∀ {c : Lit}, glFB K x c = true → GlAt mg x c
  | .int i, z => He.int_ok X Gm z
  | .str y, z => He.str_ok X Gm z
  | .non, z => by cases z
  | .bl _, z => by cases z
theorem top_ok {G : Tab} {es : List DefE} {is : List (Option DefE)} {P : Program} {w : World} {K : PySem.W.Frag} {h : Heap} {mg : Str → Option Value} {base : Heap} (X : K.In h) (Gm : h.Ns mainGlobals mg) (c : SaysX (topB G) (dsOf G es is) K) (ck : allB G es is = true) (B : BindAll G) : TopOk G (A0 G K) P w K mg base := by
  obtain ⟨tb, c⟩ := c
  unfold topB at tb
  unfold allB at ck
  simp only [Bool.and_eq_true, decide_eq_true_eq] at tb ck
  obtain ⟨⟨⟨t1, t2⟩, t3⟩, t4⟩ := tb
  obtain ⟨⟨⟨c1, c2⟩, c3⟩, c4⟩ := ck
  refine ⟨fun n p hp => glF_ok X Gm (List.all_eq_true.mp t1 p (List.mem_of_getElem? hp)), fun x hx => He.free_ok X Gm (List.all_eq_true.mp t2 x hx), fun k x hx => ?_, fun k fn hf => ?_⟩
  · have kl : k < G.xcs.length := (List.getElem?_eq_some_iff.mp hx).1
    have q := List.all_eq_true.mp t3 k (List.mem_range.mpr kl)
    rw [hx] at q
    have q : xcB G K k x = true := q
    unfold xcB at q
    simp only [Bool.and_eq_true, decide_eq_true_eq] at q
    obtain ⟨⟨⟨⟨⟨q1, q2⟩, q3⟩, q4⟩, q5⟩, q6⟩ := q
    have eA : A0 G K k = He.ga K x.name := by unfold A0; rw [hx]
    have hm : mg x.name = some (.ref (A0 G K k)) := by rw [eA]; exact He.glo_ok X Gm q1
    refine ⟨hm, fun ch y hy => ?_, by rw [eA]; exact q3, by rw [eA]; exact q4, by rw [eA]; exact q5, fun ne => ?_, fun e0 => ?_, fun ne => ?_⟩
    · have cl : ch < G.xcs.length := (List.getElem?_eq_some_iff.mp hy).1
      rw [eA]
      have z := List.all_eq_true.mp q2 ch (List.mem_range.mpr cl)
      exact of_decide_eq_true z
    · have ie : x.fs.isEmpty = false := by cases q : x.fs with | nil => exact absurd q ne | cons _ _ => rfl
      rw [ie, if_neg Bool.false_ne_true] at q6
      simp only [Bool.and_eq_true, decide_eq_true_eq] at q6
      rw [eA]
      exact ⟨xfB_ok q6.1.1.1.1, fun f hf => of_decide_eq_true (List.all_eq_true.mp q6.1.1.1.2 f hf)⟩
    · have ie : x.fs.isEmpty = true := by rw [e0]; rfl
      rw [ie, if_pos rfl] at q6
      rw [eA]
      exact ⟨_, _, _, _, PySem.F.excBase_ValueError, q6⟩
    · have ie : x.fs.isEmpty = false := by cases q : x.fs with | nil => exact absurd q ne | cons _ _ => rfl
      rw [ie, if_neg Bool.false_ne_true] at q6
      simp only [Bool.and_eq_true, decide_eq_true_eq] at q6
      obtain ⟨⟨⟨⟨a1, a2⟩, a3⟩, a4⟩, a5⟩ := q6
      obtain ⟨o, ho, mz⟩ := zip_at c3 hx
      have ib := List.all_eq_true.mp c4 _ mz
      have ib : inB x o = true := ib
      unfold inB at ib
      rw [ie, Bool.false_or] at ib
      cases o with
      | none => cases ib
      | some e =>
        simp only [Bool.and_eq_true, decide_eq_true_eq] at ib
        obtain ⟨⟨⟨i1, i2⟩, i3⟩, i4⟩ := ib
        obtain ⟨fd, F⟩ := def_mem c (d := e.d (x.name, some initName) initName) (List.mem_append_right _ (List.mem_filterMap.mpr ⟨(x, some e), mz, rfl⟩))
        have F : FunD K initName e.qual e.params e.body e.scope [] [] (He.ma K (He.ga K x.name) initName) fd := F
        rw [eA]
        have fnd : ∀ f ∈ x.fs, PySem.W.findIn K (.ref (He.ga K x.name)) f = some none := fun f hf => of_decide_eq_true (List.all_eq_true.mp a2 f hf)
        exact ⟨oexB_ok a3, _, fd, a4, a5, binds_of F i2 (B.x x (List.mem_of_getElem? hx) ne), ini_ok (oexB_ok a3) ne fnd i3 F (scB_ok i1) i4⟩
  · obtain ⟨e, he, mz⟩ := zip_at c1 hf
    have q := List.all_eq_true.mp t4 fn (List.mem_of_getElem? hf)
    rw [Bool.and_eq_true] at q
    have db := List.all_eq_true.mp c2 _ mz
    have db : defB G fn e = true := db
    unfold defB at db
    simp only [Bool.and_eq_true, decide_eq_true_eq] at db
    obtain ⟨⟨⟨d1, d2⟩, d3⟩, d4⟩ := db
    obtain ⟨fd, F⟩ := def_mem c (d := e.d (fn.name, none) fn.name) (List.mem_append_left _ (List.mem_map.mpr ⟨(fn, e), mz, rfl⟩))
    have F : FunD K fn.name e.qual e.params e.body e.scope [] [] (He.ga K fn.name) fd := F
    exact ⟨He.ga K fn.name, fd, He.glo_ok X Gm q.1, q.2, binds_of F d2 (B.n fn (List.mem_of_getElem? hf)), ⟨⟨e.qual, e.params, e.body, e.scope, F, scB_ok d1, d4⟩, d3, fun s us hl => bindsA_of F d2 (B.n fn (List.mem_of_getElem? hf)) s us hl⟩, fun n ns ks hk => kbn_of F d2 (B.k k n ns ks hk fn hf)⟩
end IR
namespace IR
open PySem PySem.Spec L2
/-! ### running a term, by simp: first what is looked at, then what comes of it -/
/-- a thing that simp leaves as it is -/
structure Hold {α : Type} (a : α) : Type where
section
variable {α β : Type}
def R.bnd (r : R α) (f : α → Ev → R β) (h : Hold f := ⟨⟩) : R β := r.bind f
def R.outp (r : R α) (f : α → Ev → Out) (h : Hold f := ⟨⟩) : Out := r.out f
def Out.sq (o : Out) (f : Ev → Out) (h : Hold f := ⟨⟩) : Out := o.seq f
@[simp] theorem R.bnd_ok {a : α} {δ : Ev} {f : α → Ev → R β} {h} : (R.ok a δ).bnd f h = f a δ := rfl
@[simp] theorem R.bnd_err {c : Nat} {g : List D} {δ : Ev} {f : α → Ev → R β} {h} : (R.err c g δ : R α).bnd f h = .err c g δ := rfl
@[simp] theorem R.bnd_stuck {f : α → Ev → R β} {h} : (R.stuck : R α).bnd f h = .stuck := rfl
@[simp] theorem R.outp_ok {a : α} {δ : Ev} {f : α → Ev → Out} {h} : (R.ok a δ).outp f h = f a δ := rfl
@[simp] theorem R.outp_err {c : Nat} {g : List D} {δ : Ev} {f : α → Ev → Out} {h} : (R.err c g δ : R α).outp f h = .err c g δ := rfl
@[simp] theorem R.outp_stuck {f : α → Ev → Out} {h} : (R.stuck : R α).outp f h = .stuck := rfl
@[simp] theorem Out.sq_nx {δ : Ev} {f : Ev → Out} {h} : (Out.nx δ).sq f h = f δ := rfl
@[simp] theorem Out.sq_ret {d : D} {δ : Ev} {f : Ev → Out} {h} : (Out.ret d δ).sq f h = .ret d δ := rfl
@[simp] theorem Out.sq_brk {δ : Ev} {f : Ev → Out} {h} : (Out.brk δ).sq f h = .brk δ := rfl
@[simp] theorem Out.sq_ct {δ : Ev} {f : Ev → Out} {h} : (Out.ct δ).sq f h = .ct δ := rfl
@[simp] theorem Out.sq_err {c : Nat} {g : List D} {δ : Ev} {f : Ev → Out} {h} : (Out.err c g δ).sq f h = .err c g δ := rfl
def wR (o : Option α) (f : α → R β) (h : Hold f := ⟨⟩) : R β := match o with
  | some a => f a
  | none => .stuck
def wO (o : Option α) (f : α → Out) (h : Hold f := ⟨⟩) : Out := match o with
  | some a => f a
  | none => .stuck
def wB (o : Option D) (t f : R β) (h : Hold (t, f) := ⟨⟩) : R β := match o with
  | some (.bl true) => t
  | some (.bl false) => f
  | _ => .stuck
def wT (o : Opd) (f : D → Out) (h : Hold f := ⟨⟩) : Out := match o with
  | .tmp d => f d
  | .ref _ => .stuck
def wTR (o : Opd) (f : D → R β) (h : Hold f := ⟨⟩) : R β := match o with
  | .tmp d => f d
  | .ref _ => .stuck
/-- whole numbers, lists, tuples alone -/
def wI (o : D) (f : Int → R β) (h : Hold f := ⟨⟩) : R β := match o with
  | .int i => f i
  | _ => .stuck
def wL (o : D) (f : Bool → List D → Out) (h : Hold f := ⟨⟩) : Out := match o with
  | .lst b xs => f b xs
  | _ => .stuck
def wU (o : D) (f : List D → Out) (h : Hold f := ⟨⟩) : Out := match o with
  | .tup xs => f xs
  | _ => .stuck
def wif (b : Bool) (x y : β) (h : Hold (x, y) := ⟨⟩) : β := if b then x else y
def hdl (o : Out) (f : Nat → List D → Ev → Out) (h : Hold f := ⟨⟩) : Out := match o with
  | .err c g δ => f c g δ
  | o => o
@[simp] theorem wR_some {a : α} {f : α → R β} {h} : wR (some a) f h = f a := rfl
@[simp] theorem wR_none {f : α → R β} {h} : wR none f h = .stuck := rfl
@[simp] theorem wO_some {a : α} {f : α → Out} {h} : wO (some a) f h = f a := rfl
@[simp] theorem wO_none {f : α → Out} {h} : wO none f h = .stuck := rfl
@[simp] theorem wB_t {t f : R β} {h} : wB (some (.bl true)) t f h = t := rfl
@[simp] theorem wB_f {t f : R β} {h} : wB (some (.bl false)) t f h = f := rfl
@[simp] theorem wT_tmp {d : D} {f : D → Out} {h} : wT (.tmp d) f h = f d := rfl
@[simp] theorem wTR_tmp {d : D} {f : D → R β} {h} : wTR (.tmp d) f h = f d := rfl
@[simp] theorem wI_int {i : Int} {f : Int → R β} {h} : wI (.int i) f h = f i := rfl
@[simp] theorem wL_lst {b : Bool} {xs : List D} {f : Bool → List D → Out} {h} : wL (.lst b xs) f h = f b xs := rfl
@[simp] theorem wU_tup {xs : List D} {f : List D → Out} {h} : wU (.tup xs) f h = f xs := rfl
@[simp] theorem wif_t {x y : β} {h} : wif true x y h = x := rfl
@[simp] theorem wif_same {b : Bool} {x : β} {h} : wif b x x h = x := by cases b <;> rfl
@[simp] theorem wif_f {x y : β} {h} : wif false x y h = y := rfl
@[simp] theorem wB_okb {b : Bool} {δ : Ev} {h} : wB (some (.bl b)) (R.ok true δ) (R.ok false δ) h = .ok b δ := by cases b <;> rfl
@[simp] theorem wB_okt {b : Bool} {δ : Ev} {h} : wB (some (.bl b)) (R.ok (Opd.tmp (.bl true)) δ) (R.ok (Opd.tmp (.bl false)) δ) h = .ok (.tmp (.bl b)) δ := by cases b <;> rfl
@[simp] theorem wB_okn {b : Bool} {δ : Ev} {h} : wB (some (.bl b)) (R.ok (Opd.tmp (.bl false)) δ) (R.ok (Opd.tmp (.bl true)) δ) h = .ok (.tmp (.bl (!b))) δ := by cases b <;> rfl
theorem wB_dec {p : Prop} [Decidable p] {t f : R β} : wB (some (.bl (decide p))) t f = if p then t else f := by
  by_cases h : p <;> simp [h]
@[simp] theorem hdl_nx {δ : Ev} {f : Nat → List D → Ev → Out} {h} : hdl (.nx δ) f h = .nx δ := rfl
@[simp] theorem hdl_ret {d : D} {δ : Ev} {f : Nat → List D → Ev → Out} {h} : hdl (.ret d δ) f h = .ret d δ := rfl
@[simp] theorem hdl_brk {δ : Ev} {f : Nat → List D → Ev → Out} {h} : hdl (.brk δ) f h = .brk δ := rfl
@[simp] theorem hdl_ct {δ : Ev} {f : Nat → List D → Ev → Out} {h} : hdl (.ct δ) f h = .ct δ := rfl
@[simp] theorem hdl_err {c : Nat} {g : List D} {δ : Ev} {f : Nat → List D → Ev → Out} {h} : hdl (.err c g δ) f h = f c g δ := rfl
@[simp] theorem R.bind_ok (a : α) (δ : Ev) (f : α → Ev → R β) : (R.ok a δ).bind f = f a δ := rfl
@[simp] theorem R.bind_err (c : Nat) (g : List D) (δ : Ev) (f : α → Ev → R β) : (R.err c g δ : R α).bind f = .err c g δ := rfl
@[simp] theorem R.bind_stuck (f : α → Ev → R β) : (R.stuck : R α).bind f = .stuck := rfl
@[simp] theorem R.out_ok (a : α) (δ : Ev) (f : α → Ev → Out) : (R.ok a δ).out f = f a δ := rfl
@[simp] theorem R.out_err (c : Nat) (g : List D) (δ : Ev) (f : α → Ev → Out) : (R.err c g δ : R α).out f = .err c g δ := rfl
@[simp] theorem R.out_stuck (f : α → Ev → Out) : (R.stuck : R α).out f = .stuck := rfl
@[simp] theorem R.noerr_ok (a : α) (δ : Ev) : (R.ok a δ).noerr = .ok a δ := rfl
@[simp] theorem Out.seq_nx (δ : Ev) (f : Ev → Out) : (Out.nx δ).seq f = f δ := rfl
@[simp] theorem Out.seq_ret (d : D) (δ : Ev) (f : Ev → Out) : (Out.ret d δ).seq f = .ret d δ := rfl
@[simp] theorem Out.seq_brk (δ : Ev) (f : Ev → Out) : (Out.brk δ).seq f = .brk δ := rfl
@[simp] theorem Out.seq_ct (δ : Ev) (f : Ev → Out) : (Out.ct δ).seq f = .ct δ := rfl
@[simp] theorem Out.seq_err (c : Nat) (g : List D) (δ : Ev) (f : Ev → Out) : (Out.err c g δ).seq f = .err c g δ := rfl
@[simp] theorem ofO_some (a : α) (δ : Ev) : ofO (some a) δ = .ok a δ := rfl
@[simp] theorem ofO_none (δ : Ev) : ofO (none : Option α) δ = .stuck := rfl
@[simp] theorem Opd.get_tmp (δ : Ev) (d : D) : (Opd.tmp d).get δ = some d := rfl
@[simp] theorem Opd.get_ref (δ : Ev) (i : Nat) : (Opd.ref i).get δ = (δ[i]?).join := rfl
@[simp] theorem tmps_nil : tmps [] = some [] := rfl
@[simp] theorem tmps_cons (d : D) (os : List Opd) : tmps (.tmp d :: os) = (tmps os).map (d :: ·) := rfl
@[simp] theorem gets_nil (δ : Ev) : gets δ [] = some [] := rfl
end
section
variable {δ : Ev} {os : List Opd} {d : D} {i : Nat}
theorem gets_cons (o : Opd) : gets δ (o :: os) = match o.get δ, gets δ os with
    | some d, some ds => some (d :: ds)
    | _, _ => none := rfl
@[simp] theorem gets_tmp1 : gets δ (.tmp d :: os) = (gets δ os).map (d :: ·) := by
  rw [gets_cons]; cases gets δ os <;> rfl
@[simp] theorem gets_ref1 : gets δ (.ref i :: os) = ((δ[i]?).join).bind fun d => (gets δ os).map (d :: ·) := by
  rw [gets_cons]
  show (match (δ[i]?).join, gets δ os with | some d, some ds => some (d :: ds) | _, _ => none) = _
  cases (δ[i]?).join <;> cases gets δ os <;> rfl
end
@[simp] theorem big_eq : big = 1000000 := rfl
section
variable {o : Bool} {xs : List D} {i j : Int} {b : Bool}
@[simp] theorem runBl_len_lst : runBl .len [.lst o xs] = some (.int xs.length) := rfl
@[simp] theorem runBl_len_tup : runBl .len [.tup xs] = some (.int xs.length) := rfl
@[simp] theorem runBl_len_scr {ns : List Int} : runBl .len [.scr ns] = some (.int ns.length) := rfl
@[simp] theorem runBl_len_str {z : Str} : runBl .len [.str z] = if decide (z.length ≤ big) then some (.int z.length) else none := rfl
@[simp] theorem runBl_abs : runBl .abs [.int i] = some (.int (if i < 0 then -i else i)) := rfl
@[simp] theorem runBl_int : runBl .int [.int i] = some (.int i) := rfl
@[simp] theorem runBl_int_bl : runBl .int [.bl b] = some (.int (if b then 1 else 0)) := rfl
@[simp] theorem runBl_list : runBl .list [.lst o xs] = if D.pures xs then some (.lst true xs) else none := rfl
@[simp] theorem runBl_list_tup : runBl .list [.tup xs] = if D.pures xs then some (.lst true xs) else none := rfl
@[simp] theorem runBl_tuple : runBl .tuple [.lst o xs] = if D.pures xs then some (.tup xs) else none := rfl
@[simp] theorem runBl_tuple_tup : runBl .tuple [.tup xs] = if D.pures xs then some (.tup xs) else none := rfl
@[simp] theorem runBl_all : runBl .all [.lst o xs] = (dBls xs).map fun bs => .bl (bs.all id) := rfl
@[simp] theorem runBl_any : runBl .any [.lst o xs] = (dBls xs).map fun bs => .bl (bs.any id) := rfl
@[simp] theorem runBl_sum : runBl .sum [.lst o xs] = (dInts xs).map fun ns => .int ns.sum := rfl
@[simp] theorem runBl_min2 : runBl .min [.int i, .int j] = some (.int (if j < i then j else i)) := rfl
@[simp] theorem runBl_max3 {i j k : Int} : runBl .max [.int i, .int j, .int k] = some (.int (if k > (if j > i then j else i) then k else (if j > i then j else i))) := rfl
@[simp] theorem runBl_max2 : runBl .max [.int i, .int j] = some (.int (if j > i then j else i)) := rfl
@[simp] theorem runBl_lrange1 : runBl .lrange [.int i] = if decide (i ≤ 100000) && decide (-100000 ≤ i) then some (.lst true (rngD 0 i)) else none := rfl
@[simp] theorem runBl_trange1 : runBl .trange [.int i] = if decide (i ≤ 100000) && decide (-100000 ≤ i) then some (.tup (rngD 0 i)) else none := rfl
@[simp] theorem runBl_lrange2 : runBl .lrange [.int i, .int j] = if decide (j ≤ 100000) && decide (-100000 ≤ j) && decide (i ≤ 100000) && decide (-100000 ≤ i) then some (.lst true (rngD i j)) else none := rfl
theorem dInts_map : ∀ ns : List Int, dInts (ns.map .int) = some ns
  | [] => rfl
  | n :: ns => by simp [dInts, dInts_map ns]
@[simp] theorem runBl_sum_ints {ns : List Int} : runBl .sum [.lst o (ns.map .int)] = some (.int ns.sum) := by rw [runBl_sum, dInts_map]; rfl
@[simp] theorem runBl_sorted_ints {ns : List Int} : runBl .sorted [.lst o (ns.map .int)] = if decide (ns.length < 64) then some (.lst true ((sortI ns).map .int)) else none := by
  simp only [runBl, dInts_map]
theorem dPrs_map : ∀ ps : List (Int × Int), dPrs (ps.map prD) = some ps
  | [] => rfl
  | p :: ps => by
    show (dPrs (ps.map prD)).map ((p.1, p.2) :: ·) = _
    rw [dPrs_map ps]; rfl
theorem runBl_sorted_prs {ps : List (Int × Int)} : runBl .sorted [.lst o (ps.map prD)] = some (.lst true ((sortP ps).map prD)) := by
  cases ps with
  | nil => rfl
  | cons p ps =>
    have e : dInts ((p :: ps).map prD) = none := rfl
    simp only [runBl, e, dPrs_map]
theorem runBl_min_prs {ps : List (Int × Int)} (h : ps ≠ []) : runBl .min [.lst o (ps.map prD)] = some (prD (minP ps)) := by
  cases ps with
  | nil => exact absurd rfl h
  | cons p ps =>
    have e : dInts ((p :: ps).map prD) = none := rfl
    simp only [runBl, e, dPrs_map]
    rfl
@[simp] theorem runBl_lset_ints {ns : List Int} : runBl .lset [.lst o (ns.map .int)] = if decide (ns.length < 64) then some (.int (PyProof.Rows.firstMet (fun i => ns.getD i 0) ns.length).length) else none := by
  show (match dInts (ns.map .int) with | some ns => if decide (ns.length < 64) then some (D.int (PyProof.Rows.firstMet (fun i => ns.getD i 0) ns.length).length) else none | none => none) = _
  rw [dInts_map]
@[simp] theorem runBl_lset_intsT {ns : List Int} : runBl .lset [.tup (ns.map .int)] = if decide (ns.length < 64) then some (.int (PyProof.Rows.firstMet (fun i => ns.getD i 0) ns.length).length) else none := by
  show (match dInts (ns.map .int) with | some ns => if decide (ns.length < 64) then some (D.int (PyProof.Rows.firstMet (fun i => ns.getD i 0) ns.length).length) else none | none => none) = _
  rw [dInts_map]
@[simp] theorem runBl_max_ints {ns : List Int} : runBl .max [.lst o (ns.map .int)] = if ns.isEmpty then none else some (.int (maxI ns)) := by
  show (match dInts (ns.map .int) with | some ns => if ns.isEmpty then none else some (D.int (maxI ns)) | none => none) = _
  rw [dInts_map]
@[simp] theorem runBl_min_ints {ns : List Int} : runBl .min [.lst o (ns.map .int)] = if ns.isEmpty then none else some (.int (minI ns)) := by
  simp only [runBl, dInts_map]
end
section
variable (G : Tab) (call : Calls)
/-- a walk's turn -/
def forW (tg : Tg) (b : S) : D → Ev → Out := fun x δ2 => match bindT δ2 tg x with | some δ3 => run G call b δ3 | none => .stuck
/-- a comprehension's turn -/
def lcW (tg : Tg) (cond elt : E) : D → Ev → R (Option D) := fun x δ2 => match bindT (wipeE δ2 tg.own) tg x with
  | none => .stuck
  | some δ3 => R.noerr <| (evc G call cond δ3).bind fun c δ4 => if c then (ev G call .esc elt δ4).bind fun y δ5 => match y with
      | .tmp d => .ok (some d.fz) (wipeE δ5 tg.own)
      | .ref _ => .stuck
    else .ok none (wipeE δ4 tg.own)
@[simp] theorem forW_nm {i : Nat} {b : S} {x : D} {δ : Ev} : forW G call (.nm i) b x δ = run G call b (δ.set i (some x)) := rfl
@[simp] theorem forW_tn {i : Nat} {js : List Nat} {b : S} {d : D} {ds : List D} {δ : Ev} : forW G call (.tn i js) b (.tup [d, .tup ds]) δ = wO (if js.length = ds.length then some ((js.zip ds).foldl (fun δ p => δ.set p.1 (some p.2)) (δ.set i (some d))) else none) fun δ3 => run G call b δ3 := by
  show (match (if js.length = ds.length then some ((js.zip ds).foldl (fun δ p => δ.set p.1 (some p.2)) (δ.set i (some d))) else none) with | some δ3 => run G call b δ3 | none => .stuck) = _
  split <;> rename_i h <;> rw [h] <;> rfl
@[simp] theorem Tg.own_tn {i : Nat} {js : List Nat} : Tg.own (.tn i js) = i :: js := rfl
@[simp] theorem forW_tp {is : List Nat} {b : S} {ds : List D} {δ : Ev} : forW G call (.tp is) b (.tup ds) δ = wO (if is.length = ds.length then some ((is.zip ds).foldl (fun δ p => δ.set p.1 (some p.2)) δ) else none) fun δ3 => run G call b δ3 := by
  show (match (if is.length = ds.length then some ((is.zip ds).foldl (fun δ p => δ.set p.1 (some p.2)) δ) else none) with | some δ3 => run G call b δ3 | none => .stuck) = _
  split <;> rename_i h <;> rw [h] <;> rfl
theorem lcW_eq {tg : Tg} {cond elt : E} {x : D} {δ : Ev} : lcW G call tg cond elt x δ = wR (bindT (wipeE δ tg.own) tg x) fun δ3 => R.noerr <| (evc G call cond δ3).bnd fun c δ4 => wif c ((ev G call .esc elt δ4).bnd fun y δ5 => wTR y fun d => .ok (some d.fz) (wipeE δ5 tg.own)) (.ok none (wipeE δ4 tg.own)) := by
  unfold lcW
  cases bindT (wipeE δ tg.own) tg x with
  | none => rfl
  | some δ3 => rfl
@[simp] theorem bindT_nm {δ : Ev} {i : Nat} {d : D} : bindT δ (.nm i) d = some (δ.set i (some d)) := rfl
@[simp] theorem bindT_tp {δ : Ev} {is : List Nat} {ds : List D} : bindT δ (.tp is) (.tup ds) = if is.length = ds.length then some ((is.zip ds).foldl (fun δ p => δ.set p.1 (some p.2)) δ) else none := rfl
@[simp] theorem Tg.own_nm {i : Nat} : Tg.own (.nm i) = [i] := rfl
@[simp] theorem Tg.own_tp {is : List Nat} : Tg.own (.tp is) = is := rfl
@[simp] theorem wipeE_nil {δ : Ev} : wipeE δ [] = δ := rfl
@[simp] theorem wipeE_cons {δ : Ev} {v : Nat} {vs : List Nat} : wipeE δ (v :: vs) = (wipeE δ vs).set v none := rfl
@[simp] theorem backE_nil {δ0 δ : Ev} : backE δ0 δ [] = δ := rfl
@[simp] theorem backE_cons {δ0 δ : Ev} {v : Nat} {vs : List Nat} : backE δ0 δ (v :: vs) = (backE δ0 δ vs).set v (δ0[v]?).join := rfl
variable {G call}
@[simp] theorem ev_opd {i} {δ : Ev} : ev G call .opd (.var i) δ = wR (δ[i]?).join fun _ => .ok (.ref i) δ := by
  rw [ev] <;> cases (δ[i]?).join <;> rfl
@[simp] theorem ev_esc {i} {δ : Ev} : ev G call .esc (.var i) δ = wR (δ[i]?).join fun d => wif d.pure (.ok (.tmp d) δ) (.ok (.tmp d.fz) (δ.set i (some d.fz))) := by
  rw [ev] <;> cases (δ[i]?).join <;> rfl
@[simp] theorem ev_mov {i} {δ : Ev} : ev G call .mov (.var i) δ = wR (δ[i]?).join fun d => wif d.pure (.ok (.tmp d) δ) (.ok (.tmp d) (δ.set i none)) := by
  rw [ev] <;> cases (δ[i]?).join <;> rfl
variable {m : Md} {δ : Ev}
@[simp] theorem ev_lit {c} : ev G call m (.lit c) δ = .ok (.tmp c.d) δ := by
  rw [ev] <;> rfl
@[simp] theorem ev_gl {n} : ev G call m (.gl n) δ = wR G.gls[n]? fun p => .ok (.tmp p.2.d) δ := by
  rw [ev] <;> cases G.gls[n]? <;> rfl
@[simp] theorem ev_op1 {o a} : ev G call m (.op1 o a) δ = (ev G call .opd a δ).bnd fun x δ1 => wR (x.get δ1) fun d => ofO ((run1 o d).map .tmp) δ1 := by
  rw [ev] <;> refine congrArg (R.bind _) ?_ <;> funext x δ1 <;> cases x.get δ1 <;> rfl
@[simp] theorem ev_op2 {o a b} : ev G call m (.op2 o a b) δ = (ev G call .opd a δ).bnd fun x δ1 => (ev G call .opd b δ1).bnd fun y δ2 => wR (x.get δ2) fun d => wR (y.get δ2) fun e => ofO ((run2 o d e).map .tmp) δ2 := by
  rw [ev] <;> refine congrArg (R.bind _) ?_ <;> funext x δ1 <;> refine congrArg (R.bind _) ?_ <;> funext y δ2 <;> cases x.get δ2 <;> cases y.get δ2 <;> rfl
@[simp] theorem ev_bl {o es} : ev G call m (.bl o es) δ = (evs G call .opd es δ).bnd fun xs δ1 => wR (gets δ1 xs) fun ds => ofO ((runBl o ds).map .tmp) δ1 := by
  rw [ev] <;> refine congrArg (R.bind _) ?_ <;> funext x δ1 <;> cases gets δ1 x <;> rfl
@[simp] theorem ev_isi {u1 ts a} : ev G call m (.isi u1 ts a) δ = (ev G call .opd a δ).bnd fun x δ1 => wR (x.get δ1) fun d => .ok (.tmp (.bl (ts.any (isT (tyN d))))) δ1 := by
  rw [ev] <;> refine congrArg (R.bind _) ?_ <;> funext x δ1 <;> cases x.get δ1 <;> rfl
@[simp] theorem ev_and {a b} : ev G call m (.and a b) δ = (ev G call .opd a δ).bnd fun x δ1 => wB (x.get δ1) ((ev G call .opd b δ1).bnd fun y δ2 => wB (y.get δ2) (.ok (.tmp (.bl true)) δ2) (.ok (.tmp (.bl false)) δ2)) (.ok (.tmp (.bl false)) δ1) := by
  rw [ev] <;> refine congrArg (R.bind _) ?_ <;> funext x δ1 <;> rcases x.get δ1 with _ | (_ | (_ | _) | _ | _ | _ | _ | _ | _) <;> try rfl
  show R.bind _ _ = R.bind _ _
  refine congrArg (R.bind _) ?_ <;> funext y δ2 <;> rcases y.get δ2 with _ | (_ | (_ | _) | _ | _ | _ | _ | _ | _) <;> rfl
@[simp] theorem ev_or {a b} : ev G call m (.or a b) δ = (ev G call .opd a δ).bnd fun x δ1 => wB (x.get δ1) (.ok (.tmp (.bl true)) δ1) ((ev G call .opd b δ1).bnd fun y δ2 => wB (y.get δ2) (.ok (.tmp (.bl true)) δ2) (.ok (.tmp (.bl false)) δ2)) := by
  rw [ev] <;> refine congrArg (R.bind _) ?_ <;> funext x δ1 <;> rcases x.get δ1 with _ | (_ | (_ | _) | _ | _ | _ | _ | _ | _) <;> try rfl
  show R.bind _ _ = R.bind _ _
  refine congrArg (R.bind _) ?_ <;> funext y δ2 <;> rcases y.get δ2 with _ | (_ | (_ | _) | _ | _ | _ | _ | _ | _) <;> rfl
@[simp] theorem ev_not {a} : ev G call m (.not a) δ = (ev G call .opd a δ).bnd fun x δ1 => wB (x.get δ1) (.ok (.tmp (.bl false)) δ1) (.ok (.tmp (.bl true)) δ1) := by
  rw [ev] <;> refine congrArg (R.bind _) ?_ <;> funext x δ1 <;> rcases x.get δ1 with _ | (_ | (_ | _) | _ | _ | _ | _ | _ | _) <;> rfl
@[simp] theorem ev_ite {c a b} : ev G call m (.ite c a b) δ = (ev G call .opd c δ).bnd fun x δ1 => wB (x.get δ1) (ev G call m a δ1) (ev G call m b δ1) := by
  rw [ev] <;> refine congrArg (R.bind _) ?_ <;> funext x δ1 <;> rcases x.get δ1 with _ | (_ | (_ | _) | _ | _ | _ | _ | _ | _) <;> rfl
@[simp] theorem ev_chn {o1 o2 a b c} : ev G call m (.chn o1 o2 a b c) δ = (ev G call .opd a δ).bnd fun x δ1 => (ev G call .opd b δ1).bnd fun y δ2 => wR (x.get δ2) fun d => wR (y.get δ2) fun e => wB (run2 o1 d e) ((ev G call .opd c δ2).bnd fun z δ3 => wR (y.get δ3) fun e' => wR (z.get δ3) fun g => ofO ((run2 o2 e' g).map .tmp) δ3) (.ok (.tmp (.bl false)) δ2) := by
  rw [ev] <;> refine congrArg (R.bind _) ?_ <;> funext x δ1 <;> refine congrArg (R.bind _) ?_ <;> funext y δ2 <;> cases x.get δ2 <;> cases y.get δ2 <;> try rfl
  rename_i d e
  show (match run2 o1 d e with | some (.bl true) => _ | some (.bl false) => _ | _ => _) = wB (run2 o1 d e) _ _
  rcases run2 o1 d e with _ | (_ | (_ | _) | _ | _ | _ | _ | _ | _) <;> try rfl
  show R.bind _ _ = R.bind _ _
  refine congrArg (R.bind _) ?_ <;> funext z δ3 <;> cases y.get δ3 <;> cases z.get δ3 <;> rfl
@[simp] theorem kMd_e : kMd .e = .opd := rfl
@[simp] theorem kMd_rng : kMd .rng = .opd := rfl
@[simp] theorem kMd_enm : kMd .enm = .esc := rfl
@[simp] theorem kMd_zp : kMd .zp = .esc := rfl
def tm : Md → Md
  | .mov => .mov
  | _ => .esc
@[simp] theorem tm_opd : tm .opd = .esc := rfl
@[simp] theorem tm_esc : tm .esc = .esc := rfl
@[simp] theorem tm_mov : tm .mov = .mov := rfl
@[simp] theorem ev_tup {es} : ev G call m (.tup es) δ = (evs G call (tm m) es δ).bnd fun xs δ1 => wR (tmps xs) fun ds => wif (decide (ds.length ≤ big)) (.ok (.tmp (.tup ds)) δ1) .stuck := by
  cases m <;> rw [ev] <;> try simp
  all_goals
    show R.bind _ _ = R.bind _ _
    refine congrArg (R.bind _) ?_ <;> funext x δ1 <;> cases tmps x <;> try rfl
    rename_i ds
    by_cases h : ds.length ≤ 1000000 <;> simp [h]
@[simp] theorem ev_lst {es} : ev G call m (.lst es) δ = (evs G call (tm m) es δ).bnd fun xs δ1 => wR (tmps xs) fun ds => wif (decide (ds.length ≤ big)) (.ok (.tmp (.lst true (D.fzs ds))) δ1) .stuck := by
  cases m <;> rw [ev] <;> try simp
  all_goals
    show R.bind _ _ = R.bind _ _
    refine congrArg (R.bind _) ?_ <;> funext x δ1 <;> cases tmps x <;> try rfl
    rename_i ds
    by_cases h : ds.length ≤ 1000000 <;> simp [h]
@[simp] theorem ev_dct0 : ev G call m .dct0 δ = .ok (.tmp (.dct true [] [])) δ := by
  rw [ev] <;> rfl
/-- a dict of one pair -/
def dct1D : List D → Option D
  | [d, e] => match d.key with
    | some k => some (.dct true [k] [e.fz])
    | none => none
  | _ => none
@[simp] theorem dct1D_int {i : Int} {e : D} : dct1D [.int i, e] = some (.dct true [.inl i] [e.fz]) := rfl
@[simp] theorem ev_dct1 {es} : ev G call m (.dct1 es) δ = (evs G call .esc es δ).bnd fun xs δ1 => wR (tmps xs) fun ds => wR (dct1D ds) fun d => .ok (.tmp d) δ1 := by
  rw [ev] <;> refine congrArg (R.bind _) ?_ <;> funext xs δ1
  rcases tmps xs with _ | (_ | ⟨d, _ | ⟨e, _ | ⟨g, r⟩⟩⟩) <;> try rfl
  show (match d.key with | some k => _ | none => _) = wR (match d.key with | some k => _ | none => _) _
  cases d.key <;> rfl
/-- what a dict tells of a key -/
def getD0 (l : D) (as : List D) : Option D := match l, as with
  | .dct _ ks vs, [d, e] => match d.key with
    | some k => match atKD k ks vs with
      | some v => if v.pure then some v else none
      | none => if e.pure then some e else none
    | none => none
  | _, _ => none
def isDc : D → Option Unit
  | .dct _ _ _ => some ()
  | _ => none
@[simp] theorem isDc_dct {o ks vs} : isDc (.dct o ks vs) = some () := rfl
theorem getD0_int {o ks vs} {i : Int} {e : D} : getD0 (.dct o ks vs) [.int i, e] = match atKD (.inl i) ks vs with
      | some v => if v.pure then some v else none
      | none => if e.pure then some e else none := rfl
@[simp] theorem ev_dget {i es} : ev G call m (.dget i es) δ = wR (((δ[i]?).join).bind isDc) fun _ => (evs G call .opd es δ).bnd fun xs δ1 => wR ((δ1[i]?).join) fun l => wR (gets δ1 xs) fun as => wR (getD0 l as) fun d => .ok (.tmp d) δ1 := by
  rw [ev]
  rcases (δ[i]?).join with _ | (_ | (_ | _) | _ | _ | _ | _ | _ | _) <;> try rfl
  show R.bind _ _ = R.bind _ _
  congr
  funext xs δ1
  rcases (δ1[i]?).join with _ | (_ | (_ | _) | _ | _ | _ | _ | ⟨o, ks, vs⟩ | _) <;> rcases gets δ1 xs with _ | (_ | ⟨d, _ | ⟨e, _ | ⟨g, r⟩⟩⟩) <;> try rfl
  show (match d.key with | some k => _ | none => _) = wR (match d.key with | some k => _ | none => _) _
  cases d.key with
  | none => rfl
  | some k =>
    show (match atKD k ks vs with | some k => _ | none => _) = wR (match atKD k ks vs with | some k => _ | none => _) _
    cases atKD k ks vs with
    | none => by_cases h : e.pure = true <;> simp [h]
    | some v => by_cases h : v.pure = true <;> simp [h]
@[simp] theorem ev_slc {a lo hi} : ev G call m (.slc a lo hi) δ = (ev G call .opd a δ).bnd fun x δ1 => (evo G call lo δ1).bnd fun l δ2 => (evo G call hi δ2).bnd fun h δ3 => wR (x.get δ3) fun d => ofO ((runSl d l h).map .tmp) δ3 := by
  rw [ev] <;> refine congrArg (R.bind _) ?_ <;> funext x δ1 <;> refine congrArg (R.bind _) ?_ <;> funext y δ2 <;> refine congrArg (R.bind _) ?_ <;> funext z δ3 <;> cases x.get δ3 <;> rfl
def revD : D → Option D
  | .lst _ xs => if D.pures xs then some (.lst true xs.reverse) else none
  | .tup xs => if D.pures xs then some (.tup xs.reverse) else none
  | _ => none
@[simp] theorem revD_tup {xs} : revD (.tup xs) = if D.pures xs then some (.tup xs.reverse) else none := rfl
@[simp] theorem revD_lst {o xs} : revD (.lst o xs) = if D.pures xs then some (.lst true xs.reverse) else none := rfl
@[simp] theorem ev_rev {a} : ev G call m (.rev a) δ = (ev G call .opd a δ).bnd fun x δ1 => wR (x.get δ1) fun d => ofO ((revD d).map .tmp) δ1 := by
  rw [ev] <;> refine congrArg (R.bind _) ?_ <;> funext x δ1 <;> rcases x.get δ1 with _ | (_ | (_ | _) | _ | _ | _ | _ | _ | _) <;> try rfl
  · rename_i xs
    by_cases h : D.pures xs = true <;> simp [h]
  · rename_i o xs
    by_cases h : D.pures xs = true <;> simp [h]
@[simp] theorem ev_call {f es} : ev G call m (.call f es) δ = (evs G call .opd es δ).bnd fun xs δ1 => wR G.fns[f]? fun fn => doCall fn.io (call f) xs δ1 := by
  rw [ev] <;> refine congrArg (R.bind _) ?_ <;> funext x δ1 <;> cases G.fns[f]? <;> rfl
@[simp] theorem ev_callK {f ks es kws} : ev G call m (.callK f ks es kws) δ = (evs G call .opd es δ).bnd fun xs δ1 => (evs G call .opd kws δ1).bnd fun zs δ2 => wR G.fns[f]? fun fn => if ks.Nodup then wR (pickAt (xs ++ zs) ks) fun ys => doCall fn.io (call f) ys δ2 else .stuck := by
  rw [ev] <;> refine congrArg (R.bind _) ?_ <;> funext x δ1 <;> refine congrArg (R.bind _) ?_ <;> funext y δ2 <;> cases G.fns[f]? <;> try rfl
  by_cases h : ks.Nodup <;> simp [h]
  cases pickAt (x ++ y) ks <;> rfl
/-- what a pop tells, and what it leaves -/
def popD (ds : List D) : List D → Option (D × List D)
  | [] => match ds.getLast? with
    | some d => if d.pure then some (d, ds.dropLast) else none
    | none => none
  | [.int k] => match ixN ds.length k with
    | some j => match ds[j]? with
      | some d => if d.pure && decide (ds.length ≤ big) then some (d, ds.eraseIdx j) else none
      | none => none
    | none => none
  | _ => none
def isL : D → Option Unit
  | .lst _ _ => some ()
  | _ => none
def isOwn : D → Option (List D)
  | .lst true ds => some ds
  | _ => none
@[simp] theorem isL_lst {o ds} : isL (.lst o ds) = some () := rfl
@[simp] theorem isOwn_lst {ds} : isOwn (.lst true ds) = some ds := rfl
@[simp] theorem ev_pop {i es} : ev G call m (.pop i es) δ = wR (((δ[i]?).join).bind isL) fun _ => (evs G call .opd es δ).bnd fun xs δ1 => wR (((δ1[i]?).join).bind isOwn) fun ds => wR (gets δ1 xs) fun as => wR (popD ds as) fun p => .ok (.tmp p.1) (δ1.set i (some (.lst true p.2))) := by
  rw [ev]
  rcases (δ[i]?).join with _ | (_ | (_ | _) | _ | _ | _ | _ | _ | _) <;> try rfl
  show R.bind _ _ = R.bind _ _
  congr
  funext xs δ1
  rcases (δ1[i]?).join with _ | (_ | (_ | _) | _ | _ | _ | ⟨_ | _, ds⟩ | _ | _) <;> try rfl
  show (match gets δ1 xs with | some [] => _ | some [.int k] => _ | _ => _) = wR (gets δ1 xs) _
  rcases gets δ1 xs with _ | (_ | ⟨a, _ | ⟨b, r⟩⟩) <;> try rfl
  · show (match ds.getLast? with | some d => _ | none => _) = wR (match ds.getLast? with | some d => _ | none => _) _
    cases ds.getLast? with
    | none => rfl
    | some d => by_cases h : d.pure = true <;> simp [h]
  · cases a <;> try rfl
    rename_i k
    show (match ixN ds.length k with | some j => _ | none => _) = wR (match ixN ds.length k with | some j => _ | none => _) _
    cases ixN ds.length k with
    | none => rfl
    | some j =>
      show (match ds[j]? with | some d => _ | none => _) = wR (match ds[j]? with | some d => _ | none => _) _
      cases ds[j]? with
      | none => rfl
      | some d =>
        show (if (d.pure && decide (ds.length ≤ big)) = true then _ else _) = wR (if (d.pure && decide (ds.length ≤ big)) = true then _ else _) _
        by_cases h : (d.pure && decide (ds.length ≤ big)) = true
        · rw [if_pos h, if_pos h]; rfl
        · rw [if_neg h, if_neg h]; rfl
  · cases a <;> rfl
def lcS (f : D → Ev → R (Option D)) (s : Src) (own : List Nat) (δ1 : Ev) : R (List D) := match s with
  | .fix xs => loopC f xs [] (wipeE δ1 own)
  | .live i => if own.contains i then .stuck else loopCL f i fuel 0 [] (wipeE δ1 own)
@[simp] theorem lcS_fix {f xs own} {δ1 : Ev} : lcS f (.fix xs) own δ1 = loopC f xs [] (wipeE δ1 own) := rfl
@[simp] theorem lcS_live {f i own} {δ1 : Ev} : lcS f (.live i) own δ1 = if own.contains i then .stuck else loopCL f i fuel 0 [] (wipeE δ1 own) := rfl
@[simp] theorem ev_lcE {tg k it cond elt} : ev G call m (.lc tg k it cond elt) δ = (evs G call (kMd k) it δ).bnd fun os δ1 => wR (src δ1 k os) fun s => (lcS (lcW G call tg cond elt) s tg.own δ1).bnd fun ds δ6 => .ok (.tmp (.lst true ds)) (backE δ1 δ6 tg.own) := by
  rw [ev]
  congr
  funext os δ1
  cases src δ1 k os with
  | none => rfl
  | some s => cases s <;> rfl
@[simp] theorem ev_tru {a} : ev G call m (.tru a) δ = (ev G call .opd a δ).bnd fun x δ1 => wR (x.get δ1) fun d => ofO ((truD d).map fun b => .tmp (.bl b)) δ1 := by
  rw [ev] <;> refine congrArg (R.bind _) ?_ <;> funext x δ1 <;> cases x.get δ1 <;> rfl
@[simp] theorem ev_frz {a} : ev G call m (.frz a) δ = (ev G call .esc a δ).bnd fun x δ1 => wTR x fun d => .ok (.tmp d.fz) δ1 := by
  rw [ev] <;> refine congrArg (R.bind _) ?_ <;> funext x δ1 <;> cases x <;> rfl
@[simp] theorem evs_nil : evs G call m .nil δ = .ok [] δ := by
  rw [evs] <;> rfl
@[simp] theorem evs_cons {e es} : evs G call m (.cons e es) δ = (ev G call m e δ).bnd fun x δ1 => (evs G call m es δ1).bnd fun xs δ2 => .ok (x :: xs) δ2 := by
  rw [evs] <;> rfl
@[simp] theorem evo_nil : evo G call .nil δ = .ok none δ := by
  rw [evo] <;> rfl
@[simp] theorem evo_cons1 {e} : evo G call (.cons e .nil) δ = (ev G call .opd e δ).bnd fun x δ1 => wR (x.get δ1) fun d => wI d fun i => .ok (some i) δ1 := by
  rw [evo] <;> refine congrArg (R.bind _) ?_ <;> funext x δ1 <;> rcases x.get δ1 with _ | (_ | (_ | _) | _ | _ | _ | _ | _ | _) <;> rfl
@[simp] theorem evc_n : evc G call .nil δ = .ok true δ := by
  rw [evc] <;> rfl
@[simp] theorem evc_cons1 {e} : evc G call (.cons e .nil) δ = (ev G call .opd e δ).bnd fun x δ1 => wB (x.get δ1) (.ok true δ1) (.ok false δ1) := by
  rw [evc] <;> refine congrArg (R.bind _) ?_ <;> funext x δ1 <;> rcases x.get δ1 with _ | (_ | (_ | _) | _ | _ | _ | _ | _ | _) <;> rfl
@[simp] theorem evB_eq {e} : evB G call e δ = (ev G call .opd e δ).bnd fun x δ1 => wB (x.get δ1) (.ok true δ1) (.ok false δ1) := by
  unfold evB
  congr
  funext x δ1
  rcases x.get δ1 with _ | (_ | (_ | _) | _ | _ | _ | _ | _ | _) <;> rfl
@[simp] theorem run_nop : run G call .nop δ = .nx δ := by
  rw [run] <;> rfl
@[simp] theorem run_seq {a b} : run G call (.seq a b) δ = (run G call a δ).sq (run G call b) := by
  rw [run] <;> rfl
@[simp] theorem run_set {i e} : run G call (.set i e) δ = (ev G call .esc e δ).outp fun x δ1 => wT x fun d => .nx (δ1.set i (some d)) := by
  rw [run] <;> refine congrArg (R.out _) ?_ <;> funext x δ1 <;> cases x <;> rfl
@[simp] theorem run_unp {ts e} : run G call (.unp ts e) δ = (ev G call .esc e δ).outp fun x δ1 => wT x fun d => wU d fun ds => wif (decide (ds.length = ts.len)) ((stores G call ts ds δ1).outp fun _ δ2 => .nx δ2) .stuck := by
  rw [run] <;> refine congrArg (R.out _) ?_ <;> funext x δ1 <;> cases x <;> try rfl
  rename_i d
  cases d <;> try rfl
  rename_i ds
  by_cases h : ds.length = ts.len <;> simp [h] <;> rfl
@[simp] theorem run_sti {i k e} : run G call (.sti i k e) δ = (ev G call .esc e δ).outp fun x δ1 => wT x fun d => (store1 G call (.op2 .idx (.var i) k) d δ1).outp fun _ δ2 => .nx δ2 := by
  rw [run] <;> refine congrArg (R.out _) ?_ <;> funext x δ1 <;> cases x <;> rfl
@[simp] theorem run_exp {e} : run G call (.exp e) δ = (ev G call .opd e δ).outp fun _ δ1 => .nx δ1 := by
  rw [run] <;> rfl
@[simp] theorem run_app {i e} : run G call (.app i e) δ = wO (((δ[i]?).join).bind isL) fun _ => (ev G call .esc e δ).outp fun x δ1 => wT x fun d => wO (((δ1[i]?).join).bind isOwn) fun xs => wif (decide (xs.length < big)) (.nx (δ1.set i (some (.lst true (xs ++ [d.fz]))))) .stuck := by
  rw [run]
  rcases (δ[i]?).join with _ | (_ | (_ | _) | _ | _ | _ | _ | _ | _) <;> try rfl
  show R.out _ _ = R.out _ _
  congr
  funext x δ1
  cases x <;> try rfl
  rcases (δ1[i]?).join with _ | (_ | (_ | _) | _ | _ | _ | ⟨_ | _, ds⟩ | _ | _) <;> try rfl
  by_cases h : ds.length < 1000000 <;> simp [h]
def seqD : D → Option (List D)
  | .lst _ xs => some xs
  | .tup xs => some xs
  | _ => none
@[simp] theorem seqD_lst {o xs} : seqD (.lst o xs) = some xs := rfl
@[simp] theorem seqD_tup {xs} : seqD (.tup xs) = some xs := rfl
@[simp] theorem run_ext {i e} : run G call (.ext i e) δ = wO (((δ[i]?).join).bind isL) fun _ => (ev G call .opd e δ).outp fun x δ1 => wO (x.get δ1) fun d => wO (seqD d) fun ys => wO (((δ1[i]?).join).bind isOwn) fun xs => wif (D.pures ys && decide (xs.length + ys.length ≤ big)) (.nx (δ1.set i (some (.lst true (xs ++ ys))))) .stuck := by
  rw [run]
  rcases (δ[i]?).join with _ | (_ | (_ | _) | _ | _ | _ | _ | _ | _) <;> try rfl
  show R.out _ _ = R.out _ _
  congr
  funext x δ1
  rcases x.get δ1 with _ | (_ | (_ | _) | _ | _ | ys | ⟨o, ys⟩ | _ | _) <;> try rfl
  · rcases (δ1[i]?).join with _ | (_ | (_ | _) | _ | _ | _ | ⟨_ | _, ds⟩ | _ | _) <;> try rfl
  · rcases (δ1[i]?).join with _ | (_ | (_ | _) | _ | _ | _ | ⟨_ | _, ds⟩ | _ | _) <;> try rfl
def updD (i j : Nat) (d e : D) : Option D := match d, e with
  | .dct true ks vs, .dct true ks2 vs2 => if decide (i ≠ j) && D.pures vs && D.pures vs2 && decide (ks.length + ks2.length ≤ big) then some (.dct true (mrgKD ks vs ks2 vs2).1 (mrgKD ks vs ks2 vs2).2) else none
  | _, _ => none
@[simp] theorem updD_dct {i j ks vs ks2 vs2} : updD i j (.dct true ks vs) (.dct true ks2 vs2) = if decide (i ≠ j) && D.pures vs && D.pures vs2 && decide (ks.length + ks2.length ≤ big) then some (.dct true (mrgKD ks vs ks2 vs2).1 (mrgKD ks vs ks2 vs2).2) else none := rfl
@[simp] theorem run_dupd {i j} : run G call (.dupd i j) δ = wO (δ[i]?).join fun d => wO (δ[j]?).join fun e => wO (updD i j d e) fun r => .nx (δ.set i (some r)) := by
  rw [run]
  rcases (δ[i]?).join with _ | (_ | (_ | _) | _ | _ | _ | _ | ⟨_ | _, ks, vs⟩ | _) <;> rcases (δ[j]?).join with _ | (_ | (_ | _) | _ | _ | _ | _ | ⟨_ | _, ks2, vs2⟩ | _) <;> try rfl
  by_cases h : (decide (i ≠ j) && D.pures vs && D.pures vs2 && decide (ks.length + ks2.length ≤ big)) = true
  · simp only [h, if_true, wO_some, updD_dct]
  · simp only [h, wO_some, updD_dct]; rfl
@[simp] theorem run_iff {c a b} : run G call (.iff c a b) δ = (evB G call c δ).outp fun k δ1 => wif k (run G call a δ1) (run G call b δ1) := by
  rw [run] <;> rfl
@[simp] theorem run_whl {c b} : run G call (.whl c b) δ = whileN (evB G call c) (run G call b) fuel δ := by
  rw [run] <;> rfl
def forS (G : Tab) (call : Calls) (s : Src) (tg : Tg) (k : ItK) (it : E) (b : S) (δ1 : Ev) : Out := match s with
  | .fix xs => loopF (forW G call tg b) xs δ1
  | .live i => if i ∈ lockOf k it then loopFL (forW G call tg b) i fuel 0 δ1 else .stuck
@[simp] theorem forS_fix {xs tg k it b} {δ1 : Ev} : forS G call (.fix xs) tg k it b δ1 = loopF (forW G call tg b) xs δ1 := rfl
@[simp] theorem forS_live {i tg k it b} {δ1 : Ev} : forS G call (.live i) tg k it b δ1 = if i ∈ lockOf k it then loopFL (forW G call tg b) i fuel 0 δ1 else .stuck := rfl
@[simp] theorem run_for_ {tg k it b} : run G call (.for_ tg k it b) δ = (evs G call (kMd k) it δ).outp fun os δ1 => wO (src δ1 k os) fun s => forS G call s tg k it b δ1 := by
  rw [run]
  congr
  funext os δ1
  rcases src δ1 k os with _ | (_ | _) <;> rfl
@[simp] theorem run_brk : run G call .brk δ = .brk δ := by
  rw [run] <;> rfl
def wD (o : Option D) (f : List Key → List D → Out) (h : Hold f := ⟨⟩) : Out := match o with
  | some (.dct _ ks vs) => f ks vs
  | _ => .stuck
@[simp] theorem wD_dct {o ks vs} {f : List Key → List D → Out} {h} : wD (some (.dct o ks vs)) f h = f ks vs := rfl
@[simp] theorem Out.noerr_nx {δ : Ev} : (Out.nx δ).noerr = .nx δ := rfl
@[simp] theorem run_forD {tg i b} : run G call (.forD tg i b) δ = wD (δ[i]?).join fun ks vs => wif (D.pures vs) (loopF (forW G call tg b) (itemsD ks vs) (δ.set i (some (.dct false ks vs)))).noerr .stuck := by
  rw [run]
  rcases (δ[i]?).join with _ | (_ | (_ | _) | _ | _ | _ | _ | ⟨_ | _, ks, vs⟩ | _) <;> try rfl
@[simp] theorem run_cont : run G call .cont δ = .ct δ := by
  rw [run] <;> rfl
@[simp] theorem run_ret {e} : run G call (.ret e) δ = (ev G call .mov e δ).outp fun x δ1 => wT x fun d => .ret d δ1 := by
  rw [run] <;> refine congrArg (R.out _) ?_ <;> funext x δ1 <;> cases x <;> rfl
@[simp] theorem run_rais {c es} : run G call (.rais c es) δ = (evs G call .esc es δ).outp fun xs δ1 => wO (tmps xs) fun ds => wif (D.pures ds && decide (ds.length ≤ 10)) (.err c ds δ1) .stuck := by
  rw [run] <;> refine congrArg (R.out _) ?_ <;> funext x δ1 <;> cases tmps x <;> rfl
@[simp] theorem run_tryy {b hs} : run G call (.tryy b hs) δ = hdl (run G call b δ) fun c g δ1 => handle G c g δ1 hs := by
  rw [run] <;> cases run G call b δ <;> rfl
@[simp] theorem store1_var {i} {d : D} : store1 G call (.var i) d δ = .ok () (δ.set i (some d)) := rfl
/-- what a store leaves -/
def stoK (k : Key) (ks : List Key) (vs : List D) (d : D) : Option D :=
  if D.pures vs && d.pure && decide (ks.length < big) && decide (ks.length = vs.length) then some (.dct true (putKD k d ks vs).1 (putKD k d ks vs).2) else none
def stoD (x : D) (l : D) (d : D) : Option D := match x, l with
  | .int z, .lst true xs => match ixN xs.length z with
    | some j => if D.pures xs && d.pure then some (.lst true (xs.set j d)) else none
    | none => none
  | .int z, .dct true ks vs => stoK (.inl z) ks vs d
  | .str z, .dct true ks vs => stoK (.inr z) ks vs d
  | _, _ => none
@[simp] theorem stoD_eq {z : Int} {xs : List D} {d : D} : stoD (.int z) (.lst true xs) d = (ixN xs.length z).bind fun j => if D.pures xs && d.pure then some (.lst true (xs.set j d)) else none := by
  show (match ixN xs.length z with | some j => _ | none => _) = _
  cases ixN xs.length z <;> rfl
@[simp] theorem stoD_dct {z : Int} {ks : List Key} {vs : List D} {d : D} : stoD (.int z) (.dct true ks vs) d = stoK (.inl z) ks vs d := rfl
theorem stoK_eq {k : Key} {ks : List Key} {vs : List D} {d : D} : stoK k ks vs d = if D.pures vs && d.pure && decide (ks.length < big) && decide (ks.length = vs.length) then some (.dct true (putKD k d ks vs).1 (putKD k d ks vs).2) else none := rfl
@[simp] theorem store1_idx {i k} {d : D} : store1 G call (.op2 .idx (.var i) k) d δ = wif ((δ[i]?).join).isSome ((ev G call .opd k δ).bnd fun x δ1 => wR (x.get δ1) fun z => wR ((δ1[i]?).join) fun l => wR (stoD z l d) fun l' => .ok () (δ1.set i (some l'))) .stuck := by
  show (if ((δ[i]?).join).isSome = true then _ else _) = _
  by_cases h : ((δ[i]?).join).isSome = true
  rotate_left
  · rw [if_neg h]; simp only [Bool.not_eq_true] at h; rw [h]; rfl
  rw [if_pos h, h, wif_t]
  congr
  funext x δ1
  rcases x.get δ1 with _ | (_ | (_ | _) | z | _ | _ | _ | _ | _) <;> rcases (δ1[i]?).join with _ | (_ | (_ | _) | _ | _ | _ | ⟨_ | _, ds⟩ | ⟨_ | _, ks, vs⟩ | _) <;> try rfl
  · show (match ixN ds.length z with | some j => _ | none => _) = wR (match ixN ds.length z with | some j => _ | none => _) _
    cases ixN ds.length z with
    | none => rfl
    | some j => by_cases h : (D.pures ds && d.pure) = true <;> simp [h]
  · show (if _ then _ else _) = wR (stoK (.inl z) ks vs d) _
    rw [stoK_eq]
    split <;> rfl
  · rename_i z
    show (if _ then _ else _) = wR (stoK (.inr z) ks vs d) _
    rw [stoK_eq]
    split <;> rfl
@[simp] theorem stores_nil : stores G call .nil [] δ = .ok () δ := by
  rw [stores] <;> rfl
@[simp] theorem stores_cons {t ts d ds} : stores G call (.cons t ts) (d :: ds) δ = (store1 G call t d δ).bnd fun _ δ1 => stores G call ts ds δ1 := by
  rw [stores] <;> rfl
@[simp] theorem E.len_cons {a b} : E.len (.cons a b) = E.len b + 1 := rfl
@[simp] theorem E.len_nil : E.len .nil = 0 := rfl
/-! calls -/
@[simp] theorem giveOs_t {bs d os n} : giveOs (true :: bs) (.tmp d :: os) n = (.ref n :: (giveOs bs os (n + 1)).1, d :: (giveOs bs os (n + 1)).2) := rfl
@[simp] theorem giveOs_r {bs i os n} : giveOs (true :: bs) (.ref i :: os) n = (.ref i :: (giveOs bs os n).1, (giveOs bs os n).2) := rfl
@[simp] theorem giveOs_f {bs o os n} : giveOs (false :: bs) (o :: os) n = (o :: (giveOs bs os n).1, (giveOs bs os n).2) := rfl
@[simp] theorem giveOs_n {n} : giveOs [] [] n = ([], []) := rfl
@[simp] theorem ioRefs_r {bs i os} : ioRefs (true :: bs) (.ref i :: os) = (ioRefs bs os).map (i :: ·) := rfl
@[simp] theorem ioRefs_f {bs o os} : ioRefs (false :: bs) (o :: os) = ioRefs bs os := rfl
@[simp] theorem ioRefs_n : ioRefs [] [] = some [] := rfl
@[simp] theorem argDs_t {δ1 δ2 : Ev} {bs o os} : argDs δ1 δ2 (true :: bs) (o :: os) = (o.get δ1).bind fun d => (argDs δ1 δ2 bs os).map (d :: ·) := by
  show (match o.get δ1, argDs δ1 δ2 bs os with | some d, some ds => some (d :: ds) | _, _ => none) = _
  cases o.get δ1 <;> cases argDs δ1 δ2 bs os <;> rfl
@[simp] theorem argDs_f {δ1 δ2 : Ev} {bs o os} : argDs δ1 δ2 (false :: bs) (o :: os) = (o.get δ2).bind fun d => (argDs δ1 δ2 bs os).map (d.fz :: ·) := by
  show (match (o.get δ2).map D.fz, argDs δ1 δ2 bs os with | some d, some ds => some (d :: ds) | _, _ => none) = _
  cases o.get δ2 <;> cases argDs δ1 δ2 bs os <;> rfl
@[simp] theorem argDs_n {δ1 δ2 : Ev} : argDs δ1 δ2 [] [] = some [] := rfl
def fzI (o : Option D) (i : Nat) (δ : Ev) : Ev := match o with
  | some d => wif d.pure δ (δ.set i (some d.fz))
  | none => δ
@[simp] theorem fzI_some {d : D} {i : Nat} : fzI (some d) i δ = wif d.pure δ (δ.set i (some d.fz)) := rfl
@[simp] theorem fzI_none {i : Nat} : fzI none i δ = δ := rfl
@[simp] theorem fzSlots_r {i os} : fzSlots δ (.ref i :: os) = fzSlots (fzI (δ[i]?).join i δ) os := by
  show (match (δ[i]?).join with | some d => _ | none => _) = _
  cases (δ[i]?).join <;> rfl
@[simp] theorem fzSlots_t {d os} : fzSlots δ (.tmp d :: os) = fzSlots δ os := rfl
@[simp] theorem fzSlots_n : fzSlots δ [] = δ := rfl
@[simp] theorem setAll_c {i is d ds} : setAll δ (i :: is) (d :: ds) = setAll (δ.set i d) is ds := rfl
@[simp] theorem setAll_n : setAll δ [] [] = δ := rfl
@[simp] theorem ownO_some {d} : ownO (some d) = d.own := rfl
@[simp] theorem ownO_none : ownO none = true := rfl
/-- both ways are looked at -/
def wif2 {β : Type} (b : Bool) (x y : β) : β := if b then x else y
@[simp] theorem wif2_t {β : Type} {x y : β} : wif2 true x y = x := rfl
@[simp] theorem wif2_f {β : Type} {x y : β} : wif2 false x y = y := rfl
@[simp] theorem wif2_same {β : Type} {b : Bool} {x : β} : wif2 b x x = x := by cases b <;> rfl
/-- what comes of a call -/
def backC (r : CR) (rs : List Nat) (os : List Opd) (δ1 : Ev) : R Opd := match r with
  | .stuck => .stuck
  | .err c g => .err c g (fzSlots (wipeE δ1 rs) os)
  | .ok d ios => wif (decide (ios.length = rs.length)) (.ok (.tmp d) (setAll (wif2 (d.own && ios.all ownO) (wipeE δ1 rs) (fzSlots (wipeE δ1 rs) os)) rs ios)) .stuck
@[simp] theorem backC_err {c g rs os} : backC (.err c g) rs os δ = .err c g (fzSlots (wipeE δ rs) os) := rfl
@[simp] theorem backC_ok {d ios rs os} : backC (.ok d ios) rs os δ = wif (decide (ios.length = rs.length)) (.ok (.tmp d) (setAll (wif2 (d.own && ios.all ownO) (wipeE δ rs) (fzSlots (wipeE δ rs) os)) rs ios)) .stuck := rfl
@[simp] theorem doCall0_eq {io c os} : doCall0 io c os δ = wR (ioRefs io os) fun rs => wif (decide rs.Nodup) (wR (argDs δ (wipeE δ rs) io os) fun ds => backC (c ds) rs os δ) .stuck := by
  unfold doCall0
  cases ioRefs io os with
  | none => rfl
  | some rs =>
    by_cases h : rs.Nodup
    · simp only [h, if_true, wR_some, wif, decide_true]
      cases argDs δ (wipeE δ rs) io os with
      | none => rfl
      | some ds =>
        simp only [wR_some]
        cases c ds with
        | stuck => rfl
        | err c g => rfl
        | ok d ios => by_cases h : ios.length = rs.length <;> simp [h, wif, wif2]
    · simp [h, wif]
def giveC (ds : List D) (x y : R Opd) (h : Hold (x, y) := ⟨⟩) : R Opd := match ds with
  | [] => x
  | _ :: _ => y
@[simp] theorem giveC_nil {x y : R Opd} {h} : giveC [] x y h = x := rfl
@[simp] theorem giveC_cons {d ds} {x y : R Opd} {h} : giveC (d :: ds) x y h = y := rfl
@[simp] theorem doCall_eq {io c os} : doCall io c os δ = giveC (giveOs io os δ.length).2 (doCall0 io c os δ) (truncR δ.length (doCall0 io c (giveOs io os δ.length).1 (δ ++ (giveOs io os δ.length).2.map some))) := by
  unfold doCall
  cases h : (giveOs io os δ.length).2 <;> simp
@[simp] theorem truncR_ok {n x} : truncR n (.ok x δ) = .ok x (δ.take n) := rfl
@[simp] theorem truncR_err {n c g} : truncR n (.err c g δ) = .err c g (δ.take n) := rfl
/-! the end of a body -/
def finB (io : List Bool) (o : Out) : CR := match o with
  | .ret d δ => .ok d (iosOf δ io 0)
  | .nx δ => .ok .non (iosOf δ io 0)
  | .err c g _ => .err c g
  | _ => .stuck
@[simp] theorem finB_ret {io d} : finB io (.ret d δ) = .ok d (iosOf δ io 0) := rfl
@[simp] theorem finB_nx {io} : finB io (.nx δ) = .ok .non (iosOf δ io 0) := rfl
@[simp] theorem finB_err {io c g} : finB io (.err c g δ) = .err c g := rfl
theorem runBody_eq {fn : Fn} {ds : List D} : runBody G call fn ds = wif (decide (ds.length = fn.ps.length)) (finB fn.io (run G call fn.body (ds.map some ++ List.replicate (fn.N.length - ds.length) none))) .stuck := by
  unfold runBody
  by_cases h : ds.length = fn.ps.length <;> simp only [h, if_true, if_false, decide_true, decide_false, wif_t, wif_f]
  · cases run G call fn.body (ds.map some ++ List.replicate (fn.N.length - fn.ps.length) none) <;> rfl
@[simp] theorem iosOf_n {i} : iosOf δ [] i = [] := rfl
@[simp] theorem iosOf_t {bs i} : iosOf δ (true :: bs) i = (δ[i]?).join :: iosOf δ bs (i + 1) := rfl
@[simp] theorem iosOf_f {bs i} : iosOf δ (false :: bs) i = iosOf δ bs (i + 1) := rfl
end
/-! what a walk goes through -/
section
variable {δ : Ev}
def srcE (o : Option D) (i : Nat) : Option Src := match o with
  | some (.lst true _) => some (.live i)
  | some (.lst false xs) => some (.fix xs)
  | some (.tup xs) => if D.pures xs then some (.fix xs) else none
  | _ => none
@[simp] theorem src_ref {i} : src δ .e [.ref i] = srcE (δ[i]?).join i := by
  show (match (δ[i]?).join with | some (.lst true _) => _ | some (.lst false xs) => _ | some (.tup xs) => _ | _ => _) = _
  rcases (δ[i]?).join with _ | (_ | (_ | _) | _ | _ | _ | ⟨_ | _, ds⟩ | _ | _) <;> rfl
@[simp] theorem srcE_t {xs i} : srcE (some (.lst true xs)) i = some (.live i) := rfl
@[simp] theorem srcE_f {xs i} : srcE (some (.lst false xs)) i = some (.fix xs) := rfl
@[simp] theorem srcE_u {xs i} : srcE (some (.tup xs)) i = if D.pures xs then some (.fix xs) else none := rfl
@[simp] theorem src_tmpl {o xs} : src δ .e [.tmp (.lst o xs)] = some (.fix (D.fzs xs)) := rfl
@[simp] theorem src_tmpt {xs} : src δ .e [.tmp (.tup xs)] = some (.fix (D.fzs xs)) := rfl
@[simp] theorem src_enmT {xs} : src δ .enm [.tmp (.tup xs)] = some (.fix (enumD 0 (D.fzs xs))) := rfl
@[simp] theorem src_enm {o xs} : src δ .enm [.tmp (.lst o xs)] = some (.fix (enumD 0 (D.fzs xs))) := rfl
@[simp] theorem src_zp {o xs o' ys} : src δ .zp [.tmp (.lst o xs), .tmp (.lst o' ys)] = some (.fix (zipD (D.fzs xs) (D.fzs ys))) := rfl
def srcR : List D → Option Src
  | [.int b] => if decide (b ≤ 100000) && decide (-100000 ≤ b) then some (.fix (rngD 0 b)) else none
  | [.int a, .int b] => if decide (b ≤ 100000) && decide (-100000 ≤ b) && decide (a ≤ 100000) && decide (-100000 ≤ a) then some (.fix (rngD a b)) else none
  | [.int a, .int b, .int c] => if decide (b ≤ 100000) && decide (-100000 ≤ b) && decide (a ≤ 100000) && decide (-100000 ≤ a) then
        (if c = -1 then some (.fix ((List.range (a - b).toNat).map fun (k : Nat) => D.int (a - k)))
         else if decide (1 ≤ c) && decide (c ≤ 1000) then some (.fix ((List.range (stepN a b c)).map fun (k : Nat) => D.int (a + k * c))) else none)
      else none
  | _ => none
@[simp] theorem src_rngE {os} : src δ .rng os = (gets δ os).bind srcR := by
  cases os with
  | nil => simp [src, srcR]
  | cons o os =>
    simp only [src]
    rcases gets δ (o :: os) with _ | (_ | ⟨a, _ | ⟨b, _ | ⟨c, r⟩⟩⟩) <;> try rfl
    · cases a <;> rfl
    · cases a <;> cases b <;> rfl
    · cases r <;> cases a <;> cases b <;> cases c <;> rfl
@[simp] theorem srcR1 {b : Int} : srcR [.int b] = if decide (b ≤ 100000) && decide (-100000 ≤ b) then some (.fix (rngD 0 b)) else none := rfl
@[simp] theorem srcR2 {a b : Int} : srcR [.int a, .int b] = if decide (b ≤ 100000) && decide (-100000 ≤ b) && decide (a ≤ 100000) && decide (-100000 ≤ a) then some (.fix (rngD a b)) else none := rfl
@[simp] theorem srcR3 {a b c : Int} : srcR [.int a, .int b, .int c] = if decide (b ≤ 100000) && decide (-100000 ≤ b) && decide (a ≤ 100000) && decide (-100000 ≤ a) then
        (if c = -1 then some (.fix ((List.range (a - b).toNat).map fun (k : Nat) => D.int (a - k)))
         else if decide (1 ≤ c) && decide (c ≤ 1000) then some (.fix ((List.range (stepN a b c)).map fun (k : Nat) => D.int (a + k * c))) else none)
      else none := rfl
end
section
variable {δ : Ev}
@[simp] theorem run2_add1 {i j} : run2 .add (.int i) (.int j) = some (.int (i + j)) := rfl
@[simp] theorem run2_add2 {u1 xs u2 ys} : run2 .add (.lst u1 xs) (.lst u2 ys) = if D.pures xs && D.pures ys && decide (xs.length + ys.length ≤ big) then some (.lst true (xs ++ ys)) else none := rfl
@[simp] theorem run2_add3 {xs ys} : run2 .add (.tup xs) (.tup ys) = if D.pures xs && D.pures ys && decide (xs.length + ys.length ≤ big) then some (.tup (xs ++ ys)) else none := rfl
@[simp] theorem run2_sub1 {i j} : run2 .sub (.int i) (.int j) = some (.int (i - j)) := rfl
@[simp] theorem run2_mul1 {i j} : run2 .mul (.int i) (.int j) = if (decide (-(2 ^ 64) < i) && decide (i < 2 ^ 64)) || (decide (-(2 ^ 64) < j) && decide (j < 2 ^ 64)) then some (.int (i * j)) else none := rfl
@[simp] theorem run2_mul2 {u1 xs k} : run2 .mul (.lst u1 xs) (.int k) = if D.pures xs && decide (0 ≤ k) && decide (k ≤ 1000) && decide (xs.length ≤ 1000) then some (.lst true (List.replicate k.toNat xs).flatten) else none := rfl
@[simp] theorem run2_mul3 {xs k} : run2 .mul (.tup xs) (.int k) = if D.pures xs && decide (xs ≠ []) && decide (0 ≤ k) && decide (k ≤ 1000) && decide (xs.length ≤ 1000) then some (.tup (List.replicate k.toNat xs).flatten) else none := rfl
@[simp] theorem run2_fdv1 {i j} : run2 .fdv (.int i) (.int j) = if decide (0 < j) && decide (j < 1073741824) then some (.int (i / j)) else none := rfl
@[simp] theorem run2_mod1 {i j} : run2 .mod (.int i) (.int j) = if decide (0 < j) then some (.int (i % j)) else none := rfl
@[simp] theorem run2_pow1 {i j} : run2 .pow (.int i) (.int j) = if decide (0 ≤ j) && decide (j ≤ 1000) && decide (i.natAbs < 2 ^ 64) then some (.int (i ^ j.toNat)) else none := rfl
@[simp] theorem run2_band1 {i j} : run2 .band (.int i) (.int j) = some (.int (Builtin.bitAnd i j)) := rfl
@[simp] theorem run2_eq1 {a b} : run2 .eq a b = (dEq a b).map .bl := rfl
@[simp] theorem run2_ne1 {a b} : run2 .ne a b = (dEq a b).map fun k => .bl (!k) := rfl
@[simp] theorem run2_lt1 {i j} : run2 .lt (.int i) (.int j) = some (.bl (decide (i < j))) := rfl
@[simp] theorem run2_le1 {i j} : run2 .le (.int i) (.int j) = some (.bl (decide (i ≤ j))) := rfl
@[simp] theorem run2_gt1 {i j} : run2 .gt (.int i) (.int j) = some (.bl (decide (j < i))) := rfl
@[simp] theorem run2_ge1 {i j} : run2 .ge (.int i) (.int j) = some (.bl (decide (j ≤ i))) := rfl
@[simp] theorem run2_is_1 {a b} : run2 .is_ (.bl a) (.bl b) = some (.bl (decide (a = b))) := rfl
@[simp] theorem run2_is_2  : run2 .is_ .non .non = some (.bl true) := rfl
@[simp] theorem run2_is_3 {u1} : run2 .is_ (.bl u1) .non = some (.bl false) := rfl
@[simp] theorem run2_is_4 {u1} : run2 .is_ (.int u1) .non = some (.bl false) := rfl
@[simp] theorem run2_is_5 {u1} : run2 .is_ (.str u1) .non = some (.bl false) := rfl
@[simp] theorem run2_is_6 {u1} : run2 .is_ (.tup u1) .non = some (.bl false) := rfl
@[simp] theorem run2_is_7 {u1 u2} : run2 .is_ (.lst u1 u2) .non = some (.bl false) := rfl
@[simp] theorem run2_is_8 {u1 u2 u3} : run2 .is_ (.dct u1 u2 u3) .non = some (.bl false) := rfl
@[simp] theorem run2_is_9 {u1} : run2 .is_ (.scr u1) .non = some (.bl false) := rfl
@[simp] theorem run2_isN1 {a b} : run2 .isN (.bl a) (.bl b) = some (.bl (!decide (a = b))) := rfl
@[simp] theorem run2_isN2  : run2 .isN .non .non = some (.bl false) := rfl
@[simp] theorem run2_isN3 {u1} : run2 .isN (.bl u1) .non = some (.bl true) := rfl
@[simp] theorem run2_isN4 {u1} : run2 .isN (.int u1) .non = some (.bl true) := rfl
@[simp] theorem run2_isN5 {u1} : run2 .isN (.str u1) .non = some (.bl true) := rfl
@[simp] theorem run2_isN6 {u1} : run2 .isN (.tup u1) .non = some (.bl true) := rfl
@[simp] theorem run2_isN7 {u1 u2} : run2 .isN (.lst u1 u2) .non = some (.bl true) := rfl
@[simp] theorem run2_isN8 {u1 u2 u3} : run2 .isN (.dct u1 u2 u3) .non = some (.bl true) := rfl
@[simp] theorem run2_isN9 {u1} : run2 .isN (.scr u1) .non = some (.bl true) := rfl
theorem run2_in_1 {x u1 ys} : run2 .in_ x (.lst u1 ys) = if isFlat x && ys.all isFlat then some (.bl (ys.any fun y => eqFlat y x)) else none := rfl
theorem run2_in_2 {x ys} : run2 .in_ x (.tup ys) = if isFlat x && ys.all isFlat then some (.bl (ys.any fun y => eqFlat y x)) else none := rfl
theorem run2_nin1 {x u1 ys} : run2 .nin x (.lst u1 ys) = if isFlat x && ys.all isFlat then some (.bl (!ys.any fun y => eqFlat y x)) else none := rfl
theorem run2_nin2 {x ys} : run2 .nin x (.tup ys) = if isFlat x && ys.all isFlat then some (.bl (!ys.any fun y => eqFlat y x)) else none := rfl
@[simp] theorem run2_idx1 {u1 xs i} : run2 .idx (.lst u1 xs) (.int i) = (atI xs i).bind fun d => if d.pure then some d else none := by
  show (match atI xs i with | some d => _ | none => _) = _
  cases atI xs i <;> rfl
@[simp] theorem run2_idx2 {ns i} : run2 .idx (.scr ns) (.int i) = (atI ns i).map .int := rfl
@[simp] theorem run2_idx3 {xs i} : run2 .idx (.tup xs) (.int i) = (atI xs i).bind fun d => if d.pure then some d else none := by
  show (match atI xs i with | some d => _ | none => _) = _
  cases atI xs i <;> rfl
@[simp] theorem run2_idx4 {z i} : run2 .idx (.str z) (.int i) = if decide (z.length ≤ big) then (atI z.cps.toList i).map fun c => .str ⟨#[c]⟩ else none := rfl
@[simp] theorem run1_neg {i} : run1 .neg (.int i) = some (.int (-i)) := rfl
@[simp] theorem runSl_lst {u xs lo hi} : runSl (.lst u xs) lo hi = if D.pures xs then some (.lst true (cutD xs lo hi)) else none := rfl
@[simp] theorem runSl_tup {xs lo hi} : runSl (.tup xs) lo hi = if D.pures xs then some (.tup (cutD xs lo hi)) else none := rfl
@[simp] theorem runSl_scr {ns lo hi} : runSl (.scr ns) lo hi = some (.lst true ((cutD ns lo hi).map .int)) := rfl
@[simp] theorem runSl_str {z lo hi} : runSl (.str z) lo hi = if decide (z.length ≤ big) then some (.str ⟨(cutD z.cps.toList lo hi).toArray⟩) else none := rfl
@[simp] theorem Lit.d_non  : Lit.d .non = .non := rfl
@[simp] theorem D.pure_non  : D.pure .non = true := rfl
@[simp] theorem D.fz_non  : D.fz .non = .non := rfl
@[simp] theorem D.own_non  : D.own .non = true := rfl
@[simp] theorem Lit.d_bl {b} : Lit.d (.bl b) = .bl b := rfl
@[simp] theorem D.pure_bl {b} : D.pure (.bl b) = true := rfl
@[simp] theorem D.fz_bl {b} : D.fz (.bl b) = .bl b := rfl
@[simp] theorem D.own_bl {b} : D.own (.bl b) = true := rfl
@[simp] theorem Lit.d_int {i} : Lit.d (.int i) = .int i := rfl
@[simp] theorem D.pure_int {i} : D.pure (.int i) = true := rfl
@[simp] theorem D.fz_int {i} : D.fz (.int i) = .int i := rfl
@[simp] theorem D.own_int {i} : D.own (.int i) = true := rfl
@[simp] theorem Lit.d_str {x} : Lit.d (.str x) = .str x := rfl
@[simp] theorem D.pure_str {x} : D.pure (.str x) = true := rfl
@[simp] theorem D.fz_str {x} : D.fz (.str x) = .str x := rfl
@[simp] theorem D.own_str {x} : D.own (.str x) = true := rfl
@[simp] theorem isD0_non  : isD0 .non = false := rfl
@[simp] theorem tyN_non  : tyN .non = "NoneType" := rfl
@[simp] theorem isFlat_non  : isFlat .non = true := rfl
@[simp] theorem isD0_bl {b} : isD0 (.bl b) = false := rfl
@[simp] theorem tyN_bl {b} : tyN (.bl b) = "bool" := rfl
@[simp] theorem isFlat_bl {b} : isFlat (.bl b) = true := rfl
@[simp] theorem isD0_int {i} : isD0 (.int i) = false := rfl
@[simp] theorem tyN_int {i} : tyN (.int i) = "int" := rfl
@[simp] theorem isFlat_int {i} : isFlat (.int i) = true := rfl
@[simp] theorem isD0_str {x} : isD0 (.str x) = false := rfl
@[simp] theorem tyN_str {x} : tyN (.str x) = "str" := rfl
@[simp] theorem isFlat_str {x} : isFlat (.str x) = true := rfl
@[simp] theorem isD0_tup {xs} : isD0 (.tup xs) = false := rfl
@[simp] theorem tyN_tup {xs} : tyN (.tup xs) = "tuple" := rfl
@[simp] theorem isFlat_tup {xs} : isFlat (.tup xs) = false := rfl
@[simp] theorem isD0_lst {o xs} : isD0 (.lst o xs) = false := rfl
@[simp] theorem tyN_lst {o xs} : tyN (.lst o xs) = "list" := rfl
@[simp] theorem isFlat_lst {o xs} : isFlat (.lst o xs) = false := rfl
@[simp] theorem isD0_scr {ns} : isD0 (.scr ns) = false := rfl
@[simp] theorem tyN_scr {ns} : tyN (.scr ns) = "list" := rfl
@[simp] theorem isFlat_scr {ns} : isFlat (.scr ns) = false := rfl
@[simp] theorem isD0_dct0 {o vs} : isD0 (.dct o [] vs) = true := rfl
@[simp] theorem tyN_dct {o ks vs} : tyN (.dct o ks vs) = "dict" := rfl
@[simp] theorem truD_non  : truD .non = some false := rfl
@[simp] theorem truD_bl {b} : truD (.bl b) = some b := rfl
@[simp] theorem truD_int {i} : truD (.int i) = some (i != 0) := rfl
@[simp] theorem truD_tup {xs} : truD (.tup xs) = some (!xs.isEmpty) := rfl
@[simp] theorem truD_lst {o xs} : truD (.lst o xs) = some (!xs.isEmpty) := rfl
@[simp] theorem isT_NoneType_bool : isT "NoneType" "bool" = false := by decide
@[simp] theorem isT_NoneType_int : isT "NoneType" "int" = false := by decide
@[simp] theorem isT_NoneType_str : isT "NoneType" "str" = false := by decide
@[simp] theorem isT_NoneType_tuple : isT "NoneType" "tuple" = false := by decide
@[simp] theorem isT_NoneType_list : isT "NoneType" "list" = false := by decide
@[simp] theorem isT_NoneType_dict : isT "NoneType" "dict" = false := by decide
@[simp] theorem isT_bool_bool : isT "bool" "bool" = true := by decide
@[simp] theorem isT_bool_int : isT "bool" "int" = true := by decide
@[simp] theorem isT_bool_str : isT "bool" "str" = false := by decide
@[simp] theorem isT_bool_tuple : isT "bool" "tuple" = false := by decide
@[simp] theorem isT_bool_list : isT "bool" "list" = false := by decide
@[simp] theorem isT_bool_dict : isT "bool" "dict" = false := by decide
@[simp] theorem isT_int_bool : isT "int" "bool" = false := by decide
@[simp] theorem isT_int_int : isT "int" "int" = true := by decide
@[simp] theorem isT_int_str : isT "int" "str" = false := by decide
@[simp] theorem isT_int_tuple : isT "int" "tuple" = false := by decide
@[simp] theorem isT_int_list : isT "int" "list" = false := by decide
@[simp] theorem isT_int_dict : isT "int" "dict" = false := by decide
@[simp] theorem isT_str_bool : isT "str" "bool" = false := by decide
@[simp] theorem isT_str_int : isT "str" "int" = false := by decide
@[simp] theorem isT_str_str : isT "str" "str" = true := by decide
@[simp] theorem isT_str_tuple : isT "str" "tuple" = false := by decide
@[simp] theorem isT_str_list : isT "str" "list" = false := by decide
@[simp] theorem isT_str_dict : isT "str" "dict" = false := by decide
@[simp] theorem isT_tuple_bool : isT "tuple" "bool" = false := by decide
@[simp] theorem isT_tuple_int : isT "tuple" "int" = false := by decide
@[simp] theorem isT_tuple_str : isT "tuple" "str" = false := by decide
@[simp] theorem isT_tuple_tuple : isT "tuple" "tuple" = true := by decide
@[simp] theorem isT_tuple_list : isT "tuple" "list" = false := by decide
@[simp] theorem isT_tuple_dict : isT "tuple" "dict" = false := by decide
@[simp] theorem isT_list_bool : isT "list" "bool" = false := by decide
@[simp] theorem isT_list_int : isT "list" "int" = false := by decide
@[simp] theorem isT_list_str : isT "list" "str" = false := by decide
@[simp] theorem isT_list_tuple : isT "list" "tuple" = false := by decide
@[simp] theorem isT_list_list : isT "list" "list" = true := by decide
@[simp] theorem isT_list_dict : isT "list" "dict" = false := by decide
@[simp] theorem isT_dict_bool : isT "dict" "bool" = false := by decide
@[simp] theorem isT_dict_int : isT "dict" "int" = false := by decide
@[simp] theorem isT_dict_str : isT "dict" "str" = false := by decide
@[simp] theorem isT_dict_tuple : isT "dict" "tuple" = false := by decide
@[simp] theorem isT_dict_list : isT "dict" "list" = false := by decide
@[simp] theorem isT_dict_dict : isT "dict" "dict" = true := by decide
@[simp] theorem D.pure_tup {xs} : D.pure (.tup xs) = D.pures xs := by rw [D.pure]
@[simp] theorem D.pure_lst {o xs} : D.pure (.lst o xs) = (!o && D.pures xs) := by rw [D.pure]
@[simp] theorem D.pure_dct {o ks xs} : D.pure (.dct o ks xs) = (!o && D.pures xs) := by rw [D.pure]
@[simp] theorem D.pure_scr {ns} : D.pure (.scr ns) = true := by rw [D.pure]
@[simp] theorem D.pures_nil : D.pures [] = true := by rw [D.pures]
@[simp] theorem D.pures_cons {x xs} : D.pures (x :: xs) = (x.pure && D.pures xs) := by rw [D.pures]
@[simp] theorem D.own_tup {xs} : D.own (.tup xs) = D.owns xs := by rw [D.own]
@[simp] theorem D.own_lst {o xs} : D.own (.lst o xs) = (o && D.owns xs) := by rw [D.own]
@[simp] theorem D.own_dct {o ks xs} : D.own (.dct o ks xs) = (o && D.owns xs) := by rw [D.own]
@[simp] theorem D.own_scr {ns} : D.own (.scr ns) = false := by rw [D.own]
@[simp] theorem D.owns_nil : D.owns [] = true := by rw [D.owns]
@[simp] theorem D.owns_cons {x xs} : D.owns (x :: xs) = (x.own && D.owns xs) := by rw [D.owns]
@[simp] theorem D.fz_tup {xs} : D.fz (.tup xs) = .tup (D.fzs xs) := by rw [D.fz]
@[simp] theorem D.fz_lst {o xs} : D.fz (.lst o xs) = .lst false (D.fzs xs) := by rw [D.fz]
@[simp] theorem D.fz_dct {o ks xs} : D.fz (.dct o ks xs) = .dct false ks (D.fzs xs) := by rw [D.fz]
@[simp] theorem D.fz_scr {ns} : D.fz (.scr ns) = .scr ns := by rw [D.fz]
@[simp] theorem D.fzs_nil : D.fzs [] = [] := by rw [D.fzs]
@[simp] theorem D.fzs_cons {x xs} : D.fzs (x :: xs) = x.fz :: D.fzs xs := by rw [D.fzs]
theorem D.pures_all : ∀ xs : List D, (∀ x ∈ xs, x.pure = true) → D.pures xs = true
  | [], _ => rfl
  | x :: xs, h => by rw [D.pures, h x (by simp), D.pures_all xs (fun y hy => h y (by simp [hy]))]; rfl
theorem D.owns_all : ∀ xs : List D, (∀ x ∈ xs, x.own = true) → D.owns xs = true
  | [], _ => rfl
  | x :: xs, h => by rw [D.owns, h x (by simp), D.owns_all xs (fun y hy => h y (by simp [hy]))]; rfl
@[simp] theorem D.pures_ints {ns : List Int} : D.pures (ns.map .int) = true := D.pures_all _ (by simp)
@[simp] theorem D.owns_ints {ns : List Int} : D.owns (ns.map .int) = true := D.owns_all _ (by simp)
@[simp] theorem D.fzs_ints {ns : List Int} : D.fzs (ns.map .int) = ns.map .int := D.fzs_of_pure _ D.pures_ints
@[simp] theorem D.pures_app {xs ys : List D} : D.pures (xs ++ ys) = (D.pures xs && D.pures ys) := by
  induction xs with
  | nil => simp
  | cons x xs ih => simp [ih, Bool.and_assoc]
@[simp] theorem D.fzs_app {xs ys : List D} : D.fzs (xs ++ ys) = D.fzs xs ++ D.fzs ys := by
  induction xs with
  | nil => simp
  | cons x xs ih => simp [ih]
@[simp] theorem D.owns_app {xs ys : List D} : D.owns (xs ++ ys) = (D.owns xs && D.owns ys) := by
  induction xs with
  | nil => simp
  | cons x xs ih => simp [ih, Bool.and_assoc]
@[simp] theorem D.fzs_length {xs : List D} : (D.fzs xs).length = xs.length := by
  induction xs with
  | nil => simp
  | cons x xs ih => simp [ih]
@[simp] theorem D.pures_comp {α : Type} {xs : List α} {f : α → Int} : D.pures (xs.map (D.int ∘ f)) = true := D.pures_all _ (by simp)
@[simp] theorem D.owns_comp {α : Type} {xs : List α} {f : α → Int} : D.owns (xs.map (D.int ∘ f)) = true := D.owns_all _ (by simp)
@[simp] theorem D.fzs_comp {α : Type} {xs : List α} {f : α → Int} : D.fzs (xs.map (D.int ∘ f)) = xs.map (D.int ∘ f) := D.fzs_of_pure _ D.pures_comp
theorem rngD_ints {a b : Int} : rngD a b = ((List.range (b - a).toNat).map fun (k : Nat) => a + (k : Int)).map D.int := by unfold rngD; simp
@[simp] theorem D.pures_rng {a b : Int} : D.pures (rngD a b) = true := by rw [rngD_ints]; exact D.pures_ints
@[simp] theorem D.owns_rng {a b : Int} : D.owns (rngD a b) = true := by rw [rngD_ints]; exact D.owns_ints
@[simp] theorem D.fzs_rng {a b : Int} : D.fzs (rngD a b) = rngD a b := D.fzs_of_pure _ D.pures_rng
end
end IR
namespace IR
open PySem PySem.Spec L2
/-! ### more fuel: what is told stays told -/
/-- b tells what a tells -/
def R.le {α : Type} (a b : R α) : Prop := a = .stuck ∨ a = b
def CR.le (a b : CR) : Prop := a = .stuck ∨ a = b
def Out.le (a b : Out) : Prop := a = .stuck ∨ a = b
theorem R.le_refl {α : Type} (a : R α) : R.le a a := .inr rfl
theorem Out.le_refl (a : Out) : Out.le a a := .inr rfl
theorem R.le_bind {α β : Type} {a b : R α} {f g : α → Ev → R β} (h : R.le a b) (k : ∀ x δ, R.le (f x δ) (g x δ)) : R.le (a.bind f) (b.bind g) := by
  rcases h with rfl | rfl
  · exact .inl rfl
  · cases a with
    | ok x δ => exact k x δ
    | err c g δ => exact .inr rfl
    | stuck => exact .inl rfl
theorem R.le_out {α : Type} {a b : R α} {f g : α → Ev → Out} (h : R.le a b) (k : ∀ x δ, Out.le (f x δ) (g x δ)) : Out.le (a.out f) (b.out g) := by
  rcases h with rfl | rfl
  · exact .inl rfl
  · cases a with
    | ok x δ => exact k x δ
    | err c g δ => exact .inr rfl
    | stuck => exact .inl rfl
theorem R.le_noerr {α : Type} {a b : R α} (h : R.le a b) : R.le a.noerr b.noerr := by
  rcases h with rfl | rfl
  · exact .inl rfl
  · exact .inr rfl
theorem Out.le_seq {a b : Out} {f g : Ev → Out} (h : Out.le a b) (k : ∀ δ, Out.le (f δ) (g δ)) : Out.le (a.seq f) (b.seq g) := by
  rcases h with rfl | rfl
  · exact .inl rfl
  · cases a with
    | nx δ => exact k δ
    | _ => exact .inr rfl
variable {G : Tab} {c1 c2 : Calls} (hc : ∀ k ds, CR.le (c1 k ds) (c2 k ds))
theorem doCall0_le {f g : List D → CR} (h : ∀ ds, CR.le (f ds) (g ds)) (io : List Bool) (os : List Opd) (δ : Ev) : R.le (doCall0 io f os δ) (doCall0 io g os δ) := by
  unfold doCall0
  split
  · exact .inl rfl
  · split
    · split
      · exact .inl rfl
      · rename_i ds _
        rcases h ds with e | e
        · rw [e]; exact .inl rfl
        · rw [e]; exact .inr rfl
    · exact .inl rfl
theorem truncR_le {n : Nat} {a b : R Opd} (h : R.le a b) : R.le (truncR n a) (truncR n b) := by
  rcases h with rfl | rfl
  · exact .inl rfl
  · exact .inr rfl
theorem doCall_le {f g : List D → CR} (h : ∀ ds, CR.le (f ds) (g ds)) (io : List Bool) (os : List Opd) (δ : Ev) : R.le (doCall io f os δ) (doCall io g os δ) := by
  unfold doCall
  split
  · exact doCall0_le h io os δ
  · exact truncR_le (doCall0_le h _ _ _)
theorem loopC_le {f g : D → Ev → R (Option D)} (h : ∀ x δ, R.le (f x δ) (g x δ)) : ∀ (xs : List D) (acc : List D) (δ : Ev), R.le (loopC f xs acc δ) (loopC g xs acc δ)
  | [], acc, δ => .inr rfl
  | x :: xs, acc, δ => by
    unfold loopC
    refine R.le_bind (h x δ) fun o δ' => ?_
    split
    · exact loopC_le h xs _ _
    · exact .inl rfl
theorem loopA_le {f g : D → List D → Ev → R (List D)} (h : ∀ x acc δ, R.le (f x acc δ) (g x acc δ)) : ∀ (xs : List D) (acc : List D) (δ : Ev), R.le (loopA f xs acc δ) (loopA g xs acc δ)
  | [], acc, δ => R.le_refl _
  | x :: xs, acc, δ => by
    unfold loopA
    exact R.le_bind (h x acc δ) fun acc' δ' => loopA_le h xs acc' δ'
theorem loopCL_le {f g : D → Ev → R (Option D)} (h : ∀ x δ, R.le (f x δ) (g x δ)) (i : Nat) : ∀ (n k : Nat) (acc : List D) (δ : Ev), R.le (loopCL f i n k acc δ) (loopCL g i n k acc δ)
  | 0, k, acc, δ => .inl rfl
  | n + 1, k, acc, δ => by
    unfold loopCL
    split
    · exact .inl rfl
    · exact .inr rfl
    · refine R.le_bind (h _ δ) fun o δ' => ?_
      split
      · exact loopCL_le h i n _ _ _
      · exact .inl rfl
/-- the four readings of a term -/
structure EvLe (G : Tab) (c1 c2 : Calls) (t : E) : Prop where
  e : ∀ m δ, R.le (ev G c1 m t δ) (ev G c2 m t δ)
  s : ∀ m δ, R.le (evs G c1 m t δ) (evs G c2 m t δ)
  o : ∀ δ, R.le (evo G c1 t δ) (evo G c2 t δ)
  c : ∀ δ, R.le (evc G c1 t δ) (evc G c2 t δ)
theorem EvLe.of {e : E} (h : ∀ m δ, R.le (ev G c1 m e δ) (ev G c2 m e δ)) (h2 : ∀ m δ, evs G c1 m e δ = .stuck) (h3 : ∀ δ, evo G c1 e δ = .stuck) (h4 : ∀ δ, evc G c1 e δ = .stuck) : EvLe G c1 c2 e :=
  ⟨h, fun m δ => .inl (h2 m δ), fun δ => .inl (h3 δ), fun δ => .inl (h4 δ)⟩
include hc in
theorem ev_le (e : E) : EvLe G c1 c2 e := by
  have st : ∀ {α : Type} {a : R α}, R.le a a := fun {α a} => R.le_refl a
  induction e with
  | nil => exact ⟨fun m δ => by simp only [ev]; exact st, fun m δ => by simp only [evs]; exact st, fun δ => by simp only [evo]; exact st, fun δ => by simp only [evc]; exact st⟩
  | cons a es iha ihs =>
    refine ⟨fun m δ => by simp only [ev]; exact st, fun m δ => ?_, fun δ => ?_, fun δ => ?_⟩
    · simp only [evs]
      exact R.le_bind (iha.e m δ) fun x δ1 => R.le_bind (ihs.s m δ1) fun xs δ2 => st
    · cases es with
      | nil => simp only [evo]; exact R.le_bind (iha.e .opd δ) fun x δ1 => st
      | _ => exact .inl (by simp only [evo])
    · cases es with
      | nil => simp only [evc]; exact R.le_bind (iha.e .opd δ) fun x δ1 => st
      | _ => exact .inl (by simp only [evc])
  | var i => exact .of (fun m δ => by simp only [ev]; exact st) (by intros; simp only [evs]) (by intros; simp only [evo]) (by intros; simp only [evc])
  | lit c => exact .of (fun m δ => by simp only [ev]; exact st) (by intros; simp only [evs]) (by intros; simp only [evo]) (by intros; simp only [evc])
  | gl n => exact .of (fun m δ => by simp only [ev]; exact st) (by intros; simp only [evs]) (by intros; simp only [evo]) (by intros; simp only [evc])
  | op1 o a iha => exact .of (fun m δ => by simp only [ev]; exact R.le_bind (iha.e _ _) fun x δ1 => st) (by intros; simp only [evs]) (by intros; simp only [evo]) (by intros; simp only [evc])
  | op2 o a b iha ihb => exact .of (fun m δ => by simp only [ev]; exact R.le_bind (iha.e _ _) fun x δ1 => R.le_bind (ihb.e _ _) fun y δ2 => st) (by intros; simp only [evs]) (by intros; simp only [evo]) (by intros; simp only [evc])
  | bl o es ih => exact .of (fun m δ => by simp only [ev]; exact R.le_bind (ih.s _ _) fun x δ1 => st) (by intros; simp only [evs]) (by intros; simp only [evo]) (by intros; simp only [evc])
  | isi o ts a iha => exact .of (fun m δ => by simp only [ev]; exact R.le_bind (iha.e _ _) fun x δ1 => st) (by intros; simp only [evs]) (by intros; simp only [evo]) (by intros; simp only [evc])
  | and a b iha ihb =>
    refine .of (fun m δ => ?_) (by intros; simp only [evs]) (by intros; simp only [evo]) (by intros; simp only [evc])
    simp only [ev]
    refine R.le_bind (iha.e _ _) fun x δ1 => ?_
    split
    · exact R.le_bind (ihb.e _ _) fun y δ2 => st
    · exact st
    · exact st
  | or a b iha ihb =>
    refine .of (fun m δ => ?_) (by intros; simp only [evs]) (by intros; simp only [evo]) (by intros; simp only [evc])
    simp only [ev]
    refine R.le_bind (iha.e _ _) fun x δ1 => ?_
    split
    · exact R.le_bind (ihb.e _ _) fun y δ2 => st
    · exact st
    · exact st
  | not a iha => exact .of (fun m δ => by simp only [ev]; exact R.le_bind (iha.e _ _) fun x δ1 => st) (by intros; simp only [evs]) (by intros; simp only [evo]) (by intros; simp only [evc])
  | ite c a b ihc iha ihb =>
    refine .of (fun m δ => ?_) (by intros; simp only [evs]) (by intros; simp only [evo]) (by intros; simp only [evc])
    simp only [ev]
    refine R.le_bind (ihc.e _ _) fun x δ1 => ?_
    split
    · exact iha.e _ _
    · exact ihb.e _ _
    · exact st
  | chn o1 o2 a b c iha ihb ihc =>
    refine .of (fun m δ => ?_) (by intros; simp only [evs]) (by intros; simp only [evo]) (by intros; simp only [evc])
    simp only [ev]
    refine R.le_bind (iha.e _ _) fun x δ1 => R.le_bind (ihb.e _ _) fun y δ2 => ?_
    split
    · split
      · exact R.le_bind (ihc.e _ _) fun z δ3 => st
      · exact st
      · exact st
    · exact st
  | tup es ih => exact .of (fun m δ => by simp only [ev]; exact R.le_bind (ih.s _ _) fun x δ1 => st) (by intros; simp only [evs]) (by intros; simp only [evo]) (by intros; simp only [evc])
  | lst es ih => exact .of (fun m δ => by simp only [ev]; exact R.le_bind (ih.s _ _) fun x δ1 => st) (by intros; simp only [evs]) (by intros; simp only [evo]) (by intros; simp only [evc])
  | dct0 => exact .of (fun m δ => by simp only [ev]; exact st) (by intros; simp only [evs]) (by intros; simp only [evo]) (by intros; simp only [evc])
  | dct1 es ih => exact .of (fun m δ => by simp only [ev]; exact R.le_bind (ih.s _ _) fun x δ1 => st) (by intros; simp only [evs]) (by intros; simp only [evo]) (by intros; simp only [evc])
  | dget i es ih =>
    refine .of (fun m δ => ?_) (by intros; simp only [evs]) (by intros; simp only [evo]) (by intros; simp only [evc])
    simp only [ev]
    split
    · exact R.le_bind (ih.s _ _) fun x δ1 => st
    · exact st
  | slc a lo hi iha ihl ihh => exact .of (fun m δ => by simp only [ev]; exact R.le_bind (iha.e _ _) fun x δ1 => R.le_bind (ihl.o _) fun y δ2 => R.le_bind (ihh.o _) fun z δ3 => st) (by intros; simp only [evs]) (by intros; simp only [evo]) (by intros; simp only [evc])
  | rev a iha => exact .of (fun m δ => by simp only [ev]; exact R.le_bind (iha.e _ _) fun x δ1 => st) (by intros; simp only [evs]) (by intros; simp only [evo]) (by intros; simp only [evc])
  | call f es ih =>
    refine .of (fun m δ => ?_) (by intros; simp only [evs]) (by intros; simp only [evo]) (by intros; simp only [evc])
    simp only [ev]
    refine R.le_bind (ih.s _ _) fun xs δ1 => ?_
    split
    · exact doCall_le (hc f) _ _ _
    · exact st
  | callK f ks es kws ih ihk =>
    refine .of (fun m δ => ?_) (by intros; simp only [evs]) (by intros; simp only [evo]) (by intros; simp only [evc])
    simp only [ev]
    refine R.le_bind (ih.s _ _) fun xs δ1 => R.le_bind (ihk.s _ _) fun zs δ2 => ?_
    split
    · split
      · split
        · exact doCall_le (hc f) _ _ _
        · exact st
      · exact st
    · exact st
  | pop i es ih =>
    refine .of (fun m δ => ?_) (by intros; simp only [evs]) (by intros; simp only [evo]) (by intros; simp only [evc])
    simp only [ev]
    split
    · exact R.le_bind (ih.s _ _) fun xs δ1 => st
    · exact st
  | lc tg k it cond elt ihi ihc ihe =>
    refine .of (fun m δ => ?_) (by intros; simp only [evs]) (by intros; simp only [evo]) (by intros; simp only [evc])
    simp only [ev]
    refine R.le_bind (ihi.s _ _) fun os δ1 => ?_
    split
    · exact st
    · refine R.le_bind ?_ fun ds δ6 => st
      have body : ∀ (x : D) (δ2 : Ev), R.le (match bindT (wipeE δ2 tg.own) tg x with
          | none => .stuck
          | some δ3 => R.noerr <| (evc G c1 cond δ3).bind fun c δ4 => if c then (ev G c1 .esc elt δ4).bind fun y δ5 => match y with
              | .tmp d => R.ok (some d.fz) (wipeE δ5 tg.own)
              | .ref _ => .stuck
            else .ok none (wipeE δ4 tg.own)) (match bindT (wipeE δ2 tg.own) tg x with
          | none => .stuck
          | some δ3 => R.noerr <| (evc G c2 cond δ3).bind fun c δ4 => if c then (ev G c2 .esc elt δ4).bind fun y δ5 => match y with
              | .tmp d => R.ok (some d.fz) (wipeE δ5 tg.own)
              | .ref _ => .stuck
            else .ok none (wipeE δ4 tg.own)) := fun x δ2 => by
        split
        · exact st
        · refine R.le_noerr (R.le_bind (ihc.c _) fun c δ4 => ?_)
          split
          · exact R.le_bind (ihe.e _ _) fun y δ5 => st
          · exact st
      split
      · exact loopC_le body _ _ _
      · split
        · exact st
        · exact loopCL_le body _ _ _ _ _
  | lc2 tg1 k1 it1 c1 tg2 k2 it2 c2 elt ih1 ihc1 ih2 ihc2 ihe =>
    refine .of (fun m δ => ?_) (by intros; simp only [evs]) (by intros; simp only [evo]) (by intros; simp only [evc])
    simp only [ev]
    refine R.le_bind (ih1.s _ _) fun os δ1 => ?_
    split
    · refine R.le_bind ?_ fun ds δ6 => st
      refine loopA_le (fun x acc δ2 => ?_) _ _ _
      split
      · exact st
      · refine R.le_noerr (R.le_bind (ihc1.c _) fun c δ4 => ?_)
        split
        · refine R.le_bind (ih2.s _ _) fun os2 δ5 => ?_
          split
          · refine R.le_bind (loopC_le (fun y δ7 => ?_) _ _ _) fun _ _ => st
            split
            · exact st
            · refine R.le_noerr (R.le_bind (ihc2.c _) fun c δ8 => ?_)
              split
              · exact R.le_bind (ihe.e _ _) fun y δ9 => st
              · exact st
          · exact st
        · exact st
    · exact st
  | tru a iha => exact .of (fun m δ => by simp only [ev]; exact R.le_bind (iha.e _ _) fun x δ1 => st) (by intros; simp only [evs]) (by intros; simp only [evo]) (by intros; simp only [evc])
  | frz a iha => exact .of (fun m δ => by simp only [ev]; exact R.le_bind (iha.e _ _) fun x δ1 => st) (by intros; simp only [evs]) (by intros; simp only [evo]) (by intros; simp only [evc])
theorem evB_le {a b : R Opd} (h : R.le a b) : R.le (a.bind fun x δ1 => match x.get δ1 with | some (.bl b) => R.ok b δ1 | _ => .stuck) (b.bind fun x δ1 => match x.get δ1 with | some (.bl b) => R.ok b δ1 | _ => .stuck) := R.le_bind h fun x δ => R.le_refl _
theorem whileN_le {t1 t2 : Ev → R Bool} {b1 b2 : Ev → Out} (ht : ∀ δ, R.le (t1 δ) (t2 δ)) (hb : ∀ δ, Out.le (b1 δ) (b2 δ)) : ∀ (n : Nat) (δ : Ev), Out.le (whileN t1 b1 n δ) (whileN t2 b2 n δ)
  | 0, δ => .inl rfl
  | n + 1, δ => by
    unfold whileN
    refine R.le_out (ht δ) fun c δ1 => ?_
    split
    · rcases hb δ1 with e | e
      · rw [e]; exact .inl rfl
      · rw [e]
        split
        · exact whileN_le ht hb n _
        · exact whileN_le ht hb n _
        · exact .inr rfl
        · exact .inr rfl
    · exact .inr rfl
theorem loopF_le {f g : D → Ev → Out} (h : ∀ x δ, Out.le (f x δ) (g x δ)) : ∀ (xs : List D) (δ : Ev), Out.le (loopF f xs δ) (loopF g xs δ)
  | [], δ => .inr rfl
  | x :: xs, δ => by
    unfold loopF
    rcases h x δ with e | e
    · rw [e]; exact .inl rfl
    · rw [e]
      split
      · exact loopF_le h xs _
      · exact loopF_le h xs _
      · exact .inr rfl
      · exact .inr rfl
theorem loopFL_le {f g : D → Ev → Out} (h : ∀ x δ, Out.le (f x δ) (g x δ)) (i : Nat) : ∀ (n k : Nat) (δ : Ev), Out.le (loopFL f i n k δ) (loopFL g i n k δ)
  | 0, k, δ => .inl rfl
  | n + 1, k, δ => by
    unfold loopFL
    split
    · exact .inl rfl
    · exact .inr rfl
    · rename_i x _
      rcases h x δ with e | e
      · rw [e]; exact .inl rfl
      · rw [e]
        split
        · exact loopFL_le h i n _ _
        · exact loopFL_le h i n _ _
        · exact .inr rfl
        · exact .inr rfl
include hc in
theorem store1_le (t : E) (d : D) (δ : Ev) : R.le (store1 G c1 t d δ) (store1 G c2 t d δ) := by
  unfold store1
  split
  · exact .inr rfl
  · split
    · exact R.le_bind ((ev_le hc _).e _ _) fun x δ1 => R.le_refl _
    · exact .inl rfl
  · exact .inl rfl
include hc in
theorem stores_le : ∀ (ts : E) (ds : List D) (δ : Ev), R.le (stores G c1 ts ds δ) (stores G c2 ts ds δ) := by
  intro ts
  induction ts with
  | nil => intro ds δ; simp only [stores]; exact R.le_refl _
  | cons t ts _ ih =>
    intro ds δ
    simp only [stores]
    split
    · exact .inl rfl
    · exact R.le_bind (store1_le hc _ _ _) fun _ δ1 => ih _ _
  | _ => intro ds δ; exact .inl (by simp only [stores])
include hc in
theorem run_le (s : S) : ∀ δ, Out.le (run G c1 s δ) (run G c2 s δ) := by
  have st : ∀ {a : Out}, Out.le a a := fun {a} => Out.le_refl a
  have E := fun e m δ => (ev_le hc (G := G) e).e m δ
  induction s with
  | nop => intro δ; simp only [run]; exact st
  | seq a b iha ihb => intro δ; simp only [run]; exact Out.le_seq (iha δ) ihb
  | set i e => intro δ; simp only [run]; exact R.le_out (E _ _ _) fun x δ1 => st
  | unp ts e =>
    intro δ; simp only [run]
    refine R.le_out (E _ _ _) fun x δ1 => ?_
    split
    · split
      · exact R.le_out (stores_le hc _ _ _) fun _ δ2 => st
      · exact st
    · exact st
  | sti i k e =>
    intro δ; simp only [run]
    refine R.le_out (E _ _ _) fun x δ1 => ?_
    split
    · exact R.le_out (store1_le hc _ _ _) fun _ δ2 => st
    · exact st
  | swp i k1 k2 e1 e2 => intro δ; simp only [run]; exact st
  | exp e => intro δ; simp only [run]; exact R.le_out (E _ _ _) fun x δ1 => st
  | dupd i j => exact fun δ => by simp only [run]; exact Out.le_refl _
  | app i e =>
    intro δ; simp only [run]
    split
    · exact R.le_out (E _ _ _) fun x δ1 => st
    · exact st
  | ext i e =>
    intro δ; simp only [run]
    split
    · exact R.le_out (E _ _ _) fun x δ1 => st
    · exact st
  | iff c a b iha ihb =>
    intro δ; simp only [run]
    refine R.le_out (evB_le (E _ _ _)) fun k δ1 => ?_
    split
    · exact iha _
    · exact ihb _
  | whl c b ih => intro δ; simp only [run]; exact whileN_le (fun δ => evB_le (E _ _ _)) ih _ _
  | for_ tg k it b ih =>
    intro δ; simp only [run]
    refine R.le_out ((ev_le hc it).s _ _) fun os δ1 => ?_
    have body : ∀ (x : D) (δ2 : Ev), Out.le (match bindT δ2 tg x with | some δ3 => run G c1 b δ3 | none => .stuck) (match bindT δ2 tg x with | some δ3 => run G c2 b δ3 | none => .stuck) := fun x δ2 => by
      split
      · exact ih _
      · exact st
    split
    · exact st
    · exact loopF_le body _ _
    · split
      · exact loopFL_le body _ _ _ _
      · exact st
  | forD tg i b ih =>
    intro δ; simp only [run]
    have body : ∀ (x : D) (δ2 : Ev), Out.le (match bindT δ2 tg x with | some δ3 => run G c1 b δ3 | none => .stuck) (match bindT δ2 tg x with | some δ3 => run G c2 b δ3 | none => .stuck) := fun x δ2 => by
      split
      · exact ih _
      · exact st
    split
    · split
      · have nl : ∀ {a b : Out}, Out.le a b → Out.le a.noerr b.noerr := fun {a b} h => by
          rcases h with e | e
          · rw [e]; exact .inl rfl
          · rw [e]; exact st
        exact nl (loopF_le body _ _)
      · exact st
    · exact st
  | brk => intro δ; simp only [run]; exact st
  | cont => intro δ; simp only [run]; exact st
  | ret e => intro δ; simp only [run]; exact R.le_out (E _ _ _) fun x δ1 => st
  | rais c es => intro δ; simp only [run]; exact R.le_out ((ev_le hc es).s _ _) fun x δ1 => st
  | tryy b hs ih _ =>
    intro δ; simp only [run]
    rcases ih δ with e | e
    · rw [e]; exact .inl rfl
    · rw [e]; exact st
  | hd c o e r _ _ => intro δ; simp only [run]; exact st
  | never => intro δ; simp only [run]; exact st
include hc in
theorem runBody_le (fn : Fn) (ds : List D) : CR.le (runBody G c1 fn ds) (runBody G c2 fn ds) := by
  unfold runBody
  split
  · rcases run_le hc (G := G) fn.body (ds.map some ++ List.replicate (fn.N.length - ds.length) none) with e | e
    · rw [e]; exact .inl rfl
    · rw [e]; exact .inr rfl
  · exact .inl rfl
theorem callF_le (G : Tab) : ∀ (n : Nat) (k : Nat) (ds : List D), CR.le (callF G n k ds) (callF G (n + 1) k ds)
  | 0, k, ds => .inl rfl
  | n + 1, k, ds => by
    simp only [callF]
    split
    · exact runBody_le (callF_le G n) _ _
    · exact .inl rfl
/-- what is told with less fuel is told with more -/
theorem callF_more {G : Tab} {n m k : Nat} {ds : List D} {r : CR} (h : callF G n k ds = r) (hr : r ≠ .stuck) (l : n ≤ m) : callF G m k ds = r := by
  induction m with
  | zero => have e : n = 0 := by omega
            subst e; exact h
  | succ m ih =>
    by_cases e : n = m + 1
    · subst e; exact h
    · have q := ih (by omega)
      rcases callF_le G m k ds with z | z
      · rw [q] at z; exact absurd z hr
      · rw [← z]; exact q
end IR
namespace IR
open PySem PySem.Spec L2
/-! ### loops -/
theorem loopC_opt {f : D → Ev → R (Option D)} {δ : Ev} (g : D → Option D) : ∀ (xs : List D) (acc : List D), (∀ x ∈ xs, f x δ = .ok (g x) δ) → acc.length + xs.length ≤ big → loopC f xs acc δ = .ok (acc ++ xs.filterMap g) δ
  | [], acc, _, _ => by simp [loopC]
  | x :: xs, acc, h, hl => by
    have hl : acc.length + (xs.length + 1) ≤ big := hl
    unfold loopC
    rw [h x (by simp), R.bind_ok, if_pos (by omega)]
    cases e : g x with
    | none =>
      rw [List.filterMap_cons_none e]
      exact loopC_opt g xs acc (fun y hy => h y (by simp [hy])) (by omega)
    | some d =>
      rw [List.filterMap_cons_some e]
      have q := loopC_opt g xs (acc ++ [d]) (fun y hy => h y (by simp [hy])) (by rw [List.length_append, List.length_singleton]; omega)
      rw [q]; simp
theorem loopC_none {f : D → Ev → R (Option D)} {δ : Ev} {xs : List D} (h : ∀ x ∈ xs, f x δ = .ok none δ) (hl : xs.length ≤ big) : loopC f xs [] δ = .ok [] δ := by
  have q := loopC_opt (fun _ => none) xs [] h (by simpa using hl)
  rw [q]; simp
theorem loopC_map {f : D → Ev → R (Option D)} {δ : Ev} {xs : List D} (g : D → D) (h : ∀ x ∈ xs, f x δ = .ok (some (g x)) δ) (hl : xs.length ≤ big) : loopC f xs [] δ = .ok (xs.map g) δ := by
  have q := loopC_opt (fun x => some (g x)) xs [] h (by simpa using hl)
  rw [q]; simp
theorem rngD_mem {a b : Int} {x : D} (h : x ∈ rngD a b) : ∃ k : Int, x = .int k ∧ a ≤ k ∧ k < b := by
  unfold rngD at h
  obtain ⟨k, hk, rfl⟩ := List.mem_map.mp h
  rw [List.mem_range] at hk
  exact ⟨_, rfl, by omega, by omega⟩
theorem rngD_length (a b : Int) : (rngD a b).length = (b - a).toNat := by unfold rngD; simp
/-! ### == -/
theorem dEq_int (i j : Int) : dEq (.int i) (.int j) = some (decide (i = j)) := by
  simp only [dEq, isD0, Bool.false_eq_true, if_false, D.py, SeqAt.shaped, PyData.canLay0, PyData.depth, PyData.eqv]
  simp
  by_cases h : i = j <;> simp [h]
theorem dEq_bl (i j : Bool) : dEq (.bl i) (.bl j) = some (decide (i = j)) := by
  simp only [dEq, isD0, Bool.false_eq_true, if_false, D.py, SeqAt.shaped, PyData.canLay0, PyData.depth, PyData.eqv]
  simp
  cases i <;> cases j <;> rfl
/-- whole numbers alone -/
theorem pys_ints (ns : List Int) : D.pys (ns.map D.int) = some (ns.map PyData.int) := by
  induction ns with
  | nil => rfl
  | cons n ns ih => simp [D.pys, D.py, ih]
end IR
namespace IR
open PySem PySem.Spec L2
/-! ### what all the laws begin with: cells, boxes, digits -/
def takeB : S := (.seq (.iff (.and (.tru (.op2 .idx (.var 0) (.lit (.int 1)))) (.op2 .gt (.op2 .idx (.var 0) (.lit (.int 0))) (.lit (.int 0))))
 (.seq (.set 2 (.op2 .mod (.bl .int (.cons (.op2 .idx (.var 0) (.lit (.int 0))) .nil)) (.var 1)))
 (.seq (.sti 0 (.lit (.int 0)) (.op2 .fdv (.op2 .idx (.var 0) (.lit (.int 0))) (.var 1)))
 (.seq (.ret (.var 2))
 .nop)))
 .nop)
 (.seq (.sti 0 (.lit (.int 3)) (.op2 .add (.op2 .idx (.var 0) (.lit (.int 3))) (.lit (.int 1))))
 (.seq (.set 3 (.op2 .mod (.bl .int (.cons (.op2 .pow (.op2 .add (.op2 .add (.op2 .idx (.var 0) (.lit (.int 2))) (.op2 .mul (.lit (.int 15485867)) (.op2 .idx (.var 0) (.lit (.int 3))))) (.lit (.int 179424691))) (.lit (.int 5))) .nil)) (.lit (.int 2147483647))))
 (.seq (.ret (.op2 .mod (.bl .int (.cons (.op2 .fdv (.op2 .mod (.bl .int (.cons (.op2 .pow (.op2 .add (.op2 .mul (.var 3) (.lit (.int 48271))) (.op2 .mul (.lit (.int 104743)) (.op2 .idx (.var 0) (.lit (.int 3))))) (.lit (.int 3))) .nil)) (.lit (.int 2147483587))) (.lit (.int 64))) .nil)) (.var 1)))
 .nop))))
def boxD (b0 : Int) (b1 : Bool) (b2 b3 : Int) : D := .lst true [.int b0, .bl b1, .int b2, .int b3]
/-- a box that has told at most c digits -/
def BoxOk (c : Nat) (d : D) : Prop := ∃ b0 b1 b2 b3, d = boxD b0 b1 b2 b3 ∧ 0 ≤ b0 ∧ 0 ≤ b2 ∧ b2 < 2147483629 ∧ 0 ≤ b3 ∧ b3 ≤ (c : Int)
theorem BoxOk.more {c c' : Nat} {d : D} (h : BoxOk c d) (l : c ≤ c') : BoxOk c' d := by
  obtain ⟨b0, b1, b2, b3, e, h1, h2, h3, h4, h5⟩ := h
  exact ⟨b0, b1, b2, b3, e, h1, h2, h3, h4, by omega⟩
theorem run_take {G : Tab} {call : Calls} {f : Fn} (hb : f.body = takeB) (hp : f.ps.length = 2) (hN : f.N.length = 4) (hi : f.io = [true, false]) {c : Nat} {box : D} {many : Int} (hc : c < 100000) (hm : 1 ≤ many) (hm2 : many < 1000000) (h : BoxOk c box) :
    ∃ (k : Int) (box' : D), runBody G call f [box, .int many] = .ok (.int k) [some box'] ∧ 0 ≤ k ∧ k < many ∧ BoxOk (c + 1) box' := by
  obtain ⟨b0, b1, b2, b3, rfl, h0, h2, h2', h3, h3'⟩ := h
  unfold runBody
  rw [hb, hN, hi, hp]
  by_cases g : b1 = true ∧ 0 < b0
  · obtain ⟨rfl, g⟩ := g
    refine ⟨b0 % many, boxD (b0 / many) true b2 b3, ?_, Int.emod_nonneg _ (by omega), Int.emod_lt_of_pos _ (by omega), ⟨b0 / many, true, b2, b3, rfl, Int.ediv_nonneg h0 (by omega), h2, h2', h3, by omega⟩⟩
    simp [takeB, boxD, List.replicate, atI, ixN, truD, g, store1, iosOf, show (0 : Int) < many by omega, show many < 1073741824 by omega]
  · have key : ∀ X : Int, X = b2 + 15485867 * (b3 + 1) + 179424691 → X.natAbs < 18446744073709551616 := fun X e => by omega
    have hX := key _ rfl
    have hM : ∀ M : Int, 0 ≤ M → M < 2147483647 → (M * 48271 + 104743 * (b3 + 1)).natAbs < 18446744073709551616 := fun M a b => by omega
    have hm1 := Int.emod_nonneg ((b2 + 15485867 * (b3 + 1) + 179424691) ^ 5) (show (2147483647 : Int) ≠ 0 by decide)
    have hm2' := Int.emod_lt_of_pos ((b2 + 15485867 * (b3 + 1) + 179424691) ^ 5) (show (0 : Int) < 2147483647 by decide)
    have hY := hM _ hm1 hm2'
    have mp : (0 : Int) < many := by omega
    refine ⟨(((b2 + 15485867 * (b3 + 1) + 179424691) ^ 5 % 2147483647 * 48271 + 104743 * (b3 + 1)) ^ 3 % 2147483587 / 64) % many, boxD b0 b1 b2 (b3 + 1), ?_, Int.emod_nonneg _ (by omega), Int.emod_lt_of_pos _ (by omega), ⟨b0, b1, b2, b3 + 1, rfl, h0, h2, h2', by omega, by omega⟩⟩
    cases b1 with
    | false => simp [takeB, boxD, List.replicate, atI, ixN, truD, store1, iosOf, hX, hY, mp]
    | true =>
      have g' : ¬ 0 < b0 := fun z => g ⟨rfl, z⟩
      simp [takeB, boxD, List.replicate, atI, ixN, truD, store1, iosOf, hX, hY, mp, g']
end IR
namespace IR
open PySem PySem.Spec L2
/-! ### rules for loops -/
/-- how a loop's body ends: it goes on by N, or it ends the loop by Q -/
def WB (o : Out) (N : Ev → Prop) (Q : Out → Prop) : Prop := match o with
  | .nx δ => N δ
  | .ct δ => N δ
  | .brk δ => Q (.nx δ)
  | .ret d δ => Q (.ret d δ)
  | .err c g δ => Q (.err c g δ)
  | .stuck => False
section
variable {N : Ev → Prop} {Q : Out → Prop} {δ : Ev}
@[simp] theorem WB_nx : WB (.nx δ) N Q = N δ := rfl
@[simp] theorem WB_ct : WB (.ct δ) N Q = N δ := rfl
@[simp] theorem WB_brk : WB (.brk δ) N Q = Q (.nx δ) := rfl
@[simp] theorem WB_ret {d : D} : WB (.ret d δ) N Q = Q (.ret d δ) := rfl
@[simp] theorem WB_err {c : Nat} {g : List D} : WB (.err c g δ) N Q = Q (.err c g δ) := rfl
end
theorem whileN_rule {α : Type} {t : Ev → R Bool} {b : Ev → Out} (emb : α → Ev) (P : α → Prop) (m : α → Nat) (Q : Out → Prop)
    (h : ∀ s, P s → ∃ c δ1, t (emb s) = .ok c δ1 ∧ (c = false → Q (.nx δ1)) ∧ (c = true → WB (b δ1) (fun δ2 => ∃ s', δ2 = emb s' ∧ P s' ∧ m s' < m s) Q)) :
    ∀ (n : Nat) (s : α), P s → m s < n → Q (whileN t b n (emb s))
  | 0, s, _, l => absurd l (by omega)
  | n + 1, s, p, l => by
    obtain ⟨c, δ1, e, h0, h1⟩ := h s p
    unfold whileN
    rw [e, R.out_ok]
    cases c with
    | false => exact h0 rfl
    | true =>
      have w := h1 rfl
      rw [if_pos rfl]
      cases eb : b δ1 with
      | nx δ2 =>
        rw [eb] at w
        obtain ⟨s', rfl, p', l'⟩ := w
        exact whileN_rule emb P m Q h n s' p' (by omega)
      | ct δ2 =>
        rw [eb] at w
        obtain ⟨s', rfl, p', l'⟩ := w
        exact whileN_rule emb P m Q h n s' p' (by omega)
      | brk δ2 => rw [eb] at w; exact w
      | ret d δ2 => rw [eb] at w; exact w
      | err k g δ2 => rw [eb] at w; exact w
      | stuck => rw [eb] at w; exact w.elim
theorem whileN_go {α : Type} {t : Ev → R Bool} {b : Ev → Out} (emb : α → Ev) (P : α → Prop) (go : α → Bool) (m : α → Nat) (Q : Out → Prop)
    (ht : ∀ s, P s → t (emb s) = .ok (go s) (emb s)) (hf : ∀ s, P s → go s = false → Q (.nx (emb s)))
    (hb : ∀ s, P s → go s = true → WB (b (emb s)) (fun δ2 => ∃ s', δ2 = emb s' ∧ P s' ∧ m s' < m s) Q) (n : Nat) (s : α) (p : P s) (l : m s < n) : Q (whileN t b n (emb s)) :=
  whileN_rule emb P m Q (fun s p => ⟨go s, emb s, ht s p, hf s p, hb s p⟩) n s p l
theorem loopF_rule {α : Type} {f : D → Ev → Out} (emb : α → Ev) (P : List D → α → Prop) (Q : Out → Prop)
    (h : ∀ x r s, P (x :: r) s → WB (f x (emb s)) (fun δ2 => ∃ s', δ2 = emb s' ∧ P r s') Q) (hn : ∀ s, P [] s → Q (.nx (emb s))) :
    ∀ (xs : List D) (s : α), P xs s → Q (loopF f xs (emb s))
  | [], s, p => hn s p
  | x :: r, s, p => by
    have w := h x r s p
    unfold loopF
    cases eb : f x (emb s) with
    | nx δ2 =>
      rw [eb] at w
      obtain ⟨s', rfl, p'⟩ := w
      exact loopF_rule emb P Q h hn r s' p'
    | ct δ2 =>
      rw [eb] at w
      obtain ⟨s', rfl, p'⟩ := w
      exact loopF_rule emb P Q h hn r s' p'
    | brk δ2 => rw [eb] at w; exact w
    | ret d δ2 => rw [eb] at w; exact w
    | err k g δ2 => rw [eb] at w; exact w
    | stuck => rw [eb] at w; exact w.elim
theorem loopC_rule {α : Type} {f : D → Ev → R (Option D)} (emb : α → Ev) (P : List D → α → List D → Prop)
    (h : ∀ x r s acc, P (x :: r) s acc → ∃ o s', f x (emb s) = .ok o (emb s') ∧ P r s' (match o with | some d => acc ++ [d] | none => acc)) :
    ∀ (xs : List D) (s : α) (acc : List D), P xs s acc → acc.length + xs.length ≤ big → ∃ ds s', loopC f xs acc (emb s) = .ok ds (emb s') ∧ P [] s' ds
  | [], s, acc, p, _ => ⟨acc, s, rfl, p⟩
  | x :: r, s, acc, p, l => by
    obtain ⟨o, s', e, p'⟩ := h x r s acc p
    unfold loopC
    rw [e, R.bind_ok, if_pos (by simp only [List.length_cons] at l; omega)]
    refine loopC_rule emb P h r s' _ p' ?_
    cases o with
    | none => simp only [List.length_cons] at l; show acc.length + r.length ≤ big; omega
    | some d => simp only [List.length_cons] at l; show (acc ++ [d]).length + r.length ≤ big; rw [List.length_append, List.length_singleton]; omega

/-! ### calls -/
theorem callF_succ (G : Tab) (n k : Nat) (ds : List D) : callF G (n + 1) k ds = match G.fns[k]? with
    | some fn => runBody G (callF G n) fn ds
    | none => .stuck := rfl
theorem callF_at {G : Tab} {n k : Nat} {ds : List D} {fn : Fn} {r : CR} (hk : G.fns[k]? = some fn) (hn : 0 < n) (h : ∀ m, n = m + 1 → runBody G (callF G m) fn ds = r) : callF G n k ds = r := by
  obtain ⟨m, rfl⟩ : ∃ m, n = m + 1 := ⟨n - 1, by omega⟩
  rw [callF_succ, hk]
  exact h m rfl
/-! ### == -/
mutual
/-- plain, no truth values within -/
def D.nb : D → Bool
  | .non | .int _ => true
  | .str x => PyData.canLay0 (.str x)
  | .tup xs => D.nbs xs
  | .lst _ xs => D.nbs xs
  | .bl _ | .dct _ _ _ | .scr _ => false
def D.nbs : List D → Bool
  | [] => true
  | x :: xs => x.nb && D.nbs xs
end
mutual
def D.dep : D → Nat
  | .tup xs => D.deps xs + 1
  | .lst _ xs => D.deps xs + 1
  | .non | .int _ | .str _ | .bl _ | .dct _ _ _ | .scr _ => 0
def D.deps : List D → Nat
  | [] => 0
  | x :: xs => max x.dep (D.deps xs)
end
mutual
theorem py_nb : ∀ d : D, d.nb = true → ∃ p, d.py = some p ∧ p.canLay0 = true ∧ p.depth ≤ d.dep
  | .non, _ => ⟨.none, rfl, rfl, by simp [D.dep, PyData.depth]⟩
  | .int i, _ => ⟨.int i, rfl, rfl, by simp [D.dep, PyData.depth]⟩
  | .str x, h => ⟨.str x, rfl, by simpa [D.nb] using h, by simp [D.dep, PyData.depth]⟩
  | .tup xs, h => by
    obtain ⟨ps, e, c, l⟩ := pys_nb xs (by simpa [D.nb] using h)
    exact ⟨.tuple ps, by simp [D.py, e], by simpa [PyData.canLay0] using c, by simp [PyData.depth, D.dep]; omega⟩
  | .lst o xs, h => by
    obtain ⟨ps, e, c, l⟩ := pys_nb xs (by simpa [D.nb] using h)
    exact ⟨.list ps, by simp [D.py, e], by simpa [PyData.canLay0] using c, by simp [PyData.depth, D.dep]; omega⟩
  | .bl _, h | .dct _ _ _, h | .scr _, h => by simp [D.nb] at h
theorem pys_nb : ∀ ds : List D, D.nbs ds = true → ∃ ps, D.pys ds = some ps ∧ PyData.canLayAll0 ps = true ∧ PyData.depthAll ps ≤ D.deps ds
  | [], _ => ⟨[], rfl, rfl, by simp [PyData.depthAll, D.deps]⟩
  | d :: ds, h => by
    have q : d.nb = true ∧ D.nbs ds = true := by simpa [D.nbs] using h
    obtain ⟨p, e, c, l⟩ := py_nb d q.1
    obtain ⟨ps, e', c', l'⟩ := pys_nb ds q.2
    refine ⟨p :: ps, by simp [D.pys, e, e'], by simp [PyData.canLayAll0, c, c'], ?_⟩
    rw [PyData.depthAll, D.deps]
    omega
end
mutual
theorem eqv_nb : ∀ (d e : D) (p q : PyData), d.nb = true → e.nb = true → d.py = some p → e.py = some q → (PyData.eqv p q = true ↔ d.fz = e.fz)
  | .non, e, p, q, h, h', ep, eq => by
    cases ep
    cases e with
    | non => cases eq; simp [PyData.eqv]
    | int j => cases eq; simp [PyData.eqv]
    | str y => cases eq; simp [PyData.eqv]
    | tup ys =>
      obtain ⟨qs, e2, _, _⟩ := pys_nb ys (by simpa [D.nb] using h')
      simp [D.py, e2] at eq; subst eq; simp [PyData.eqv]
    | lst o ys =>
      obtain ⟨qs, e2, _, _⟩ := pys_nb ys (by simpa [D.nb] using h')
      simp [D.py, e2] at eq; subst eq; simp [PyData.eqv]
    | bl b => simp [D.nb] at h'
    | dct o ks vs => simp [D.nb] at h'
    | scr ns => simp [D.nb] at h'
  | .int i, e, p, q, h, h', ep, eq => by
    cases ep
    cases e with
    | non => cases eq; simp [PyData.eqv]
    | int j => cases eq; simp [PyData.eqv]
    | str y => cases eq; simp [PyData.eqv]
    | tup ys =>
      obtain ⟨qs, e2, _, _⟩ := pys_nb ys (by simpa [D.nb] using h')
      simp [D.py, e2] at eq; subst eq; simp [PyData.eqv]
    | lst o ys =>
      obtain ⟨qs, e2, _, _⟩ := pys_nb ys (by simpa [D.nb] using h')
      simp [D.py, e2] at eq; subst eq; simp [PyData.eqv]
    | bl b => simp [D.nb] at h'
    | dct o ks vs => simp [D.nb] at h'
    | scr ns => simp [D.nb] at h'
  | .str x, e, p, q, h, h', ep, eq => by
    cases ep
    cases e with
    | non => cases eq; simp [PyData.eqv]
    | int j => cases eq; simp [PyData.eqv]
    | str y => cases eq; simp [PyData.eqv]
    | tup ys =>
      obtain ⟨qs, e2, _, _⟩ := pys_nb ys (by simpa [D.nb] using h')
      simp [D.py, e2] at eq; subst eq; simp [PyData.eqv]
    | lst o ys =>
      obtain ⟨qs, e2, _, _⟩ := pys_nb ys (by simpa [D.nb] using h')
      simp [D.py, e2] at eq; subst eq; simp [PyData.eqv]
    | bl b => simp [D.nb] at h'
    | dct o ks vs => simp [D.nb] at h'
    | scr ns => simp [D.nb] at h'
  | .tup xs, e, p, q, h, h', ep, eq => by
    obtain ⟨ps, e1, _, _⟩ := pys_nb xs (by simpa [D.nb] using h)
    simp [D.py, e1] at ep; subst ep
    cases e with
    | non => cases eq; simp [PyData.eqv]
    | int j => cases eq; simp [PyData.eqv]
    | str y => cases eq; simp [PyData.eqv]
    | tup ys =>
      obtain ⟨qs, e2, _, _⟩ := pys_nb ys (by simpa [D.nb] using h')
      simp [D.py, e2] at eq; subst eq
      rw [PyData.eqv, eqvs_nb xs ys ps qs (by simpa [D.nb] using h) (by simpa [D.nb] using h') e1 e2]
      simp
    | lst o ys =>
      obtain ⟨qs, e2, _, _⟩ := pys_nb ys (by simpa [D.nb] using h')
      simp [D.py, e2] at eq; subst eq; simp [PyData.eqv]
    | bl b => simp [D.nb] at h'
    | dct o ks vs => simp [D.nb] at h'
    | scr ns => simp [D.nb] at h'
  | .lst o xs, e, p, q, h, h', ep, eq => by
    obtain ⟨ps, e1, _, _⟩ := pys_nb xs (by simpa [D.nb] using h)
    simp [D.py, e1] at ep; subst ep
    cases e with
    | non => cases eq; simp [PyData.eqv]
    | int j => cases eq; simp [PyData.eqv]
    | str y => cases eq; simp [PyData.eqv]
    | tup ys =>
      obtain ⟨qs, e2, _, _⟩ := pys_nb ys (by simpa [D.nb] using h')
      simp [D.py, e2] at eq; subst eq; simp [PyData.eqv]
    | lst o ys =>
      obtain ⟨qs, e2, _, _⟩ := pys_nb ys (by simpa [D.nb] using h')
      simp [D.py, e2] at eq; subst eq
      rw [PyData.eqv, eqvs_nb xs ys ps qs (by simpa [D.nb] using h) (by simpa [D.nb] using h') e1 e2]
      simp
    | bl b => simp [D.nb] at h'
    | dct o ks vs => simp [D.nb] at h'
    | scr ns => simp [D.nb] at h'
  | .bl _, _, _, _, h, _, _, _ | .dct _ _ _, _, _, _, h, _, _, _ | .scr _, _, _, _, h, _, _, _ => by simp [D.nb] at h
theorem eqvs_nb : ∀ (ds es : List D) (ps qs : List PyData), D.nbs ds = true → D.nbs es = true → D.pys ds = some ps → D.pys es = some qs → (PyData.eqvAll ps qs = true ↔ D.fzs ds = D.fzs es)
  | [], [], ps, qs, _, _, e1, e2 => by cases e1; cases e2; simp [PyData.eqvAll]
  | [], e :: es, ps, qs, _, h', e1, e2 => by
    cases e1
    obtain ⟨ys, e3, _, _⟩ := pys_nb (e :: es) h'
    obtain ⟨y, e4, _, _⟩ := py_nb e (by simp [D.nbs] at h'; exact h'.1)
    obtain ⟨zs, e5, _, _⟩ := pys_nb es (by simp [D.nbs] at h'; exact h'.2)
    simp [D.pys, e4, e5] at e2
    subst e2
    simp [PyData.eqvAll]
  | d :: ds, [], ps, qs, h, _, e1, e2 => by
    cases e2
    obtain ⟨y, e4, _, _⟩ := py_nb d (by simp [D.nbs] at h; exact h.1)
    obtain ⟨zs, e5, _, _⟩ := pys_nb ds (by simp [D.nbs] at h; exact h.2)
    simp [D.pys, e4, e5] at e1
    subst e1
    simp [PyData.eqvAll]
  | d :: ds, e :: es, ps, qs, h, h', e1, e2 => by
    have q : d.nb = true ∧ D.nbs ds = true := by simpa [D.nbs] using h
    have q' : e.nb = true ∧ D.nbs es = true := by simpa [D.nbs] using h'
    obtain ⟨x, x1, _, _⟩ := py_nb d q.1
    obtain ⟨xs, x2, _, _⟩ := pys_nb ds q.2
    obtain ⟨y, y1, _, _⟩ := py_nb e q'.1
    obtain ⟨ys, y2, _, _⟩ := pys_nb es q'.2
    simp [D.pys, x1, x2] at e1
    simp [D.pys, y1, y2] at e2
    subst e1 e2
    rw [PyData.eqvAll, Bool.and_eq_true, eqv_nb d e x y q.1 q'.1 x1 y1, eqvs_nb ds es xs ys q.2 q'.2 x2 y2]
    simp
end
theorem isD0_nb {d : D} (h : d.nb = true) : isD0 d = false := by
  cases d <;> first | rfl | simp [D.nb] at h
open Classical in
theorem dEq_nb {d e : D} (h : d.nb = true) (h' : e.nb = true) (l : d.dep ≤ 64) (l' : e.dep ≤ 64) : dEq d e = some (decide (d.fz = e.fz)) := by
  obtain ⟨p, e1, c1, l1⟩ := py_nb d h
  obtain ⟨q, e2, c2, l2⟩ := py_nb e h'
  have s1 : SeqAt.shaped p = true := by unfold SeqAt.shaped; rw [c1, Bool.true_and, decide_eq_true_eq]; omega
  have s2 : SeqAt.shaped q = true := by unfold SeqAt.shaped; rw [c2, Bool.true_and, decide_eq_true_eq]; omega
  have z := eqv_nb d e p q h h' e1 e2
  unfold dEq
  simp only [isD0_nb h', e1, e2, s1, s2, Bool.and_self, if_true, Bool.false_eq_true, if_false, Option.some.injEq]
  by_cases c : d.fz = e.fz
  · rw [z.mpr c, decide_eq_true c]
  · rw [decide_eq_false c]
    exact Bool.eq_false_iff.mpr fun k => c (z.mp k)

theorem nbs_all : ∀ xs : List D, (∀ x ∈ xs, x.nb = true) → D.nbs xs = true
  | [], _ => rfl
  | x :: xs, h => by rw [D.nbs, h x (by simp), nbs_all xs (fun y hy => h y (by simp [hy]))]; rfl
theorem deps_all {n : Nat} : ∀ xs : List D, (∀ x ∈ xs, x.dep ≤ n) → D.deps xs ≤ n
  | [], _ => by simp [D.deps]
  | x :: xs, h => by
    rw [D.deps]
    have h1 := h x (by simp)
    have h2 := deps_all xs (fun y hy => h y (by simp [hy]))
    omega
@[simp] theorem nb_int {i : Int} : D.nb (.int i) = true := rfl
@[simp] theorem nb_non : D.nb .non = true := rfl
@[simp] theorem nb_tup {xs : List D} : D.nb (.tup xs) = D.nbs xs := by rw [D.nb]
@[simp] theorem nb_lst {o : Bool} {xs : List D} : D.nb (.lst o xs) = D.nbs xs := by rw [D.nb]
@[simp] theorem nbs_nil : D.nbs [] = true := rfl
@[simp] theorem nbs_cons {x : D} {xs : List D} : D.nbs (x :: xs) = (x.nb && D.nbs xs) := by rw [D.nbs]
@[simp] theorem nbs_ints {ns : List Int} : D.nbs (ns.map .int) = true := nbs_all _ (by simp)
@[simp] theorem dep_int {i : Int} : D.dep (.int i) = 0 := rfl
@[simp] theorem dep_non : D.dep .non = 0 := rfl
@[simp] theorem dep_str {x : Str} : D.dep (.str x) = 0 := rfl
@[simp] theorem dep_bl {b : Bool} : D.dep (.bl b) = 0 := rfl
@[simp] theorem dep_tup {xs : List D} : D.dep (.tup xs) = D.deps xs + 1 := by rw [D.dep]
@[simp] theorem dep_lst {o : Bool} {xs : List D} : D.dep (.lst o xs) = D.deps xs + 1 := by rw [D.dep]
@[simp] theorem deps_nil : D.deps [] = 0 := rfl
@[simp] theorem deps_cons {x : D} {xs : List D} : D.deps (x :: xs) = max x.dep (D.deps xs) := by rw [D.deps]
@[simp] theorem deps_ints {ns : List Int} : D.deps (ns.map .int) = 0 := by
  have := deps_all (n := 0) (ns.map D.int) (by simp)
  omega
theorem map_int_inj {xs ys : List Int} : xs.map D.int = ys.map D.int ↔ xs = ys := by
  constructor
  · intro h
    induction xs generalizing ys with
    | nil => cases ys <;> simp at h; rfl
    | cons x xs ih => cases ys with
      | nil => simp at h
      | cons y ys =>
        simp only [List.map_cons, List.cons.injEq, D.int.injEq] at h
        rw [h.1, ih h.2]
  · rintro rfl; rfl
@[simp] theorem dEq_ints {o o' : Bool} {xs ys : List Int} : dEq (.lst o (xs.map .int)) (.lst o' (ys.map .int)) = some (decide (xs = ys)) := by
  rw [dEq_nb (by simp) (by simp) (by simp) (by simp)]
  simp [map_int_inj]
@[simp] theorem dEq_ints_nil {o o' : Bool} {xs : List Int} : dEq (.lst o (xs.map .int)) (.lst o' []) = some (decide (xs = [])) := by
  have := dEq_ints (o := o) (o' := o') (xs := xs) (ys := [])
  rwa [List.map_nil] at this
@[simp] theorem dEq_intsT {xs ys : List Int} : dEq (.tup (xs.map .int)) (.tup (ys.map .int)) = some (decide (xs = ys)) := by
  rw [dEq_nb (by simp) (by simp) (by simp) (by simp)]
  simp [map_int_inj]
@[simp] theorem dEq_intsT_nil {xs : List Int} : dEq (.tup (xs.map .int)) (.tup []) = some (decide (xs = [])) := by
  have := dEq_intsT (xs := xs) (ys := [])
  rwa [List.map_nil] at this
@[simp] theorem dEq_int' {i j : Int} : dEq (.int i) (.int j) = some (decide (i = j)) := dEq_int i j
@[simp] theorem dEq_bl' {i j : Bool} : dEq (.bl i) (.bl j) = some (decide (i = j)) := dEq_bl i j
@[simp] theorem dEq_tnil : dEq (.tup []) (.tup []) = some true := rfl
@[simp] theorem dEq_nil' {o o' : Bool} : dEq (.lst o []) (.lst o' []) = some true := rfl
end IR
namespace IR
open PySem PySem.Spec L2
/-! ### cells, boxes, rows in a drawn order -/
theorem BoxOk.own {c : Nat} {d : D} (h : BoxOk c d) : d.own = true := by
  obtain ⟨b0, b1, b2, b3, rfl, _⟩ := h; rfl
theorem BoxOk.pure {c : Nat} {d : D} (h : BoxOk c d) : d.pure = false := by
  obtain ⟨b0, b1, b2, b3, rfl, _⟩ := h; rfl
def cellB : S := (.seq (.ret (.ite (.op2 .lt (.var 1) (.bl .len (.cons (.var 0) .nil))) (.op2 .idx (.var 0) (.var 1)) (.op2 .add (.op2 .mul (.lit (.int 9311)) (.var 1)) (.op2 .mod (.bl .int (.cons (.bl .sum (.cons (.slc (.var 0) .nil (.cons (.lit (.int 1)) .nil)) .nil)) .nil)) (.lit (.int 1000003))))))
 .nop)
def boxB : S := (.seq (.ret (.lst (.cons (.bl .abs (.cons (.var 0) .nil)) (.cons (.op2 .ge (.bl .abs (.cons (.var 0) .nil)) (.op2 .pow (.lit (.int 10)) (.lit (.int 18)))) (.cons (.op2 .mod (.bl .int (.cons (.bl .abs (.cons (.var 0) .nil)) .nil)) (.lit (.int 2147483629))) (.cons (.lit (.int 0)) .nil))))))
 .nop)
theorem run_cell {G : Tab} {call : Calls} {f : Fn} (hb : f.body = cellB) (hp : f.ps.length = 2) (hN : f.N.length = 2) (hi : f.io = [false, false]) {ns : List Int} {k : Nat} (hk : k < 1000) :
    ∃ i : Int, runBody G call f [.scr ns, .int k] = .ok (.int i) [] := by
  rw [runBody_eq, hb, hN, hi, hp]
  by_cases c : k < ns.length
  · refine ⟨ns[k], ?_⟩
    have e : atI ns (k : Int) = some ns[k] := by
      unfold atI ixN
      simp [c]
    have c' : (k : Int) < (ns.length : Int) := by omega
    simp [cellB, iosOf, c', e]
  · have c' : ¬ (k : Int) < (ns.length : Int) := by omega
    refine ⟨9311 * k + ((cutD ns none (some 1)).sum) % 1000003, ?_⟩
    simp [cellB, iosOf, c', dInts_map]
theorem run_box {G : Tab} {call : Calls} {f : Fn} (hb : f.body = boxB) (hp : f.ps.length = 1) (hN : f.N.length = 1) (hi : f.io = [false]) {i : Int} :
    ∃ box, runBody G call f [.int i] = .ok box [] ∧ BoxOk 0 box := by
  rw [runBody_eq, hb, hN, hi, hp]
  refine ⟨boxD (if i < 0 then -i else i) (decide (10 ^ 18 ≤ (if i < 0 then -i else i))) ((if i < 0 then -i else i) % 2147483629) 0, ?_, _, _, _, _, rfl, ?_, ?_, ?_, ?_, ?_⟩
  · simp [boxB, boxD, iosOf, big]
  · split <;> omega
  · exact Int.emod_nonneg _ (by decide)
  · exact Int.emod_lt_of_pos _ (by decide)
  · omega
  · omega
end IR
namespace IR
open PySem PySem.Spec L2
/-! ### the law's own comparison; rows in a drawn order -/
def sameQ (c : Nat) : E := (.cons (.not (.call c (.cons (.op2 .idx (.var 0) (.var 2)) (.cons (.op2 .idx (.var 1) (.var 2)) .nil)))) .nil)
def sameQs : E := (.cons (.op2 .ne (.slc (.var 0) (.cons (.var 2) .nil) (.cons (.op2 .add (.var 2) (.lit (.int 1))) .nil)) (.op2 .idx (.var 1) (.var 2))) .nil)
def sameB (c : Nat) : S := (.seq (.iff (.or (.op2 .is_ (.var 1) (.lit .non)) (.isi true ["bool"] (.var 1)))
 (.seq (.ret (.ite (.op2 .is_ (.var 1) (.lit .non)) (.op2 .is_ (.var 0) (.lit .non)) (.and (.isi true ["bool"] (.var 0)) (.op2 .eq (.op2 .is_ (.var 0) (.lit (.bl true))) (.op2 .is_ (.var 1) (.lit (.bl true)))))))
 .nop)
 .nop)
 (.seq (.iff (.isi true ["int"] (.var 1))
 (.seq (.ret (.and (.isi true ["int"] (.var 0)) (.and (.not (.isi true ["bool"] (.var 0))) (.op2 .eq (.op2 .sub (.bl .int (.cons (.var 0) .nil)) (.var 1)) (.lit (.int 0))))))
 .nop)
 .nop)
 (.seq (.iff (.isi true ["str"] (.var 1))
 (.seq (.ret (.and (.isi true ["str"] (.var 0)) (.and (.op2 .eq (.bl .len (.cons (.var 0) .nil)) (.bl .len (.cons (.var 1) .nil))) (.op2 .eq (.lc (.nm 2) .rng (.cons (.bl .len (.cons (.var 1) .nil)) .nil) sameQs (.var 2)) (.lst .nil)))))
 .nop)
 .nop)
 (.seq (.iff (.isi true ["dict"] (.var 1))
 (.seq .never
 .nop)
 .nop)
 (.seq (.iff (.or (.op2 .ne (.isi true ["list"] (.var 0)) (.isi true ["list"] (.var 1))) (.op2 .ne (.isi true ["tuple"] (.var 0)) (.isi true ["tuple"] (.var 1))))
 (.seq (.ret (.lit (.bl false)))
 .nop)
 .nop)
 (.seq (.iff (.or (.not (.isi false ["list", "tuple"] (.var 0))) (.op2 .ne (.bl .len (.cons (.var 0) .nil)) (.bl .len (.cons (.var 1) .nil))))
 (.seq (.ret (.lit (.bl false)))
 .nop)
 .nop)
 (.seq (.ret (.op2 .eq (.lc (.nm 2) .rng (.cons (.bl .len (.cons (.var 1) .nil)) .nil) (sameQ c) (.var 2)) (.lst .nil)))
 .nop)))))))
def mixedT : E := (.op2 .ne (.var 2) (.lst .nil))
def mixedW (c : Nat) : S := (.seq (.app 3 (.pop 2 (.cons (.call c (.cons (.var 0) (.cons (.bl .len (.cons (.var 2) .nil)) .nil))) .nil)))
 .nop)
def mixedB (c : Nat) : S := (.seq (.unp (.cons (.var 2) (.cons (.var 3) .nil)) (.tup (.cons (.bl .lrange (.cons (.var 1) .nil)) (.cons (.lst .nil) .nil))))
 (.seq (.whl mixedT
 (mixedW c))
 (.seq (.ret (.var 3))
 .nop)))

mutual
/-- what the law's own comparison takes -/
def D.sm : D → Bool
  | .non | .bl _ | .int _ => true
  | .str x => PyData.strOk x && decide (x.length ≤ 100000)
  | .tup xs => decide (xs.length ≤ 100000) && D.sms xs
  | .lst o xs => !o && decide (xs.length ≤ 100000) && D.sms xs
  | .dct _ _ _ | .scr _ => false
def D.sms : List D → Bool
  | [] => true
  | x :: xs => x.sm && D.sms xs
end
mutual
theorem D.sm_pure : ∀ d : D, d.sm = true → d.pure = true
  | .non, _ | .bl _, _ | .int _, _ | .str _, _ => rfl
  | .tup xs, h => by
    have q : xs.length ≤ 100000 ∧ D.sms xs = true := by simpa [D.sm] using h
    simp [D.sms_pure xs q.2]
  | .lst o xs, h => by
    have q : (o = false ∧ xs.length ≤ 100000) ∧ D.sms xs = true := by simpa [D.sm] using h
    simp [D.sms_pure xs q.2, q.1.1]
  | .dct _ _ _, h | .scr _, h => by simp [D.sm] at h
theorem D.sms_pure : ∀ ds : List D, D.sms ds = true → D.pures ds = true
  | [], _ => rfl
  | d :: ds, h => by
    have q : d.sm = true ∧ D.sms ds = true := by simpa [D.sms] using h
    simp [D.sm_pure d q.1, D.sms_pure ds q.2]
end
theorem D.sms_mem : ∀ {ds : List D} {d : D}, D.sms ds = true → d ∈ ds → d.sm = true
  | x :: xs, d, h, m => by
    have q : x.sm = true ∧ D.sms xs = true := by simpa [D.sms] using h
    rcases List.mem_cons.mp m with e | e
    · rw [e]; exact q.1
    · exact D.sms_mem q.2 e
theorem D.deps_mem : ∀ {ds : List D} {d : D}, d ∈ ds → d.dep ≤ D.deps ds
  | x :: xs, d, m => by
    rw [D.deps]
    rcases List.mem_cons.mp m with e | e
    · rw [e]; exact Nat.le_max_left _ _
    · exact Nat.le_trans (D.deps_mem e) (Nat.le_max_right _ _)
theorem atI_nat {α : Type} {xs : List α} {k : Nat} (h : k < xs.length) : atI xs (k : Int) = some xs[k] := by
  unfold atI ixN
  simp [h]
theorem same_items {G : Tab} {n c : Nat} {ds : List D} {a : D} (ha : a = .tup ds ∨ a = .lst false ds) (fn : Fn) (hk : G.fns[c]? = some fn) (hi : fn.io = [false, false]) (hs : D.sms ds = true) (hl : ds.length ≤ 100000)
    (h : ∀ d ∈ ds, callF G n c [d, d] = .ok (.bl true) []) :
    loopC (lcW G (callF G n) (.nm 2) (sameQ c) (.var 2)) (rngD 0 ds.length) [] [some a, some a, none] = .ok [] [some a, some a, none] := by
  refine loopC_none (fun x hx => ?_) (by rw [rngD_length]; unfold big; omega)
  obtain ⟨k, rfl, k0, k1⟩ := rngD_mem hx
  obtain ⟨j, rfl⟩ : ∃ j : Nat, k = j := ⟨k.toNat, by omega⟩
  have hj : j < ds.length := by omega
  have hm := h ds[j] (List.getElem_mem hj)
  have hp := D.sm_pure _ (D.sms_mem hs (List.getElem_mem hj))
  have hps := D.sms_pure ds hs
  have hz := D.fz_of_pure _ hp
  rcases ha with rfl | rfl
  · simp [lcW_eq, sameQ, atI_nat hj, hp, hk, hm, hi, hps, hz]
  · simp [lcW_eq, sameQ, atI_nat hj, hp, hk, hm, hi, hps, hz]
theorem cutD_nat {α : Type} {xs : List α} {a b : Nat} : cutD xs (some (a : Int)) (some (b : Int)) = (xs.drop a).take (b - a) := by
  unfold cutD
  rw [HT.sIx_nat, HT.sIx_nat]
  by_cases h : a ≤ xs.length
  · rw [Nat.min_eq_left h]
    by_cases k : b ≤ xs.length
    · rw [Nat.min_eq_left k]
    · rw [Nat.min_eq_right (by omega), List.take_of_length_le (by simp), List.take_of_length_le (by simp; omega)]
  · rw [show min a xs.length = xs.length by omega, List.drop_eq_nil_of_le (Nat.le_refl _), List.drop_eq_nil_of_le (show xs.length ≤ a by omega)]
    simp
theorem cutD_from {α : Type} {xs : List α} {a : Nat} : cutD xs (some (a : Int)) none = xs.drop a := by
  unfold cutD
  rw [HT.sIx_nat, HT.sIx_none]
  by_cases h : a ≤ xs.length
  · rw [Nat.min_eq_left h, List.take_of_length_le (by simp)]
  · rw [show min a xs.length = xs.length by omega, List.drop_eq_nil_of_le (Nat.le_refl _), List.drop_eq_nil_of_le (show xs.length ≤ a by omega)]
    simp
theorem cutD_to {α : Type} {xs : List α} {b : Nat} : cutD xs none (some (b : Int)) = xs.take b := by
  unfold cutD
  rw [HT.sIx_nat, HT.sIx_none, List.drop_zero, Nat.sub_zero]
  by_cases h : b ≤ xs.length
  · rw [Nat.min_eq_left h]
  · rw [Nat.min_eq_right (by omega), List.take_of_length_le (Nat.le_refl _), List.take_of_length_le (by omega)]
theorem str_cut {x : Str} {j : Nat} (h : j < x.cps.toList.length) : cutD x.cps.toList (some (j : Int)) (some ((j : Int) + 1)) = [x.cps.toList[j]] := by
  have e : ((j : Int) + 1) = ((j + 1 : Nat) : Int) := by omega
  rw [e, cutD_nat, List.drop_eq_getElem_cons h]
  simp
theorem dEq_nil {o o' : Bool} : dEq (.lst o []) (.lst o' []) = some true := rfl
theorem same_self {G : Tab} {c : Nat} {f : Fn} (hk : G.fns[c]? = some f) (hb : f.body = sameB c) (hp : f.ps.length = 2) (hN : f.N.length = 3) (hi : f.io = [false, false]) :
    ∀ (n : Nat) (d : D), d.sm = true → d.dep < n → callF G n c [d, d] = .ok (.bl true) []
  | 0, _, _, l => absurd l (by omega)
  | n + 1, d, hs, l => by
    rw [callF_succ, hk]
    show runBody G (callF G n) f [d, d] = _
    rw [runBody_eq, hb, hN, hi, hp]
    cases d with
    | non => simp [sameB, iosOf, tyN, isT]
    | bl b => cases b <;> simp [sameB, iosOf, tyN, isT, dEq_bl]
    | int i => simp [sameB, iosOf, tyN, isT, dEq_int]
    | str x =>
      have q : PyData.strOk x = true ∧ x.length ≤ 100000 := by simpa [D.sm] using hs
      have ql : (x.length : Int) ≤ 100000 := by omega
      have ql' : x.length ≤ 1000000 := by omega
      have e : loopC (lcW G (callF G n) (.nm 2) sameQs (.var 2)) (rngD 0 x.length) [] [some (.str x), some (.str x), none] = .ok [] [some (.str x), some (.str x), none] := by
        refine loopC_none (fun y hy => ?_) (by rw [rngD_length]; unfold big; omega)
        obtain ⟨k, rfl, k0, k1⟩ := rngD_mem hy
        obtain ⟨j, rfl⟩ : ∃ j : Nat, k = j := ⟨k.toNat, by omega⟩
        have hj : j < x.cps.toList.length := by
          have : x.length = x.cps.toList.length := by simp [Str.length]
          omega
        have hc := str_cut hj
        have hok : PyData.strOk (⟨#[x.cps.toList[j]]⟩ : Str) = true := by
          have z := q.1
          unfold PyData.strOk at z ⊢
          rw [← Array.all_toList] at z ⊢
          rw [List.all_eq_true] at z ⊢
          intro w hw
          have : w = x.cps.toList[j] := by simpa using hw
          rw [this]
          exact z _ (List.getElem_mem hj)
        have hd : dEq (.str ⟨#[x.cps.toList[j]]⟩) (.str ⟨#[x.cps.toList[j]]⟩) = some true := by
          have nb : (D.str ⟨#[x.cps.toList[j]]⟩).nb = true := by simpa [D.nb, PyData.canLay0] using hok
          rw [dEq_nb nb nb (by simp [D.dep]) (by simp [D.dep])]
          simp
        simp [lcW_eq, sameQs, atI_nat hj, ql', hc, hd, -Array.getElem_toList, -Array.length_toList]
      simp [sameB, dEq_bl, dEq_int, ql, ql', e, dEq_nil]
    | tup ds =>
      have q : ds.length ≤ 100000 ∧ D.sms ds = true := by simpa [D.sm] using hs
      have hd : D.deps ds < n := by simp [D.dep] at l; exact l
      have e := same_items (G := G) (n := n) (c := c) (ds := ds) (a := .tup ds) (.inl rfl) f hk hi q.2 q.1 (fun d hd' => same_self hk hb hp hN hi n d (D.sms_mem q.2 hd') (by have := D.deps_mem hd'; omega))
      have ql : (ds.length : Int) ≤ 100000 := by omega
      simp [sameB, dEq_bl, dEq_int, ql, e, D.sms_pure ds q.2, dEq_nil]
    | lst o ds =>
      have q : (o = false ∧ ds.length ≤ 100000) ∧ D.sms ds = true := by simpa [D.sm] using hs
      obtain ⟨⟨rfl, q1⟩, q2⟩ := q
      have hd : D.deps ds < n := by simp [D.dep] at l; exact l
      have e := same_items (G := G) (n := n) (c := c) (ds := ds) (a := .lst false ds) (.inr rfl) f hk hi q2 q1 (fun d hd' => same_self hk hb hp hN hi n d (D.sms_mem q2 hd') (by have := D.deps_mem hd'; omega))
      have ql : (ds.length : Int) ≤ 100000 := by omega
      simp [sameB, dEq_bl, dEq_int, ql, e, D.sms_pure ds q2, dEq_nil]
    | dct o ks vs => simp [D.sm] at hs
    | scr ns => simp [D.sm] at hs

/-- a draw -/
def TakeOk (G : Tab) (k : Nat) : Prop := ∀ (n c : Nat) (box : D) (many : Int), 1 ≤ n → c < 100000 → 1 ≤ many → many < 1000000 → BoxOk c box →
  ∃ (j : Int) (box' : D), callF G n k [box, .int many] = .ok (.int j) [some box'] ∧ 0 ≤ j ∧ j < many ∧ BoxOk (c + 1) box'
theorem take_ok {G : Tab} {k : Nat} {f : Fn} (hk : G.fns[k]? = some f) (hb : f.body = takeB) (hp : f.ps.length = 2) (hN : f.N.length = 4) (hi : f.io = [true, false]) : TakeOk G k := by
  intro n c box many hn hc h1 h2 h
  obtain ⟨m, rfl⟩ : ∃ m, n = m + 1 := ⟨n - 1, by omega⟩
  obtain ⟨j, box', e, h⟩ := run_take (G := G) (call := callF G m) hb hp hN hi hc h1 h2 h
  exact ⟨j, box', by rw [callF_succ, hk]; exact e, h⟩
theorem ixN_nat {n k : Nat} (h : k < n) : ixN n (k : Int) = some k := by
  unfold ixN; simp [h]
theorem rngD_zero {m : Nat} : rngD 0 (m : Int) = ((List.range m).map Int.ofNat).map D.int := by
  rw [rngD_ints]; simp
/-- numbers below m, each once, in a drawn order -/
def MixOk (G : Tab) (k : Nat) : Prop := ∀ (n c : Nat) (box : D) (m : Nat), 2 ≤ n → m ≤ 1000 → c + m < 100000 → BoxOk c box →
  ∃ (ns : List Int) (box' : D), callF G n k [box, .int m] = .ok (.lst true (ns.map .int)) [some box'] ∧ ns.Perm ((List.range m).map Int.ofNat) ∧ BoxOk (c + m) box'
theorem eraseIdx_map' {α β : Type} {f : α → β} : ∀ (l : List α) (i : Nat), (l.map f).eraseIdx i = (l.eraseIdx i).map f
  | [], _ => by simp
  | x :: l, 0 => by simp
  | x :: l, i + 1 => by simp [eraseIdx_map' l i]
theorem perm_eraseIdx {α : Type} : ∀ {l : List α} {i : Nat} (h : i < l.length), (l[i] :: l.eraseIdx i).Perm l
  | x :: l, 0, _ => by simp
  | x :: l, i + 1, h => by
    have q := perm_eraseIdx (l := l) (i := i) (by simpa using h)
    simp only [List.getElem_cons_succ, List.eraseIdx_cons_succ]
    exact (List.Perm.swap _ _ _).trans (q.cons x)
theorem mixed_ok {G : Tab} {k ct : Nat} {f ft : Fn} (hk : G.fns[k]? = some f) (hb : f.body = mixedB ct) (hp : f.ps.length = 2) (hN : f.N.length = 4) (hi : f.io = [true, false]) (ht : TakeOk G ct) (hkt : G.fns[ct]? = some ft) (hit : ft.io = [true, false]) : MixOk G k := by
  intro n c box m hn hm hc h
  obtain ⟨n, rfl⟩ : ∃ k, n = k + 1 := ⟨n - 1, by omega⟩
  rw [callF_succ, hk]
  show ∃ ns box', runBody G (callF G n) f [box, .int m] = _ ∧ _
  rw [runBody_eq, hb, hN, hi, hp]
  have key := whileN_go (t := evB G (callF G n) mixedT) (b := run G (callF G n) (mixedW ct))
    (fun s : List Int × List Int × D => [some s.2.2, some (.int m), some (.lst true (s.1.map .int)), some (.lst true (s.2.1.map .int))])
    (fun s => (s.2.1 ++ s.1).Perm ((List.range m).map Int.ofNat) ∧ BoxOk (c + s.2.1.length) s.2.2)
    (fun s => !decide (s.1 = []))
    (fun s => s.1.length)
    (fun o => ∃ (ns : List Int) (box' : D), o = .nx [some box', some (.int m), some (.lst true []), some (.lst true (ns.map .int))] ∧ ns.Perm ((List.range m).map Int.ofNat) ∧ BoxOk (c + m) box')
    ?_ ?_ ?_ fuel ((List.range m).map Int.ofNat, [], box) ⟨by simp, by simpa using h⟩ (by simp; unfold fuel; omega)
  · obtain ⟨ns, box', e, p, q⟩ := key
    refine ⟨ns, box', ?_, p, q⟩
    have hm' : (m : Int) ≤ 100000 := by omega
    have hm2 : (-100000 : Int) ≤ m := by omega
    simp [mixedB, hm', hm2, rngD_zero, List.replicate]
    simp at e
    simp [e, h.pure]
  · rintro ⟨left, found, b⟩ ⟨p, q⟩
    by_cases e : left = [] <;> simp [mixedT, e]
  · rintro ⟨left, found, b⟩ ⟨p, q⟩ e
    have : left = [] := by simpa using e
    subst this
    have hl := p.length_eq
    simp at p hl q
    exact ⟨found, b, rfl, p, by rw [hl] at q; exact q⟩
  · rintro ⟨left, found, b⟩ ⟨p, q⟩ e
    have hl := p.length_eq
    have hz : 0 < left.length := List.length_pos_iff.mpr (by simpa using e)
    simp at hl p q
    obtain ⟨j, b', e, j0, j1, q'⟩ := ht n _ b left.length (by omega) (by omega) (by omega) (by omega) q
    obtain ⟨i, rfl⟩ : ∃ i : Nat, j = i := ⟨j.toNat, by omega⟩
    have hi : i < left.length := by omega
    have hbig : left.length ≤ 1000000 := by omega
    have hbig' : found.length < 1000000 := by omega
    have hx : ixN left.length (i : Int) = some i := ixN_nat hi
    have hpop : popD (left.map .int) [.int i] = some (.int left[i], (left.eraseIdx i).map .int) := by
      simp [popD, hx, hi, hbig, eraseIdx_map']
    simp [mixedW, hkt, hit, e, hpop, hbig', q'.own, q.pure]
    refine ⟨left.eraseIdx i, found ++ [left[i]], b', ⟨rfl, rfl, ?_⟩, ⟨?_, ?_⟩, ?_⟩
    · simp
    · refine List.Perm.trans ?_ p
      have := perm_eraseIdx (l := left) hi
      simpa using (List.Perm.append_left found this)
    · have : c + (found ++ [left[i]]).length = c + found.length + 1 := by simp; omega
      rw [this]; exact q'
    · simp [List.length_eraseIdx, hi]; omega

theorem dEq_lnil {o o' : Bool} {xs : List D} (h : D.nbs xs = true) (hd : D.deps xs ≤ 63) : dEq (.lst o xs) (.lst o' []) = some (decide (xs = [])) := by
  rw [dEq_nb (by simpa using h) (by simp) (by simp; omega) (by simp)]
  cases xs <;> simp
@[simp] theorem popD_last {xs : List D} {d : D} : popD (xs ++ [d]) [] = if d.pure then some (d, xs) else none := by
  simp [popD]
@[simp] theorem lset_nodup {o : Bool} {ns : List Int} (h : ns.Nodup) (l : ns.length < 64) : runBl .lset [.lst o (ns.map .int)] = some (.int ns.length) := by
  rw [runBl_lset_ints, if_pos (by simpa using l), RZ.firstMet_nodup h _ (Nat.le_refl _)]
  simp
@[simp] theorem lset_nodupT {ns : List Int} (h : ns.Nodup) (l : ns.length < 64) : runBl .lset [.tup (ns.map .int)] = some (.int ns.length) := by
  rw [runBl_lset_intsT, if_pos (by simpa using l), RZ.firstMet_nodup h _ (Nat.le_refl _)]
  simp
@[simp] theorem atI_zero {α : Type} {x : α} {xs : List α} : atI (x :: xs) 0 = some x := by
  have := atI_nat (xs := x :: xs) (k := 0) (by simp)
  simpa using this
@[simp] theorem atI_one {α : Type} {x y : α} {xs : List α} : atI (x :: y :: xs) 1 = some y := by
  have := atI_nat (xs := x :: y :: xs) (k := 1) (by simp)
  simpa using this
@[simp] theorem atI_two {α : Type} {x y z : α} {xs : List α} : atI (x :: y :: z :: xs) 2 = some z := by
  have := atI_nat (xs := x :: y :: z :: xs) (k := 2) (by simp)
  simpa using this
@[simp] theorem atI_three {α : Type} {x y z u : α} {xs : List α} : atI (x :: y :: z :: u :: xs) 3 = some u := by
  have := atI_nat (xs := x :: y :: z :: u :: xs) (k := 3) (by simp)
  simpa using this

@[simp] theorem dBls_map {α : Type} {xs : List α} {g : α → Bool} : dBls (xs.map fun x => .bl (g x)) = some (xs.map g) := by
  induction xs with
  | nil => rfl
  | cons x xs ih => simp [dBls, ih]
@[simp] theorem dBls_const {α : Type} {xs : List α} {b : Bool} : dBls (xs.map fun _ => .bl b) = some (xs.map fun _ => b) := dBls_map

theorem in_ints {x : Int} {xs : List Int} : (xs.map D.int).any (fun y => eqFlat y (.int x)) = decide (x ∈ xs) := by
  induction xs with
  | nil => simp
  | cons y ys ih =>
    rw [List.map_cons, List.any_cons, ih]
    by_cases h : y = x
    · simp [eqFlat, h]
    · simp [eqFlat, h, Ne.symm h, show ¬ x = y from fun q => h q.symm]
theorem flat_ints {xs : List Int} : (xs.map D.int).all isFlat = true := by simp
@[simp high] theorem run2_in_ints {o : Bool} {x : Int} {xs : List Int} : run2 .in_ (.int x) (.lst o (xs.map .int)) = some (.bl (decide (x ∈ xs))) := by
  rw [run2_in_1, in_ints, flat_ints]; rfl
@[simp high] theorem run2_in_intsT {x : Int} {xs : List Int} : run2 .in_ (.int x) (.tup (xs.map .int)) = some (.bl (decide (x ∈ xs))) := by
  rw [run2_in_2, in_ints, flat_ints]; rfl
@[simp high] theorem run2_nin_ints {o : Bool} {x : Int} {xs : List Int} : run2 .nin (.int x) (.lst o (xs.map .int)) = some (.bl (!decide (x ∈ xs))) := by
  rw [run2_nin1, in_ints, flat_ints]; rfl
@[simp high] theorem run2_nin_intsT {x : Int} {xs : List Int} : run2 .nin (.int x) (.tup (xs.map .int)) = some (.bl (!decide (x ∈ xs))) := by
  rw [run2_nin2, in_ints, flat_ints]; rfl
/-- a walk over an own list that stays as it is -/
theorem loopFL_rule {α : Type} {f : D → Ev → Out} (emb : α → Ev) (i : Nat) (xs : List D) (hp : D.pures xs = true) (hi : ∀ s, ((emb s)[i]?).join = some (.lst true xs)) (P : List D → α → Prop) (Q : Out → Prop)
    (h : ∀ x r s, P (x :: r) s → WB (f x (emb s)) (fun δ2 => ∃ s', δ2 = emb s' ∧ P r s') Q) (hn : ∀ s, P [] s → Q (.nx (emb s))) :
    ∀ (n k : Nat) (s : α), P (xs.drop k) s → k ≤ xs.length → xs.length < n + k → Q (loopFL f i n k (emb s))
  | 0, k, s, p, l0, l => absurd l (by omega)
  | n + 1, k, s, p, l0, l => by
    unfold loopFL
    by_cases hk : k < xs.length
    · have e : liveAt (emb s) i k = some (some xs[k]) := by
        have hx : xs[k].pure = true := by
          have : ∀ (ys : List D), D.pures ys = true → ∀ y ∈ ys, y.pure = true := by
            intro ys
            induction ys with
            | nil => simp
            | cons y ys ih =>
              intro hp z hz
              simp at hp hz
              rcases hz with rfl | hz
              · exact hp.1
              · exact ih hp.2 z hz
          exact this xs hp _ (List.getElem_mem hk)
        simp only [liveAt, hi s, List.getElem?_eq_getElem hk, hx, if_true]
      rw [e]
      rw [List.drop_eq_getElem_cons hk] at p
      have w := h _ _ s p
      simp only
      cases eb : f xs[k] (emb s) with
      | nx δ2 =>
        rw [eb] at w
        obtain ⟨s', rfl, p'⟩ := w
        exact loopFL_rule emb i xs hp hi P Q h hn n (k + 1) s' p' (by omega) (by omega)
      | ct δ2 =>
        rw [eb] at w
        obtain ⟨s', rfl, p'⟩ := w
        exact loopFL_rule emb i xs hp hi P Q h hn n (k + 1) s' p' (by omega) (by omega)
      | brk δ2 => rw [eb] at w; exact w
      | ret d δ2 => rw [eb] at w; exact w
      | err k g δ2 => rw [eb] at w; exact w
      | stuck => rw [eb] at w; exact w.elim
    · have e : liveAt (emb s) i k = some none := by
        simp only [liveAt, hi s, List.getElem?_eq_none (show xs.length ≤ k by omega)]
      rw [e]
      rw [List.drop_eq_nil_of_le (by omega)] at p
      exact hn s p

@[simp] theorem handle_hd {G : Tab} {c ch : Nat} {o : Option Nat} {e : E} {r : S} {g : List D} {δ : Ev} : handle G c g δ (.hd ch o (.ret e) r) = wif (decide (ch < G.xcs.length ∧ asIn δ o)) (wif (subX G c ch) (wO (evH (if c = ch then g else []) (asOff δ o) e) fun d => .ret d (asOff δ o)) (handle G c g δ r)) .stuck := by
  rw [handle]
  by_cases h : ch < G.xcs.length ∧ asIn δ o
  · rw [if_pos h, decide_eq_true h, wif_t]
    cases subX G c ch with
    | false => rfl
    | true =>
      simp only [if_true, wif_t]
      cases evH (if c = ch then g else []) (asOff δ o) e <;> rfl
  · rw [if_neg h, decide_eq_false h, wif_f]
@[simp] theorem handle_nop {G : Tab} {c : Nat} {g : List D} {δ : Ev} : handle G c g δ .nop = .err c g δ := by
  rw [handle]
@[simp] theorem asIn_some {δ : Ev} {i : Nat} : asIn δ (some i) = (i < δ.length) := rfl
@[simp] theorem asIn_none {δ : Ev} : asIn δ none = True := rfl
@[simp] theorem asOff_some {δ : Ev} {i : Nat} : asOff δ (some i) = δ.set i none := rfl
@[simp] theorem asOff_none {δ : Ev} : asOff δ none = δ := rfl
@[simp] theorem evH_lit {g : List D} {δ : Ev} {c : Lit} : evH g δ (.lit c) = some c.d := by rw [evH]
@[simp] theorem evH_gl {g : List D} {δ : Ev} {n : Nat} : evH g δ (.gl n) = g[n]? := by rw [evH]
@[simp] theorem evH_tup {g : List D} {δ : Ev} {es : E} : evH g δ (.tup es) = (evH.evHs g δ es).bind fun ds => if ds.length ≤ big then some (.tup ds) else none := by
  rw [evH]; cases evH.evHs g δ es <;> rfl
@[simp] theorem evHs_nil {g : List D} {δ : Ev} : evH.evHs g δ .nil = some [] := by rw [evH.evHs]
@[simp] theorem evHs_cons {g : List D} {δ : Ev} {e es : E} : evH.evHs g δ (.cons e es) = (evH g δ e).bind fun d => (evH.evHs g δ es).map (d :: ·) := by
  rw [evH.evHs]; cases evH g δ e <;> cases evH.evHs g δ es <;> rfl
@[simp] theorem pickAt_nil {α : Type} {xs : List α} : pickAt xs [] = some [] := rfl
@[simp] theorem pickAt_cons {α : Type} {xs : List α} {k : Nat} {ks : List Nat} : pickAt xs (k :: ks) = (xs[k]?).bind fun x => (pickAt xs ks).map (x :: ·) := by
  rw [pickAt]; cases xs[k]? <;> cases pickAt xs ks <;> rfl
@[simp] theorem loopC_nil {f : D → Ev → R (Option D)} {acc : List D} {δ : Ev} : loopC f [] acc δ = .ok acc δ := rfl
theorem loopC_cons {f : D → Ev → R (Option D)} {x : D} {xs acc : List D} {δ : Ev} : loopC f (x :: xs) acc δ = (f x δ).bnd fun o δ' => wif (decide (acc.length < big)) (loopC f xs (match o with | some d => acc ++ [d] | none => acc) δ') .stuck := by
  rw [loopC]
  congr
  funext o δ'
  by_cases h : acc.length < big
  · rw [if_pos h, decide_eq_true h, wif_t] <;> rfl
  · rw [if_neg h, decide_eq_false h, wif_f]
theorem atI_last {α : Type} {xs : List α} : atI xs (-1) = xs.getLast? := by
  unfold atI ixN
  cases xs with
  | nil => simp
  | cons x xs =>
    have : (-1 : Int) + ((xs.length : Int) + 1) = xs.length := by omega
    have h2 : (1 : Int) ≤ (xs.length : Int) + 1 := by omega
    simp [this, List.getLast?_eq_getElem?, h2]

theorem loopC_intsL {f : D → Ev → R (Option D)} {δ : Ev} (g : Int → Int) {xs : List Int} (h : ∀ k ∈ xs, f (.int k) δ = .ok (some (.int (g k))) δ) (hl : xs.length ≤ 100000) : loopC f (xs.map .int) [] δ = .ok ((xs.map g).map .int) δ := by
  have q := loopC_map (f := f) (δ := δ) (xs := xs.map D.int) (fun x => match x with | .int k => .int (g k) | x => x) (fun x hx => by
    obtain ⟨k, hk, rfl⟩ := List.mem_map.mp hx
    exact h k hk) (by simp; omega)
  rw [q]
  simp
theorem loopC_ints {f : D → Ev → R (Option D)} {δ : Ev} (g : Int → Int) {a b : Int} (h : ∀ k, a ≤ k → k < b → f (.int k) δ = .ok (some (.int (g k))) δ) (hl : b - a ≤ 100000) : loopC f (rngD a b) [] δ = .ok (((List.range (b - a).toNat).map fun (k : Nat) => g (a + k)).map .int) δ := by
  rw [rngD_ints, loopC_intsL g (fun k hk => by
    obtain ⟨j, hj, rfl⟩ := List.mem_map.mp hk
    rw [List.mem_range] at hj
    exact h _ (by omega) (by omega)) (by simp; omega)]
  simp
end IR
namespace IR
open PySem PySem.Spec L2
/-! ### more of loops, sorting -/
theorem pures_mem {ys : List D} (h : D.pures ys = true) : ∀ y ∈ ys, y.pure = true := by
  induction ys with
  | nil => simp
  | cons y ys ih =>
    intro z hz
    simp at h hz
    rcases hz with rfl | hz
    · exact h.1
    · exact ih h.2 z hz
theorem loopCL_opt {f : D → Ev → R (Option D)} {δ : Ev} (g : D → Option D) {i : Nat} {o : Bool} {xs : List D} (hi : (δ[i]?).join = some (.lst o xs)) (hp : D.pures xs = true) (h : ∀ x ∈ xs, f x δ = .ok (g x) δ) :
    ∀ (n k : Nat) (acc : List D), k ≤ xs.length → xs.length < n + k → acc.length + (xs.length - k) ≤ big → loopCL f i n k acc δ = .ok (acc ++ (xs.drop k).filterMap g) δ
  | 0, k, acc, _, l, _ => absurd l (by omega)
  | n + 1, k, acc, l0, l, hb => by
    unfold loopCL
    by_cases hk : k < xs.length
    · have e : liveAt δ i k = some (some xs[k]) := by
        simp only [liveAt, hi, List.getElem?_eq_getElem hk, pures_mem hp _ (List.getElem_mem hk), if_true]
      rw [e]
      simp only
      rw [h _ (List.getElem_mem hk), R.bind_ok, if_pos (by omega), List.drop_eq_getElem_cons hk]
      cases eg : g xs[k] with
      | none =>
        simp only
        rw [loopCL_opt g hi hp h n (k + 1) acc (by omega) (by omega) (by omega), List.filterMap_cons_none eg]
      | some d =>
        simp only
        rw [loopCL_opt g hi hp h n (k + 1) (acc ++ [d]) (by omega) (by omega) (by rw [List.length_append, List.length_singleton]; omega), List.filterMap_cons_some eg]
        simp
    · have e : liveAt δ i k = some none := by
        simp only [liveAt, hi, List.getElem?_eq_none (show xs.length ≤ k by omega)]
      rw [e, List.drop_eq_nil_of_le (by omega)]
      simp
theorem loopCL_ints {f : D → Ev → R (Option D)} {δ : Ev} (g : Int → Int) (q : Int → Bool) {i : Nat} {o : Bool} {xs : List Int} (hi : (δ[i]?).join = some (.lst o (xs.map .int)))
    (h : ∀ x ∈ xs, f (.int x) δ = .ok (if q x then some (.int (g x)) else none) δ) (hl : xs.length ≤ 1000) :
    loopCL f i fuel 0 [] δ = .ok (((xs.filter q).map g).map .int) δ := by
  rw [loopCL_opt (fun d => match d with | .int x => if q x then some (.int (g x)) else none | _ => none) hi D.pures_ints (fun x hx => by
    obtain ⟨k, hk, rfl⟩ := List.mem_map.mp hx
    exact h k hk) fuel 0 [] (by simp) (by simp [fuel]; omega) (by simp; omega)]
  simp only [List.nil_append, List.drop_zero]
  congr 1
  clear hi h hl
  induction xs with
  | nil => rfl
  | cons x xs ih =>
    rw [List.map_cons, List.filter_cons]
    cases e : q x with
    | false => rw [List.filterMap_cons_none (by simp [e]), ih]; rfl
    | true => rw [List.filterMap_cons_some (b := .int (g x)) (by simp [e]), ih]; rfl
theorem insI_pm (x : Int) : ∀ ys : List Int, (insI x ys).Perm (x :: ys)
  | [] => .refl _
  | y :: r => by
    unfold insI
    split
    · exact .refl _
    · exact ((insI_pm x r).cons y).trans (.swap _ _ _)
theorem sortI_pm : ∀ xs : List Int, (sortI xs).Perm xs
  | [] => .refl _
  | x :: r => (insI_pm x (sortI r)).trans ((sortI_pm r).cons x)
theorem insI_st (x : Int) : ∀ ys : List Int, ys.Pairwise (· ≤ ·) → (insI x ys).Pairwise (· ≤ ·)
  | [], _ => by simp [insI]
  | y :: r, h => by
    unfold insI
    have h' := List.pairwise_cons.mp h
    split
    · rename_i c
      refine List.pairwise_cons.mpr ⟨fun z hz => ?_, h⟩
      rcases List.mem_cons.mp hz with rfl | hz
      · exact c
      · have := h'.1 z hz; omega
    · refine List.pairwise_cons.mpr ⟨fun z hz => ?_, insI_st x r h'.2⟩
      rcases List.mem_cons.mp ((insI_pm x r).mem_iff.mp hz) with rfl | hz
      · omega
      · exact h'.1 z hz
theorem sortI_st : ∀ xs : List Int, (sortI xs).Pairwise (· ≤ ·)
  | [] => .nil
  | x :: r => insI_st x _ (sortI_st r)
theorem sorted_uniq : ∀ {xs ys : List Int}, xs.Perm ys → xs.Pairwise (· ≤ ·) → ys.Pairwise (· ≤ ·) → xs = ys
  | [], ys, p, _, _ => by rw [p.symm.eq_nil]
  | x :: xs, [], p, _, _ => absurd p.eq_nil (by simp)
  | x :: xs, y :: ys, p, hx, hy => by
    rw [List.pairwise_cons] at hx hy
    have e : x = y := by
      have h1 := p.mem_iff (a := x)
      have h2 := p.mem_iff (a := y)
      simp at h1 h2
      rcases h1 with h1 | h1
      · exact h1
      · rcases h2 with h2 | h2
        · exact h2.symm
        · have := hx.1 y h2; have := hy.1 x h1; omega
    subst e
    rw [sorted_uniq p.cons_inv hx.2 hy.2]
theorem sortI_eq {xs ys : List Int} (p : xs.Perm ys) (h : ys.Pairwise (· ≤ ·)) : sortI xs = ys := sorted_uniq ((sortI_pm xs).trans p) (sortI_st xs) h
@[simp] theorem dEq_d0 {a : D} {o : Bool} {vs : List D} : dEq a (.dct o [] vs) = dEq0 a := rfl
end IR
namespace IR
open PySem PySem.Spec L2
/-- a text -/
def S_ (x : String) : D := .str (Str.ofString x)
@[simp] theorem S_pure {x : String} : (S_ x).pure = true := rfl
@[simp] theorem S_fz {x : String} : (S_ x).fz = S_ x := rfl
@[simp] theorem S_own {x : String} : (S_ x).own = true := rfl
@[simp] theorem S_def {x : String} : D.str (Str.ofString x) = S_ x := rfl
@[simp] theorem S_dep {x : String} : (S_ x).dep = 0 := rfl
@[simp] theorem S_ty {x : String} : tyN (S_ x) = "str" := rfl
@[simp] theorem S_d0 {x : String} : isD0 (S_ x) = false := rfl
@[simp] theorem sm_int {i : Int} : D.sm (.int i) = true := rfl
@[simp] theorem sm_non : D.sm .non = true := rfl
@[simp] theorem sm_bl {b : Bool} : D.sm (.bl b) = true := rfl
@[simp] theorem sm_tup {xs : List D} : D.sm (.tup xs) = (decide (xs.length ≤ 100000) && D.sms xs) := by rw [D.sm]
@[simp] theorem sm_lst {o : Bool} {xs : List D} : D.sm (.lst o xs) = (!o && decide (xs.length ≤ 100000) && D.sms xs) := by rw [D.sm]
@[simp] theorem sms_nil : D.sms [] = true := rfl
@[simp] theorem sms_cons {x : D} {xs : List D} : D.sms (x :: xs) = (x.sm && D.sms xs) := by rw [D.sms]
theorem sms_all : ∀ xs : List D, (∀ x ∈ xs, x.sm = true) → D.sms xs = true
  | [], _ => rfl
  | x :: xs, h => by rw [D.sms, h x (by simp), sms_all xs (fun y hy => h y (by simp [hy]))]; rfl
@[simp] theorem sms_ints {ns : List Int} : D.sms (ns.map .int) = true := sms_all _ (by simp)
/-- a row of calls -/
theorem calls_row {G : Tab} {call : Calls} {e : E} {i : Nat} {δ : Ev} {res : Nat → D} {ks : List Nat} (hl : ks.length ≤ 1000)
    (he : ∀ k : Nat, k ∈ ks → lcW G call (.nm i) .nil e (.int k) δ = .ok (some (res k)) δ) :
    loopC (lcW G call (.nm i) .nil e) (ks.map fun k : Nat => D.int k) [] δ = .ok (ks.map res) δ := by
  have q := loopC_map (f := lcW G call (.nm i) .nil e) (δ := δ) (xs := ks.map fun k : Nat => D.int k) (fun d => match d with | .int k => res k.toNat | d => d) (fun d hd => by
    obtain ⟨k, hk, rfl⟩ := List.mem_map.mp hd
    exact he k hk) (by simp; omega)
  rw [q, List.map_map]
  rfl
theorem rng6 : rngD 0 6 = [.int 0, .int 1, .int 2, .int 3, .int 4, .int 5] := rfl
theorem rng2 : rngD 0 2 = [.int 0, .int 1] := rfl
theorem ino_row {ns : List Int} {t : List Int} (p : t.Perm ns) (h : t.Pairwise (· < ·)) : sortI ns = t := sortI_eq p.symm (h.imp fun h => by omega)
end IR
set_option maxHeartbeats 0
namespace IR.k27
open PySem PySem.Spec L2
/-! printed by mkir.py of the sliced program -/
def b_is_integer : S := (.seq (.ret (.and (.isi true ["int"] (.var 0)) (.not (.isi true ["bool"] (.var 0)))))
 .nop)
def f_is_integer : Fn := { name := (Str.ofString "is_integer"), ps := [(Str.ofString "value")], N := [(Str.ofString "value")], io := [false], body := b_is_integer }
def b_is_between : S := (.seq (.ret (.and (.call 0 (.cons (.var 0) .nil)) (.chn .le .le (.var 1) (.var 0) (.var 2))))
 .nop)
def f_is_between : Fn := { name := (Str.ofString "is_between"), ps := [(Str.ofString "value"), (Str.ofString "least"), (Str.ofString "most")], N := [(Str.ofString "value"), (Str.ofString "least"), (Str.ofString "most")], io := [false, false, false], body := b_is_between }
def e_is_rising_1 : E := (.op2 .lt (.op2 .idx (.var 0) (.var 1)) (.op2 .idx (.var 0) (.op2 .add (.var 1) (.lit (.int 1)))))
def b_is_rising : S := (.seq (.ret (.bl .all (.cons (.lc (.nm 1) .rng (.cons (.op2 .sub (.bl .len (.cons (.var 0) .nil)) (.lit (.int 1))) .nil) .nil e_is_rising_1) .nil)))
 .nop)
def f_is_rising : Fn := { name := (Str.ofString "is_rising"), ps := [(Str.ofString "items")], N := [(Str.ofString "items"), (Str.ofString "at")], io := [false], body := b_is_rising }
def t_depth_of_1 : E := (.op2 .le (.bl .len (.cons (.var 1) .nil)) (.gl 0))
def e_depth_of_1 : E := (.isi true ["tuple"] (.var 3))
def e_depth_of_2 : E := (.and (.op2 .eq (.bl .len (.cons (.var 3) .nil)) (.lit (.int 1))) (.call 0 (.cons (.op2 .idx (.var 3) (.lit (.int 0))) .nil)))
@[simp] def c_depth_of_1 : E := (.bl .all (.cons (.lc (.nm 3) .e (.cons (.var 1) .nil) .nil e_depth_of_2) .nil))
def e_depth_of_3 : E := (.chn .le .le (.lit (.int 2)) (.bl .len (.cons (.var 3) .nil)) (.lit (.int 3)))
def e_depth_of_4 : E := (.var 4)
@[simp] def w_depth_of_1__3 : S := (.seq (.unp (.cons (.var 1) (.cons (.var 2) .nil)) (.tup (.cons (.lc2 (.nm 3) .e (.cons (.frz (.var 1)) .nil) .nil (.nm 4) .e (.cons (.frz (.var 3)) .nil) .nil e_depth_of_4) (.cons (.op2 .add (.var 2) (.lit (.int 1))) .nil))))
 .nop)
@[simp] def w_depth_of_1__2 : S := (.seq (.iff (.not (.bl .all (.cons (.lc (.nm 3) .e (.cons (.var 1) .nil) .nil e_depth_of_3) .nil)))
 (.seq (.ret (.lit .non))
 .nop)
 .nop)
 w_depth_of_1__3)
@[simp] def w_depth_of_1__1 : S := (.seq (.iff c_depth_of_1
 (.seq (.ret (.var 2))
 .nop)
 .nop)
 w_depth_of_1__2)
def w_depth_of_1 : S := (.seq (.iff (.not (.bl .all (.cons (.lc (.nm 3) .e (.cons (.var 1) .nil) .nil e_depth_of_1) .nil)))
 (.seq (.ret (.lit .non))
 .nop)
 .nop)
 w_depth_of_1__1)
@[simp] def b_depth_of_2 : S := (.seq (.ret (.lit .non))
 .nop)
@[simp] def b_depth_of_1 : S := (.seq (.whl t_depth_of_1
 w_depth_of_1)
 b_depth_of_2)
def b_depth_of : S := (.seq (.unp (.cons (.var 1) (.cons (.var 2) .nil)) (.tup (.cons (.lst (.cons (.var 0) .nil)) (.cons (.lit (.int 0)) .nil))))
 b_depth_of_1)
def f_depth_of : Fn := { name := (Str.ofString "depth_of"), ps := [(Str.ofString "value")], N := [(Str.ofString "value"), (Str.ofString "row"), (Str.ofString "depth"), (Str.ofString "part"), (Str.ofString "child")], io := [false], body := b_depth_of }
def t_items_in_1 : E := (.op2 .gt (.bl .len (.cons (.op2 .idx (.var 1) (.lit (.int 0))) .nil)) (.lit (.int 1)))
def e_items_in_1 : E := (.var 3)
def w_items_in_1 : S := (.seq (.set 1 (.lc2 (.nm 2) .e (.cons (.frz (.var 1)) .nil) .nil (.nm 3) .e (.cons (.frz (.var 2)) .nil) .nil e_items_in_1))
 .nop)
def e_items_in_2 : E := (.op2 .idx (.var 2) (.lit (.int 0)))
@[simp] def b_items_in_2 : S := (.seq (.ret (.lc (.nm 2) .e (.cons (.var 1) .nil) .nil e_items_in_2))
 .nop)
@[simp] def b_items_in_1 : S := (.seq (.whl t_items_in_1
 w_items_in_1)
 b_items_in_2)
def b_items_in : S := (.seq (.set 1 (.lst (.cons (.var 0) .nil)))
 b_items_in_1)
def f_items_in : Fn := { name := (Str.ofString "items_in"), ps := [(Str.ofString "tree")], N := [(Str.ofString "tree"), (Str.ofString "row"), (Str.ofString "part"), (Str.ofString "child")], io := [false], body := b_items_in }
def b_is_two_three : S := (.seq (.ret (.and (.op2 .isN (.call 3 (.cons (.var 0) .nil)) (.lit .non)) (.call 2 (.cons (.call 4 (.cons (.var 0) .nil)) .nil))))
 .nop)
def f_is_two_three : Fn := { name := (Str.ofString "is_two_three"), ps := [(Str.ofString "value")], N := [(Str.ofString "value")], io := [false], body := b_is_two_three }
def b_check_tree : S := (.seq (.iff (.not (.call 5 (.cons (.var 0) .nil)))
 (.seq (.rais 4 (.cons (.var 0) .nil))
 .nop)
 .nop)
 .nop)
def f_check_tree : Fn := { name := (Str.ofString "check_tree"), ps := [(Str.ofString "tree")], N := [(Str.ofString "tree")], io := [false], body := b_check_tree }
@[simp] def b_items_of_1 : S := (.seq (.ret (.bl .tuple (.cons (.call 4 (.cons (.var 0) .nil)) .nil)))
 .nop)
def b_items_of : S := (.seq (.exp (.call 6 (.cons (.var 0) .nil)))
 b_items_of_1)
def f_items_of : Fn := { name := (Str.ofString "items_of"), ps := [(Str.ofString "tree")], N := [(Str.ofString "tree")], io := [false], body := b_items_of }
def e_grown_parts_1 : E := (.tup (.cons (.var 2) .nil))
def q_grown_parts_1 : E := (.cons (.op2 .gt (.op2 .idx (.frz (.call 4 (.cons (.var 5) .nil))) (.op1 .neg (.lit (.int 1)))) (.var 1)) .nil)
def e_grown_parts_2 : E := (.var 4)
@[simp] def b_grown_parts_4 : S := (.seq (.ret (.ite (.op2 .lt (.bl .len (.cons (.var 6) .nil)) (.lit (.int 4))) (.lst (.cons (.bl .tuple (.cons (.var 6) .nil)) .nil)) (.lst (.cons (.bl .tuple (.cons (.slc (.var 6) .nil (.cons (.lit (.int 2)) .nil)) .nil)) (.cons (.bl .tuple (.cons (.slc (.var 6) (.cons (.lit (.int 2)) .nil) .nil) .nil)) .nil)))))
 .nop)
@[simp] def b_grown_parts_3 : S := (.seq (.set 6 (.op2 .add (.op2 .add (.bl .list (.cons (.slc (.var 0) .nil (.cons (.var 4) .nil)) .nil)) (.call 8 (.cons (.op2 .idx (.var 0) (.var 4)) (.cons (.var 1) .nil)))) (.bl .list (.cons (.slc (.var 0) (.cons (.op2 .add (.var 4) (.lit (.int 1))) .nil) .nil) .nil))))
 b_grown_parts_4)
@[simp] def b_grown_parts_2 : S := (.seq (.set 4 (.op2 .idx (.var 3) (.lit (.int 0))))
 b_grown_parts_3)
@[simp] def b_grown_parts_1 : S := (.seq (.set 3 (.op2 .add (.lc (.tp [4, 5]) .enm (.cons (.var 0) .nil) q_grown_parts_1 e_grown_parts_2) (.lst (.cons (.op2 .sub (.bl .len (.cons (.var 0) .nil)) (.lit (.int 1))) .nil))))
 b_grown_parts_2)
def b_grown_parts : S := (.seq (.iff (.op2 .eq (.bl .len (.cons (.var 0) .nil)) (.lit (.int 1)))
 (.seq (.ret (.lc (.nm 2) .e (.cons (.bl .sorted (.cons (.lst (.cons (.op2 .idx (.var 0) (.lit (.int 0))) (.cons (.var 1) .nil))) .nil)) .nil) .nil e_grown_parts_1))
 .nop)
 .nop)
 b_grown_parts_1)
def f_grown_parts : Fn := { name := (Str.ofString "grown_parts"), ps := [(Str.ofString "tree"), (Str.ofString "number")], N := [(Str.ofString "tree"), (Str.ofString "number"), (Str.ofString "one"), (Str.ofString "places"), (Str.ofString "at"), (Str.ofString "part"), (Str.ofString "parts")], io := [false, false], body := b_grown_parts }
@[simp] def b_grown_6 : S := (.seq (.ret (.ite (.op2 .eq (.bl .len (.cons (.var 3) .nil)) (.lit (.int 1))) (.op2 .idx (.var 3) (.lit (.int 0))) (.bl .tuple (.cons (.var 3) .nil))))
 .nop)
@[simp] def b_grown_5 : S := (.seq (.set 3 (.call 8 (.cons (.var 0) (.cons (.var 1) .nil))))
 b_grown_6)
@[simp] def b_grown_4 : S := (.seq (.iff (.op2 .eq (.bl .len (.cons (.var 2) .nil)) (.gl 0))
 (.seq (.rais 3 (.cons (.op2 .add (.bl .len (.cons (.var 2) .nil)) (.lit (.int 1))) .nil))
 .nop)
 .nop)
 b_grown_5)
@[simp] def b_grown_3 : S := (.seq (.iff (.op2 .in_ (.var 1) (.var 2))
 (.seq (.rais 2 (.cons (.var 1) .nil))
 .nop)
 .nop)
 b_grown_4)
@[simp] def b_grown_2 : S := (.seq (.set 2 (.call 4 (.cons (.var 0) .nil)))
 b_grown_3)
@[simp] def b_grown_1 : S := (.seq (.iff (.not (.call 0 (.cons (.var 1) .nil)))
 (.seq (.rais 1 (.cons (.var 1) .nil))
 .nop)
 .nop)
 b_grown_2)
def b_grown : S := (.seq (.exp (.call 6 (.cons (.var 0) .nil)))
 b_grown_1)
def f_grown : Fn := { name := (Str.ofString "grown"), ps := [(Str.ofString "tree"), (Str.ofString "number")], N := [(Str.ofString "tree"), (Str.ofString "number"), (Str.ofString "names"), (Str.ofString "parts")], io := [false, false], body := b_grown }
def t_two_three_count_1 : E := (.op2 .ne (.var 1) .dct0)
@[simp] def w_two_three_count_1__1 : S := (.seq (.set 1 (.call 11 (.cons (.var 1) (.cons (.var 0) .nil))))
 .nop)
def w_two_three_count_1 : S := (.seq (.set 2 (.op2 .add (.var 2) (.dget 1 (.cons (.var 0) (.cons (.lit (.int 0)) .nil)))))
 w_two_three_count_1__1)
@[simp] def b_two_three_count_3 : S := (.seq (.ret (.var 2))
 .nop)
@[simp] def b_two_three_count_2 : S := (.seq (.whl t_two_three_count_1
 w_two_three_count_1)
 b_two_three_count_3)
@[simp] def b_two_three_count_1 : S := (.seq (.unp (.cons (.var 1) (.cons (.var 2) .nil)) (.tup (.cons (.dct1 (.cons (.lit (.int 1)) (.cons (.lit (.int 1)) .nil))) (.cons (.lit (.int 0)) .nil))))
 b_two_three_count_2)
def b_two_three_count : S := (.seq (.iff (.not (.call 1 (.cons (.var 0) (.cons (.lit (.int 1)) (.cons (.gl 1) .nil)))))
 (.seq (.rais 1 (.cons (.var 0) .nil))
 .nop)
 .nop)
 b_two_three_count_1)
def f_two_three_count : Fn := { name := (Str.ofString "two_three_count"), ps := [(Str.ofString "number")], N := [(Str.ofString "number"), (Str.ofString "row"), (Str.ofString "found")], io := [false], body := b_two_three_count }
def w_next_level_2 : S := (.seq (.iff (.op2 .le (.op2 .add (.var 4) (.var 6)) (.var 1))
 (.seq (.sti 3 (.op2 .add (.var 4) (.var 6)) (.op2 .add (.dget 3 (.cons (.op2 .add (.var 4) (.var 6)) (.cons (.lit (.int 0)) .nil))) (.op2 .mul (.var 5) (.var 7))))
 .nop)
 .nop)
 .nop)
def w_next_level_1 : S := (.seq (.forD (.tp [6, 7]) 0
 w_next_level_2)
 .nop)
def w_next_level_4 : S := (.seq (.iff (.op2 .le (.op2 .add (.var 4) (.var 6)) (.var 1))
 (.seq (.sti 2 (.op2 .add (.var 4) (.var 6)) (.op2 .add (.dget 2 (.cons (.op2 .add (.var 4) (.var 6)) (.cons (.lit (.int 0)) .nil))) (.op2 .mul (.var 5) (.var 7))))
 .nop)
 .nop)
 .nop)
def w_next_level_3 : S := (.seq (.forD (.tp [6, 7]) 3
 w_next_level_4)
 .nop)
@[simp] def b_next_level_4 : S := (.seq (.ret (.var 2))
 .nop)
@[simp] def b_next_level_3 : S := (.seq (.forD (.tp [4, 5]) 0
 w_next_level_3)
 b_next_level_4)
@[simp] def b_next_level_2 : S := (.seq (.dupd 2 3)
 b_next_level_3)
@[simp] def b_next_level_1 : S := (.seq (.forD (.tp [4, 5]) 0
 w_next_level_1)
 b_next_level_2)
def b_next_level : S := (.seq (.unp (.cons (.var 2) (.cons (.var 3) .nil)) (.tup (.cons .dct0 (.cons .dct0 .nil))))
 b_next_level_1)
def f_next_level : Fn := { name := (Str.ofString "next_level"), ps := [(Str.ofString "row"), (Str.ofString "most")], N := [(Str.ofString "row"), (Str.ofString "most"), (Str.ofString "further"), (Str.ofString "pairs"), (Str.ofString "one"), (Str.ofString "many"), (Str.ofString "other"), (Str.ofString "number")], io := [false, false], body := b_next_level }
def b__law_cell : S := (.seq (.ret (.ite (.op2 .lt (.var 1) (.bl .len (.cons (.var 0) .nil))) (.op2 .idx (.var 0) (.var 1)) (.op2 .add (.op2 .mul (.lit (.int 9311)) (.var 1)) (.op2 .mod (.bl .int (.cons (.bl .sum (.cons (.slc (.var 0) .nil (.cons (.lit (.int 1)) .nil)) .nil)) .nil)) (.lit (.int 1000003))))))
 .nop)
def f__law_cell : Fn := { name := (Str.ofString "_law_cell"), ps := [(Str.ofString "script"), (Str.ofString "k")], N := [(Str.ofString "script"), (Str.ofString "k")], io := [false, false], body := b__law_cell }
def b__law_box : S := (.seq (.ret (.lst (.cons (.bl .abs (.cons (.var 0) .nil)) (.cons (.op2 .ge (.bl .abs (.cons (.var 0) .nil)) (.op2 .pow (.lit (.int 10)) (.lit (.int 18)))) (.cons (.op2 .mod (.bl .int (.cons (.bl .abs (.cons (.var 0) .nil)) .nil)) (.lit (.int 2147483629))) (.cons (.lit (.int 0)) .nil))))))
 .nop)
def f__law_box : Fn := { name := (Str.ofString "_law_box"), ps := [(Str.ofString "great")], N := [(Str.ofString "great")], io := [false], body := b__law_box }
@[simp] def c__law_take_1 : E := (.and (.tru (.op2 .idx (.var 0) (.lit (.int 1)))) (.op2 .gt (.op2 .idx (.var 0) (.lit (.int 0))) (.lit (.int 0))))
@[simp] def b__law_take_3 : S := (.seq (.ret (.op2 .mod (.bl .int (.cons (.op2 .fdv (.op2 .mod (.bl .int (.cons (.op2 .pow (.op2 .add (.op2 .mul (.var 3) (.lit (.int 48271))) (.op2 .mul (.lit (.int 104743)) (.op2 .idx (.var 0) (.lit (.int 3))))) (.lit (.int 3))) .nil)) (.lit (.int 2147483587))) (.lit (.int 64))) .nil)) (.var 1)))
 .nop)
@[simp] def b__law_take_2 : S := (.seq (.set 3 (.op2 .mod (.bl .int (.cons (.op2 .pow (.op2 .add (.op2 .add (.op2 .idx (.var 0) (.lit (.int 2))) (.op2 .mul (.lit (.int 15485867)) (.op2 .idx (.var 0) (.lit (.int 3))))) (.lit (.int 179424691))) (.lit (.int 5))) .nil)) (.lit (.int 2147483647))))
 b__law_take_3)
@[simp] def b__law_take_1 : S := (.seq (.sti 0 (.lit (.int 3)) (.op2 .add (.op2 .idx (.var 0) (.lit (.int 3))) (.lit (.int 1))))
 b__law_take_2)
def b__law_take : S := (.seq (.iff c__law_take_1
 (.seq (.set 2 (.op2 .mod (.bl .int (.cons (.op2 .idx (.var 0) (.lit (.int 0))) .nil)) (.var 1)))
 (.seq (.sti 0 (.lit (.int 0)) (.op2 .fdv (.op2 .idx (.var 0) (.lit (.int 0))) (.var 1)))
 (.seq (.ret (.var 2))
 .nop)))
 .nop)
 b__law_take_1)
def f__law_take : Fn := { name := (Str.ofString "_law_take"), ps := [(Str.ofString "box"), (Str.ofString "many")], N := [(Str.ofString "box"), (Str.ofString "many"), (Str.ofString "digit"), (Str.ofString "mixed")], io := [true, false], body := b__law_take }
@[simp] def c__law_same_1 : E := (.or (.op2 .is_ (.var 1) (.lit .non)) (.isi true ["bool"] (.var 1)))
def q__law_same_1 : E := (.cons (.op2 .ne (.slc (.var 0) (.cons (.var 2) .nil) (.cons (.op2 .add (.var 2) (.lit (.int 1))) .nil)) (.op2 .idx (.var 1) (.var 2))) .nil)
def e__law_same_1 : E := (.var 2)
@[simp] def c__law_same_2 : E := (.or (.op2 .ne (.isi true ["list"] (.var 0)) (.isi true ["list"] (.var 1))) (.op2 .ne (.isi true ["tuple"] (.var 0)) (.isi true ["tuple"] (.var 1))))
@[simp] def c__law_same_3 : E := (.or (.not (.isi false ["list", "tuple"] (.var 0))) (.op2 .ne (.bl .len (.cons (.var 0) .nil)) (.bl .len (.cons (.var 1) .nil))))
def q__law_same_2 : E := (.cons (.not (.call 15 (.cons (.op2 .idx (.var 0) (.var 2)) (.cons (.op2 .idx (.var 1) (.var 2)) .nil)))) .nil)
def e__law_same_2 : E := (.var 2)
@[simp] def b__law_same_6 : S := (.seq (.ret (.op2 .eq (.lc (.nm 2) .rng (.cons (.bl .len (.cons (.var 1) .nil)) .nil) q__law_same_2 e__law_same_2) (.lst .nil)))
 .nop)
@[simp] def b__law_same_5 : S := (.seq (.iff c__law_same_3
 (.seq (.ret (.lit (.bl false)))
 .nop)
 .nop)
 b__law_same_6)
@[simp] def b__law_same_4 : S := (.seq (.iff c__law_same_2
 (.seq (.ret (.lit (.bl false)))
 .nop)
 .nop)
 b__law_same_5)
@[simp] def b__law_same_3 : S := (.seq (.iff (.isi true ["dict"] (.var 1))
 (.seq .never
 .nop)
 .nop)
 b__law_same_4)
@[simp] def b__law_same_2 : S := (.seq (.iff (.isi true ["str"] (.var 1))
 (.seq (.ret (.and (.isi true ["str"] (.var 0)) (.and (.op2 .eq (.bl .len (.cons (.var 0) .nil)) (.bl .len (.cons (.var 1) .nil))) (.op2 .eq (.lc (.nm 2) .rng (.cons (.bl .len (.cons (.var 1) .nil)) .nil) q__law_same_1 e__law_same_1) (.lst .nil)))))
 .nop)
 .nop)
 b__law_same_3)
@[simp] def b__law_same_1 : S := (.seq (.iff (.isi true ["int"] (.var 1))
 (.seq (.ret (.and (.isi true ["int"] (.var 0)) (.and (.not (.isi true ["bool"] (.var 0))) (.op2 .eq (.op2 .sub (.bl .int (.cons (.var 0) .nil)) (.var 1)) (.lit (.int 0))))))
 .nop)
 .nop)
 b__law_same_2)
def b__law_same : S := (.seq (.iff c__law_same_1
 (.seq (.ret (.ite (.op2 .is_ (.var 1) (.lit .non)) (.op2 .is_ (.var 0) (.lit .non)) (.and (.isi true ["bool"] (.var 0)) (.op2 .eq (.op2 .is_ (.var 0) (.lit (.bl true))) (.op2 .is_ (.var 1) (.lit (.bl true)))))))
 .nop)
 .nop)
 b__law_same_1)
def f__law_same : Fn := { name := (Str.ofString "_law_same"), ps := [(Str.ofString "told"), (Str.ofString "due")], N := [(Str.ofString "told"), (Str.ofString "due"), (Str.ofString "k")], io := [false, false], body := b__law_same }
def t__law_mixed_1 : E := (.op2 .ne (.var 2) (.lst .nil))
def w__law_mixed_1 : S := (.seq (.app 3 (.pop 2 (.cons (.call 14 (.cons (.var 0) (.cons (.bl .len (.cons (.var 2) .nil)) .nil))) .nil)))
 .nop)
@[simp] def b__law_mixed_2 : S := (.seq (.ret (.var 3))
 .nop)
@[simp] def b__law_mixed_1 : S := (.seq (.whl t__law_mixed_1
 w__law_mixed_1)
 b__law_mixed_2)
def b__law_mixed : S := (.seq (.unp (.cons (.var 2) (.cons (.var 3) .nil)) (.tup (.cons (.bl .lrange (.cons (.var 1) .nil)) (.cons (.lst .nil) .nil))))
 b__law_mixed_1)
def f__law_mixed : Fn := { name := (Str.ofString "_law_mixed"), ps := [(Str.ofString "box"), (Str.ofString "many")], N := [(Str.ofString "box"), (Str.ofString "many"), (Str.ofString "left"), (Str.ofString "found")], io := [true, false], body := b__law_mixed }
@[simp] def h__law_told_1 : S := (.hd 4 (some 3) (.ret (.tup (.cons (.lit (.str (Str.ofString "tree"))) (.cons (.gl 0) .nil))))
  (.hd 1 (some 3) (.ret (.tup (.cons (.lit (.str (Str.ofString "number"))) (.cons (.gl 0) .nil))))
  (.hd 2 (some 3) (.ret (.tup (.cons (.lit (.str (Str.ofString "taken"))) (.cons (.gl 0) .nil))))
  (.hd 3 (some 3) (.ret (.tup (.cons (.lit (.str (Str.ofString "large"))) (.cons (.gl 0) .nil))))
  (.hd 0 none (.ret (.tup (.cons (.lit (.str (Str.ofString "another"))) (.cons (.lit .non) .nil))))
  .nop)))))
def b__law_told : S := (.seq (.tryy (.seq (.iff (.op2 .lt (.var 0) (.lit (.int 2)))
 (.seq (.ret (.tup (.cons (.lit (.str (Str.ofString "told"))) (.cons (.ite (.op2 .eq (.var 0) (.lit (.int 0))) (.call 9 (.cons (.var 1) (.cons (.var 2) .nil))) (.callK 9 [1, 0] .nil (.cons (.var 2) (.cons (.var 1) .nil)))) .nil))))
 .nop)
 .nop)
 (.seq (.iff (.op2 .lt (.var 0) (.lit (.int 4)))
 (.seq (.ret (.tup (.cons (.lit (.str (Str.ofString "told"))) (.cons (.ite (.op2 .eq (.var 0) (.lit (.int 2))) (.call 7 (.cons (.var 1) .nil)) (.callK 7 [0] .nil (.cons (.var 1) .nil))) .nil))))
 .nop)
 .nop)
 (.seq (.iff (.op2 .lt (.var 0) (.lit (.int 6)))
 (.seq (.ret (.tup (.cons (.lit (.str (Str.ofString "told"))) (.cons (.ite (.op2 .eq (.var 0) (.lit (.int 4))) (.call 5 (.cons (.var 1) .nil)) (.callK 5 [0] .nil (.cons (.var 1) .nil))) .nil))))
 .nop)
 .nop)
 (.seq (.ret (.tup (.cons (.lit (.str (Str.ofString "told"))) (.cons (.ite (.op2 .eq (.var 0) (.lit (.int 6))) (.call 10 (.cons (.var 2) .nil)) (.callK 10 [0] .nil (.cons (.var 2) .nil))) .nil))))
 .nop))))
 h__law_told_1)
 .nop)
def f__law_told : Fn := { name := (Str.ofString "_law_told"), ps := [(Str.ofString "call"), (Str.ofString "tree"), (Str.ofString "number")], N := [(Str.ofString "call"), (Str.ofString "tree"), (Str.ofString "number"), (Str.ofString "e")], io := [false, false, false], body := b__law_told }
def w__law_items_1 : S := (.seq (.ext 1 (.call 18 (.cons (.var 2) .nil)))
 .nop)
@[simp] def b__law_items_3 : S := (.seq (.ret (.var 1))
 .nop)
@[simp] def b__law_items_2 : S := (.seq (.for_ (.nm 2) .e (.cons (.var 0) .nil)
 w__law_items_1)
 b__law_items_3)
@[simp] def b__law_items_1 : S := (.seq (.set 1 (.lst .nil))
 b__law_items_2)
def b__law_items : S := (.seq (.iff (.op2 .eq (.bl .len (.cons (.var 0) .nil)) (.lit (.int 1)))
 (.seq (.ret (.lst (.cons (.op2 .idx (.var 0) (.lit (.int 0))) .nil)))
 .nop)
 .nop)
 b__law_items_1)
def f__law_items : Fn := { name := (Str.ofString "_law_items"), ps := [(Str.ofString "tree")], N := [(Str.ofString "tree"), (Str.ofString "found"), (Str.ofString "part")], io := [false], body := b__law_items }
def q__law_put_1 : E := (.cons (.op2 .lt (.op2 .idx (.frz (.call 18 (.cons (.var 3) .nil))) (.op1 .neg (.lit (.int 1)))) (.var 1)) .nil)
def e__law_put_1 : E := (.var 3)
@[simp] def b__law_put_4 : S := (.seq (.ret (.lst (.cons (.bl .tuple (.cons (.slc (.var 4) .nil (.cons (.lit (.int 2)) .nil)) .nil)) (.cons (.bl .tuple (.cons (.slc (.var 4) (.cons (.lit (.int 2)) .nil) .nil) .nil)) .nil))))
 .nop)
@[simp] def b__law_put_3 : S := (.seq (.iff (.op2 .lt (.bl .len (.cons (.var 4) .nil)) (.lit (.int 4)))
 (.seq (.ret (.lst (.cons (.bl .tuple (.cons (.var 4) .nil)) .nil)))
 .nop)
 .nop)
 b__law_put_4)
@[simp] def b__law_put_2 : S := (.seq (.set 4 (.op2 .add (.op2 .add (.bl .list (.cons (.slc (.var 0) .nil (.cons (.var 2) .nil)) .nil)) (.call 19 (.cons (.op2 .idx (.var 0) (.var 2)) (.cons (.var 1) .nil)))) (.bl .list (.cons (.slc (.var 0) (.cons (.op2 .add (.var 2) (.lit (.int 1))) .nil) .nil) .nil))))
 b__law_put_3)
@[simp] def b__law_put_1 : S := (.seq (.set 2 (.bl .len (.cons (.lc (.nm 3) .e (.cons (.slc (.var 0) .nil (.cons (.op1 .neg (.lit (.int 1))) .nil)) .nil) q__law_put_1 e__law_put_1) .nil)))
 b__law_put_2)
def b__law_put : S := (.seq (.iff (.op2 .eq (.bl .len (.cons (.var 0) .nil)) (.lit (.int 1)))
 (.seq (.ret (.lst (.cons (.tup (.cons (.bl .min (.cons (.op2 .idx (.var 0) (.lit (.int 0))) (.cons (.var 1) .nil))) .nil)) (.cons (.tup (.cons (.bl .max (.cons (.op2 .idx (.var 0) (.lit (.int 0))) (.cons (.var 1) .nil))) .nil)) .nil))))
 .nop)
 .nop)
 b__law_put_1)
def f__law_put : Fn := { name := (Str.ofString "_law_put"), ps := [(Str.ofString "tree"), (Str.ofString "number")], N := [(Str.ofString "tree"), (Str.ofString "number"), (Str.ofString "at"), (Str.ofString "part"), (Str.ofString "parts")], io := [false, false], body := b__law_put }
@[simp] def b__law_grown_1 : S := (.seq (.ret (.ite (.op2 .eq (.bl .len (.cons (.var 2) .nil)) (.lit (.int 1))) (.op2 .idx (.var 2) (.lit (.int 0))) (.bl .tuple (.cons (.var 2) .nil))))
 .nop)
def b__law_grown : S := (.seq (.set 2 (.call 19 (.cons (.var 0) (.cons (.var 1) .nil))))
 b__law_grown_1)
def f__law_grown : Fn := { name := (Str.ofString "_law_grown"), ps := [(Str.ofString "tree"), (Str.ofString "number")], N := [(Str.ofString "tree"), (Str.ofString "number"), (Str.ofString "found")], io := [false, false], body := b__law_grown }
@[simp] def c__law_height_1 : E := (.or (.not (.isi true ["tuple"] (.var 0))) (.op2 .eq (.var 0) (.tup .nil)))
def e__law_height_1 : E := (.call 21 (.cons (.var 2) .nil))
@[simp] def b__law_height_4 : S := (.seq (.ret (.ite (.or (.op2 .in_ (.lit .non) (.var 1)) (.op2 .ne (.bl .lset (.cons (.var 1) .nil)) (.lit (.int 1)))) (.lit .non) (.op2 .add (.op2 .idx (.var 1) (.lit (.int 0))) (.lit (.int 1)))))
 .nop)
@[simp] def b__law_height_3 : S := (.seq (.set 1 (.lc (.nm 2) .e (.cons (.var 0) .nil) .nil e__law_height_1))
 b__law_height_4)
@[simp] def b__law_height_2 : S := (.seq (.iff (.op2 .gt (.bl .len (.cons (.var 0) .nil)) (.lit (.int 3)))
 (.seq (.ret (.lit .non))
 .nop)
 .nop)
 b__law_height_3)
@[simp] def b__law_height_1 : S := (.seq (.iff (.op2 .eq (.bl .len (.cons (.var 0) .nil)) (.lit (.int 1)))
 (.seq (.ret (.ite (.and (.isi true ["int"] (.op2 .idx (.var 0) (.lit (.int 0)))) (.not (.isi true ["bool"] (.op2 .idx (.var 0) (.lit (.int 0)))))) (.lit (.int 0)) (.lit .non)))
 .nop)
 .nop)
 b__law_height_2)
def b__law_height : S := (.seq (.iff c__law_height_1
 (.seq (.ret (.lit .non))
 .nop)
 .nop)
 b__law_height_1)
def f__law_height : Fn := { name := (Str.ofString "_law_height"), ps := [(Str.ofString "value")], N := [(Str.ofString "value"), (Str.ofString "heights"), (Str.ofString "part")], io := [false], body := b__law_height }
def q__law_is_1 : E := (.cons (.op2 .ge (.var 2) (.var 3)) .nil)
def e__law_is_1 : E := (.var 2)
@[simp] def b__law_is_2 : S := (.seq (.ret (.and (.op2 .lt (.bl .len (.cons (.var 1) .nil)) (.lit (.int 13))) (.op2 .eq (.lc (.tp [2, 3]) .zp (.cons (.var 1) (.cons (.slc (.var 1) (.cons (.lit (.int 1)) .nil) .nil) .nil)) q__law_is_1 e__law_is_1) (.lst .nil))))
 .nop)
@[simp] def b__law_is_1 : S := (.seq (.set 1 (.call 18 (.cons (.var 0) .nil)))
 b__law_is_2)
def b__law_is : S := (.seq (.iff (.op2 .is_ (.call 21 (.cons (.var 0) .nil)) (.lit .non))
 (.seq (.ret (.lit (.bl false)))
 .nop)
 .nop)
 b__law_is_1)
def f__law_is : Fn := { name := (Str.ofString "_law_is"), ps := [(Str.ofString "value")], N := [(Str.ofString "value"), (Str.ofString "items"), (Str.ofString "x"), (Str.ofString "y")], io := [false], body := b__law_is }
def e__law_drawn_1 : E := (.tup (.cons (.var 3) .nil))
def t__law_drawn_1 : E := (.op2 .gt (.bl .len (.cons (.var 2) .nil)) (.lit (.int 1)))
def t__law_drawn_2 : E := (.op2 .ne (.var 2) (.lst .nil))
@[simp] def w__law_drawn_2__2 : S := (.seq (.set 2 (.slc (.var 2) (.cons (.var 5) .nil) .nil))
 .nop)
@[simp] def w__law_drawn_2__1 : S := (.seq (.app 4 (.bl .tuple (.cons (.slc (.var 2) .nil (.cons (.var 5) .nil)) .nil)))
 w__law_drawn_2__2)
def w__law_drawn_2 : S := (.seq (.set 5 (.ite (.or (.op2 .in_ (.bl .len (.cons (.var 2) .nil)) (.tup (.cons (.lit (.int 2)) (.cons (.lit (.int 4)) .nil)))) (.and (.op2 .gt (.bl .len (.cons (.var 2) .nil)) (.lit (.int 3))) (.op2 .eq (.call 14 (.cons (.var 0) (.cons (.lit (.int 2)) .nil))) (.lit (.int 0))))) (.lit (.int 2)) (.lit (.int 3))))
 w__law_drawn_2__1)
@[simp] def w__law_drawn_1__2 : S := (.seq (.set 2 (.var 4))
 .nop)
@[simp] def w__law_drawn_1__1 : S := (.seq (.whl t__law_drawn_2
 w__law_drawn_2)
 w__law_drawn_1__2)
def w__law_drawn_1 : S := (.seq (.set 4 (.lst .nil))
 w__law_drawn_1__1)
@[simp] def b__law_drawn_2 : S := (.seq (.ret (.op2 .idx (.var 2) (.lit (.int 0))))
 .nop)
@[simp] def b__law_drawn_1 : S := (.seq (.whl t__law_drawn_1
 w__law_drawn_1)
 b__law_drawn_2)
def b__law_drawn : S := (.seq (.set 2 (.lc (.nm 3) .e (.cons (.var 1) .nil) .nil e__law_drawn_1))
 b__law_drawn_1)
def f__law_drawn : Fn := { name := (Str.ofString "_law_drawn"), ps := [(Str.ofString "box"), (Str.ofString "names")], N := [(Str.ofString "box"), (Str.ofString "names"), (Str.ofString "parts"), (Str.ofString "x"), (Str.ofString "more"), (Str.ofString "many")], io := [true, false], body := b__law_drawn }
def e__law_count_1 : E := (.op2 .mul (.op2 .idx (.var 1) (.var 5)) (.op2 .idx (.var 1) (.op2 .sub (.var 6) (.var 5))))
def e__law_count_2 : E := (.bl .sum (.cons (.lc (.nm 5) .rng (.cons (.op2 .add (.var 6) (.lit (.int 1))) .nil) .nil e__law_count_1) .nil))
def e__law_count_3 : E := (.op2 .mul (.op2 .idx (.var 1) (.var 5)) (.op2 .idx (.var 4) (.op2 .sub (.var 6) (.var 5))))
def e__law_count_4 : E := (.op2 .add (.op2 .idx (.var 4) (.var 6)) (.bl .sum (.cons (.lc (.nm 5) .rng (.cons (.op2 .add (.var 6) (.lit (.int 1))) .nil) .nil e__law_count_3) .nil)))
@[simp] def w__law_count_1__2 : S := (.seq (.set 1 (.op2 .add (.lc (.nm 6) .rng (.cons (.op2 .add (.var 0) (.lit (.int 1))) .nil) .nil e__law_count_4) (.lst (.cons (.lit (.int 0)) .nil))))
 .nop)
@[simp] def w__law_count_1__1 : S := (.seq (.set 4 (.lc (.nm 6) .rng (.cons (.op2 .add (.var 0) (.lit (.int 1))) .nil) .nil e__law_count_2))
 w__law_count_1__2)
def w__law_count_1 : S := (.seq (.set 2 (.op2 .add (.var 2) (.op2 .idx (.var 1) (.var 0))))
 w__law_count_1__1)
@[simp] def b__law_count_2 : S := (.seq (.ret (.var 2))
 .nop)
@[simp] def b__law_count_1 : S := (.seq (.for_ (.nm 3) .rng (.cons (.lit (.int 7)) .nil)
 w__law_count_1)
 b__law_count_2)
def b__law_count : S := (.seq (.unp (.cons (.var 1) (.cons (.var 2) .nil)) (.tup (.cons (.op2 .add (.lst (.cons (.lit (.int 0)) (.cons (.lit (.int 1)) .nil))) (.op2 .mul (.lst (.cons (.lit (.int 0)) .nil)) (.var 0))) (.cons (.lit (.int 0)) .nil))))
 b__law_count_1)
def f__law_count : Fn := { name := (Str.ofString "_law_count"), ps := [(Str.ofString "number")], N := [(Str.ofString "number"), (Str.ofString "row"), (Str.ofString "found"), (Str.ofString "height"), (Str.ofString "pairs"), (Str.ofString "k"), (Str.ofString "n")], io := [false], body := b__law_count }
@[simp] def c__law_spoiled_1 : E := (.or (.op2 .eq (.bl .len (.cons (.var 1) .nil)) (.lit (.int 1))) (.op2 .eq (.call 14 (.cons (.var 0) (.cons (.lit (.int 3)) .nil))) (.lit (.int 0))))
@[simp] def b__law_spoiled_3 : S := (.seq (.ret (.op2 .idx (.lst (.cons (.op2 .add (.slc (.var 1) .nil (.cons (.var 3) .nil)) (.slc (.var 1) (.cons (.op2 .add (.var 3) (.lit (.int 1))) .nil) .nil)) (.cons (.rev (.var 1)) (.cons (.op2 .add (.var 1) (.slc (.var 1) (.cons (.op1 .neg (.lit (.int 1))) .nil) .nil)) (.cons (.bl .list (.cons (.var 1) .nil)) (.cons (.op2 .add (.op2 .add (.slc (.var 1) .nil (.cons (.var 3) .nil)) (.tup (.cons (.op2 .idx (.frz (.call 18 (.cons (.op2 .idx (.var 1) (.var 3)) .nil))) (.lit (.int 0))) .nil))) (.slc (.var 1) (.cons (.op2 .add (.var 3) (.lit (.int 1))) .nil) .nil)) (.cons (.tup (.cons (.var 1) (.cons (.var 1) .nil))) .nil))))))) (.call 14 (.cons (.var 0) (.cons (.lit (.int 6)) .nil)))))
 .nop)
@[simp] def b__law_spoiled_2 : S := (.seq (.set 3 (.call 14 (.cons (.var 0) (.cons (.bl .len (.cons (.var 1) .nil)) .nil))))
 b__law_spoiled_3)
@[simp] def b__law_spoiled_1 : S := (.seq (.iff c__law_spoiled_1
 (.seq (.ret (.op2 .idx (.var 2) (.call 14 (.cons (.var 0) (.cons (.lit (.int 16)) .nil)))))
 .nop)
 .nop)
 b__law_spoiled_2)
def b__law_spoiled : S := (.seq (.set 2 (.lst (.cons (.lit .non) (.cons (.lit (.int 7)) (.cons (.tup .nil) (.cons (.lst (.cons (.lit (.int 1)) .nil)) (.cons (.tup (.cons (.lit .non) .nil)) (.cons (.tup (.cons (.lit (.bl true)) .nil)) (.cons (.lit (.str (Str.ofString "tree"))) (.cons .dct0 (.cons (.tup (.cons (.lit (.str (Str.ofString "a"))) .nil)) (.cons (.tup (.cons (.tup (.cons (.lit (.int 1)) .nil)) .nil)) (.cons (.tup (.cons (.tup (.cons (.lit (.int 1)) .nil)) (.cons (.lit (.int 2)) .nil))) (.cons (.tup (.cons (.tup (.cons (.lit (.int 1)) .nil)) (.cons (.tup (.cons (.lit (.int 1)) .nil)) .nil))) (.cons (.tup (.cons (.tup (.cons (.lit (.int 2)) .nil)) (.cons (.tup (.cons (.lit (.int 1)) .nil)) .nil))) (.cons (.tup (.cons (.tup (.cons (.lit (.int 1)) .nil)) (.cons (.tup (.cons (.lit (.int 2)) .nil)) (.cons (.tup (.cons (.lit (.int 3)) .nil)) (.cons (.tup (.cons (.lit (.int 4)) .nil)) .nil))))) (.cons (.tup (.cons (.tup (.cons (.lit (.int 1)) .nil)) (.cons (.tup (.cons (.tup (.cons (.lit (.int 2)) .nil)) (.cons (.tup (.cons (.lit (.int 3)) .nil)) .nil))) .nil))) (.cons (.tup (.cons (.lst (.cons (.lit (.int 1)) .nil)) (.cons (.tup (.cons (.lit (.int 2)) .nil)) .nil))) .nil))))))))))))))))))
 b__law_spoiled_1)
def f__law_spoiled : Fn := { name := (Str.ofString "_law_spoiled"), ps := [(Str.ofString "box"), (Str.ofString "tree")], N := [(Str.ofString "box"), (Str.ofString "tree"), (Str.ofString "rows"), (Str.ofString "at")], io := [true, false], body := b__law_spoiled }
def e__law_right_1 : E := (.call 17 (.cons (.var 3) (.cons (.var 1) (.cons (.lit .non) .nil))))
def e__law_right_2 : E := (.op2 .add (.var 5) (.lit (.int 1)))
def e__law_right_3 : E := (.call 17 (.cons (.var 3) (.cons (.var 1) (.cons (.var 7) .nil))))
@[simp] def w__law_right_1__3 : S := (.seq (.iff (.not (.call 15 (.cons (.lc (.nm 3) .rng (.cons (.lit (.int 2)) .nil) .nil e__law_right_3) (.cons (.lst (.cons (.var 8) (.cons (.var 8) .nil))) .nil))))
 (.seq (.ret (.lit (.bl false)))
 .nop)
 .nop)
 .nop)
@[simp] def w__law_right_1__2 : S := (.seq (.iff (.op2 .nin (.var 7) (.var 2))
 (.seq (.set 8 (.ite (.op2 .lt (.bl .len (.cons (.var 2) .nil)) (.lit (.int 12))) (.tup (.cons (.lit (.str (Str.ofString "told"))) (.cons (.call 20 (.cons (.var 1) (.cons (.var 7) .nil))) .nil))) (.tup (.cons (.lit (.str (Str.ofString "large"))) (.cons (.lit (.int 13)) .nil)))))
 .nop)
 .nop)
 w__law_right_1__3)
@[simp] def w__law_right_1__1 : S := (.seq (.set 8 (.tup (.cons (.lit (.str (Str.ofString "taken"))) (.cons (.var 7) .nil))))
 w__law_right_1__2)
def w__law_right_1 : S := (.seq (.set 7 (.op2 .idx (.var 4) (.call 14 (.cons (.var 0) (.cons (.bl .len (.cons (.var 4) .nil)) .nil)))))
 w__law_right_1__1)
@[simp] def c__law_right_1 : E := (.and (.op2 .ne (.var 9) .dct0) (.not (.tru (.var 10))))
def e__law_right_4 : E := (.call 17 (.cons (.var 3) (.cons (.var 9) (.cons (.lit (.int 1)) .nil))))
def e__law_right_5 : E := (.call 17 (.cons (.var 3) (.cons (.var 9) (.cons (.lit .non) .nil))))
@[simp] def w__law_right_2__3 : S := (.seq (.iff (.not (.call 15 (.cons (.lc (.nm 3) .e (.cons (.lst (.cons (.lit (.int 4)) (.cons (.lit (.int 5)) .nil))) .nil) .nil e__law_right_5) (.cons (.op2 .mul (.lst (.cons (.tup (.cons (.lit (.str (Str.ofString "told"))) (.cons (.var 10) .nil))) .nil)) (.lit (.int 2))) .nil))))
 (.seq (.ret (.lit (.bl false)))
 .nop)
 .nop)
 .nop)
@[simp] def w__law_right_2__2 : S := (.seq (.iff c__law_right_1
 (.seq (.iff (.not (.call 15 (.cons (.lc (.nm 3) .rng (.cons (.lit (.int 2)) .nil) .nil e__law_right_4) (.cons (.op2 .mul (.lst (.cons (.tup (.cons (.lit (.str (Str.ofString "tree"))) (.cons (.var 9) .nil))) .nil)) (.lit (.int 2))) .nil))))
 (.seq (.ret (.lit (.bl false)))
 .nop)
 .nop)
 .nop)
 .nop)
 w__law_right_2__3)
@[simp] def w__law_right_2__1 : S := (.seq (.set 10 (.call 22 (.cons (.var 9) .nil)))
 w__law_right_2__2)
def w__law_right_2 : S := (.seq (.set 9 (.call 25 (.cons (.var 0) (.cons (.var 1) .nil))))
 w__law_right_2__1)
def e__law_right_6 : E := (.call 17 (.cons (.var 3) (.cons (.var 1) (.cons (.var 11) .nil))))
@[simp] def b__law_right_6 : S := (.seq (.ret (.call 15 (.cons (.lc (.nm 3) .rng (.cons (.lit (.int 2)) .nil) .nil e__law_right_6) (.cons (.op2 .mul (.lst (.cons (.tup (.cons (.lit (.str (Str.ofString "number"))) (.cons (.var 11) .nil))) .nil)) (.lit (.int 2))) .nil))))
 .nop)
@[simp] def b__law_right_5 : S := (.seq (.set 11 (.op2 .idx (.lst (.cons (.lit .non) (.cons (.lit (.str (Str.ofString "1"))) (.cons (.lit (.bl true)) (.cons (.tup (.cons (.lit (.int 1)) .nil)) (.cons (.lst (.cons (.lit (.int 1)) .nil)) .nil)))))) (.call 14 (.cons (.var 0) (.cons (.lit (.int 5)) .nil)))))
 b__law_right_6)
@[simp] def b__law_right_4 : S := (.seq (.for_ (.nm 6) .rng (.cons (.lit (.int 3)) .nil)
 w__law_right_2)
 b__law_right_5)
@[simp] def b__law_right_3 : S := (.seq (.for_ (.nm 6) .rng (.cons (.lit (.int 4)) .nil)
 w__law_right_1)
 b__law_right_4)
@[simp] def b__law_right_2 : S := (.seq (.set 4 (.op2 .add (.op2 .add (.var 2) (.lc (.nm 5) .e (.cons (.var 2) .nil) .nil e__law_right_2)) (.lst (.cons (.op2 .sub (.op2 .idx (.var 2) (.lit (.int 0))) (.lit (.int 1))) (.cons (.op2 .pow (.lit (.int 10)) (.lit (.int 20))) (.cons (.op2 .sub (.lit (.int 0)) (.op2 .pow (.lit (.int 10)) (.lit (.int 20)))) .nil))))))
 b__law_right_3)
@[simp] def b__law_right_1 : S := (.seq (.iff (.not (.call 15 (.cons (.lc (.nm 3) .rng (.cons (.lit (.int 2)) (.cons (.lit (.int 6)) .nil)) .nil e__law_right_1) (.cons (.op2 .add (.op2 .mul (.lst (.cons (.tup (.cons (.lit (.str (Str.ofString "told"))) (.cons (.bl .tuple (.cons (.var 2) .nil)) .nil))) .nil)) (.lit (.int 2))) (.op2 .mul (.lst (.cons (.tup (.cons (.lit (.str (Str.ofString "told"))) (.cons (.lit (.bl true)) .nil))) .nil)) (.lit (.int 2)))) .nil))))
 (.seq (.ret (.lit (.bl false)))
 .nop)
 .nop)
 b__law_right_2)
def b__law_right : S := (.seq (.set 2 (.call 18 (.cons (.var 1) .nil)))
 b__law_right_1)
def f__law_right : Fn := { name := (Str.ofString "_law_right"), ps := [(Str.ofString "box"), (Str.ofString "tree")], N := [(Str.ofString "box"), (Str.ofString "tree"), (Str.ofString "items"), (Str.ofString "call"), (Str.ofString "some"), (Str.ofString "x"), (Str.ofString "turn"), (Str.ofString "number"), (Str.ofString "due"), (Str.ofString "wrong"), (Str.ofString "own"), (Str.ofString "bad")], io := [true, false], body := b__law_right }
def e_law_1 : E := (.op2 .sub (.op2 .mul (.var 4) (.var 6)) (.lit (.int 9)))
@[simp] def c_law_1 : E := (.or (.not (.call 15 (.cons (.var 9) (.cons (.tup (.cons (.lit (.str (Str.ofString "told"))) (.cons (.var 7) .nil))) .nil)))) (.not (.call 22 (.cons (.var 7) .nil))))
def w_law_2 : S := (.seq (.iff (.op2 .nin (.op2 .idx (.var 5) (.var 8)) (.call 18 (.cons (.var 7) .nil)))
 (.seq (.set 9 (.call 17 (.cons (.lit (.int 0)) (.cons (.var 7) (.cons (.op2 .idx (.var 5) (.var 8)) .nil)))))
 (.seq (.set 7 (.call 20 (.cons (.var 7) (.cons (.op2 .idx (.var 5) (.var 8)) .nil))))
 (.seq (.iff c_law_1
 (.seq (.ret (.lit (.bl false)))
 .nop)
 .nop)
 .nop)))
 .nop)
 .nop)
def e_law_2 : E := (.call 17 (.cons (.var 12) (.cons (.lit .non) (.cons (.var 10) .nil))))
def e_law_3 : E := (.call 17 (.cons (.var 12) (.cons (.lit .non) (.cons (.var 11) .nil))))
@[simp] def w_law_1__9 : S := (.seq (.iff (.not (.call 15 (.cons (.var 9) (.cons (.op2 .add (.op2 .mul (.lst (.cons (.tup (.cons (.lit (.str (Str.ofString "told"))) (.cons (.call 24 (.cons (.var 10) .nil)) .nil))) .nil)) (.lit (.int 2))) (.op2 .mul (.lst (.cons (.tup (.cons (.lit (.str (Str.ofString "number"))) (.cons (.var 11) .nil))) .nil)) (.lit (.int 2)))) .nil))))
 (.seq (.ret (.lit (.bl false)))
 .nop)
 .nop)
 .nop)
@[simp] def w_law_1__8 : S := (.seq (.set 9 (.op2 .add (.lc (.nm 12) .e (.cons (.lst (.cons (.lit (.int 6)) (.cons (.lit (.int 7)) .nil))) .nil) .nil e_law_2) (.lc (.nm 12) .e (.cons (.lst (.cons (.lit (.int 6)) (.cons (.lit (.int 7)) .nil))) .nil) .nil e_law_3)))
 w_law_1__9)
@[simp] def w_law_1__7 : S := (.seq (.unp (.cons (.var 10) (.cons (.var 11) .nil)) (.tup (.cons (.op2 .add (.lit (.int 1)) (.call 14 (.cons (.var 2) (.cons (.lit (.int 40)) .nil)))) (.cons (.op2 .idx (.lst (.cons (.lit .non) (.cons (.lit (.int 0)) (.cons (.lit (.int 41)) (.cons (.op2 .sub (.lit (.int 0)) (.lit (.int 1))) (.cons (.lit (.bl true)) (.cons (.lit (.str (Str.ofString "3"))) (.cons (.tup (.cons (.lit (.int 3)) .nil)) .nil)))))))) (.call 14 (.cons (.var 2) (.cons (.lit (.int 7)) .nil)))) .nil))))
 w_law_1__8)
@[simp] def w_law_1__6 : S := (.seq (.iff (.not (.call 26 (.cons (.var 2) (.cons (.var 7) .nil))))
 (.seq (.ret (.lit (.bl false)))
 .nop)
 .nop)
 w_law_1__7)
@[simp] def w_law_1__5 : S := (.seq (.for_ (.nm 8) .e (.cons (.call 16 (.cons (.var 2) (.cons (.var 3) .nil))) .nil)
 w_law_2)
 w_law_1__6)
@[simp] def w_law_1__4 : S := (.seq (.set 7 (.tup (.cons (.op2 .idx (.var 5) (.lit (.int 0))) .nil)))
 w_law_1__5)
@[simp] def w_law_1__3 : S := (.seq (.iff (.not (.call 26 (.cons (.var 2) (.cons (.call 23 (.cons (.var 2) (.cons (.var 5) .nil))) .nil))))
 (.seq (.ret (.lit (.bl false)))
 .nop)
 .nop)
 w_law_1__4)
@[simp] def w_law_1__2 : S := (.seq (.set 5 (.lc (.nm 6) .rng (.cons (.var 3) .nil) .nil e_law_1))
 w_law_1__3)
@[simp] def w_law_1__1 : S := (.seq (.unp (.cons (.var 3) (.cons (.var 4) .nil)) (.tup (.cons (.op2 .add (.lit (.int 1)) (.call 14 (.cons (.var 2) (.cons (.op2 .idx (.lst (.cons (.lit (.int 8)) (.cons (.lit (.int 12)) .nil))) (.op2 .fdv (.call 14 (.cons (.var 2) (.cons (.lit (.int 3)) .nil))) (.lit (.int 2)))) .nil)))) (.cons (.op2 .add (.lit (.int 1)) (.call 14 (.cons (.var 2) (.cons (.lit (.int 3)) .nil)))) .nil))))
 w_law_1__2)
def w_law_1 : S := (.seq (.set 2 (.call 13 (.cons (.call 12 (.cons (.var 0) (.cons (.var 1) .nil))) .nil)))
 w_law_1__1)
@[simp] def b_law_1 : S := (.seq (.ret (.call 26 (.cons (.call 13 (.cons (.call 12 (.cons (.var 0) (.cons (.lit (.int 0)) .nil))) .nil)) (.cons (.tup (.cons (.lit (.int 0)) .nil)) .nil))))
 .nop)
def b_law : S := (.seq (.for_ (.nm 1) .rng (.cons (.bl .max (.cons (.lit (.int 2)) (.cons (.bl .min (.cons (.lit (.int 6)) (.cons (.bl .len (.cons (.var 0) .nil)) .nil))) .nil))) .nil)
 w_law_1)
 b_law_1)
def f_law : Fn := { name := (Str.ofString "law"), ps := [(Str.ofString "script")], N := [(Str.ofString "script"), (Str.ofString "k"), (Str.ofString "box"), (Str.ofString "many"), (Str.ofString "step"), (Str.ofString "names"), (Str.ofString "x"), (Str.ofString "tree"), (Str.ofString "at"), (Str.ofString "told"), (Str.ofString "number"), (Str.ofString "bad"), (Str.ofString "call")], io := [false], body := b_law }
def G : Tab :=
  { fns := [f_is_integer, f_is_between, f_is_rising, f_depth_of, f_items_in, f_is_two_three, f_check_tree, f_items_of, f_grown_parts, f_grown, f_two_three_count, f_next_level, f__law_cell, f__law_box, f__law_take, f__law_same, f__law_mixed, f__law_told, f__law_items, f__law_put, f__law_grown, f__law_height, f__law_is, f__law_drawn, f__law_count, f__law_spoiled, f__law_right, f_law]
    xcs := [⟨(Str.ofString "TreeError"), [], [0]⟩, ⟨(Str.ofString "InvalidNumber"), [(Str.ofString "given")], [1, 0]⟩, ⟨(Str.ofString "Taken"), [(Str.ofString "name")], [2, 0]⟩, ⟨(Str.ofString "TooLarge"), [(Str.ofString "count")], [3, 0]⟩, ⟨(Str.ofString "InvalidTree"), [(Str.ofString "given")], [4, 0]⟩]
    gls := [((Str.ofString "MOST_ITEMS"), .int (12)), ((Str.ofString "MOST_COUNTED"), .int (40))]
    bls := [(Str.ofString "abs"), (Str.ofString "all"), (Str.ofString "bool"), (Str.ofString "dict"), (Str.ofString "enumerate"), (Str.ofString "int"), (Str.ofString "isinstance"), (Str.ofString "len"), (Str.ofString "list"), (Str.ofString "max"), (Str.ofString "min"), (Str.ofString "range"), (Str.ofString "set"), (Str.ofString "sorted"), (Str.ofString "str"), (Str.ofString "sum"), (Str.ofString "tuple"), (Str.ofString "zip")]
    kws := [(9, 0, [(Str.ofString "number"), (Str.ofString "tree")], [1, 0]), (7, 0, [(Str.ofString "tree")], [0]), (5, 0, [(Str.ofString "value")], [0]), (10, 0, [(Str.ofString "number")], [0])] }
@[simp] theorem g_0 : G.fns[0]? = some f_is_integer := rfl
@[simp] theorem io_is_integer : f_is_integer.io = [false] := rfl
@[simp] theorem ps_is_integer : f_is_integer.ps.length = 1 := rfl
@[simp] theorem N_is_integer : f_is_integer.N.length = 1 := rfl
@[simp] theorem bd_is_integer : f_is_integer.body = b_is_integer := rfl
@[simp] theorem g_1 : G.fns[1]? = some f_is_between := rfl
@[simp] theorem io_is_between : f_is_between.io = [false,false,false] := rfl
@[simp] theorem ps_is_between : f_is_between.ps.length = 3 := rfl
@[simp] theorem N_is_between : f_is_between.N.length = 3 := rfl
@[simp] theorem bd_is_between : f_is_between.body = b_is_between := rfl
@[simp] theorem g_2 : G.fns[2]? = some f_is_rising := rfl
@[simp] theorem io_is_rising : f_is_rising.io = [false] := rfl
@[simp] theorem ps_is_rising : f_is_rising.ps.length = 1 := rfl
@[simp] theorem N_is_rising : f_is_rising.N.length = 2 := rfl
@[simp] theorem bd_is_rising : f_is_rising.body = b_is_rising := rfl
@[simp] theorem g_3 : G.fns[3]? = some f_depth_of := rfl
@[simp] theorem io_depth_of : f_depth_of.io = [false] := rfl
@[simp] theorem ps_depth_of : f_depth_of.ps.length = 1 := rfl
@[simp] theorem N_depth_of : f_depth_of.N.length = 5 := rfl
@[simp] theorem bd_depth_of : f_depth_of.body = b_depth_of := rfl
@[simp] theorem g_4 : G.fns[4]? = some f_items_in := rfl
@[simp] theorem io_items_in : f_items_in.io = [false] := rfl
@[simp] theorem ps_items_in : f_items_in.ps.length = 1 := rfl
@[simp] theorem N_items_in : f_items_in.N.length = 4 := rfl
@[simp] theorem bd_items_in : f_items_in.body = b_items_in := rfl
@[simp] theorem g_5 : G.fns[5]? = some f_is_two_three := rfl
@[simp] theorem io_is_two_three : f_is_two_three.io = [false] := rfl
@[simp] theorem ps_is_two_three : f_is_two_three.ps.length = 1 := rfl
@[simp] theorem N_is_two_three : f_is_two_three.N.length = 1 := rfl
@[simp] theorem bd_is_two_three : f_is_two_three.body = b_is_two_three := rfl
@[simp] theorem g_6 : G.fns[6]? = some f_check_tree := rfl
@[simp] theorem io_check_tree : f_check_tree.io = [false] := rfl
@[simp] theorem ps_check_tree : f_check_tree.ps.length = 1 := rfl
@[simp] theorem N_check_tree : f_check_tree.N.length = 1 := rfl
@[simp] theorem bd_check_tree : f_check_tree.body = b_check_tree := rfl
@[simp] theorem g_7 : G.fns[7]? = some f_items_of := rfl
@[simp] theorem io_items_of : f_items_of.io = [false] := rfl
@[simp] theorem ps_items_of : f_items_of.ps.length = 1 := rfl
@[simp] theorem N_items_of : f_items_of.N.length = 1 := rfl
@[simp] theorem bd_items_of : f_items_of.body = b_items_of := rfl
@[simp] theorem g_8 : G.fns[8]? = some f_grown_parts := rfl
@[simp] theorem io_grown_parts : f_grown_parts.io = [false,false] := rfl
@[simp] theorem ps_grown_parts : f_grown_parts.ps.length = 2 := rfl
@[simp] theorem N_grown_parts : f_grown_parts.N.length = 7 := rfl
@[simp] theorem bd_grown_parts : f_grown_parts.body = b_grown_parts := rfl
@[simp] theorem g_9 : G.fns[9]? = some f_grown := rfl
@[simp] theorem io_grown : f_grown.io = [false,false] := rfl
@[simp] theorem ps_grown : f_grown.ps.length = 2 := rfl
@[simp] theorem N_grown : f_grown.N.length = 4 := rfl
@[simp] theorem bd_grown : f_grown.body = b_grown := rfl
@[simp] theorem g_10 : G.fns[10]? = some f_two_three_count := rfl
@[simp] theorem io_two_three_count : f_two_three_count.io = [false] := rfl
@[simp] theorem ps_two_three_count : f_two_three_count.ps.length = 1 := rfl
@[simp] theorem N_two_three_count : f_two_three_count.N.length = 3 := rfl
@[simp] theorem bd_two_three_count : f_two_three_count.body = b_two_three_count := rfl
@[simp] theorem g_11 : G.fns[11]? = some f_next_level := rfl
@[simp] theorem io_next_level : f_next_level.io = [false,false] := rfl
@[simp] theorem ps_next_level : f_next_level.ps.length = 2 := rfl
@[simp] theorem N_next_level : f_next_level.N.length = 8 := rfl
@[simp] theorem bd_next_level : f_next_level.body = b_next_level := rfl
@[simp] theorem g_12 : G.fns[12]? = some f__law_cell := rfl
@[simp] theorem io__law_cell : f__law_cell.io = [false,false] := rfl
@[simp] theorem ps__law_cell : f__law_cell.ps.length = 2 := rfl
@[simp] theorem N__law_cell : f__law_cell.N.length = 2 := rfl
@[simp] theorem bd__law_cell : f__law_cell.body = b__law_cell := rfl
@[simp] theorem g_13 : G.fns[13]? = some f__law_box := rfl
@[simp] theorem io__law_box : f__law_box.io = [false] := rfl
@[simp] theorem ps__law_box : f__law_box.ps.length = 1 := rfl
@[simp] theorem N__law_box : f__law_box.N.length = 1 := rfl
@[simp] theorem bd__law_box : f__law_box.body = b__law_box := rfl
@[simp] theorem g_14 : G.fns[14]? = some f__law_take := rfl
@[simp] theorem io__law_take : f__law_take.io = [true,false] := rfl
@[simp] theorem ps__law_take : f__law_take.ps.length = 2 := rfl
@[simp] theorem N__law_take : f__law_take.N.length = 4 := rfl
@[simp] theorem bd__law_take : f__law_take.body = b__law_take := rfl
@[simp] theorem g_15 : G.fns[15]? = some f__law_same := rfl
@[simp] theorem io__law_same : f__law_same.io = [false,false] := rfl
@[simp] theorem ps__law_same : f__law_same.ps.length = 2 := rfl
@[simp] theorem N__law_same : f__law_same.N.length = 3 := rfl
@[simp] theorem bd__law_same : f__law_same.body = b__law_same := rfl
@[simp] theorem g_16 : G.fns[16]? = some f__law_mixed := rfl
@[simp] theorem io__law_mixed : f__law_mixed.io = [true,false] := rfl
@[simp] theorem ps__law_mixed : f__law_mixed.ps.length = 2 := rfl
@[simp] theorem N__law_mixed : f__law_mixed.N.length = 4 := rfl
@[simp] theorem bd__law_mixed : f__law_mixed.body = b__law_mixed := rfl
@[simp] theorem g_17 : G.fns[17]? = some f__law_told := rfl
@[simp] theorem io__law_told : f__law_told.io = [false,false,false] := rfl
@[simp] theorem ps__law_told : f__law_told.ps.length = 3 := rfl
@[simp] theorem N__law_told : f__law_told.N.length = 4 := rfl
@[simp] theorem bd__law_told : f__law_told.body = b__law_told := rfl
@[simp] theorem g_18 : G.fns[18]? = some f__law_items := rfl
@[simp] theorem io__law_items : f__law_items.io = [false] := rfl
@[simp] theorem ps__law_items : f__law_items.ps.length = 1 := rfl
@[simp] theorem N__law_items : f__law_items.N.length = 3 := rfl
@[simp] theorem bd__law_items : f__law_items.body = b__law_items := rfl
@[simp] theorem g_19 : G.fns[19]? = some f__law_put := rfl
@[simp] theorem io__law_put : f__law_put.io = [false,false] := rfl
@[simp] theorem ps__law_put : f__law_put.ps.length = 2 := rfl
@[simp] theorem N__law_put : f__law_put.N.length = 5 := rfl
@[simp] theorem bd__law_put : f__law_put.body = b__law_put := rfl
@[simp] theorem g_20 : G.fns[20]? = some f__law_grown := rfl
@[simp] theorem io__law_grown : f__law_grown.io = [false,false] := rfl
@[simp] theorem ps__law_grown : f__law_grown.ps.length = 2 := rfl
@[simp] theorem N__law_grown : f__law_grown.N.length = 3 := rfl
@[simp] theorem bd__law_grown : f__law_grown.body = b__law_grown := rfl
@[simp] theorem g_21 : G.fns[21]? = some f__law_height := rfl
@[simp] theorem io__law_height : f__law_height.io = [false] := rfl
@[simp] theorem ps__law_height : f__law_height.ps.length = 1 := rfl
@[simp] theorem N__law_height : f__law_height.N.length = 3 := rfl
@[simp] theorem bd__law_height : f__law_height.body = b__law_height := rfl
@[simp] theorem g_22 : G.fns[22]? = some f__law_is := rfl
@[simp] theorem io__law_is : f__law_is.io = [false] := rfl
@[simp] theorem ps__law_is : f__law_is.ps.length = 1 := rfl
@[simp] theorem N__law_is : f__law_is.N.length = 4 := rfl
@[simp] theorem bd__law_is : f__law_is.body = b__law_is := rfl
@[simp] theorem g_23 : G.fns[23]? = some f__law_drawn := rfl
@[simp] theorem io__law_drawn : f__law_drawn.io = [true,false] := rfl
@[simp] theorem ps__law_drawn : f__law_drawn.ps.length = 2 := rfl
@[simp] theorem N__law_drawn : f__law_drawn.N.length = 6 := rfl
@[simp] theorem bd__law_drawn : f__law_drawn.body = b__law_drawn := rfl
@[simp] theorem g_24 : G.fns[24]? = some f__law_count := rfl
@[simp] theorem io__law_count : f__law_count.io = [false] := rfl
@[simp] theorem ps__law_count : f__law_count.ps.length = 1 := rfl
@[simp] theorem N__law_count : f__law_count.N.length = 7 := rfl
@[simp] theorem bd__law_count : f__law_count.body = b__law_count := rfl
@[simp] theorem g_25 : G.fns[25]? = some f__law_spoiled := rfl
@[simp] theorem io__law_spoiled : f__law_spoiled.io = [true,false] := rfl
@[simp] theorem ps__law_spoiled : f__law_spoiled.ps.length = 2 := rfl
@[simp] theorem N__law_spoiled : f__law_spoiled.N.length = 4 := rfl
@[simp] theorem bd__law_spoiled : f__law_spoiled.body = b__law_spoiled := rfl
@[simp] theorem g_26 : G.fns[26]? = some f__law_right := rfl
@[simp] theorem io__law_right : f__law_right.io = [true,false] := rfl
@[simp] theorem ps__law_right : f__law_right.ps.length = 2 := rfl
@[simp] theorem N__law_right : f__law_right.N.length = 12 := rfl
@[simp] theorem bd__law_right : f__law_right.body = b__law_right := rfl
@[simp] theorem g_27 : G.fns[27]? = some f_law := rfl
@[simp] theorem io_law : f_law.io = [false] := rfl
@[simp] theorem ps_law : f_law.ps.length = 1 := rfl
@[simp] theorem N_law : f_law.N.length = 13 := rfl
@[simp] theorem bd_law : f_law.body = b_law := rfl
@[simp] theorem xl : G.xcs.length = 5 := rfl
@[simp] theorem sx_0_0 : subX G 0 0 = true := rfl
@[simp] theorem sx_0_1 : subX G 0 1 = false := rfl
@[simp] theorem sx_0_2 : subX G 0 2 = false := rfl
@[simp] theorem sx_0_3 : subX G 0 3 = false := rfl
@[simp] theorem sx_0_4 : subX G 0 4 = false := rfl
@[simp] theorem sx_1_0 : subX G 1 0 = true := rfl
@[simp] theorem sx_1_1 : subX G 1 1 = true := rfl
@[simp] theorem sx_1_2 : subX G 1 2 = false := rfl
@[simp] theorem sx_1_3 : subX G 1 3 = false := rfl
@[simp] theorem sx_1_4 : subX G 1 4 = false := rfl
@[simp] theorem sx_2_0 : subX G 2 0 = true := rfl
@[simp] theorem sx_2_1 : subX G 2 1 = false := rfl
@[simp] theorem sx_2_2 : subX G 2 2 = true := rfl
@[simp] theorem sx_2_3 : subX G 2 3 = false := rfl
@[simp] theorem sx_2_4 : subX G 2 4 = false := rfl
@[simp] theorem sx_3_0 : subX G 3 0 = true := rfl
@[simp] theorem sx_3_1 : subX G 3 1 = false := rfl
@[simp] theorem sx_3_2 : subX G 3 2 = false := rfl
@[simp] theorem sx_3_3 : subX G 3 3 = true := rfl
@[simp] theorem sx_3_4 : subX G 3 4 = false := rfl
@[simp] theorem sx_4_0 : subX G 4 0 = true := rfl
@[simp] theorem sx_4_1 : subX G 4 1 = false := rfl
@[simp] theorem sx_4_2 : subX G 4 2 = false := rfl
@[simp] theorem sx_4_3 : subX G 4 3 = false := rfl
@[simp] theorem sx_4_4 : subX G 4 4 = true := rfl
@[simp] theorem gl_0 : G.gls[0]? = some ((Str.ofString "MOST_ITEMS"), .int (12)) := rfl
@[simp] theorem gl_1 : G.gls[1]? = some ((Str.ofString "MOST_COUNTED"), .int (40)) := rfl
end IR.k27
namespace IR
open PySem PySem.Spec L2
/-! ### trees of two or three parts -/
inductive T where | lf (x : Int) | n2 (a b : T) | n3 (a b c : T)
namespace T
def d : T → D
  | .lf x => .tup [.int x]
  | .n2 a b => .tup [a.d, b.d]
  | .n3 a b c => .tup [a.d, b.d, c.d]
@[simp] theorem d_lf {x} : d (.lf x) = .tup [.int x] := rfl
@[simp] theorem d_n2 {a b} : d (.n2 a b) = .tup [a.d, b.d] := rfl
@[simp] theorem d_n3 {a b c} : d (.n3 a b c) = .tup [a.d, b.d, c.d] := rfl
@[simp] theorem pure : ∀ t : T, t.d.pure = true
  | .lf _ => rfl
  | .n2 a b => by simp [a.pure, b.pure]
  | .n3 a b c => by simp [a.pure, b.pure, c.pure]
@[simp] theorem fz (t : T) : t.d.fz = t.d := D.fz_of_pure _ t.pure
@[simp] theorem own : ∀ t : T, t.d.own = true
  | .lf _ => rfl
  | .n2 a b => by simp [a.own, b.own]
  | .n3 a b c => by simp [a.own, b.own, c.own]
theorem nb : ∀ t : T, t.d.nb = true
  | .lf _ => rfl
  | .n2 a b => by simp [a.nb, b.nb]
  | .n3 a b c => by simp [a.nb, b.nb, c.nb]
theorem sm : ∀ t : T, t.d.sm = true
  | .lf _ => rfl
  | .n2 a b => by simp [a.sm, b.sm]
  | .n3 a b c => by simp [a.sm, b.sm, c.sm]
@[simp] theorem pures (ts : List T) : D.pures (ts.map d) = true := D.pures_all _ (by simp)
@[simp] theorem fzs (ts : List T) : D.fzs (ts.map d) = ts.map d := D.fzs_of_pure _ (pures ts)
@[simp] theorem tyd (t : T) : tyN t.d = "tuple" := by cases t <;> rfl
def kids : T → List T
  | .lf _ => []
  | .n2 a b => [a, b]
  | .n3 a b c => [a, b, c]
def its : T → List Int
  | .lf x => [x]
  | .n2 a b => a.its ++ b.its
  | .n3 a b c => a.its ++ (b.its ++ c.its)
/-- all leaves so deep -/
def gd : Nat → T → Prop
  | 0, .lf _ => True
  | _ + 1, .lf _ => False
  | 0, _ => False
  | h + 1, .n2 a b => gd h a ∧ gd h b
  | h + 1, .n3 a b c => gd h a ∧ gd h b ∧ gd h c
@[simp] theorem gd_lf0 {x} : gd 0 (.lf x) ↔ True := by simp [gd]
@[simp] theorem gd_lfs {x h} : gd (h + 1) (.lf x) ↔ False := by simp [gd]
@[simp] theorem gd_n20 {a b} : gd 0 (.n2 a b) ↔ False := by simp [gd]
@[simp] theorem gd_n30 {a b c} : gd 0 (.n3 a b c) ↔ False := by simp [gd]
@[simp] theorem gd_n2 {a b h} : gd (h + 1) (.n2 a b) ↔ gd h a ∧ gd h b := by simp [gd]
@[simp] theorem gd_n3 {a b c h} : gd (h + 1) (.n3 a b c) ↔ gd h a ∧ gd h b ∧ gd h c := by simp [gd]
theorem its_pos : ∀ t : T, 1 ≤ t.its.length
  | .lf _ => Nat.le_refl _
  | .n2 a b => by have := a.its_pos; simp [its]; omega
  | .n3 a b c => by have := a.its_pos; simp [its]; omega
theorem its_ne (t : T) : t.its ≠ [] := fun e => by have := t.its_pos; rw [e] at this; simp at this
theorem pow_le : ∀ {h : Nat} {t : T}, gd h t → 2 ^ h ≤ t.its.length
  | 0, t, _ => t.its_pos
  | h + 1, .lf _, g => by simp at g
  | h + 1, .n2 a b, g => by
    simp at g
    have := pow_le g.1; have := pow_le g.2
    simp [its, Nat.pow_succ]; omega
  | h + 1, .n3 a b c, g => by
    simp at g
    have := pow_le g.1; have := pow_le g.2.1
    simp [its, Nat.pow_succ]; omega
theorem h4 {h : Nat} {t : T} (g : gd h t) (l : t.its.length ≤ 24) : h ≤ 4 := by
  have := pow_le g
  match h, this with
  | 0, _ => omega
  | 1, _ => omega
  | 2, _ => omega
  | 3, _ => omega
  | 4, _ => omega
  | h + 5, this =>
    have : 2 ^ 5 ≤ 2 ^ (h + 5) := Nat.pow_le_pow_right (by omega) (by omega)
    omega
theorem dep : ∀ {h : Nat} {t : T}, gd h t → t.d.dep ≤ h + 1
  | 0, .lf _, _ => by simp
  | 0, .n2 _ _, g => by simp at g
  | 0, .n3 _ _ _, g => by simp at g
  | h + 1, .lf _, g => by simp at g
  | h + 1, .n2 a b, g => by
    simp at g
    have := dep g.1; have := dep g.2
    simp; omega
  | h + 1, .n3 a b c, g => by
    simp at g
    have := dep g.1; have := dep g.2.1; have := dep g.2.2
    simp; omega
theorem kids_its {h : Nat} {t : T} (g : gd (h + 1) t) : t.kids.flatMap its = t.its := by
  cases t <;> simp [kids, its] at g ⊢
theorem kids_gd {h : Nat} {t : T} (g : gd (h + 1) t) : ∀ k ∈ t.kids, gd h k := by
  cases t <;> simp [kids] at g ⊢
  · exact g
  · exact g
theorem kids_d {h : Nat} {t : T} (g : gd (h + 1) t) : t.d = .tup (t.kids.map d) := by
  cases t <;> simp [kids] at g ⊢
theorem kids_len {h : Nat} {t : T} (g : gd (h + 1) t) : t.kids.length = 2 ∨ t.kids.length = 3 := by
  cases t <;> simp [kids] at g ⊢
/-- the items of a row -/
def ri (ts : List T) : List Int := ts.flatMap its
@[simp] theorem ri_nil : ri [] = [] := rfl
@[simp] theorem ri_cons {t ts} : ri (t :: ts) = t.its ++ ri ts := rfl
@[simp] theorem ri_app {ts us} : ri (ts ++ us) = ri ts ++ ri us := by simp [ri]
theorem ri_len (ts : List T) : ts.length ≤ (ri ts).length := by
  induction ts with
  | nil => simp
  | cons t ts ih => have := t.its_pos; simp; omega
theorem ri_kids {h : Nat} : ∀ {ts : List T}, (∀ t ∈ ts, gd (h + 1) t) → ri (ts.flatMap kids) = ri ts
  | [], _ => rfl
  | t :: ts, g => by
    have e := kids_its (g t (by simp))
    simp only [List.flatMap_cons, ri_app, ri_cons]
    rw [ri_kids fun u hu => g u (by simp [hu])]
    rw [← e]; rfl
end T
theorem loopA_flat {f : D → List D → Ev → R (List D)} {w : Ev} : ∀ {rows : List (List D)} {acc : List D}, (∀ r ∈ rows, ∀ acc, acc.length + r.length ≤ 100 → f (.tup r) acc w = .ok (acc ++ r) w) → acc.length + rows.flatten.length ≤ 100 → loopA f (rows.map .tup) acc w = .ok (acc ++ rows.flatten) w
  | [], acc, _, _ => by simp [loopA]
  | r :: rows, acc, h, l => by
    simp at l
    simp only [List.map_cons, loopA]
    rw [h r (by simp) acc (by omega), R.bind_ok, loopA_flat (fun q hq => h q (by simp [hq])) (by simp; omega)]
    simp
theorem filterMap_fz {r : List D} (h : D.pures r = true) : r.filterMap (fun x => some x.fz) = r := by
  have e := D.fzs_of_pure _ h
  clear h
  induction r with
  | nil => rfl
  | cons x r ih =>
    simp only [D.fzs, List.cons.injEq] at e
    simp only [List.filterMap_cons, ih e.2, e.1]
/-- a flattening comprehension -/
theorem ev_flat3 {G : Tab} {call : Calls} {m : Md} {x0 x2 : Option D} {o : Bool} {rows : List (List D)} (hp : ∀ r ∈ rows, D.pures r = true) (hl : rows.flatten.length ≤ 100) {x3 x4 : Option D} :
    ev G call m (.lc2 (.nm 3) .e (.cons (.frz (.var 1)) .nil) .nil (.nm 4) .e (.cons (.frz (.var 3)) .nil) .nil (.var 4)) [x0, some (.lst o (rows.map .tup)), x2, x3, x4] = .ok (.tmp (.lst true rows.flatten)) [x0, some (.lst false (rows.map .tup)), x2, x3, x4] := by
  have pr : D.pures (rows.map .tup) = true := D.pures_all _ (by simp [D.pure]; exact hp)
  rw [ev]
  cases o <;> simp [pr, D.fzs_of_pure _ pr, R.bind_ok]
  all_goals
    rw [loopA_flat ?_ (by simpa using hl)]
    · simp [R.bind_ok]
    · intro r hr acc l
      have q := hp r hr
      simp [q, D.fzs_of_pure _ q, R.bind_ok]
      rw [loopC_opt (fun x => some x.fz) r acc (fun x hx => ?_) (by unfold big; omega)]
      · rw [filterMap_fz q]; simp [R.bind_ok, R.noerr]
      · have := pures_mem q x hx
        simp [this, R.bind_ok, R.noerr]
theorem ev_flat2 {G : Tab} {call : Calls} {m : Md} {x0 : Option D} {o : Bool} {rows : List (List D)} (hp : ∀ r ∈ rows, D.pures r = true) (hl : rows.flatten.length ≤ 100) {x3 x4 : Option D} :
    ev G call m (.lc2 (.nm 2) .e (.cons (.frz (.var 1)) .nil) .nil (.nm 3) .e (.cons (.frz (.var 2)) .nil) .nil (.var 3)) [x0, some (.lst o (rows.map .tup)), x3, x4] = .ok (.tmp (.lst true rows.flatten)) [x0, some (.lst false (rows.map .tup)), x3, x4] := by
  have pr : D.pures (rows.map .tup) = true := D.pures_all _ (by simp [D.pure]; exact hp)
  rw [ev]
  cases o <;> simp [pr, D.fzs_of_pure _ pr, R.bind_ok]
  all_goals
    rw [loopA_flat ?_ (by simpa using hl)]
    · simp [R.bind_ok]
    · intro r hr acc l
      have q := hp r hr
      simp [q, D.fzs_of_pure _ q, R.bind_ok]
      rw [loopC_opt (fun x => some x.fz) r acc (fun x hx => ?_) (by unfold big; omega)]
      · rw [filterMap_fz q]; simp [R.bind_ok, R.noerr]
      · have := pures_mem q x hx
        simp [this, R.bind_ok, R.noerr]
end IR
set_option maxHeartbeats 2000000
namespace IR.k27
open PySem PySem.Spec L2
theorem c_int {n : Nat} (hn : 1 ≤ n) {x : Int} : callF G n 0 [.int x] = .ok (.bl true) [] := by
  refine callF_at g_0 (by omega) fun m e => ?_
  simp [runBody_eq, b_is_integer, List.replicate]
def lenD : D → Nat
  | .tup xs => xs.length
  | _ => 0
section
variable {m : Nat} {row : List T} {v x2 : Option D}
theorem dep_lc {e : E} (q : T → Bool) (hl : row.length ≤ 100) (h : ∀ t ∈ row, lcW G (callF G m) (.nm 3) .nil e t.d [v, some (.lst true (row.map T.d)), x2, none, none] = .ok (some (.bl (q t))) [v, some (.lst true (row.map T.d)), x2, none, none]) :
    loopCL (lcW G (callF G m) (.nm 3) .nil e) 1 fuel 0 [] [v, some (.lst true (row.map T.d)), x2, none, none] = .ok (row.map fun t => .bl (q t)) [v, some (.lst true (row.map T.d)), x2, none, none] := by
  have key : ∀ (n k : Nat) (acc : List D), k ≤ row.length → row.length < n + k → acc.length + (row.length - k) ≤ 1000 → loopCL (lcW G (callF G m) (.nm 3) .nil e) 1 n k acc [v, some (.lst true (row.map T.d)), x2, none, none] = .ok (acc ++ (row.drop k).map fun t => .bl (q t)) [v, some (.lst true (row.map T.d)), x2, none, none] := by
    intro n
    induction n with
    | zero => intro k acc _ l; omega
    | succ n ih =>
      intro k acc l0 l hb
      unfold loopCL
      by_cases hk : k < row.length
      · have e1 : liveAt [v, some (.lst true (row.map T.d)), x2, none, none] 1 k = some (some row[k].d) := by
          simp [liveAt, hk]
        rw [e1]
        simp only
        rw [h _ (List.getElem_mem hk), R.bind_ok, if_pos (by unfold big; omega), ih (k + 1) _ (by omega) (by omega) (by simp; omega)]
        rw [List.drop_eq_getElem_cons hk, List.map_cons, List.append_assoc]
        rfl
      · have e1 : liveAt [v, some (.lst true (row.map T.d)), x2, none, none] 1 k = some none := by
          simp [liveAt, hk]
        rw [e1, List.drop_eq_nil_of_le (by omega)]
        simp
  simpa using key fuel 0 [] (by omega) (by unfold fuel; omega) (by simp; omega)
end
/-- how deep, row by row -/
theorem dep_go {m : Nat} (hm : 1 ≤ m) {v : D} {H : Nat} {xs : List Int} (hx : xs.length ≤ 100) {h k : Nat} {row : List T} (hk : k + h = H) (g : ∀ t ∈ row, T.gd h t) (ne : row ≠ []) (hr : T.ri row = xs) (hh : h < 100) :
    ∃ x1 x2 x3 x4, (xs.length ≤ 12 ∧ whileN (evB G (callF G m) t_depth_of_1) (run G (callF G m) w_depth_of_1) fuel [some v, some (.lst true (row.map T.d)), some (.int (k : Nat)), none, none] = .ret (.int (H : Nat)) [some v, x1, x2, x3, x4])
      ∨ (12 < xs.length ∧ whileN (evB G (callF G m) t_depth_of_1) (run G (callF G m) w_depth_of_1) fuel [some v, some (.lst true (row.map T.d)), some (.int (k : Nat)), none, none] = .nx [some v, x1, x2, x3, x4]) := by
  refine whileN_go (t := evB G (callF G m) t_depth_of_1) (b := run G (callF G m) w_depth_of_1)
    (fun s : Nat × Nat × List T => [some v, some (.lst true (s.2.2.map T.d)), some (.int (s.2.1 : Nat)), none, none])
    (fun s => s.2.1 + s.1 = H ∧ (∀ t ∈ s.2.2, T.gd s.1 t) ∧ s.2.2 ≠ [] ∧ T.ri s.2.2 = xs)
    (fun s => decide (s.2.2.length ≤ 12)) (fun s => s.1)
    (fun o => ∃ x1 x2 x3 x4, (xs.length ≤ 12 ∧ o = .ret (.int (H : Nat)) [some v, x1, x2, x3, x4]) ∨ (12 < xs.length ∧ o = .nx [some v, x1, x2, x3, x4]))
    ?_ ?_ ?_ fuel (h, k, row) ⟨hk, g, ne, hr⟩ (by simp only; unfold fuel; omega)
  · rintro ⟨h, k, row⟩ ⟨hk, g, ne, hr⟩
    have := T.ri_len row
    simp [t_depth_of_1]
    omega
  · rintro ⟨h, k, row⟩ ⟨hk, g, ne, hr⟩ e
    have := T.ri_len row
    simp only [decide_eq_false_iff_not] at e
    simp only at hr
    rw [hr] at this
    exact ⟨_, _, _, _, .inr ⟨by omega, rfl⟩⟩
  · rintro ⟨h, k, row⟩ ⟨hk, g, ne, hr⟩ e
    simp only [decide_eq_true_eq] at e hk g ne hr
    have l1 := dep_lc (m := m) (row := row) (v := some v) (x2 := some (.int (k : Nat))) (e := e_depth_of_1) (fun _ => true) (by omega) (fun t ht => by simp [lcW_eq, e_depth_of_1])
    cases h with
    | zero =>
      have l2 := dep_lc (m := m) (row := row) (v := some v) (x2 := some (.int (k : Nat))) (e := e_depth_of_2) (fun _ => true) (by omega) (fun t ht => by
        have := g t ht
        cases t with
        | lf x =>
          have z := c_int hm (x := x)
          simp [lcW_eq, e_depth_of_2, z]
        | n2 a b => simp at this
        | n3 a b c => simp at this)
      have a1 : (row.all fun _ => true) = true := by simp
      have lr : xs.length = row.length := by
        rw [← hr]
        clear l1 l2 hr e ne a1
        induction row with
        | nil => rfl
        | cons t row ih =>
          have h1 := g t (by simp)
          have h2 := ih fun u hu => g u (by simp [hu])
          cases t <;> simp [T.its] at h1 ⊢
          simpa using h2
      simp [w_depth_of_1, l1, l2, a1]
      have eH : k = H := by omega
      subst eH
      exact ⟨by omega, rfl⟩
    | succ h =>
      have l2 := dep_lc (m := m) (row := row) (v := some v) (x2 := some (.int (k : Nat))) (e := e_depth_of_2) (fun _ => false) (by omega) (fun t ht => by
        have := g t ht
        cases t with
        | lf x => simp at this
        | n2 a b => simp [lcW_eq, e_depth_of_2]
        | n3 a b c => simp [lcW_eq, e_depth_of_2])
      have l3 := dep_lc (m := m) (row := row) (v := some v) (x2 := some (.int (k : Nat))) (e := e_depth_of_3) (fun _ => true) (by omega) (fun t ht => by
        have := g t ht
        cases t with
        | lf x => simp at this
        | n2 a b => simp [lcW_eq, e_depth_of_3]
        | n3 a b c => simp [lcW_eq, e_depth_of_3])
      have a1 : (row.all fun _ => true) = true := by simp
      have a0 : (row.all fun _ => false) = false := by
        cases row with
        | nil => exact absurd rfl ne
        | cons t row => simp
      have er : row.map T.d = (row.map fun t => t.kids.map T.d).map .tup := by
        rw [List.map_map]
        exact List.map_congr_left fun t ht => T.kids_d (g t ht)
      have ef : (row.map fun t => t.kids.map T.d).flatten = (row.flatMap T.kids).map T.d := by
        rw [List.map_flatMap, List.flatMap_def]
      have rk := T.ri_kids g
      have lk := T.ri_len (row.flatMap T.kids)
      rw [rk, hr] at lk
      have l4 := ev_flat3 (G := G) (call := callF G m) (m := .mov) (x0 := some v) (x2 := some (.int (k : Nat))) (o := true) (rows := row.map fun t => t.kids.map T.d) (by intro r hr; obtain ⟨t, _, rfl⟩ := List.mem_map.mp hr; exact T.pures _) (by rw [ef, List.length_map]; omega) (x3 := none) (x4 := none)
      rw [← er, ef] at l4
      have l4' : ∀ md, ev G (callF G m) md (.lc2 (.nm 3) .e (.cons (.frz (.var 1)) .nil) .nil (.nm 4) .e (.cons (.frz (.var 3)) .nil) .nil e_depth_of_4) [some v, some (.lst true (row.map T.d)), some (.int (k : Nat)), none, none] = .ok (.tmp (.lst true ((row.flatMap T.kids).map T.d))) [some v, some (.lst false (row.map T.d)), some (.int (k : Nat)), none, none] := fun md => by
        have l4 := ev_flat3 (G := G) (call := callF G m) (m := md) (x0 := some v) (x2 := some (.int (k : Nat))) (o := true) (rows := row.map fun t => t.kids.map T.d) (by intro r hr; obtain ⟨t, _, rfl⟩ := List.mem_map.mp hr; exact T.pures _) (by rw [ef, List.length_map]; omega) (x3 := none) (x4 := none)
        rw [← er, ef] at l4
        exact l4
      simp [w_depth_of_1, l1, l2, l3, l4', a1, a0, -List.map_flatMap]
      refine ⟨h, k + 1, row.flatMap T.kids, ⟨rfl, by simp⟩, ⟨by omega, ?_, ?_, ?_⟩, by omega⟩
      · intro t ht
        obtain ⟨u, hu, ht⟩ := List.mem_flatMap.mp ht
        exact T.kids_gd (g u hu) t ht
      · cases row with
        | nil => exact absurd rfl ne
        | cons t row =>
          have kl := T.kids_len (g t (by simp))
          intro z
          rw [List.flatMap_cons] at z
          have := congrArg List.length z
          simp at this
          rcases this with ⟨h1, _⟩
          rw [h1] at kl
          simp at kl
      · rw [rk]; exact hr
theorem c_depth {n : Nat} (hn : 2 ≤ n) {h : Nat} {t : T} (g : T.gd h t) (l : t.its.length ≤ 100) : callF G n 3 [t.d] = .ok (if t.its.length ≤ 12 then .int (h : Nat) else .non) [] := by
  refine callF_at g_3 (by omega) fun m e => ?_
  have hh : h < 100 := by
    have := T.pow_le g
    have := Nat.lt_two_pow_self (n := h)
    omega
  obtain ⟨x1, x2, x3, x4, q⟩ := dep_go (m := m) (by omega) (v := t.d) (H := h) (xs := t.its) l (h := h) (k := 0) (row := [t]) (by omega) (by simp [g]) (by simp) (by simp [T.ri]) hh
  rcases q with ⟨l, e⟩ | ⟨l, e⟩
  · simp at e
    simp [runBody_eq, b_depth_of, List.replicate, e, l]
  · simp at e
    simp [runBody_eq, b_depth_of, List.replicate, e, show ¬ t.its.length ≤ 12 by omega]
/-- rising, place by place -/
def asc (xs : List Int) : Bool := decide (xs.Pairwise (· < ·))
theorem c_is_rising {n : Nat} (hn : 1 ≤ n) {xs : List Int} (hl : xs.length ≤ 100) : callF G n 2 [.lst false (xs.map .int)] = .ok (.bl (asc xs)) [] := by
  refine callF_at g_2 (by omega) fun m e => ?_
  have key : loopC (lcW G (callF G m) (.nm 1) .nil e_is_rising_1) (rngD 0 ((xs.length : Int) - 1)) [] [some (.lst false (xs.map .int)), none] = .ok ((rngD 0 ((xs.length : Int) - 1)).map fun x => .bl (match x with | .int k => decide (xs.getD k.toNat 0 < xs.getD (k.toNat + 1) 0) | _ => false)) [some (.lst false (xs.map .int)), none] := by
    refine loopC_map _ (fun x hx => ?_) (by rw [rngD_length]; unfold big; omega)
    obtain ⟨k, rfl, k0, k1⟩ := rngD_mem hx
    obtain ⟨j, rfl⟩ : ∃ j : Nat, k = j := ⟨k.toNat, by omega⟩
    have h1 : j < xs.length := by omega
    have h2 : j + 1 < xs.length := by omega
    have e1 := atI_nat (xs := xs.map D.int) (k := j) (by simp; omega)
    have e2 := atI_nat (xs := xs.map D.int) (k := j + 1) (by simp; omega)
    simp at e1 e2
    simp [lcW_eq, e_is_rising_1, e1, e2, h1, h2]
  have hl' : (xs.length : Int) - 1 ≤ 100000 := by omega
  have hl2 : (-100000 : Int) ≤ (xs.length : Int) - 1 := by omega
  simp [runBody_eq, b_is_rising, List.replicate, hl', hl2, key]
  unfold asc
  rw [Bool.eq_iff_iff, List.all_eq_true, decide_eq_true_eq]
  constructor
  · intro h
    rw [List.pairwise_iff_getElem]
    have step : ∀ d i : Nat, (hi : i + d + 1 < xs.length) → xs[i]'(by omega) < xs[i + d + 1] := by
      intro d
      induction d with
      | zero =>
        intro i hi
        have := h (.int (i : Nat)) (by
          unfold rngD
          exact List.mem_map.mpr ⟨i, by simp; omega, by simp⟩)
        simpa [show i < xs.length by omega, show i + 1 < xs.length by omega] using this
      | succ d ih =>
        intro i hi
        have a := ih i (by omega)
        have := h (.int (i + d + 1 : Nat)) (by
          unfold rngD
          exact List.mem_map.mpr ⟨i + d + 1, by simp; omega, by simp⟩)
        have b : xs[i + d + 1]'(by omega) < xs[i + d + 1 + 1]'(by omega) := by simpa [show ((i : Int) + d + 1).toNat = i + d + 1 by omega, show i + d + 1 < xs.length by omega, show i + d + 1 + 1 < xs.length by omega] using this
        have e : i + (d + 1) + 1 = i + d + 1 + 1 := by omega
        simp only [e]
        omega
    intro i j hi hj hij
    have := step (j - i - 1) i (by omega)
    have e : i + (j - i - 1) + 1 = j := by omega
    simpa only [e] using this
  · intro h x hx
    obtain ⟨k, rfl, k0, k1⟩ := rngD_mem hx
    have := List.pairwise_iff_getElem.mp h k.toNat (k.toNat + 1) (by omega) (by omega) (by omega)
    simpa [show k.toNat < xs.length by omega, show k.toNat + 1 < xs.length by omega] using this
end IR.k27
set_option maxHeartbeats 2000000
namespace IR.k27
open PySem PySem.Spec L2
theorem items_go {m : Nat} {v : D} {xs : List Int} (hx : xs.length ≤ 100) {h : Nat} {row : List T} (g : ∀ t ∈ row, T.gd h t) (ne : row ≠ []) (hr : T.ri row = xs) (hh : h < 100) :
    ∃ row' : List T, (∀ t ∈ row', T.gd 0 t) ∧ T.ri row' = xs ∧ whileN (evB G (callF G m) t_items_in_1) (run G (callF G m) w_items_in_1) fuel [some v, some (.lst true (row.map T.d)), none, none] = .nx [some v, some (.lst true (row'.map T.d)), none, none] := by
  refine whileN_go (t := evB G (callF G m) t_items_in_1) (b := run G (callF G m) w_items_in_1)
    (fun s : Nat × List T => [some v, some (.lst true (s.2.map T.d)), none, none])
    (fun s => (∀ t ∈ s.2, T.gd s.1 t) ∧ s.2 ≠ [] ∧ T.ri s.2 = xs)
    (fun s => decide (s.1 ≠ 0)) (fun s => s.1)
    (fun o => ∃ row' : List T, (∀ t ∈ row', T.gd 0 t) ∧ T.ri row' = xs ∧ o = .nx [some v, some (.lst true (row'.map T.d)), none, none])
    ?_ ?_ ?_ fuel (h, row) ⟨g, ne, hr⟩ (by simp only; unfold fuel; omega)
  · rintro ⟨h, row⟩ ⟨g, ne, hr⟩
    simp only at g ne
    cases row with
    | nil => exact absurd rfl ne
    | cons t row =>
      have := g t (by simp)
      cases h with
      | zero => cases t <;> simp at this; simp [t_items_in_1]
      | succ h => cases t <;> simp at this <;> simp [t_items_in_1]
  · rintro ⟨h, row⟩ ⟨g, ne, hr⟩ e
    simp at e
    subst e
    exact ⟨row, g, hr, rfl⟩
  · rintro ⟨h, row⟩ ⟨g, ne, hr⟩ e
    simp at e
    obtain ⟨h, rfl⟩ : ∃ j, h = j + 1 := ⟨h - 1, by omega⟩
    simp only at g ne hr
    have er : row.map T.d = (row.map fun t => t.kids.map T.d).map .tup := by
      rw [List.map_map]
      exact List.map_congr_left fun t ht => T.kids_d (g t ht)
    have ef : (row.map fun t => t.kids.map T.d).flatten = (row.flatMap T.kids).map T.d := by
      rw [List.map_flatMap, List.flatMap_def]
    have rk := T.ri_kids g
    have lk := T.ri_len (row.flatMap T.kids)
    rw [rk, hr] at lk
    have l4 : ∀ md, ev G (callF G m) md (.lc2 (.nm 2) .e (.cons (.frz (.var 1)) .nil) .nil (.nm 3) .e (.cons (.frz (.var 2)) .nil) .nil e_items_in_1) [some v, some (.lst true (row.map T.d)), none, none] = .ok (.tmp (.lst true ((row.flatMap T.kids).map T.d))) [some v, some (.lst false (row.map T.d)), none, none] := fun md => by
      have l4 := ev_flat2 (G := G) (call := callF G m) (m := md) (x0 := some v) (o := true) (rows := row.map fun t => t.kids.map T.d) (by intro r hr; obtain ⟨t, _, rfl⟩ := List.mem_map.mp hr; exact T.pures _) (by rw [ef, List.length_map]; omega) (x3 := none) (x4 := none)
      rw [← er, ef] at l4
      exact l4
    simp [w_items_in_1, l4]
    refine ⟨h, row.flatMap T.kids, rfl, ⟨?_, ?_, ?_⟩, by omega⟩
    · intro t ht
      obtain ⟨u, hu, ht⟩ := List.mem_flatMap.mp ht
      exact T.kids_gd (g u hu) t ht
    · cases row with
      | nil => exact absurd rfl ne
      | cons t row =>
        have kl := T.kids_len (g t (by simp))
        intro z
        rw [List.flatMap_cons] at z
        have := congrArg List.length z
        simp at this
        rcases this with ⟨h1, _⟩
        rw [h1] at kl
        simp at kl
    · rw [rk]; exact hr
theorem leaf_ri : ∀ {row : List T}, (∀ t ∈ row, T.gd 0 t) → row.map T.d = (T.ri row).map fun x => .tup [.int x]
  | [], _ => rfl
  | t :: row, g => by
    have h1 := g t (by simp)
    have h2 := leaf_ri (row := row) fun u hu => g u (by simp [hu])
    cases t <;> simp at h1
    simp [T.its, h2]
theorem c_items {n : Nat} (hn : 1 ≤ n) {h : Nat} {t : T} (g : T.gd h t) (l : t.its.length ≤ 100) : callF G n 4 [t.d] = .ok (.lst true (t.its.map .int)) [] := by
  refine callF_at g_4 (by omega) fun m e => ?_
  have hh : h < 100 := by
    have := T.pow_le g
    have := Nat.lt_two_pow_self (n := h)
    omega
  obtain ⟨row, g0, er, e⟩ := items_go (m := m) (v := t.d) (xs := t.its) l (h := h) (row := [t]) (by simp [g]) (by simp) (by simp [T.ri]) hh
  have el := leaf_ri g0
  rw [er] at el
  simp at e
  have key := loopCL_opt (f := lcW G (callF G m) (.nm 2) .nil e_items_in_2) (δ := [some t.d, some (.lst true (row.map T.d)), none, none]) (fun x => match x with | .tup [.int x] => some (.int x) | _ => none) (i := 1) (o := true) (xs := row.map T.d) rfl (T.pures _) (fun x hx => by
    rw [el] at hx
    obtain ⟨y, _, rfl⟩ := List.mem_map.mp hx
    simp [lcW_eq, e_items_in_2]) fuel 0 [] (by simp) (by rw [el, List.length_map]; unfold fuel; omega) (by rw [el, List.length_map, big_eq, List.length_nil]; omega)
  have ek : (row.map T.d).filterMap (fun x => match x with | .tup [.int x] => some (D.int x) | _ => none) = t.its.map .int := by
    rw [el]
    generalize t.its = xs
    induction xs with
    | nil => rfl
    | cons x xs ih => simp only [List.map_cons, List.filterMap_cons]; rw [ih]
  simp only [List.drop_zero, List.nil_append] at key
  rw [ek] at key
  simp [runBody_eq, b_items_in, List.replicate, e, key]
theorem c_lits : ∀ {n : Nat} {h : Nat} {t : T}, h < n → T.gd h t → t.its.length ≤ 100 → callF G n 18 [t.d] = .ok (.lst true (t.its.map .int)) []
  | 0, h, t, hn, _, _ => by omega
  | n + 1, 0, .lf x, hn, g, l => by
    rw [callF_succ, g_18]
    simp [runBody_eq, b__law_items, List.replicate, T.its]
  | n + 1, 0, .n2 _ _, hn, g, l => by simp at g
  | n + 1, 0, .n3 _ _ _, hn, g, l => by simp at g
  | n + 1, h + 1, .lf x, hn, g, l => by simp at g
  | n + 1, h + 1, .n2 a b, hn, g, l => by
    simp at g
    simp [T.its] at l
    have h1 := c_lits (n := n) (h := h) (t := a) (by omega) g.1 (by omega)
    have h2 := c_lits (n := n) (h := h) (t := b) (by omega) g.2 (by omega)
    rw [callF_succ, g_18]
    simp [runBody_eq, b__law_items, List.replicate, T.its, loopF, w__law_items_1, h1, h2, show a.its.length ≤ 1000000 by omega, show a.its.length + b.its.length ≤ 1000000 by omega]
  | n + 1, h + 1, .n3 a b c, hn, g, l => by
    simp at g
    simp [T.its] at l
    have h1 := c_lits (n := n) (h := h) (t := a) (by omega) g.1 (by omega)
    have h2 := c_lits (n := n) (h := h) (t := b) (by omega) g.2.1 (by omega)
    have h3 := c_lits (n := n) (h := h) (t := c) (by omega) g.2.2 (by omega)
    rw [callF_succ, g_18]
    simp [runBody_eq, b__law_items, List.replicate, T.its, loopF, w__law_items_1, h1, h2, h3, show a.its.length ≤ 1000000 by omega, show a.its.length + b.its.length ≤ 1000000 by omega, show a.its.length + b.its.length + c.its.length ≤ 1000000 by omega, show a.its.length + (b.its.length + c.its.length) ≤ 1000000 by omega]
/-- what is_two_three answers -/
def okT (t : T) : Bool := decide (t.its.length ≤ 12) && asc t.its
theorem c_is {n : Nat} (hn : 4 ≤ n) {h : Nat} {t : T} (g : T.gd h t) (l : t.its.length ≤ 100) : callF G n 5 [t.d] = .ok (.bl (okT t)) [] := by
  refine callF_at g_5 (by omega) fun m e => ?_
  have h1 := c_depth (n := m) (by omega) g l
  have h2 := c_items (n := m) (by omega) g l
  have h3 := c_is_rising (n := m) (by omega) (xs := t.its) (by omega)
  by_cases q : t.its.length ≤ 12
  · rw [if_pos q] at h1
    simp [runBody_eq, b_is_two_three, List.replicate, h1, h2, h3, okT, q]
  · rw [if_neg q] at h1
    simp [runBody_eq, b_is_two_three, List.replicate, h1, h2, h3, okT, q]
theorem c_check {n : Nat} (hn : 5 ≤ n) {h : Nat} {t : T} (g : T.gd h t) (l : t.its.length ≤ 100) : callF G n 6 [t.d] = if okT t then .ok .non [] else .err 4 [t.d] := by
  refine callF_at g_6 (by omega) fun m e => ?_
  have h1 := c_is (n := m) (by omega) g l
  cases q : okT t <;> rw [q] at h1 <;> simp [runBody_eq, b_check_tree, List.replicate, h1]
theorem c_items_of {n : Nat} (hn : 6 ≤ n) {h : Nat} {t : T} (g : T.gd h t) (l : t.its.length ≤ 100) (ok : okT t = true) : callF G n 7 [t.d] = .ok (.tup (t.its.map .int)) [] := by
  refine callF_at g_7 (by omega) fun m e => ?_
  have h1 := c_check (n := m) (by omega) g l
  rw [if_pos ok] at h1
  have h2 := c_items (n := m) (by omega) g l
  simp [runBody_eq, b_items_of, List.replicate, h1, h2]
end IR.k27
set_option maxHeartbeats 2000000
namespace IR.k27
open PySem PySem.Spec L2
theorem dEq_empty {h : Nat} {t : T} (g : T.gd h t) (hh : h ≤ 60) : dEq t.d (.tup []) = some false := by
  have := T.dep g
  rw [dEq_nb t.nb rfl (by omega) (by simp)]
  cases t <;> simp
theorem in_non {o : Bool} {xs : List Int} : run2 .in_ .non (.lst o (xs.map .int)) = some (.bl false) := by
  have e : (xs.map D.int).any (fun y => eqFlat y .non) = false := by
    induction xs with
    | nil => rfl
    | cons y ys ih => rw [List.map_cons, List.any_cons, ih]; rfl
  rw [run2_in_1, e, flat_ints]; rfl
theorem one2 (h : Int) : runBl .lset [.lst true [.int h, .int h]] = some (.int 1) := by
  have e := runBl_lset_ints (o := true) (ns := [h, h])
  rw [← firstMet_count (ns := [h, h]) (ks := [h]) (by simp) (by simp)] at e
  simpa using e
theorem one3 (h : Int) : runBl .lset [.lst true [.int h, .int h, .int h]] = some (.int 1) := by
  have e := runBl_lset_ints (o := true) (ns := [h, h, h])
  rw [← firstMet_count (ns := [h, h, h]) (ks := [h]) (by simp) (by simp)] at e
  simpa using e
theorem c_height : ∀ {n : Nat} {h : Nat} {t : T}, h < n → h ≤ 60 → T.gd h t → callF G n 21 [t.d] = .ok (.int (h : Nat)) []
  | 0, h, t, hn, _, _ => by omega
  | n + 1, 0, .lf x, hn, hh, g => by
    have de := dEq_empty g hh
    simp at de
    rw [callF_succ, g_21]
    simp [runBody_eq, b__law_height, List.replicate, de]
  | n + 1, 0, .n2 _ _, hn, hh, g => by simp at g
  | n + 1, 0, .n3 _ _ _, hn, hh, g => by simp at g
  | n + 1, h + 1, .lf x, hn, hh, g => by simp at g
  | n + 1, h + 1, .n2 a b, hn, hh, g => by
    have de := dEq_empty g hh
    simp at g de
    have h1 := c_height (n := n) (h := h) (t := a) (by omega) (by omega) g.1
    have h2 := c_height (n := n) (h := h) (t := b) (by omega) (by omega) g.2
    have z := in_non (o := true) (xs := [(h : Int), h])
    simp at z
    rw [callF_succ, g_21]
    simp [runBody_eq, b__law_height, List.replicate, de, loopC_cons, lcW_eq, e__law_height_1, h1, h2, z, one2]
  | n + 1, h + 1, .n3 a b c, hn, hh, g => by
    have de := dEq_empty g hh
    simp at g de
    have h1 := c_height (n := n) (h := h) (t := a) (by omega) (by omega) g.1
    have h2 := c_height (n := n) (h := h) (t := b) (by omega) (by omega) g.2.1
    have h3 := c_height (n := n) (h := h) (t := c) (by omega) (by omega) g.2.2
    have z := in_non (o := true) (xs := [(h : Int), h, h])
    simp at z
    rw [callF_succ, g_21]
    simp [runBody_eq, b__law_height, List.replicate, de, loopC_cons, lcW_eq, e__law_height_1, h1, h2, h3, z, one3]
/-- what does not rise -/
def zl : List Int → List Int
  | x :: y :: xs => (if y ≤ x then [x] else []) ++ zl (y :: xs)
  | _ => []
theorem zl_asc : ∀ xs : List Int, decide (zl xs = []) = asc xs
  | [] => by simp [zl, asc]
  | [x] => by simp [zl, asc]
  | x :: y :: xs => by
    have ih := zl_asc (y :: xs)
    unfold asc at *
    rw [Bool.eq_iff_iff, decide_eq_true_eq, decide_eq_true_eq] at ih ⊢
    simp only [zl, List.append_eq_nil_iff, ih, List.pairwise_cons, List.mem_cons]
    constructor
    · rintro ⟨h0, h1, h2⟩
      have h0 : x < y := by
        by_cases q : y ≤ x
        · simp [q] at h0
        · omega
      refine ⟨?_, h1, h2⟩
      rintro z (rfl | hz)
      · exact h0
      · have := h1 z hz; omega
    · rintro ⟨h0, h1, h2⟩
      have := h0 y (.inl rfl)
      exact ⟨by rw [if_neg (by omega)], h1, h2⟩
def zg : D → Option D
  | .tup [.int x, .int y] => if y ≤ x then some (.int x) else none
  | _ => none
theorem zip_zl : ∀ xs : List Int, (zipD (xs.map .int) ((xs.drop 1).map .int)).filterMap zg = (zl xs).map .int
  | [] => rfl
  | [x] => rfl
  | x :: y :: xs => by
    have ih := zip_zl (y :: xs)
    simp only [List.drop_succ_cons, List.drop_zero, List.map_cons, zipD] at ih ⊢
    rw [List.filterMap_cons]
    by_cases q : y ≤ x
    · simp only [zg, if_pos q, zl, List.map_append, ih]; rfl
    · simp only [zg, if_neg q, zl, ih]; rfl
theorem zip_mem : ∀ (xs ys : List Int) (d : D), d ∈ zipD (xs.map .int) (ys.map .int) → ∃ x y : Int, d = .tup [.int x, .int y]
  | [], ys, d, h => by simp [zipD] at h
  | x :: xs, [], d, h => by simp [zipD] at h
  | x :: xs, y :: ys, d, h => by
    simp only [List.map_cons, zipD, List.mem_cons] at h
    rcases h with rfl | h
    · exact ⟨x, y, rfl⟩
    · exact zip_mem xs ys d h
theorem zip_len : ∀ xs ys : List D, (zipD xs ys).length ≤ xs.length
  | [], _ => by simp [zipD]
  | _ :: _, [] => by simp [zipD]
  | x :: xs, y :: ys => by have := zip_len xs ys; simp [zipD]; omega
theorem c_law_is {n : Nat} {h : Nat} (hn : h + 1 < n) {t : T} (g : T.gd h t) (l : t.its.length ≤ 100) : callF G n 22 [t.d] = .ok (.bl (okT t)) [] := by
  refine callF_at g_22 (by omega) fun m e => ?_
  have hh : h ≤ 60 := by
    have := T.pow_le g
    have : h < 7 := by
      by_cases q : h < 7
      · exact q
      · have := Nat.pow_le_pow_right (n := 2) (by omega) (show 7 ≤ h by omega)
        omega
    omega
  have h1 := c_height (n := m) (by omega) hh g
  have h2 := c_lits (n := m) (by omega) g l
  unfold okT
  rw [← zl_asc]
  generalize t.its = xs at h2 l
  have hd : cutD (xs.map D.int) (some 1) none = (xs.drop 1).map D.int := by
    have := cutD_from (xs := xs.map D.int) (a := 1)
    simpa [List.map_drop] using this
  by_cases c : xs.length ≤ 12
  · have key : loopC (lcW G (callF G m) (.tp [2, 3]) q__law_is_1 e__law_is_1) (zipD (xs.map .int) ((xs.drop 1).map .int)) [] [some t.d, some (.lst false (xs.map .int)), none, none] = .ok ((zl xs).map .int) [some t.d, some (.lst false (xs.map .int)), none, none] := by
      rw [loopC_opt zg _ [] (fun d hd => by
        obtain ⟨x, y, rfl⟩ := zip_mem _ _ _ hd
        by_cases c : y ≤ x
        · simp [lcW_eq, q__law_is_1, e__law_is_1, c, zg]
        · simp [lcW_eq, q__law_is_1, e__law_is_1, c, zg]) (by
          have := zip_len (xs.map .int) ((xs.drop 1).map .int)
          rw [List.length_map] at this
          rw [big_eq]
          simp only [List.length_nil]
          omega), zip_zl]
      rfl
    simp [-List.drop_one, -List.map_drop, runBody_eq, b__law_is, List.replicate, h1, h2, hd, key, show (xs.length : Int) < 13 by omega, c]
  · simp [runBody_eq, b__law_is, List.replicate, h1, h2, show ¬ (xs.length : Int) < 13 by omega, c]
end IR.k27
set_option maxHeartbeats 4000000
namespace IR
namespace T
def lst (t : T) : Int := t.its.getLast?.getD 0
theorem lst_mem (t : T) : t.lst ∈ t.its := by
  unfold lst
  cases e : t.its.getLast? with
  | none => exact absurd (List.getLast?_eq_none_iff.mp e) t.its_ne
  | some x => exact List.mem_of_getLast? e
def spl : List T → List T
  | [a, b] => [.n2 a b]
  | [a, b, c] => [.n3 a b c]
  | [a, b, c, d] => [.n2 a b, .n2 c d]
  | _ => []
/-- an integer put in -/
def put : T → Int → List T
  | .lf y, x => if y < x then [.lf y, .lf x] else [.lf x, .lf y]
  | .n2 a b, x => spl (if a.lst < x then a :: b.put x else a.put x ++ [b])
  | .n3 a b c, x => spl (if a.lst < x then (if b.lst < x then a :: b :: c.put x else a :: (b.put x ++ [c])) else a.put x ++ [b, c])
theorem put_12 : ∀ {h : Nat} {t : T}, gd h t → ∀ x, ((∃ u, t.put x = [u] ∧ gd h u) ∨ ∃ u v, t.put x = [u, v] ∧ gd h u ∧ gd h v)
  | 0, .lf y, _, x => by
    unfold put
    split <;> exact .inr ⟨_, _, rfl, by simp, by simp⟩
  | 0, .n2 _ _, g, _ => by simp at g
  | 0, .n3 _ _ _, g, _ => by simp at g
  | h + 1, .lf _, g, _ => by simp at g
  | h + 1, .n2 a b, g, x => by
    simp at g
    unfold put
    split
    · rcases put_12 g.2 x with ⟨u, e, h1⟩ | ⟨u, v, e, h1, h2⟩ <;> simp [e, spl, g, h1] <;> exact h2
    · rcases put_12 g.1 x with ⟨u, e, h1⟩ | ⟨u, v, e, h1, h2⟩ <;> simp [e, spl, g, h1] <;> exact h2
  | h + 1, .n3 a b c, g, x => by
    simp at g
    unfold put
    split
    · split
      · rcases put_12 g.2.2 x with ⟨u, e, h1⟩ | ⟨u, v, e, h1, h2⟩ <;> simp [e, spl, g, h1] <;> exact ⟨_, _, ⟨rfl, rfl⟩, by simp [g, h1, h2], by simp [g, h1, h2]⟩
      · rcases put_12 g.2.1 x with ⟨u, e, h1⟩ | ⟨u, v, e, h1, h2⟩ <;> simp [e, spl, g, h1] <;> exact ⟨_, _, ⟨rfl, rfl⟩, by simp [g, h1, h2], by simp [g, h1, h2]⟩
    · rcases put_12 g.1 x with ⟨u, e, h1⟩ | ⟨u, v, e, h1, h2⟩ <;> simp [e, spl, g, h1] <;> exact ⟨_, _, ⟨rfl, rfl⟩, by simp [g, h1, h2], by simp [g, h1, h2]⟩
theorem its_n2 {a b} : (n2 a b).its = a.its ++ b.its := rfl
theorem its_n3 {a b c} : (n3 a b c).its = a.its ++ (b.its ++ c.its) := rfl
theorem ri_spl {ps : List T} (h : ps.length = 2 ∨ ps.length = 3 ∨ ps.length = 4) : ri (spl ps) = ri ps := by
  match ps, h with
  | [a, b], _ => simp [spl, ri, its]
  | [a, b, c], _ => simp [spl, ri, its]
  | [a, b, c, d], _ => simp [spl, ri, its]
theorem put_len {h : Nat} {t : T} (g : gd h t) (x : Int) : (t.put x).length = 1 ∨ (t.put x).length = 2 := by
  rcases put_12 g x with ⟨u, e, _⟩ | ⟨u, v, e, _⟩ <;> rw [e] <;> simp
theorem put_perm : ∀ {h : Nat} {t : T}, gd h t → ∀ x, (ri (t.put x)).Perm (x :: t.its)
  | 0, .lf y, _, x => by
    unfold put
    split
    · exact List.Perm.swap _ _ _
    · exact List.Perm.refl _
  | 0, .n2 _ _, g, _ => by simp at g
  | 0, .n3 _ _ _, g, _ => by simp at g
  | h + 1, .lf _, g, _ => by simp at g
  | h + 1, .n2 a b, g, x => by
    simp at g
    have l1 := put_len g.1 x; have l2 := put_len g.2 x
    have p1 := put_perm g.1 x; have p2 := put_perm g.2 x
    unfold put
    rw [ri_spl (by split <;> simp <;> omega), its_n2]
    split
    · simp only [ri_cons]
      exact (p2.append_left _).trans List.perm_middle
    · simp only [ri_app, ri_cons, ri_nil, List.append_nil]
      exact p1.append_right _
  | h + 1, .n3 a b c, g, x => by
    simp at g
    have l1 := put_len g.1 x; have l2 := put_len g.2.1 x; have l3 := put_len g.2.2 x
    have p1 := put_perm g.1 x; have p2 := put_perm g.2.1 x; have p3 := put_perm g.2.2 x
    unfold put
    rw [ri_spl (by split <;> (try split) <;> simp <;> omega), its_n3]
    split
    · split
      · simp only [ri_cons]
        refine (List.Perm.append_left _ ((p3.append_left _).trans List.perm_middle)).trans List.perm_middle
      · simp only [ri_cons, ri_app, ri_nil, List.append_nil]
        exact ((p2.append_right _).append_left _).trans List.perm_middle
    · simp only [ri_app, ri_cons, ri_nil, List.append_nil]
      exact p1.append_right _
/-- rising items -/
def St (t : T) : Prop := t.its.Pairwise (· < ·)
theorem le_lst : ∀ {xs : List Int}, xs.Pairwise (· < ·) → ∀ y ∈ xs, y ≤ xs.getLast?.getD 0
  | [], _, y, h => by simp at h
  | [x], _, y, h => by simp at h; simp [h]
  | x :: z :: xs, p, y, h => by
    have ih := le_lst (xs := z :: xs) (List.pairwise_cons.mp p).2
    rw [List.getLast?_cons_cons]
    rcases List.mem_cons.mp h with rfl | h
    · have h1 := (List.pairwise_cons.mp p).1 z (by simp)
      have h2 := ih z (by simp)
      omega
    · exact ih y h
theorem St.n2 {a b : T} (s : St (.n2 a b)) : St a ∧ St b ∧ ∀ x ∈ a.its, ∀ y ∈ b.its, x < y := List.pairwise_append.mp s
theorem St.n3 {a b c : T} (s : St (.n3 a b c)) : St a ∧ St b ∧ St c ∧ (∀ x ∈ a.its, ∀ y ∈ b.its, x < y) ∧ (∀ x ∈ a.its, ∀ y ∈ c.its, x < y) ∧ ∀ x ∈ b.its, ∀ y ∈ c.its, x < y := by
  have s := List.pairwise_append.mp (show (a.its ++ (b.its ++ c.its)).Pairwise (· < ·) from s)
  have t := List.pairwise_append.mp s.2.1
  exact ⟨s.1, t.1, t.2.1, fun x hx y hy => s.2.2 x hx y (by simp [hy]), fun x hx y hy => s.2.2 x hx y (by simp [hy]), t.2.2⟩
theorem put_st : ∀ {h : Nat} {t : T}, gd h t → St t → ∀ x, x ∉ t.its → (ri (t.put x)).Pairwise (· < ·)
  | 0, .lf y, _, _, x, nx => by
    simp [its] at nx
    unfold put
    split
    · simp [ri, its]; assumption
    · simp [ri, its]; omega
  | 0, .n2 _ _, g, _, _, _ => by simp at g
  | 0, .n3 _ _ _, g, _, _, _ => by simp at g
  | h + 1, .lf _, g, _, _, _ => by simp at g
  | h + 1, .n2 a b, g, s, x, nx => by
    simp at g
    obtain ⟨s1, s2, s3⟩ := s.n2
    simp [its] at nx
    have l1 := put_len g.1 x; have l2 := put_len g.2 x
    have p1 := put_perm g.1 x; have p2 := put_perm g.2 x
    have q1 := put_st g.1 s1 x nx.1; have q2 := put_st g.2 s2 x nx.2
    unfold put
    rw [ri_spl (by split <;> simp <;> omega)]
    split
    · rename_i la
      simp only [ri_cons]
      refine List.pairwise_append.mpr ⟨s1, q2, fun y hy z hz => ?_⟩
      have := le_lst s1 y hy
      rcases List.mem_cons.mp (p2.mem_iff.mp hz) with rfl | hz
      · unfold lst at la; omega
      · exact s3 y hy z hz
    · rename_i la
      simp only [ri_app, ri_cons, ri_nil, List.append_nil]
      refine List.pairwise_append.mpr ⟨q1, s2, fun y hy z hz => ?_⟩
      have := s3 _ a.lst_mem z hz
      rcases List.mem_cons.mp (p1.mem_iff.mp hy) with rfl | hy
      · have : y ≠ a.lst := fun e => nx.1 (e ▸ a.lst_mem)
        omega
      · exact s3 y hy z hz
  | h + 1, .n3 a b c, g, s, x, nx => by
    simp at g
    obtain ⟨s1, s2, s3, s4, s5, s6⟩ := s.n3
    simp [its] at nx
    have l1 := put_len g.1 x; have l2 := put_len g.2.1 x; have l3 := put_len g.2.2 x
    have p1 := put_perm g.1 x; have p2 := put_perm g.2.1 x; have p3 := put_perm g.2.2 x
    have q1 := put_st g.1 s1 x nx.1; have q2 := put_st g.2.1 s2 x nx.2.1; have q3 := put_st g.2.2 s3 x nx.2.2
    have na : x ≠ a.lst := fun e => nx.1 (e ▸ a.lst_mem)
    have nb : x ≠ b.lst := fun e => nx.2.1 (e ▸ b.lst_mem)
    unfold put
    rw [ri_spl (by split <;> (try split) <;> simp <;> omega)]
    split
    · rename_i la
      split
      · rename_i lb
        simp only [ri_cons]
        refine List.pairwise_append.mpr ⟨s1, List.pairwise_append.mpr ⟨s2, q3, fun y hy z hz => ?_⟩, fun y hy z hz => ?_⟩
        · have := le_lst s2 y hy
          rcases List.mem_cons.mp (p3.mem_iff.mp hz) with rfl | hz
          · unfold lst at lb; omega
          · exact s6 y hy z hz
        · have := le_lst s1 y hy
          rcases List.mem_append.mp hz with hz | hz
          · exact s4 y hy z hz
          · rcases List.mem_cons.mp (p3.mem_iff.mp hz) with rfl | hz
            · unfold lst at la; omega
            · exact s5 y hy z hz
      · rename_i lb
        simp only [ri_cons, ri_app, ri_nil, List.append_nil]
        refine List.pairwise_append.mpr ⟨s1, List.pairwise_append.mpr ⟨q2, s3, fun y hy z hz => ?_⟩, fun y hy z hz => ?_⟩
        · have := s6 _ b.lst_mem z hz
          rcases List.mem_cons.mp (p2.mem_iff.mp hy) with rfl | hy
          · omega
          · exact s6 y hy z hz
        · have := le_lst s1 y hy
          rcases List.mem_append.mp hz with hz | hz
          · rcases List.mem_cons.mp (p2.mem_iff.mp hz) with rfl | hz
            · unfold lst at la; omega
            · exact s4 y hy z hz
          · exact s5 y hy z hz
    · rename_i la
      simp only [ri_app, ri_cons, ri_nil, List.append_nil]
      refine List.pairwise_append.mpr ⟨q1, List.pairwise_append.mpr ⟨s2, s3, s6⟩, fun y hy z hz => ?_⟩
      have h1 : a.lst < z := by
        rcases List.mem_append.mp hz with hz | hz
        · exact s4 _ a.lst_mem z hz
        · exact s5 _ a.lst_mem z hz
      rcases List.mem_cons.mp (p1.mem_iff.mp hy) with rfl | hy
      · omega
      · rcases List.mem_append.mp hz with hz | hz
        · exact s4 y hy z hz
        · exact s5 y hy z hz
/-- one tree of one or two -/
def top : List T → T
  | [u] => u
  | [u, v] => .n2 u v
  | _ => .lf 0
theorem top_its {h : Nat} {t : T} (g : gd h t) (x : Int) : (top (t.put x)).its = ri (t.put x) := by
  rcases put_12 g x with ⟨u, e, _⟩ | ⟨u, v, e, _⟩ <;> rw [e] <;> simp [top, ri, its]
theorem top_gd {h : Nat} {t : T} (g : gd h t) (x : Int) : ∃ k, gd k (top (t.put x)) := by
  rcases put_12 g x with ⟨u, e, h1⟩ | ⟨u, v, e, h1, h2⟩ <;> rw [e]
  · exact ⟨h, h1⟩
  · exact ⟨h + 1, by simp [top, h1, h2]⟩
end T
end IR
set_option maxHeartbeats 4000000
namespace IR.k27
open PySem PySem.Spec L2
theorem at_lst (t : T) : atI (t.its.map D.int) (-1) = some (.int t.lst) := by
  rw [atI_last, List.getLast?_map]
  unfold T.lst
  cases e : t.its.getLast? with
  | none => exact absurd (List.getLast?_eq_none_iff.mp e) t.its_ne
  | some x => rfl
theorem at0 {a : D} {l : List D} : atI (a :: l) 0 = some a := atI_zero
section
variable {a b c e : D}
theorem k2a : cutD [a, b] none (some 0) = [] := rfl
theorem k2b : cutD [a, b] none (some 1) = [a] := rfl
theorem k2c : cutD [a, b] (some 1) none = [b] := rfl
theorem k2d : cutD [a, b] (some 2) none = [] := rfl
theorem k2e : cutD [a, b] none (some (-1)) = [a] := rfl
theorem k3a : cutD [a, b, c] none (some 0) = [] := rfl
theorem k3b : cutD [a, b, c] none (some 1) = [a] := rfl
theorem k3c : cutD [a, b, c] none (some 2) = [a, b] := rfl
theorem k3d : cutD [a, b, c] (some 1) none = [b, c] := rfl
theorem k3e : cutD [a, b, c] (some 2) none = [c] := rfl
theorem k3f : cutD [a, b, c] (some 3) none = [] := rfl
theorem k3g : cutD [a, b, c] none (some (-1)) = [a, b] := rfl
theorem k4a : cutD [a, b, c, e] none (some 2) = [a, b] := rfl
theorem k4b : cutD [a, b, c, e] (some 2) none = [c, e] := rfl
end
theorem c_lput : ∀ {n h : Nat} {t : T}, h + 1 < n → T.gd h t → T.St t → t.its.length ≤ 24 → ∀ x : Int, callF G n 19 [t.d, .int x] = .ok (.lst true ((t.put x).map T.d)) []
  | 0, h, t, hn, _, _, _, _ => by omega
  | n + 1, 0, .lf y, hn, g, s, l, x => by
    rw [callF_succ, g_19]
    by_cases q : y < x
    · simp [runBody_eq, b__law_put, List.replicate, T.put, q, show ¬ x < y by omega]
    · simp [runBody_eq, b__law_put, List.replicate, T.put, q]
      omega
  | n + 1, 0, .n2 _ _, hn, g, _, _, _ => by simp at g
  | n + 1, 0, .n3 _ _ _, hn, g, _, _, _ => by simp at g
  | n + 1, h + 1, .lf x, hn, g, _, _, _ => by simp at g
  | n + 1, h + 1, .n2 a b, hn, g, s, l, x => by
    simp at g
    obtain ⟨s1, s2, s3⟩ := s.n2
    simp [T.its] at l
    have i1 := c_lits (n := n) (h := h) (by omega) g.1 (by omega)
    have r1 := c_lput (n := n) (by omega) g.1 s1 (by omega) x
    have r2 := c_lput (n := n) (by omega) g.2 s2 (by omega) x
    have e1 := at_lst a
    rw [callF_succ, g_19]
    unfold T.put
    by_cases q : a.lst < x
    · rw [if_pos q]
      rcases T.put_12 g.2 x with ⟨u, e, _⟩ | ⟨u, v, e, _⟩ <;> rw [e] at r2 ⊢ <;> simp at r2 <;>
      simp [runBody_eq, b__law_put, List.replicate, k2a, k2b, k2c, k2d, k2e, k3a, k3b, k3c, k3d, k3e, k3f, k3g, k4a, k4b, loopC_cons, lcW_eq, q__law_put_1, e__law_put_1, i1, e1, q, r2, T.spl]
    · rw [if_neg q]
      rcases T.put_12 g.1 x with ⟨u, e, _⟩ | ⟨u, v, e, _⟩ <;> rw [e] at r1 ⊢ <;> simp at r1 <;>
      simp [runBody_eq, b__law_put, List.replicate, k2a, k2b, k2c, k2d, k2e, k3a, k3b, k3c, k3d, k3e, k3f, k3g, k4a, k4b, loopC_cons, lcW_eq, q__law_put_1, e__law_put_1, i1, e1, q, r1, T.spl]
  | n + 1, h + 1, .n3 a b c, hn, g, s, l, x => by
    simp at g
    obtain ⟨s1, s2, s3, s4, s5, s6⟩ := s.n3
    simp [T.its] at l
    have i1 := c_lits (n := n) (h := h) (by omega) g.1 (by omega)
    have i2 := c_lits (n := n) (h := h) (by omega) g.2.1 (by omega)
    have r1 := c_lput (n := n) (by omega) g.1 s1 (by omega) x
    have r2 := c_lput (n := n) (by omega) g.2.1 s2 (by omega) x
    have r3 := c_lput (n := n) (by omega) g.2.2 s3 (by omega) x
    have e1 := at_lst a
    have e2 := at_lst b
    have lab := s4 _ a.lst_mem _ b.lst_mem
    rw [callF_succ, g_19]
    unfold T.put
    by_cases q : a.lst < x
    · rw [if_pos q]
      by_cases q2 : b.lst < x
      · rw [if_pos q2]
        rcases T.put_12 g.2.2 x with ⟨u, e, _⟩ | ⟨u, v, e, _⟩ <;> rw [e] at r3 ⊢ <;> simp at r3 <;>
        simp [runBody_eq, b__law_put, List.replicate, k2a, k2b, k2c, k2d, k2e, k3a, k3b, k3c, k3d, k3e, k3f, k3g, k4a, k4b, loopC_cons, lcW_eq, q__law_put_1, e__law_put_1, i1, e1, i2, e2, q, q2, r3, T.spl]
      · rw [if_neg q2]
        rcases T.put_12 g.2.1 x with ⟨u, e, _⟩ | ⟨u, v, e, _⟩ <;> rw [e] at r2 ⊢ <;> simp at r2 <;>
        simp [runBody_eq, b__law_put, List.replicate, k2a, k2b, k2c, k2d, k2e, k3a, k3b, k3c, k3d, k3e, k3f, k3g, k4a, k4b, loopC_cons, lcW_eq, q__law_put_1, e__law_put_1, i1, e1, i2, e2, q, q2, r2, T.spl]
    · rw [if_neg q]
      rcases T.put_12 g.1 x with ⟨u, e, _⟩ | ⟨u, v, e, _⟩ <;> rw [e] at r1 ⊢ <;> simp at r1 <;>
      simp [runBody_eq, b__law_put, List.replicate, k2a, k2b, k2c, k2d, k2e, k3a, k3b, k3c, k3d, k3e, k3f, k3g, k4a, k4b, loopC_cons, lcW_eq, q__law_put_1, e__law_put_1, i1, e1, i2, e2, q, show ¬ b.lst < x by omega, r1, T.spl]
theorem c_parts : ∀ {n h : Nat} {t : T}, h + 1 < n → T.gd h t → T.St t → t.its.length ≤ 24 → ∀ x : Int, x ∉ t.its → callF G n 8 [t.d, .int x] = .ok (.lst true ((t.put x).map T.d)) []
  | 0, h, t, hn, _, _, _, _, _ => by omega
  | n + 1, 0, .lf y, hn, g, s, l, x, nx => by
    rw [callF_succ, g_8]
    have e := runBl_sorted_ints (o := true) (ns := [y, x])
    simp at e
    by_cases q : y < x
    · simp [runBody_eq, b_grown_parts, List.replicate, T.put, q, e, sortI, insI, show y ≤ x by omega, loopC_cons, lcW_eq, e_grown_parts_1]
    · have : ¬ y ≤ x := by
        simp [T.its] at nx
        omega
      simp [runBody_eq, b_grown_parts, List.replicate, T.put, q, e, sortI, insI, this, loopC_cons, lcW_eq, e_grown_parts_1]
  | n + 1, 0, .n2 _ _, hn, g, _, _, _, _ => by simp at g
  | n + 1, 0, .n3 _ _ _, hn, g, _, _, _, _ => by simp at g
  | n + 1, h + 1, .lf x, hn, g, _, _, _, _ => by simp at g
  | n + 1, h + 1, .n2 a b, hn, g, s, l, x, nx => by
    simp at g
    obtain ⟨s1, s2, s3⟩ := s.n2
    simp [T.its] at l nx
    have i1 := c_items (n := n) (h := h) (by omega) g.1 (by omega)
    have i2 := c_items (n := n) (h := h) (by omega) g.2 (by omega)
    have r1 := c_parts (n := n) (by omega) g.1 s1 (by omega) x nx.1
    have r2 := c_parts (n := n) (by omega) g.2 s2 (by omega) x nx.2
    have e1 := at_lst a
    have e2 := at_lst b
    have na : x ≠ a.lst := fun e => nx.1 (e ▸ a.lst_mem)
    rw [callF_succ, g_8]
    unfold T.put
    by_cases q : a.lst < x
    · rw [if_pos q]
      have key : ∃ ds, loopC (lcW G (callF G n) (.tp [4, 5]) q_grown_parts_1 e_grown_parts_2) (enumD 0 [a.d, b.d]) [] [some (.tup [a.d, b.d]), some (.int x), none, none, none, none, none] = .ok ds [some (.tup [a.d, b.d]), some (.int x), none, none, none, none, none] ∧ atI (ds ++ [.int 1]) 0 = some (.int 1) ∧ ds.length ≤ 5 ∧ D.pures ds = true := by
        by_cases q2 : x < b.lst
        · refine ⟨[.int 1], ?_, by simp, by simp, rfl⟩
          simp [enumD, loopC_cons, lcW_eq, q_grown_parts_1, e_grown_parts_2, i1, i2, e1, e2, q2, show ¬ x < a.lst by omega]
        · refine ⟨[], ?_, by simp, by simp, rfl⟩
          simp [enumD, loopC_cons, lcW_eq, q_grown_parts_1, e_grown_parts_2, i1, i2, e1, e2, q2, show ¬ x < a.lst by omega]
      obtain ⟨ds, k1, k2, k3, k4⟩ := key
      rcases T.put_12 g.2 x with ⟨u, e, _⟩ | ⟨u, v, e, _⟩ <;> rw [e] at r2 ⊢ <;> simp at r2 <;>
      simp [runBody_eq, b_grown_parts, List.replicate, k1, k2, k4, show ds.length ≤ 999999 by omega, k2a, k2b, k2c, k2d, k2e, k3a, k3b, k3c, k3d, k3e, k3f, k3g, k4a, k4b, r2, T.spl]
    · rw [if_neg q]
      have key : ∃ ds, loopC (lcW G (callF G n) (.tp [4, 5]) q_grown_parts_1 e_grown_parts_2) (enumD 0 [a.d, b.d]) [] [some (.tup [a.d, b.d]), some (.int x), none, none, none, none, none] = .ok ds [some (.tup [a.d, b.d]), some (.int x), none, none, none, none, none] ∧ atI (ds ++ [.int 1]) 0 = some (.int 0) ∧ ds.length ≤ 5 ∧ D.pures ds = true := by
        by_cases q2 : x < b.lst
        · refine ⟨[.int 0, .int 1], ?_, by simp, by simp, rfl⟩
          simp [enumD, loopC_cons, lcW_eq, q_grown_parts_1, e_grown_parts_2, i1, i2, e1, e2, q2, show x < a.lst by omega]
        · refine ⟨[.int 0], ?_, by simp, by simp, rfl⟩
          simp [enumD, loopC_cons, lcW_eq, q_grown_parts_1, e_grown_parts_2, i1, i2, e1, e2, q2, show x < a.lst by omega]
      obtain ⟨ds, k1, k2, k3, k4⟩ := key
      rcases T.put_12 g.1 x with ⟨u, e, _⟩ | ⟨u, v, e, _⟩ <;> rw [e] at r1 ⊢ <;> simp at r1 <;>
      simp [runBody_eq, b_grown_parts, List.replicate, k1, k2, k4, show ds.length ≤ 999999 by omega, k2a, k2b, k2c, k2d, k2e, k3a, k3b, k3c, k3d, k3e, k3f, k3g, k4a, k4b, r1, T.spl]
  | n + 1, h + 1, .n3 a b c, hn, g, s, l, x, nx => by
    simp at g
    obtain ⟨s1, s2, s3, s4, s5, s6⟩ := s.n3
    simp [T.its] at l nx
    have i1 := c_items (n := n) (h := h) (by omega) g.1 (by omega)
    have i2 := c_items (n := n) (h := h) (by omega) g.2.1 (by omega)
    have i3 := c_items (n := n) (h := h) (by omega) g.2.2 (by omega)
    have r1 := c_parts (n := n) (by omega) g.1 s1 (by omega) x nx.1
    have r2 := c_parts (n := n) (by omega) g.2.1 s2 (by omega) x nx.2.1
    have r3 := c_parts (n := n) (by omega) g.2.2 s3 (by omega) x nx.2.2
    have e1 := at_lst a
    have e2 := at_lst b
    have e3 := at_lst c
    have na : x ≠ a.lst := fun e => nx.1 (e ▸ a.lst_mem)
    have nb : x ≠ b.lst := fun e => nx.2.1 (e ▸ b.lst_mem)
    have lab := s4 _ a.lst_mem _ b.lst_mem
    have lbc := s6 _ b.lst_mem _ c.lst_mem
    rw [callF_succ, g_8]
    unfold T.put
    by_cases q : a.lst < x
    · rw [if_pos q]
      by_cases q1 : b.lst < x
      · rw [if_pos q1]
        have key : ∃ ds, loopC (lcW G (callF G n) (.tp [4, 5]) q_grown_parts_1 e_grown_parts_2) (enumD 0 [a.d, b.d, c.d]) [] [some (.tup [a.d, b.d, c.d]), some (.int x), none, none, none, none, none] = .ok ds [some (.tup [a.d, b.d, c.d]), some (.int x), none, none, none, none, none] ∧ atI (ds ++ [.int 2]) 0 = some (.int 2) ∧ ds.length ≤ 5 ∧ D.pures ds = true := by
          by_cases q2 : x < c.lst
          · refine ⟨[.int 2], ?_, by simp, by simp, rfl⟩
            simp [enumD, loopC_cons, lcW_eq, q_grown_parts_1, e_grown_parts_2, i1, i2, e1, e2, i3, e3, q2, show ¬ x < a.lst by omega, show ¬ x < b.lst by omega]
          · refine ⟨[], ?_, by simp, by simp, rfl⟩
            simp [enumD, loopC_cons, lcW_eq, q_grown_parts_1, e_grown_parts_2, i1, i2, e1, e2, i3, e3, q2, show ¬ x < a.lst by omega, show ¬ x < b.lst by omega]
        obtain ⟨ds, k1, k2, k3, k4⟩ := key
        rcases T.put_12 g.2.2 x with ⟨u, e, _⟩ | ⟨u, v, e, _⟩ <;> rw [e] at r3 ⊢ <;> simp at r3 <;>
        simp [runBody_eq, b_grown_parts, List.replicate, k1, k2, k4, show ds.length ≤ 999999 by omega, k2a, k2b, k2c, k2d, k2e, k3a, k3b, k3c, k3d, k3e, k3f, k3g, k4a, k4b, r3, T.spl]
      · rw [if_neg q1]
        have key : ∃ ds, loopC (lcW G (callF G n) (.tp [4, 5]) q_grown_parts_1 e_grown_parts_2) (enumD 0 [a.d, b.d, c.d]) [] [some (.tup [a.d, b.d, c.d]), some (.int x), none, none, none, none, none] = .ok ds [some (.tup [a.d, b.d, c.d]), some (.int x), none, none, none, none, none] ∧ atI (ds ++ [.int 2]) 0 = some (.int 1) ∧ ds.length ≤ 5 ∧ D.pures ds = true := by
          refine ⟨[.int 1, .int 2], ?_, by simp, by simp, rfl⟩
          simp [enumD, loopC_cons, lcW_eq, q_grown_parts_1, e_grown_parts_2, i1, i2, e1, e2, i3, e3, show ¬ x < a.lst by omega, show x < b.lst by omega, show x < c.lst by omega]
        obtain ⟨ds, k1, k2, k3, k4⟩ := key
        rcases T.put_12 g.2.1 x with ⟨u, e, _⟩ | ⟨u, v, e, _⟩ <;> rw [e] at r2 ⊢ <;> simp at r2 <;>
        simp [runBody_eq, b_grown_parts, List.replicate, k1, k2, k4, show ds.length ≤ 999999 by omega, k2a, k2b, k2c, k2d, k2e, k3a, k3b, k3c, k3d, k3e, k3f, k3g, k4a, k4b, r2, T.spl]
    · rw [if_neg q]
      have key : ∃ ds, loopC (lcW G (callF G n) (.tp [4, 5]) q_grown_parts_1 e_grown_parts_2) (enumD 0 [a.d, b.d, c.d]) [] [some (.tup [a.d, b.d, c.d]), some (.int x), none, none, none, none, none] = .ok ds [some (.tup [a.d, b.d, c.d]), some (.int x), none, none, none, none, none] ∧ atI (ds ++ [.int 2]) 0 = some (.int 0) ∧ ds.length ≤ 5 ∧ D.pures ds = true := by
        refine ⟨[.int 0, .int 1, .int 2], ?_, by simp, by simp, rfl⟩
        simp [enumD, loopC_cons, lcW_eq, q_grown_parts_1, e_grown_parts_2, i1, i2, e1, e2, i3, e3, show x < a.lst by omega, show x < b.lst by omega, show x < c.lst by omega]
      obtain ⟨ds, k1, k2, k3, k4⟩ := key
      rcases T.put_12 g.1 x with ⟨u, e, _⟩ | ⟨u, v, e, _⟩ <;> rw [e] at r1 ⊢ <;> simp at r1 <;>
      simp [runBody_eq, b_grown_parts, List.replicate, k1, k2, k4, show ds.length ≤ 999999 by omega, k2a, k2b, k2c, k2d, k2e, k3a, k3b, k3c, k3d, k3e, k3f, k3g, k4a, k4b, r1, T.spl]
end IR.k27
set_option maxHeartbeats 4000000
namespace IR.k27
open PySem PySem.Spec L2
theorem c_lgrown {n h : Nat} {t : T} (hn : h + 2 < n) (g : T.gd h t) (s : T.St t) (l : t.its.length ≤ 24) (x : Int) : callF G n 20 [t.d, .int x] = .ok (T.top (t.put x)).d [] := by
  refine callF_at g_20 (by omega) fun m e => ?_
  have r := c_lput (n := m) (by omega) g s l x
  rcases T.put_12 g x with ⟨u, e, _⟩ | ⟨u, v, e, _⟩ <;> rw [e] at r ⊢ <;> simp at r <;>
  simp [runBody_eq, b__law_grown, List.replicate, r, T.top]
theorem c_grown {n h : Nat} {t : T} (hn : h + 20 < n) (g : T.gd h t) (s : T.St t) (l : t.its.length ≤ 12) (x : Int) : callF G n 9 [t.d, .int x] = if x ∈ t.its then .err 2 [.int x] else if t.its.length = 12 then .err 3 [.int 13] else .ok (T.top (t.put x)).d [] := by
  refine callF_at g_9 (by omega) fun m e => ?_
  have ok : okT t = true := by
    unfold okT asc
    rw [Bool.and_eq_true, decide_eq_true_eq, decide_eq_true_eq]
    exact ⟨l, s⟩
  have h1 := c_check (n := m) (by omega) g (by omega)
  rw [if_pos ok] at h1
  have h2 := c_int (n := m) (by omega) (x := x)
  have h3 := c_items (n := m) (by omega) g (by omega)
  by_cases q : x ∈ t.its
  · simp [runBody_eq, b_grown, List.replicate, h1, h2, h3, q]
  · by_cases q2 : t.its.length = 12
    · simp [runBody_eq, b_grown, List.replicate, h1, h2, h3, q, q2]
    · have r := c_parts (n := m) (by omega) g s (by omega) x q
      rw [if_neg q, if_neg q2]
      have q3 : ¬ (t.its.length : Int) = 12 := by omega
      rcases T.put_12 g x with ⟨u, e, _⟩ | ⟨u, v, e, _⟩ <;> rw [e] at r ⊢ <;> simp at r <;>
      simp [runBody_eq, b_grown, List.replicate, h1, h2, h3, q, q3, r, T.top]
def tg (k : Nat) (x v : D) : Nat × List D := if k < 2 then (9, [x, v]) else if k < 4 then (7, [x]) else if k < 6 then (5, [x]) else (10, [v])
theorem k8 {k : Nat} (h : k < 8) : k = 0 ∨ k = 1 ∨ k = 2 ∨ k = 3 ∨ k = 4 ∨ k = 5 ∨ k = 6 ∨ k = 7 := by omega
theorem c_told_ok {m k : Nat} {x v d : D} (hk : k < 8) (hm : 2 ≤ m) (px : x.pure = true) (pv : v.pure = true) (pd : d.pure = true) (h : ∀ n, m ≤ n + 1 → callF G n (tg k x v).1 (tg k x v).2 = .ok d []) : callF G m 17 [.int (k : Nat), x, v] = .ok (.tup [S_ "told", d]) [] := by
  obtain ⟨n, rfl⟩ : ∃ n, m = n + 1 := ⟨m - 1, by omega⟩
  have h := h n (Nat.le_refl _)
  have fx : x.fz = x := D.fz_of_pure x px
  have fv : v.fz = v := D.fz_of_pure v pv
  rw [callF_succ, g_17]
  rcases k8 hk with rfl | rfl | rfl | rfl | rfl | rfl | rfl | rfl <;> simp [tg] at h <;> simp [runBody_eq, b__law_told, List.replicate, h, px, pv, pd, fx, fv, D.fz_of_pure d pd]
def wd : Nat → String
  | 1 => "number"
  | 2 => "taken"
  | 3 => "large"
  | _ => "tree"
theorem c_told_err {m k c : Nat} {x v d : D} (hc : c = 1 ∨ c = 2 ∨ c = 3 ∨ c = 4) (hk : k < 8) (hm : 2 ≤ m) (px : x.pure = true) (pv : v.pure = true) (h : ∀ n, m ≤ n + 1 → callF G n (tg k x v).1 (tg k x v).2 = .err c [d]) : callF G m 17 [.int (k : Nat), x, v] = .ok (.tup [S_ (wd c), d]) [] := by
  obtain ⟨n, rfl⟩ : ∃ n, m = n + 1 := ⟨m - 1, by omega⟩
  have h := h n (Nat.le_refl _)
  have fx : x.fz = x := D.fz_of_pure x px
  have fv : v.fz = v := D.fz_of_pure v pv
  rw [callF_succ, g_17]
  rcases hc with rfl | rfl | rfl | rfl <;> rcases k8 hk with rfl | rfl | rfl | rfl | rfl | rfl | rfl | rfl <;> simp [tg] at h <;> simp [runBody_eq, b__law_told, List.replicate, h, px, pv, fx, fv, wd]
end IR.k27
set_option maxHeartbeats 4000000
namespace IR.k27
open PySem PySem.Spec L2
theorem take27 : TakeOk G 14 := take_ok g_14 rfl rfl rfl rfl
theorem same27 (n : Nat) (d : D) (hs : d.sm = true) (hn : d.dep < n) : callF G n 15 [d, d] = .ok (.bl true) [] := same_self g_15 rfl rfl rfl rfl n d hs hn
theorem cell27 {n : Nat} (hn : 1 ≤ n) {ns : List Int} {k : Nat} (hk : k < 1000) : ∃ i : Int, callF G n 12 [.scr ns, .int k] = .ok (.int i) [] := by
  obtain ⟨m, rfl⟩ : ∃ m, n = m + 1 := ⟨n - 1, by omega⟩
  obtain ⟨i, e⟩ := run_cell (G := G) (call := callF G m) (f := f__law_cell) rfl rfl rfl rfl (ns := ns) hk
  exact ⟨i, by rw [callF_succ, g_12]; exact e⟩
theorem box27 {n : Nat} (hn : 1 ≤ n) {i : Int} : ∃ b, callF G n 13 [.int i] = .ok b [] ∧ BoxOk 0 b := by
  obtain ⟨m, rfl⟩ : ∃ m, n = m + 1 := ⟨n - 1, by omega⟩
  obtain ⟨b, e, h⟩ := run_box (G := G) (call := callF G m) (f := f__law_box) rfl rfl rfl rfl (i := i)
  exact ⟨b, by rw [callF_succ, g_13]; exact e, h⟩
theorem mix27 : MixOk G 16 := mixed_ok g_16 rfl rfl rfl rfl take27 g_14 rfl
section
variable {a b c : D} {l : List D}
theorem to2 : cutD (a :: b :: l) none (some 2) = [a, b] := by
  have := cutD_to (xs := a :: b :: l) (b := 2); simpa using this
theorem to3 : cutD (a :: b :: c :: l) none (some 3) = [a, b, c] := by
  have := cutD_to (xs := a :: b :: c :: l) (b := 3); simpa using this
theorem fr2 : cutD (a :: b :: l) (some 2) none = l := by
  have := cutD_from (xs := a :: b :: l) (a := 2); simpa using this
theorem fr3 : cutD (a :: b :: c :: l) (some 3) none = l := by
  have := cutD_from (xs := a :: b :: c :: l) (a := 3); simpa using this
end
theorem row_nb {h : Nat} (hh : h ≤ 50) {row : List T} (g : ∀ t ∈ row, T.gd h t) : D.nbs (row.map T.d) = true ∧ D.deps (row.map T.d) ≤ 63 := by
  refine ⟨nbs_all _ fun x hx => ?_, deps_all _ fun x hx => ?_⟩
  · obtain ⟨w, hw, rfl⟩ := List.mem_map.mp hx
    exact w.nb
  · obtain ⟨w, hw, rfl⟩ := List.mem_map.mp hx
    have := T.dep (g w hw)
    omega
theorem len24 (x : Int) : run2 .in_ (.int x) (.tup [.int 2, .int 4]) = some (.bl (decide (x = 2 ∨ x = 4))) := by
  have := run2_in_intsT (x := x) (xs := [2, 4])
  simpa using this
theorem drawn_in {m : Nat} (hm : 2 ≤ m) {names : Option D} {x3 : Option D} {xs : List Int} {h c : Nat} (hh : h ≤ 50) {box : D} {row : List T} {y5 : Option D} {o : Bool} (hl : row.length ≤ 12) (h2 : 2 ≤ row.length) (g : ∀ t ∈ row, T.gd h t) (hr : T.ri row = xs) (hb : BoxOk c box) (hc : c + 20 < 100000) :
    ∃ (box' : D) (more : List T) (z5 : Option D) (o' : Bool), whileN (evB G (callF G m) t__law_drawn_2) (run G (callF G m) w__law_drawn_2) fuel [some box, names, some (.lst o (row.map T.d)), x3, some (.lst true []), y5] = .nx [some box', names, some (.lst o' []), x3, some (.lst true (more.map T.d)), z5]
      ∧ BoxOk (c + row.length) box' ∧ (∀ t ∈ more, T.gd (h + 1) t) ∧ T.ri more = xs ∧ 2 * more.length ≤ row.length ∧ 1 ≤ more.length := by
  refine whileN_go (t := evB G (callF G m) t__law_drawn_2) (b := run G (callF G m) w__law_drawn_2)
    (fun s : D × List T × List T × Option D × Bool => [some s.1, names, some (.lst s.2.2.2.2 (s.2.1.map T.d)), x3, some (.lst true (s.2.2.1.map T.d)), s.2.2.2.1])
    (fun s => ∃ c', BoxOk c' s.1 ∧ c' + s.2.1.length ≤ c + row.length ∧ (∀ t ∈ s.2.1, T.gd h t) ∧ (∀ t ∈ s.2.2.1, T.gd (h + 1) t) ∧ T.ri s.2.2.1 ++ T.ri s.2.1 = xs ∧ s.2.1.length ≠ 1 ∧ 2 * s.2.2.1.length + s.2.1.length ≤ row.length ∧ 1 ≤ s.2.2.1.length + s.2.1.length)
    (fun s => decide (s.2.1 ≠ [])) (fun s => s.2.1.length)
    (fun o => ∃ (box' : D) (more : List T) (z5 : Option D) (o' : Bool), o = .nx [some box', names, some (.lst o' []), x3, some (.lst true (more.map T.d)), z5]
      ∧ BoxOk (c + row.length) box' ∧ (∀ t ∈ more, T.gd (h + 1) t) ∧ T.ri more = xs ∧ 2 * more.length ≤ row.length ∧ 1 ≤ more.length)
    ?_ ?_ ?_ fuel (box, row, [], y5, o) ⟨c, hb, by simp only; omega, g, by simp, by simpa using hr, by simp only; omega, by simp, by simp only; omega⟩ (by simp only; unfold fuel; omega)
  · rintro ⟨b, ps, more, y, o⟩ ⟨c', q, lc, g1, g2, er, n1, l2, l1⟩
    obtain ⟨e1, e2⟩ := row_nb hh g1
    simp [t__law_drawn_2, dEq_lnil e1 e2]
  · rintro ⟨b, ps, more, y, o⟩ ⟨c', q, lc, g1, g2, er, n1, l2, l1⟩ e
    simp at e
    subst e
    simp at er lc l1 l2
    exact ⟨b, more, y, o, by simp, q.more (by omega), g2, er, by omega, by omega⟩
  · rintro ⟨b, ps, more, y, o⟩ ⟨c', q, lc, g1, g2, er, n1, l2, l1⟩ e
    have step : ∀ (b' : D) (u : T) (rest : List T) (c2 : Nat) (z : Option D), BoxOk c2 b' → c2 ≤ c' + 1 → T.gd (h + 1) u → (∀ t ∈ rest, t ∈ ps) → u.its ++ T.ri rest = T.ri ps → rest.length ≠ 1 → rest.length + 2 ≤ ps.length →
        ∃ s' : D × List T × List T × Option D × Bool, [some b', names, some (.lst true (rest.map T.d)), x3, some (.lst true (more.map T.d ++ [u.d])), z] = [some s'.1, names, some (.lst s'.2.2.2.2 (s'.2.1.map T.d)), x3, some (.lst true (s'.2.2.1.map T.d)), s'.2.2.2.1]
          ∧ (∃ c', BoxOk c' s'.1 ∧ c' + s'.2.1.length ≤ c + row.length ∧ (∀ t ∈ s'.2.1, T.gd h t) ∧ (∀ t ∈ s'.2.2.1, T.gd (h + 1) t) ∧ T.ri s'.2.2.1 ++ T.ri s'.2.1 = xs ∧ s'.2.1.length ≠ 1 ∧ 2 * s'.2.2.1.length + s'.2.1.length ≤ row.length ∧ 1 ≤ s'.2.2.1.length + s'.2.1.length) ∧ s'.2.1.length < ps.length := by
      intro b' u rest c2 z q2 lc2 gu sub ei nr le
      simp only at lc er l2 l1
      refine ⟨(b', rest, more ++ [u], z, true), by simp, ⟨c2, q2, by simp only; omega, fun t ht => g1 t (sub t ht), fun t ht => ?_, ?_, nr, by simp; omega, by simp; omega⟩, by simp only; omega⟩
      · rcases List.mem_append.mp ht with ht | ht
        · exact g2 t ht
        · rw [List.mem_singleton.mp ht]; exact gu
      · simp only [T.ri_app, T.ri_cons, T.ri_nil, List.append_nil, List.append_assoc]
        rw [ei]; exact er
    have lm : more.length < 1000000 := by simp only at l2; omega
    simp only at g1 n1
    rcases ps with _ | ⟨x1, _ | ⟨x2, _ | ⟨x4, _ | ⟨x5, _ | ⟨x6, r⟩⟩⟩⟩⟩
    · simp at e
    · simp at n1
    · have fz : (T.d (.n2 x1 x2)).fz = T.d (.n2 x1 x2) := T.fz _
      simp only [T.d_n2, T.d_n3] at fz
      have er : run G (callF G m) w__law_drawn_2 [some b, names, some (.lst o (([x1, x2] : List T).map T.d)), x3, some (.lst true (more.map T.d)), y] = .nx [some b, names, some (.lst true (([] : List T).map T.d)), x3, some (.lst true (more.map T.d ++ [T.d (.n2 x1 x2)])), some (.int 2)] := by
        simp [w__law_drawn_2, len24, to2, fr2, to3, fr3, q.pure, lm, fz]
      show WB (run G (callF G m) w__law_drawn_2 [some b, names, some (.lst o (([x1, x2] : List T).map T.d)), x3, some (.lst true (more.map T.d)), y]) _ _
      rw [er]
      exact step b (.n2 x1 x2) [] c' _ q (by omega) (by simp at g1 ⊢; simp [g1]) (by simp) (by simp [T.its]) (by simp) (by simp)
    · have fz : (T.d (.n3 x1 x2 x4)).fz = T.d (.n3 x1 x2 x4) := T.fz _
      simp only [T.d_n2, T.d_n3] at fz
      have er : run G (callF G m) w__law_drawn_2 [some b, names, some (.lst o (([x1, x2, x4] : List T).map T.d)), x3, some (.lst true (more.map T.d)), y] = .nx [some b, names, some (.lst true (([] : List T).map T.d)), x3, some (.lst true (more.map T.d ++ [T.d (.n3 x1 x2 x4)])), some (.int 3)] := by
        simp [w__law_drawn_2, len24, to2, fr2, to3, fr3, q.pure, lm, fz]
      show WB (run G (callF G m) w__law_drawn_2 [some b, names, some (.lst o (([x1, x2, x4] : List T).map T.d)), x3, some (.lst true (more.map T.d)), y]) _ _
      rw [er]
      exact step b (.n3 x1 x2 x4) [] c' _ q (by omega) (by simp at g1 ⊢; simp [g1]) (by simp) (by simp [T.its]) (by simp) (by simp)
    · have fz : (T.d (.n2 x1 x2)).fz = T.d (.n2 x1 x2) := T.fz _
      simp only [T.d_n2, T.d_n3] at fz
      have er : run G (callF G m) w__law_drawn_2 [some b, names, some (.lst o (([x1, x2, x4, x5] : List T).map T.d)), x3, some (.lst true (more.map T.d)), y] = .nx [some b, names, some (.lst true (([x4, x5] : List T).map T.d)), x3, some (.lst true (more.map T.d ++ [T.d (.n2 x1 x2)])), some (.int 2)] := by
        simp [w__law_drawn_2, len24, to2, fr2, to3, fr3, q.pure, lm, fz]
      show WB (run G (callF G m) w__law_drawn_2 [some b, names, some (.lst o (([x1, x2, x4, x5] : List T).map T.d)), x3, some (.lst true (more.map T.d)), y]) _ _
      rw [er]
      exact step b (.n2 x1 x2) [x4, x5] c' _ q (by omega) (by simp at g1 ⊢; simp [g1]) (by simp) (by simp [T.its]) (by simp) (by simp)
    · simp only [List.length_cons] at lc
      obtain ⟨j, b', t1, j0, j1, q'⟩ := take27 m _ b 2 (by omega) (by omega) (by omega) (by omega) q
      have hj : j = 0 ∨ j = 1 := by omega
      have d1 : ¬ ((r.length : Int) + 1 + 1 + 1 + 1 + 1 = 2) := by omega
      have d2 : ¬ ((r.length : Int) + 1 + 1 + 1 + 1 + 1 = 4) := by omega
      have d3 : (3 : Int) < (r.length : Int) + 1 + 1 + 1 + 1 + 1 := by omega
      rcases hj with rfl | rfl
      · have fz : (T.d (.n2 x1 x2)).fz = T.d (.n2 x1 x2) := T.fz _
        simp only [T.d_n2, T.d_n3] at fz
        have er : run G (callF G m) w__law_drawn_2 [some b, names, some (.lst o ((x1 :: x2 :: x4 :: x5 :: x6 :: r).map T.d)), x3, some (.lst true (more.map T.d)), y] = .nx [some b', names, some (.lst true ((x4 :: x5 :: x6 :: r : List T).map T.d)), x3, some (.lst true (more.map T.d ++ [T.d (.n2 x1 x2)])), some (.int 2)] := by
          simp [w__law_drawn_2, len24, to2, fr2, to3, fr3, q.pure, lm, fz, q'.own, q'.pure, t1, d1, d2, d3]
        show WB (run G (callF G m) w__law_drawn_2 [some b, names, some (.lst o ((x1 :: x2 :: x4 :: x5 :: x6 :: r).map T.d)), x3, some (.lst true (more.map T.d)), y]) _ _
        rw [er]
        exact step b' (.n2 x1 x2) (x4 :: x5 :: x6 :: r) (c' + 1) _ q' (by omega) (by simp at g1 ⊢; simp [g1]) (fun t ht => List.mem_cons_of_mem _ (List.mem_cons_of_mem _ ht)) (by simp [T.its]) (by simp) (by simp)
      · have fz : (T.d (.n3 x1 x2 x4)).fz = T.d (.n3 x1 x2 x4) := T.fz _
        simp only [T.d_n2, T.d_n3] at fz
        have er : run G (callF G m) w__law_drawn_2 [some b, names, some (.lst o ((x1 :: x2 :: x4 :: x5 :: x6 :: r).map T.d)), x3, some (.lst true (more.map T.d)), y] = .nx [some b', names, some (.lst true ((x5 :: x6 :: r : List T).map T.d)), x3, some (.lst true (more.map T.d ++ [T.d (.n3 x1 x2 x4)])), some (.int 3)] := by
          simp [w__law_drawn_2, len24, to2, fr2, to3, fr3, q.pure, lm, fz, q'.own, q'.pure, t1, d1, d2, d3]
        show WB (run G (callF G m) w__law_drawn_2 [some b, names, some (.lst o ((x1 :: x2 :: x4 :: x5 :: x6 :: r).map T.d)), x3, some (.lst true (more.map T.d)), y]) _ _
        rw [er]
        exact step b' (.n3 x1 x2 x4) (x5 :: x6 :: r) (c' + 1) _ q' (by omega) (by simp at g1 ⊢; simp [g1]) (fun t ht => List.mem_cons_of_mem _ (List.mem_cons_of_mem _ (List.mem_cons_of_mem _ ht))) (by simp [T.its]) (by simp) (by simp)
theorem c_drawn {n c : Nat} (hn : 3 ≤ n) {box : D} {xs : List Int} (hl : xs.length ≤ 12) (h1 : 1 ≤ xs.length) (hc : c + 200 < 100000) (hb : BoxOk c box) :
    ∃ (t : T) (h : Nat) (box' : D), callF G n 23 [box, .lst false (xs.map .int)] = .ok t.d [some box'] ∧ T.gd h t ∧ t.its = xs ∧ BoxOk (c + 24) box' := by
  obtain ⟨m, rfl⟩ : ∃ m, n = m + 1 := ⟨n - 1, by omega⟩
  have key := whileN_go (t := evB G (callF G m) t__law_drawn_1) (b := run G (callF G m) w__law_drawn_1)
    (fun s : D × Nat × List T × Option D × Option D × Bool => [some s.1, some (.lst false (xs.map .int)), some (.lst s.2.2.2.2.2 (s.2.2.1.map T.d)), none, s.2.2.2.1, s.2.2.2.2.1])
    (fun s => ∃ c', BoxOk c' s.1 ∧ c' + 2 * s.2.2.1.length ≤ c + 24 ∧ (∀ t ∈ s.2.2.1, T.gd s.2.1 t) ∧ T.ri s.2.2.1 = xs ∧ 1 ≤ s.2.2.1.length ∧ s.2.1 + s.2.2.1.length ≤ 12)
    (fun s => decide (1 < s.2.2.1.length)) (fun s => s.2.2.1.length)
    (fun o => ∃ (t : T) (h : Nat) (box' : D) (y4 y5 : Option D) (o' : Bool), o = .nx [some box', some (.lst false (xs.map .int)), some (.lst o' [t.d]), none, y4, y5] ∧ T.gd h t ∧ t.its = xs ∧ BoxOk (c + 24) box')
    ?_ ?_ ?_ fuel (box, 0, xs.map T.lf, none, none, true) ⟨c, hb, by simp; omega, by simp, by simp [T.ri, T.its, List.flatMap_map], by simpa using h1, by simpa using hl⟩ (by simp; unfold fuel; omega)
  · obtain ⟨t, h, b', y4, y5, o, e, g, ei, q⟩ := key
    refine ⟨t, h, b', ?_, g, ei, q⟩
    have k0 : loopC (lcW G (callF G m) (.nm 3) .nil e__law_drawn_1) (xs.map .int) [] [some box, some (.lst false (xs.map .int)), none, none, none, none] = .ok ((xs.map T.lf).map T.d) [some box, some (.lst false (xs.map .int)), none, none, none, none] := by
      rw [loopC_map (fun x => .tup [x]) (fun x hx => by
        obtain ⟨i, _, rfl⟩ := List.mem_map.mp hx
        simp [lcW_eq, e__law_drawn_1]) (by rw [List.length_map, big_eq]; omega)]
      simp
    simp only at e
    rw [callF_succ, g_23]
    simp [-List.map_map, runBody_eq, b__law_drawn, List.replicate, k0, e, q.own]
  · rintro ⟨b, h, ps, y4, y5, o⟩ ⟨c', q, lc, g1, er, l1, lh⟩
    simp [t__law_drawn_1]
    omega
  · rintro ⟨b, h, ps, y4, y5, o⟩ ⟨c', q, lc, g1, er, l1, lh⟩ e
    simp at e l1
    obtain ⟨t, rfl⟩ := List.length_eq_one_iff.mp (show ps.length = 1 by omega)
    simp at g1 er lc
    exact ⟨t, h, b, y4, y5, o, rfl, g1, er, q.more (by omega)⟩
  · rintro ⟨b, h, ps, y4, y5, o⟩ ⟨c', q, lc, g1, er, l1, lh⟩ e
    simp only [decide_eq_true_eq] at e lc g1 er l1 lh
    obtain ⟨b', more, z5, o', e1, q', g2, er2, l2, l3⟩ := drawn_in (m := m) (by omega) (names := some (.lst false (xs.map .int))) (x3 := none) (xs := xs) (h := h) (by omega) (row := ps) (y5 := y5) (o := o) (by omega) (by omega) g1 er q (by omega)
    have e2 : run G (callF G m) w__law_drawn_1 [some b, some (.lst false (xs.map .int)), some (.lst o (ps.map T.d)), none, y4, y5] = .nx [some b', some (.lst false (xs.map .int)), some (.lst false (more.map T.d)), none, some (.lst false (more.map T.d)), z5] := by
      simp [w__law_drawn_1, e1]
    show WB (run G (callF G m) w__law_drawn_1 [some b, some (.lst false (xs.map .int)), some (.lst o (ps.map T.d)), none, y4, y5]) _ _
    rw [e2]
    exact ⟨(b', h + 1, more, _, z5, false), rfl, ⟨_, q', by simp only; omega, g2, er2, l3, by simp only; omega⟩, by simp only; omega⟩
end IR.k27
set_option maxHeartbeats 2000000
namespace IR.k27
open PySem PySem.Spec L2
/-- a row: numbers of nodes with how many -/
abbrev Row := List (Int × Int)
def rk (r : Row) : List Key := r.map fun p => .inl p.1
def rv (r : Row) : List D := r.map fun p => .int p.2
def gt (k : Int) : Row → Int
  | [] => 0
  | p :: r => if p.1 = k then p.2 else gt k r
def pt (k v : Int) (r : Row) : Row := if r.any (fun p => decide (p.1 = k)) then r.map (fun p => if p.1 = k then (p.1, v) else p) else r ++ [(k, v)]
theorem rk_len (r : Row) : (rk r).length = r.length := by simp [rk]
theorem rv_len (r : Row) : (rv r).length = r.length := by simp [rv]
theorem rv_pure (r : Row) : D.pures (rv r) = true := D.pures_all _ (by intro x h; obtain ⟨p, _, rfl⟩ := List.mem_map.mp h; rfl)
theorem rv_fzs (r : Row) : D.fzs (rv r) = rv r := D.fzs_of_pure _ (rv_pure r)
theorem pt_len (k v : Int) (r : Row) : (pt k v r).length ≤ r.length + 1 := by
  unfold pt; split <;> simp
theorem put_pt (k v : Int) (r : Row) : putKD (.inl k) (.int v) (rk r) (rv r) = (rk (pt k v r), rv (pt k v r)) := by
  have ea : ((rk r).any fun l => decide (l = (.inl k : Key))) = r.any fun p => decide (p.1 = k) := by
    unfold rk
    rw [List.any_map]
    congr 1
    funext p
    simp
  unfold putKD pt
  rw [ea]
  by_cases h : (r.any fun p => decide (p.1 = k)) = true
  · rw [if_pos h, if_pos h]
    congr 1
    · unfold rk; rw [List.map_map]; refine List.map_congr_left fun p _ => ?_; simp only [Function.comp]; split <;> rfl
    · clear h ea
      induction r with
      | nil => rfl
      | cons p r ih =>
        simp only [rk, rv, List.map_cons, List.zipWith_cons_cons] at ih ⊢
        rw [ih]
        congr 1
        by_cases e : p.1 = k <;> simp [e]
  · rw [if_neg h, if_neg h]
    simp [rk, rv]
theorem get_gt (k : Int) : ∀ r : Row, (match atKD (.inl k) (rk r) (rv r) with | some v => if v.pure then some v else none | none => if (D.int 0).pure then some (.int 0) else none) = some (.int (gt k r))
  | [] => rfl
  | p :: r => by
    have ih := get_gt k r
    simp only [rk, rv, List.map_cons, atKD, gt] at ih ⊢
    by_cases e : p.1 = k
    · simp [e]
    · simp [e]
      simpa using ih
theorem itemsD_row : ∀ r : Row, itemsD (rk r) (rv r) = r.map fun p => D.tup [.int p.1, .int p.2]
  | [] => rfl
  | p :: r => by
    have ih := itemsD_row r
    simp only [rk, rv, List.map_cons, itemsD] at ih ⊢
    rw [ih]; rfl
def small (r : Row) : Prop := ∀ p ∈ r, 0 ≤ p.2 ∧ p.2 < 2 ^ 64
/-- one pair of entries -/
def st (most one many : Int) (r : Row) (p : Int × Int) : Row := if one + p.1 ≤ most then pt (one + p.1) (gt (one + p.1) r + many * p.2) r else r
theorem st_len (most one many : Int) (r : Row) (p : Int × Int) : (st most one many r p).length ≤ r.length + 1 := by
  unfold st; split
  · exact pt_len _ _ _
  · omega
theorem sts_len (most one many : Int) : ∀ (high r : Row), (high.foldl (st most one many) r).length ≤ r.length + high.length
  | [], r => by simp
  | p :: high, r => by
    have a := st_len most one many r p
    have b := sts_len most one many high (st most one many r p)
    simp only [List.foldl_cons, List.length_cons]
    omega
def sts (most : Int) (high : Row) (r : Row) (q : Int × Int) : Row := high.foldl (st most q.1 q.2) r
def mg (r s : Row) : Row := s.foldl (fun r p => pt p.1 p.2 r) r
def prs (most : Int) (row : Row) : Row := row.foldl (sts most row) []
def nl (most : Int) (row : Row) : Row := row.foldl (sts most (prs most row)) (mg [] (prs most row))
theorem body_a {call : Calls} {most one many : Int} {r : Row} {p : Int × Int} {row : Row} {x2 : Option D} {x6 x7 : Option D} (h0 : 0 ≤ p.2) (h1 : p.2 < 2 ^ 64) (hl : r.length < 1000000) :
    ∃ y6 y7, forW G call (.tp [6, 7]) w_next_level_2 (.tup [.int p.1, .int p.2]) [some (.dct false (rk row) (rv row)), some (.int most), x2, some (.dct true (rk r) (rv r)), some (.int one), some (.int many), x6, x7] =
      .nx [some (.dct false (rk row) (rv row)), some (.int most), x2, some (.dct true (rk (st most one many r p)) (rv (st most one many r p))), some (.int one), some (.int many), y6, y7] := by
  refine ⟨some (.int p.1), some (.int p.2), ?_⟩
  have hb : (-18446744073709551616 < p.2 ∧ p.2 < 18446744073709551616) := by omega
  have hg : getD0 (.dct true (rk r) (rv r)) [.int (one + p.1), .int 0] = some (.int (gt (one + p.1) r)) := by rw [getD0_int]; exact get_gt _ _
  have hp := put_pt (one + p.1) (gt (one + p.1) r + many * p.2) r
  by_cases c : one + p.1 ≤ most
  · simp [w_next_level_2, c, hb, hg, stoK_eq, rv_pure, rk_len, rv_len, hl, hp, st]
  · simp [w_next_level_2, c, st]
theorem loop_a {call : Calls} {most one many : Int} {row : Row} {x2 : Option D} : ∀ (high r : Row) (x6 x7 : Option D), small high → r.length + high.length < 1000000 →
    ∃ y6 y7, loopF (forW G call (.tp [6, 7]) w_next_level_2) (itemsD (rk high) (rv high)) [some (.dct false (rk row) (rv row)), some (.int most), x2, some (.dct true (rk r) (rv r)), some (.int one), some (.int many), x6, x7] =
      .nx [some (.dct false (rk row) (rv row)), some (.int most), x2, some (.dct true (rk (high.foldl (st most one many) r)) (rv (high.foldl (st most one many) r))), some (.int one), some (.int many), y6, y7]
  | [], r, x6, x7, _, _ => ⟨x6, x7, rfl⟩
  | p :: high, r, x6, x7, hs, hl => by
    simp only [List.length_cons] at hl
    obtain ⟨y6, y7, e⟩ := body_a (call := call) (most := most) (one := one) (many := many) (r := r) (p := p) (row := row) (x2 := x2) (x6 := x6) (x7 := x7) (hs p (by simp)).1 (hs p (by simp)).2 (by omega)
    have := st_len most one many r p
    obtain ⟨z6, z7, e2⟩ := loop_a (call := call) (most := most) (one := one) (many := many) (row := row) (x2 := x2) high (st most one many r p) y6 y7 (fun q hq => hs q (by simp [hq])) (by omega)
    refine ⟨z6, z7, ?_⟩
    rw [itemsD_row] at e2 ⊢
    rw [List.map_cons, loopF, e]
    exact e2
theorem loops_a {call : Calls} {most : Int} {row : Row} {x2 : Option D} (hs : small row) : ∀ (low r : Row) (x4 x5 x6 x7 : Option D), r.length + low.length * row.length + row.length < 1000000 →
    ∃ y4 y5 y6 y7, loopF (forW G call (.tp [4, 5]) w_next_level_1) (itemsD (rk low) (rv low)) [some (.dct false (rk row) (rv row)), some (.int most), x2, some (.dct true (rk r) (rv r)), x4, x5, x6, x7] =
      .nx [some (.dct false (rk row) (rv row)), some (.int most), x2, some (.dct true (rk (low.foldl (sts most row) r)) (rv (low.foldl (sts most row) r))), y4, y5, y6, y7]
  | [], r, x4, x5, x6, x7, _ => ⟨x4, x5, x6, x7, rfl⟩
  | q :: low, r, x4, x5, x6, x7, hl => by
    simp only [List.length_cons, Nat.add_mul, Nat.one_mul] at hl
    obtain ⟨y6, y7, e⟩ := loop_a (call := call) (most := most) (one := q.1) (many := q.2) (row := row) (x2 := x2) row r x6 x7 hs (by omega)
    have := sts_len most q.1 q.2 row r
    obtain ⟨z4, z5, z6, z7, e2⟩ := loops_a (call := call) (most := most) (row := row) (x2 := x2) hs low (sts most row r q) (some (.int q.1)) (some (.int q.2)) y6 y7 (by unfold sts; omega)
    refine ⟨z4, z5, z6, z7, ?_⟩
    rw [itemsD_row] at e2 ⊢
    rw [List.map_cons, loopF]
    have e1 : forW G call (.tp [4, 5]) w_next_level_1 (.tup [.int q.1, .int q.2]) [some (.dct false (rk row) (rv row)), some (.int most), x2, some (.dct true (rk r) (rv r)), x4, x5, x6, x7] = .nx [some (.dct false (rk row) (rv row)), some (.int most), x2, some (.dct true (rk (sts most row r q)) (rv (sts most row r q))), some (.int q.1), some (.int q.2), y6, y7] := by
      simp [w_next_level_1, rv_pure, e, sts]
    rw [e1]
    exact e2
theorem body_b {call : Calls} {most one many : Int} {r : Row} {p : Int × Int} {prow : Row} {x0 : Option D} {x6 x7 : Option D} (h0 : 0 ≤ p.2) (h1 : p.2 < 2 ^ 64) (hl : r.length < 1000000) :
    ∃ y6 y7, forW G call (.tp [6, 7]) w_next_level_4 (.tup [.int p.1, .int p.2]) [x0, some (.int most), some (.dct true (rk r) (rv r)), some (.dct false (rk prow) (rv prow)), some (.int one), some (.int many), x6, x7] =
      .nx [x0, some (.int most), some (.dct true (rk (st most one many r p)) (rv (st most one many r p))), some (.dct false (rk prow) (rv prow)), some (.int one), some (.int many), y6, y7] := by
  refine ⟨some (.int p.1), some (.int p.2), ?_⟩
  have hb : (-18446744073709551616 < p.2 ∧ p.2 < 18446744073709551616) := by omega
  have hg : getD0 (.dct true (rk r) (rv r)) [.int (one + p.1), .int 0] = some (.int (gt (one + p.1) r)) := by rw [getD0_int]; exact get_gt _ _
  have hp := put_pt (one + p.1) (gt (one + p.1) r + many * p.2) r
  by_cases c : one + p.1 ≤ most
  · simp [w_next_level_4, c, hb, hg, stoK_eq, rv_pure, rk_len, rv_len, hl, hp, st]
  · simp [w_next_level_4, c, st]
theorem loop_b {call : Calls} {most one many : Int} {prow : Row} {x0 : Option D} : ∀ (high r : Row) (x6 x7 : Option D), small high → r.length + high.length < 1000000 →
    ∃ y6 y7, loopF (forW G call (.tp [6, 7]) w_next_level_4) (itemsD (rk high) (rv high)) [x0, some (.int most), some (.dct true (rk r) (rv r)), some (.dct false (rk prow) (rv prow)), some (.int one), some (.int many), x6, x7] =
      .nx [x0, some (.int most), some (.dct true (rk (high.foldl (st most one many) r)) (rv (high.foldl (st most one many) r))), some (.dct false (rk prow) (rv prow)), some (.int one), some (.int many), y6, y7]
  | [], r, x6, x7, _, _ => ⟨x6, x7, rfl⟩
  | p :: high, r, x6, x7, hs, hl => by
    simp only [List.length_cons] at hl
    obtain ⟨y6, y7, e⟩ := body_b (call := call) (most := most) (one := one) (many := many) (r := r) (p := p) (prow := prow) (x0 := x0) (x6 := x6) (x7 := x7) (hs p (by simp)).1 (hs p (by simp)).2 (by omega)
    have := st_len most one many r p
    obtain ⟨z6, z7, e2⟩ := loop_b (call := call) (most := most) (one := one) (many := many) (prow := prow) (x0 := x0) high (st most one many r p) y6 y7 (fun q hq => hs q (by simp [hq])) (by omega)
    refine ⟨z6, z7, ?_⟩
    rw [itemsD_row] at e2 ⊢
    rw [List.map_cons, loopF, e]
    exact e2
theorem loops_b {call : Calls} {most : Int} {prow : Row} {x0 : Option D} (hs : small prow) : ∀ (low r : Row) (o : Bool) (x4 x5 x6 x7 : Option D), r.length + low.length * prow.length + prow.length < 1000000 →
    ∃ o' y4 y5 y6 y7, loopF (forW G call (.tp [4, 5]) w_next_level_3) (itemsD (rk low) (rv low)) [x0, some (.int most), some (.dct true (rk r) (rv r)), some (.dct o (rk prow) (rv prow)), x4, x5, x6, x7] =
      .nx [x0, some (.int most), some (.dct true (rk (low.foldl (sts most prow) r)) (rv (low.foldl (sts most prow) r))), some (.dct o' (rk prow) (rv prow)), y4, y5, y6, y7]
  | [], r, o, x4, x5, x6, x7, _ => ⟨o, x4, x5, x6, x7, rfl⟩
  | q :: low, r, o, x4, x5, x6, x7, hl => by
    simp only [List.length_cons, Nat.add_mul, Nat.one_mul] at hl
    obtain ⟨y6, y7, e⟩ := loop_b (call := call) (most := most) (one := q.1) (many := q.2) (prow := prow) (x0 := x0) prow r x6 x7 hs (by omega)
    have := sts_len most q.1 q.2 prow r
    obtain ⟨o', z4, z5, z6, z7, e2⟩ := loops_b (call := call) (most := most) (prow := prow) (x0 := x0) hs low (sts most prow r q) false (some (.int q.1)) (some (.int q.2)) y6 y7 (by unfold sts; omega)
    refine ⟨o', z4, z5, z6, z7, ?_⟩
    rw [itemsD_row] at e2 ⊢
    rw [List.map_cons, loopF]
    have e1 : forW G call (.tp [4, 5]) w_next_level_3 (.tup [.int q.1, .int q.2]) [x0, some (.int most), some (.dct true (rk r) (rv r)), some (.dct o (rk prow) (rv prow)), x4, x5, x6, x7] = .nx [x0, some (.int most), some (.dct true (rk (sts most prow r q)) (rv (sts most prow r q))), some (.dct false (rk prow) (rv prow)), some (.int q.1), some (.int q.2), y6, y7] := by
      simp [w_next_level_3, rv_pure, e, sts]
    rw [e1]
    exact e2
end IR.k27
set_option maxHeartbeats 4000000
namespace IR.k27
open PySem PySem.Spec L2
theorem mg_eq : ∀ s r : Row, mrgKD (rk r) (rv r) (rk s) (rv s) = (rk (mg r s), rv (mg r s))
  | [], r => by simp [rk, rv, mrgKD, mg]
  | p :: s, r => by
    have e : mrgKD (rk r) (rv r) (rk (p :: s)) (rv (p :: s)) = mrgKD (putKD (.inl p.1) (.int p.2) (rk r) (rv r)).1 (putKD (.inl p.1) (.int p.2) (rk r) (rv r)).2 (rk s) (rv s) := rfl
    rw [e, put_pt, mg_eq s (pt p.1 p.2 r)]
    rfl
theorem mg_len : ∀ s r : Row, (mg r s).length ≤ r.length + s.length
  | [], r => by simp [mg]
  | p :: s, r => by
    have h1 := mg_len s (pt p.1 p.2 r)
    have h2 := pt_len p.1 p.2 r
    show (mg (pt p.1 p.2 r) s).length ≤ _
    simp only [List.length_cons]
    omega
theorem stss_len (most : Int) (high : Row) : ∀ (low r : Row), (low.foldl (sts most high) r).length ≤ r.length + low.length * high.length
  | [], r => by simp
  | q :: low, r => by
    have h1 := stss_len most high low (sts most high r q)
    have h2 := sts_len most q.1 q.2 high r
    simp only [List.foldl_cons, List.length_cons, Nat.add_mul, Nat.one_mul]
    unfold sts at h1 ⊢
    omega
theorem c_next {n : Nat} (hn : 1 ≤ n) {most : Int} {row : Row} (s1 : small row) (s2 : small (prs most row)) (l1 : row.length ≤ 100) (l2 : (prs most row).length ≤ 100) :
    callF G n 11 [.dct false (rk row) (rv row), .int most] = .ok (.dct true (rk (nl most row)) (rv (nl most row))) [] := by
  refine callF_at g_11 (by omega) fun m e => ?_
  have hm : row.length * row.length ≤ 100 * 100 := Nat.mul_le_mul l1 l1
  have hm2 : row.length * (prs most row).length ≤ 100 * 100 := Nat.mul_le_mul l1 l2
  obtain ⟨y4, y5, y6, y7, e1⟩ := loops_a (call := callF G m) (most := most) (row := row) (x2 := some (.dct true [] [])) s1 row [] none none none none (by simp; omega)
  have ml := mg_len (prs most row) []
  obtain ⟨o, z4, z5, z6, z7, e2⟩ := loops_b (call := callF G m) (most := most) (prow := prs most row) (x0 := some (.dct false (rk row) (rv row))) s2 row (mg [] (prs most row)) true y4 y5 y6 y7 (by simp at ml; omega)
  have hg := mg_eq (prs most row) []
  simp [rk, rv] at hg
  have r0 : rk [] = [] := rfl
  have v0 : rv [] = [] := rfl
  rw [r0, v0] at e1
  change _ = Out.nx [_, _, _, some (.dct true (rk (prs most row)) (rv (prs most row))), _, _, _, _] at e1
  have hg : mrgKD [] [] (rk (prs most row)) (rv (prs most row)) = (rk (mg [] (prs most row)), rv (mg [] (prs most row))) := mg_eq (prs most row) []
  unfold nl
  simp [runBody_eq, b_next_level, List.replicate, rv_pure, e1, e2, hg, rk_len, show (prs most row).length ≤ 1000000 by omega]
/-- level by level -/
def cntN (most : Int) : Nat → Row → Int → Option Int
  | 0, _, _ => none
  | n + 1, r, f => if r = [] then some f else if r.length ≤ 100 ∧ (prs most r).length ≤ 100 ∧ (r.all fun p => decide (0 ≤ p.2) && decide (p.2 < 2 ^ 64)) = true ∧ ((prs most r).all fun p => decide (0 ≤ p.2) && decide (p.2 < 2 ^ 64)) = true then cntN most n (nl most r) (f + gt most r) else none
theorem sm_of {r : Row} (h : (r.all fun p => decide (0 ≤ p.2) && decide (p.2 < 2 ^ 64)) = true) : small r := fun p hp => by
  have := List.all_eq_true.mp h p hp
  simpa using this
theorem d0r {o : Bool} {r : Row} : dEq0 (.dct o (rk r) (rv r)) = some (decide (r = [])) := by
  cases r <;> simp [rk, rv, dEq0]
theorem whileN_stop {t : Ev → R Bool} {b : Ev → Out} {n : Nat} {δ δ1 : Ev} (h : t δ = .ok false δ1) : whileN t b (n + 1) δ = .nx δ1 := by
  rw [whileN, h]; rfl
theorem whileN_step {t : Ev → R Bool} {b : Ev → Out} {n : Nat} {δ δ1 δ2 : Ev} (h : t δ = .ok true δ1) (h2 : b δ1 = .nx δ2) : whileN t b (n + 1) δ = whileN t b n δ2 := by
  rw [whileN, h]
  show (match b δ1 with
      | .nx δ2 => whileN t b n δ2
      | .ct δ2 => whileN t b n δ2
      | .brk δ2 => .nx δ2
      | o => o) = _
  rw [h2]
theorem cnt_go {m : Nat} (hm : 1 ≤ m) {most : Int} : ∀ (n : Nat) (r : Row) (f v : Int) (N : Nat), cntN most n r f = some v → n ≤ N → ∀ o : Bool,
    ∃ x1, whileN (evB G (callF G m) t_two_three_count_1) (run G (callF G m) w_two_three_count_1) N [some (.int most), some (.dct o (rk r) (rv r)), some (.int f)] = .nx [some (.int most), x1, some (.int v)]
  | 0, r, f, v, N, h, _, _ => by simp [cntN] at h
  | n + 1, r, f, v, N, h, hN, o => by
    obtain ⟨N, rfl⟩ : ∃ j, N = j + 1 := ⟨N - 1, by omega⟩
    unfold cntN at h
    have et : evB G (callF G m) t_two_three_count_1 [some (.int most), some (.dct o (rk r) (rv r)), some (.int f)] = .ok (decide (r ≠ [])) [some (.int most), some (.dct o (rk r) (rv r)), some (.int f)] := by
      simp [t_two_three_count_1, d0r]
    by_cases c : r = []
    · rw [if_pos c] at h
      cases h
      rw [decide_eq_false (by simpa using c)] at et
      exact ⟨_, whileN_stop et⟩
    · rw [if_neg c] at h
      rw [decide_eq_true c] at et
      split at h
      · rename_i q
        have e1 := c_next (n := m) hm (most := most) (row := r) (sm_of q.2.2.1) (sm_of q.2.2.2) q.1 q.2.1
        obtain ⟨x1, e2⟩ := cnt_go hm n (nl most r) (f + gt most r) v N h (by omega) true
        refine ⟨x1, ?_⟩
        have hg : getD0 (.dct o (rk r) (rv r)) [.int most, .int 0] = some (.int (gt most r)) := by rw [getD0_int]; exact get_gt _ _
        have eb : run G (callF G m) w_two_three_count_1 [some (.int most), some (.dct o (rk r) (rv r)), some (.int f)] = .nx [some (.int most), some (.dct true (rk (nl most r)) (rv (nl most r))), some (.int (f + gt most r))] := by
          cases o <;> simp [w_two_three_count_1, hg, rv_pure, rv_fzs, e1] <;> (cases D.owns (rv (nl most r)) <;> rfl)
        rw [whileN_step et eb]
        exact e2
      · cases h
/-- the number told -/
def cnt (k : Nat) : Option Int := cntN k 9 [(1, 1)] 0
theorem c_btw {n : Nat} (hn : 2 ≤ n) {k : Nat} (h1 : 1 ≤ k) (h2 : k ≤ 40) : callF G n 1 [.int (k : Nat), .int 1, .int 40] = .ok (.bl true) [] := by
  refine callF_at g_1 (by omega) fun m e => ?_
  have h3 := c_int (n := m) (by omega) (x := (k : Nat))
  simp [runBody_eq, b_is_between, List.replicate, h3, show (1 : Int) ≤ k by omega, show (k : Int) ≤ 40 by omega]
theorem c_count {n : Nat} (hn : 3 ≤ n) {k : Nat} (h1 : 1 ≤ k) (h2 : k ≤ 40) {v : Int} (h : cnt k = some v) : callF G n 10 [.int (k : Nat)] = .ok (.int v) [] := by
  refine callF_at g_10 (by omega) fun m e => ?_
  have h3 := c_btw (n := m) (by omega) h1 h2
  obtain ⟨x1, e1⟩ := cnt_go (m := m) (by omega) 9 [(1, 1)] 0 v fuel h (by unfold fuel; omega) true
  simp [rk, rv] at e1
  simp [runBody_eq, b_two_three_count, List.replicate, h3, e1]
end IR.k27
set_option maxHeartbeats 4000000
namespace IR.k27
open PySem PySem.Spec L2
def gI (p : List Int) (k : Nat) : Int := p.getD k 0
/-- a sum of products -/
def cv (p q : List Int) (n : Nat) : Int := ((List.range (n + 1)).map fun k => gI p k * gI q (n - k)).sum
def two (N : Nat) (p : List Int) : List Int := (List.range (N + 1)).map fun n => cv p p n
def nrow (N : Nat) (p : List Int) : List Int := ((List.range (N + 1)).map fun n => gI (two N p) n + cv p (two N p) n) ++ [0]
def okP (p : List Int) : Bool := p.all fun x => decide (-(2 ^ 64) < x) && decide (x < 2 ^ 64)
/-- what the tables tell -/
def lawN (N : Nat) : Nat → List Int → Int → Option Int
  | 0, _, f => some f
  | h + 1, p, f => if N + 1 ≤ p.length ∧ p.length ≤ 100 ∧ okP p = true ∧ okP (two N p) = true then lawN N h (nrow N p) (f + gI p N) else none
def lawC (N : Nat) : Option Int := lawN N 7 ([0, 1] ++ List.replicate N 0) 0
def same (k : Nat) : Bool := decide (cnt k = lawC k) && (cnt k).isSome
theorem eq_1 : ((List.range 16).all fun k => same (k + 1)) = true := by decide +kernel
theorem eq_2 : ((List.range 10).all fun k => same (k + 17)) = true := by decide +kernel
theorem eq_3 : ((List.range 8).all fun k => same (k + 27)) = true := by decide +kernel
theorem eq_4 : ((List.range 6).all fun k => same (k + 35)) = true := by decide +kernel
theorem eq_all {k : Nat} (h1 : 1 ≤ k) (h2 : k ≤ 40) : ∃ v, cnt k = some v ∧ lawC k = some v := by
  have h : same k = true := by
    by_cases c1 : k < 17
    · have := List.all_eq_true.mp eq_1 (k - 1) (by simp; omega)
      rwa [show k - 1 + 1 = k by omega] at this
    · by_cases c2 : k < 27
      · have := List.all_eq_true.mp eq_2 (k - 17) (by simp; omega)
        rwa [show k - 17 + 17 = k by omega] at this
      · by_cases c3 : k < 35
        · have := List.all_eq_true.mp eq_3 (k - 27) (by simp; omega)
          rwa [show k - 27 + 27 = k by omega] at this
        · have := List.all_eq_true.mp eq_4 (k - 35) (by simp; omega)
          rwa [show k - 35 + 35 = k by omega] at this
  unfold same at h
  simp only [Bool.and_eq_true, decide_eq_true_eq] at h
  obtain ⟨v, hv⟩ := Option.isSome_iff_exists.mp h.2
  exact ⟨v, hv, by rw [← h.1]; exact hv⟩
end IR.k27
set_option maxHeartbeats 4000000
namespace IR.k27
open PySem PySem.Spec L2
theorem rng_map {f : D → Ev → R (Option D)} {δ : Ev} {N : Nat} (g : Nat → Int) (h : ∀ k < N, f (.int (k : Nat)) δ = .ok (some (.int (g k))) δ) (hN : N ≤ 1000) : loopC f (rngD 0 (N : Int)) [] δ = .ok (((List.range N).map g).map .int) δ := by
  have e := loopC_ints (f := f) (δ := δ) (fun i => g i.toNat) (a := 0) (b := (N : Int)) (fun k k0 k1 => by
    obtain ⟨j, rfl⟩ : ∃ j : Nat, k = j := ⟨k.toNat, by omega⟩
    exact h j (by omega)) (by omega)
  rw [e]
  simp
theorem okP_at {p : List Int} (h : okP p = true) (k : Nat) : -(2 ^ 64) < gI p k ∧ gI p k < 2 ^ 64 := by
  unfold gI
  rw [List.getD_eq_getElem?_getD]
  by_cases hk : k < p.length
  · have := List.all_eq_true.mp h p[k] (List.getElem_mem hk)
    simp only [Bool.and_eq_true, decide_eq_true_eq] at this
    rw [List.getElem?_eq_getElem hk]
    exact this
  · rw [List.getElem?_eq_none (by omega)]
    decide
theorem ld_at {p : List Int} {k : Nat} (h : k < p.length) : atI (p.map D.int) (k : Int) = some (.int (gI p k)) := by
  rw [atI_nat (by simpa using h)]
  simp [gI, List.getD_eq_getElem?_getD, h]
section
variable {call : Calls} {p : List Int} {N : Nat} {o : Bool} {x0 x2 x3 x4 : Option D}
theorem in_a {n : Nat} (hn : n < N + 1) (lp : N + 1 ≤ p.length) (hN : N ≤ 40) (hb : okP p = true) :
    loopC (lcW G call (.nm 5) .nil e__law_count_1) (rngD 0 ((n : Int) + 1)) [] [x0, some (.lst o (p.map .int)), x2, x3, x4, none, some (.int (n : Nat))] = .ok (((List.range (n + 1)).map fun k => gI p k * gI p (n - k)).map .int) [x0, some (.lst o (p.map .int)), x2, x3, x4, none, some (.int (n : Nat))] := by
  rw [show ((n : Int) + 1) = ((n + 1 : Nat) : Int) by omega]
  refine rng_map _ (fun k hk => ?_) (by omega)
  have b1 : (-18446744073709551616 < gI p k ∧ gI p k < 18446744073709551616) := okP_at hb k
  have b2 : (-18446744073709551616 < gI p (n - k) ∧ gI p (n - k) < 18446744073709551616) := okP_at hb (n - k)
  have a1 := ld_at (p := p) (k := k) (by omega)
  have a2 := ld_at (p := p) (k := n - k) (by omega)
  have e : ((n : Int) - k) = ((n - k : Nat) : Int) := by omega
  simp [lcW_eq, e__law_count_1, a1, a2, b1, b2, e]
theorem out_a (lp : N + 1 ≤ p.length) (hN : N ≤ 40) (hb : okP p = true) :
    loopC (lcW G call (.nm 6) .nil e__law_count_2) (rngD 0 ((N : Int) + 1)) [] [x0, some (.lst o (p.map .int)), x2, x3, x4, none, none] = .ok ((two N p).map .int) [x0, some (.lst o (p.map .int)), x2, x3, x4, none, none] := by
  rw [show ((N : Int) + 1) = ((N + 1 : Nat) : Int) by omega]
  refine rng_map _ (fun n hn => ?_) (by omega)
  have e1 := in_a (call := call) (o := o) (x0 := x0) (x2 := x2) (x3 := x3) (x4 := x4) hn lp hN hb
  simp [-List.map_map, lcW_eq, e__law_count_2, show (n : Int) + 1 ≤ 100000 by omega, show (-100000 : Int) ≤ (n : Int) + 1 by omega, e1, cv, dInts_map]
theorem two_len : (two N p).length = N + 1 := by simp [two]
theorem in_b {n : Nat} {o2 : Bool} (hn : n < N + 1) (lp : N + 1 ≤ p.length) (hN : N ≤ 40) (hb : okP p = true) (hb2 : okP (two N p) = true) :
    loopC (lcW G call (.nm 5) .nil e__law_count_3) (rngD 0 ((n : Int) + 1)) [] [x0, some (.lst o (p.map .int)), x2, x3, some (.lst o2 ((two N p).map .int)), none, some (.int (n : Nat))] = .ok (((List.range (n + 1)).map fun k => gI p k * gI (two N p) (n - k)).map .int) [x0, some (.lst o (p.map .int)), x2, x3, some (.lst o2 ((two N p).map .int)), none, some (.int (n : Nat))] := by
  rw [show ((n : Int) + 1) = ((n + 1 : Nat) : Int) by omega]
  refine rng_map _ (fun k hk => ?_) (by omega)
  have b1 : (-18446744073709551616 < gI p k ∧ gI p k < 18446744073709551616) := okP_at hb k
  have b2 : (-18446744073709551616 < gI (two N p) (n - k) ∧ gI (two N p) (n - k) < 18446744073709551616) := okP_at hb2 (n - k)
  have a1 := ld_at (p := p) (k := k) (by omega)
  have a2 := ld_at (p := two N p) (k := n - k) (by rw [two_len]; omega)
  have e : ((n : Int) - k) = ((n - k : Nat) : Int) := by omega
  generalize two N p = q at a2 b2 ⊢
  simp [lcW_eq, e__law_count_3, a1, a2, b1, b2, e]
theorem out_b {o2 : Bool} (lp : N + 1 ≤ p.length) (hN : N ≤ 40) (hb : okP p = true) (hb2 : okP (two N p) = true) :
    loopC (lcW G call (.nm 6) .nil e__law_count_4) (rngD 0 ((N : Int) + 1)) [] [x0, some (.lst o (p.map .int)), x2, x3, some (.lst o2 ((two N p).map .int)), none, none] = .ok (((List.range (N + 1)).map fun n => gI (two N p) n + cv p (two N p) n).map .int) [x0, some (.lst o (p.map .int)), x2, x3, some (.lst o2 ((two N p).map .int)), none, none] := by
  rw [show ((N : Int) + 1) = ((N + 1 : Nat) : Int) by omega]
  refine rng_map _ (fun n hn => ?_) (by omega)
  have e1 := in_b (call := call) (o := o) (o2 := o2) (x0 := x0) (x2 := x2) (x3 := x3) hn lp hN hb hb2
  have a2 := ld_at (p := two N p) (k := n) (by rw [two_len]; omega)
  unfold cv
  generalize two N p = q at a2 e1 ⊢
  simp [-List.map_map, lcW_eq, e__law_count_4, show (n : Int) + 1 ≤ 100000 by omega, show (-100000 : Int) ≤ (n : Int) + 1 by omega, e1, a2, dInts_map]
end
theorem law_go {call : Calls} {N : Nat} (hN : N ≤ 40) : ∀ (h : Nat) (p : List Int) (f v : Int) (xs : List D), xs.length = h → lawN N h p f = some v → ∀ (o : Bool) (x3 x4 : Option D),
    ∃ y1 y3 y4, loopF (forW G call (.nm 3) w__law_count_1) xs [some (.int (N : Nat)), some (.lst o (p.map .int)), some (.int f), x3, x4, none, none] = .nx [some (.int (N : Nat)), y1, some (.int v), y3, y4, none, none]
  | 0, p, f, v, xs, hx, e, o, x3, x4 => by
    rw [List.length_eq_zero_iff] at hx
    subst hx
    simp only [lawN, Option.some.injEq] at e
    subst e
    exact ⟨_, _, _, rfl⟩
  | h + 1, p, f, v, [], hx, _, _, _, _ => by simp at hx
  | h + 1, p, f, v, x :: xs, hx, e, o, x3, x4 => by
    simp only [lawN] at e
    split at e
    · rename_i q
      obtain ⟨lp, l2, hb, hb2⟩ := q
      have e1 := fun (f : Int) (o : Bool) => out_a (call := call) (p := p) (N := N) (o := o) (x0 := some (.int (N : Nat))) (x2 := some (.int f)) (x3 := some x) (x4 := x4) lp hN hb
      have e2 := fun (f : Int) (o o2 : Bool) => out_b (call := call) (p := p) (N := N) (o := o) (o2 := o2) (x0 := some (.int (N : Nat))) (x2 := some (.int f)) (x3 := some x) lp hN hb hb2
      have a1 := ld_at (p := p) (k := N) (by omega)
      obtain ⟨y1, y3, y4, e3⟩ := law_go (call := call) hN h (nrow N p) (f + gI p N) v xs (by simpa using hx) e true (some x) (some (.lst true ((two N p).map .int)))
      refine ⟨y1, y3, y4, ?_⟩
      have eb : forW G call (.nm 3) w__law_count_1 x [some (.int (N : Nat)), some (.lst o (p.map .int)), some (.int f), x3, x4, none, none] = .nx [some (.int (N : Nat)), some (.lst true ((nrow N p).map .int)), some (.int (f + gI p N)), some x, some (.lst true ((two N p).map .int)), none, none] := by
        have lt := two_len (N := N) (p := p)
        unfold nrow
        generalize two N p = q at e1 e2 lt ⊢
        simp [-List.map_map, w__law_count_1, a1, e1, e2, show N ≤ 999998 by omega, show (N : Int) + 1 ≤ 100000 by omega, show (-100000 : Int) ≤ (N : Int) + 1 by omega]
      rw [loopF, eb]
      exact e3
    · cases e
theorem c_law_count {n : Nat} (hn : 1 ≤ n) {k : Nat} (h2 : k ≤ 40) {v : Int} (h : lawC k = some v) : callF G n 24 [.int (k : Nat)] = .ok (.int v) [] := by
  refine callF_at g_24 (by omega) fun m e => ?_
  obtain ⟨y1, y3, y4, e1⟩ := law_go (call := callF G m) h2 7 ([0, 1] ++ List.replicate k 0) 0 v (rngD 0 7) rfl h true none none
  simp at e1
  have hpr : D.pures (List.replicate k (D.int 0)) = true := D.pures_all _ (by intro x hx; rw [List.eq_of_mem_replicate hx]; rfl)
  simp [-List.map_map, runBody_eq, b__law_count, List.replicate, e1, show (k : Int) ≤ 1000 by omega, hpr, D.fzs_of_pure _ hpr, show 2 + k ≤ 1000000 by omega]
end IR.k27
set_option maxHeartbeats 4000000
namespace IR.k27
open PySem PySem.Spec L2
theorem whileN_rt {t : Ev → R Bool} {b : Ev → Out} {n : Nat} {δ δ1 δ2 : Ev} {d : D} (h : t δ = .ok true δ1) (h2 : b δ1 = .ret d δ2) : whileN t b (n + 1) δ = .ret d δ2 := by
  rw [whileN, h]
  show (match b δ1 with
      | .nx δ2 => whileN t b n δ2
      | .ct δ2 => whileN t b n δ2
      | .brk δ2 => .nx δ2
      | o => o) = _
  rw [h2]
theorem whileN_nx {t : Ev → R Bool} {b : Ev → Out} {n : Nat} {δ δ1 δ2 : Ev} (h : t δ = .ok true δ1) (h2 : b δ1 = .nx δ2) : whileN t b (n + 1) δ = whileN t b n δ2 := by
  rw [whileN, h]
  show (match b δ1 with
      | .nx δ2 => whileN t b n δ2
      | .ct δ2 => whileN t b n δ2
      | .brk δ2 => .nx δ2
      | o => o) = _
  rw [h2]
theorem fuel2 : fuel = 1000000 + 1 + 1 ∨ ∃ k, fuel = k + 1 + 1 := .inr ⟨fuel - 2, by unfold fuel; omega⟩
theorem db1 {b : Bool} : dBls [.bl b] = some [b] := rfl
def tpl : D → Bool
  | .tup _ => true
  | _ => false
section
variable {m : Nat} {ws : List D} {v : D} {k : Int}
theorem wl1 (q : D → Bool) {e : E} (hp : D.pures ws = true) (hl : ws.length ≤ 10) (h : ∀ w ∈ ws, lcW G (callF G m) (.nm 3) .nil e w [some v, some (.lst true ws), some (.int k), none, none] = .ok (some (.bl (q w))) [some v, some (.lst true ws), some (.int k), none, none]) :
    loopCL (lcW G (callF G m) (.nm 3) .nil e) 1 fuel 0 [] [some v, some (.lst true ws), some (.int k), none, none] = .ok (ws.map fun w => .bl (q w)) [some v, some (.lst true ws), some (.int k), none, none] := by
  rw [loopCL_opt (fun w => some (.bl (q w))) rfl hp h fuel 0 [] (by simp) (by unfold fuel; omega) (by rw [big_eq, List.length_nil]; omega)]
  simp
theorem tst (hl : ws.length ≤ 10) : evB G (callF G m) t_depth_of_1 [some v, some (.lst true ws), some (.int k), none, none] = .ok true [some v, some (.lst true ws), some (.int k), none, none] := by
  simp [t_depth_of_1]
  omega
/-- a row with what is no tuple -/
theorem row_no (hp : D.pures ws = true) (hl : ws.length ≤ 10) (hn : ws.all tpl = false) :
    run G (callF G m) w_depth_of_1 [some v, some (.lst true ws), some (.int k), none, none] = .ret .non [some v, some (.lst true ws), some (.int k), none, none] := by
  have l1 := wl1 (m := m) (v := v) (k := k) (e := e_depth_of_1) tpl hp hl (fun w hw => by
    have := pures_mem hp w hw
    cases w <;> simp [lcW_eq, e_depth_of_1, tpl, this])
  have hn : (ws.all fun x => tpl x) = false := hn
  simp [w_depth_of_1, l1, hn]
/-- one tuple of one tuple, or of four -/
theorem row_B {xs : List D} (hp : D.pures xs = true) (h : (∃ ys, xs = [.tup ys]) ∨ xs.length = 4) (hm : 1 ≤ m) :
    run G (callF G m) w_depth_of_1 [some v, some (.lst true [.tup xs]), some (.int k), none, none] = .ret .non [some v, some (.lst true [.tup xs]), some (.int k), none, none] := by
  have hq : D.pures [.tup xs] = true := by simp [hp]
  have l1 := wl1 (m := m) (v := v) (k := k) (e := e_depth_of_1) (fun _ => true) hq (by simp) (fun w hw => by
    rw [List.mem_singleton.mp hw]
    simp [lcW_eq, e_depth_of_1, hp, D.fzs_of_pure _ hp])
  have l2 := wl1 (m := m) (v := v) (k := k) (e := e_depth_of_2) (fun _ => false) hq (by simp) (fun w hw => by
    rw [List.mem_singleton.mp hw]
    rcases h with ⟨ys, rfl⟩ | h
    · have z : callF G m 0 [.tup ys] = .ok (.bl false) [] := callF_at g_0 (by omega) fun m e => by
        simp at hp
        simp [runBody_eq, b_is_integer, List.replicate, hp]
      simp at hp
      simp [lcW_eq, e_depth_of_2, hp, z, D.fzs_of_pure _ hp]
    · simp [lcW_eq, e_depth_of_2, hp, h])
  have l3 := wl1 (m := m) (v := v) (k := k) (e := e_depth_of_3) (fun _ => false) hq (by simp) (fun w hw => by
    rw [List.mem_singleton.mp hw]
    rcases h with ⟨ys, rfl⟩ | h
    · simp at hp
      simp [lcW_eq, e_depth_of_3, hp]
    · simp [lcW_eq, e_depth_of_3, hp, h])
  simp at l1 l2 l3
  simp [w_depth_of_1, l1, l2, l3, db1]
/-- one tuple of two or three -/
theorem row_C {xs : List D} (hp : D.pures xs = true) (h : xs.length = 2 ∨ xs.length = 3) :
    run G (callF G m) w_depth_of_1 [some v, some (.lst true [.tup xs]), some (.int k), none, none] = .nx [some v, some (.lst true xs), some (.int (k + 1)), none, none] := by
  have hq : D.pures [.tup xs] = true := by simp [hp]
  have l1 := wl1 (m := m) (v := v) (k := k) (e := e_depth_of_1) (fun _ => true) hq (by simp) (fun w hw => by
    rw [List.mem_singleton.mp hw]
    simp [lcW_eq, e_depth_of_1, hp, D.fzs_of_pure _ hp])
  have l2 := wl1 (m := m) (v := v) (k := k) (e := e_depth_of_2) (fun _ => false) hq (by simp) (fun w hw => by
    rw [List.mem_singleton.mp hw]
    rcases h with h | h <;> simp [lcW_eq, e_depth_of_2, hp, h])
  have l3 := wl1 (m := m) (v := v) (k := k) (e := e_depth_of_3) (fun _ => true) hq (by simp) (fun w hw => by
    rw [List.mem_singleton.mp hw]
    rcases h with h | h <;> simp [lcW_eq, e_depth_of_3, hp, h])
  have l4 : ∀ md, ev G (callF G m) md (.lc2 (.nm 3) .e (.cons (.frz (.var 1)) .nil) .nil (.nm 4) .e (.cons (.frz (.var 3)) .nil) .nil e_depth_of_4) [some v, some (.lst true [.tup xs]), some (.int k), none, none] = .ok (.tmp (.lst true xs)) [some v, some (.lst false [.tup xs]), some (.int k), none, none] := fun md => by
    have := ev_flat3 (G := G) (call := callF G m) (m := md) (x0 := some v) (x2 := some (.int k)) (o := true) (rows := [xs]) (by simpa using hp) (by simp; omega) (x3 := none) (x4 := none)
    simp at this
    exact this
  simp at l1 l2 l3
  simp [w_depth_of_1, l1, l2, l3, l4, db1]
end
theorem dep_A {n : Nat} (hn : 2 ≤ n) {w : D} (hp : w.pure = true) (h : tpl w = false) : callF G n 3 [w] = .ok .non [] := by
  refine callF_at g_3 (by omega) fun m e => ?_
  have fz := D.fz_of_pure _ hp
  rcases fuel2 with f | ⟨f, hf⟩
  · exact absurd f (by unfold fuel; omega)
  · have e1 := whileN_rt (n := f + 1) (tst (m := m) (v := w) (ws := [w]) (k := 0) (by simp)) (row_no (m := m) (v := w) (k := 0) (ws := [w]) (by simpa using hp) (by simp) (by simp [h]))
    rw [← hf] at e1
    simp [runBody_eq, b_depth_of, List.replicate, e1, hp, fz]
theorem dep_B {n : Nat} (hn : 2 ≤ n) {xs : List D} (hp : D.pures xs = true) (h : (∃ ys, xs = [.tup ys]) ∨ xs.length = 4) : callF G n 3 [.tup xs] = .ok .non [] := by
  refine callF_at g_3 (by omega) fun m e => ?_
  have fz := D.fzs_of_pure _ hp
  rcases fuel2 with f | ⟨f, hf⟩
  · exact absurd f (by unfold fuel; omega)
  · have e1 := whileN_rt (n := f + 1) (tst (m := m) (v := .tup xs) (ws := [.tup xs]) (k := 0) (by simp)) (row_B (m := m) (v := .tup xs) (k := 0) hp h (by omega))
    rw [← hf] at e1
    simp [runBody_eq, b_depth_of, List.replicate, e1, hp, fz]
theorem dep_C {n : Nat} (hn : 2 ≤ n) {xs : List D} (hp : D.pures xs = true) (h : xs.length = 2 ∨ xs.length = 3) (h2 : xs.all tpl = false) : callF G n 3 [.tup xs] = .ok .non [] := by
  refine callF_at g_3 (by omega) fun m e => ?_
  have fz := D.fzs_of_pure _ hp
  rcases fuel2 with f | ⟨f, hf⟩
  · exact absurd f (by unfold fuel; omega)
  · have e1 := whileN_nx (n := f + 1) (tst (m := m) (v := .tup xs) (ws := [.tup xs]) (k := 0) (by simp)) (row_C (m := m) (v := .tup xs) (k := 0) hp h)
    rw [whileN_rt (n := f) (tst (m := m) (v := .tup xs) (ws := xs) (k := 0 + 1) (by omega)) (row_no (m := m) (v := .tup xs) (k := 0 + 1) (ws := xs) hp (by omega) h2)] at e1
    rw [← hf] at e1
    simp [runBody_eq, b_depth_of, List.replicate, e1, hp, fz]
theorem is_no {n : Nat} (hn : 4 ≤ n) {w : D} (hp : w.pure = true) (h : ∀ m, 2 ≤ m → callF G m 3 [w] = .ok .non []) : callF G n 5 [w] = .ok (.bl false) [] := by
  refine callF_at g_5 (by omega) fun m e => ?_
  simp [runBody_eq, b_is_two_three, List.replicate, h m (by omega), hp, D.fz_of_pure _ hp]
theorem lis_no {n : Nat} (hn : 40 ≤ n) {w : D} (hp : w.pure = true) (h : ∀ m, 20 ≤ m → callF G m 21 [w] = .ok .non []) : callF G n 22 [w] = .ok (.bl false) [] := by
  refine callF_at g_22 (by omega) fun m e => ?_
  simp [runBody_eq, b__law_is, List.replicate, h m (by omega), hp, D.fz_of_pure _ hp]
/-- what a value told or spoiled is -/
structure Wr (w : D) (own : Bool) : Prop where
  p : w.pure = true
  sm : w.sm = true
  dep : w.dep ≤ 30
  d0 : dEq0 w = some false
  is : ∀ n, 40 ≤ n → callF G n 5 [w] = .ok (.bl own) []
  law : ∀ n, 40 ≤ n → callF G n 22 [w] = .ok (.bl own) []
theorem Wr.good {h : Nat} {t : T} (g : T.gd h t) (l : t.its.length ≤ 24) : Wr t.d (okT t) where
  p := t.pure
  sm := t.sm
  dep := by have := T.dep g; have := T.h4 g l; omega
  d0 := by cases t <;> rfl
  is := fun n hn => c_is (by omega) g (by omega)
  law := fun n hn => c_law_is (h := h) (by have := T.h4 g l; omega) g (by omega)
theorem hgt_len {n : Nat} (hn : 1 ≤ n) {xs : List D} (hp : D.pures xs = true) (hb : D.nbs xs = true) (hd : D.deps xs ≤ 60) (h : xs.length = 4) : callF G n 21 [.tup xs] = .ok .non [] := by
  refine callF_at g_21 (by omega) fun m e => ?_
  have de : dEq (.tup xs) (.tup []) = some false := by
    rw [dEq_nb (by simpa using hb) rfl (by simp; omega) (by simp)]
    have : D.fzs xs ≠ [] := by rw [D.fzs_of_pure _ hp]; intro z; rw [z] at h; simp at h
    simp [this]
  simp [runBody_eq, b__law_height, List.replicate, hp, D.fzs_of_pure _ hp, de, h]
theorem hgt_one {n : Nat} (hn : 1 ≤ n) {t : T} (hd : t.d.dep ≤ 50) : callF G n 21 [.tup [t.d]] = .ok .non [] := by
  refine callF_at g_21 (by omega) fun m e => ?_
  have de : dEq (.tup [t.d]) (.tup []) = some false := by
    rw [dEq_nb (by simp [t.nb]) rfl (by simp; omega) (by simp)]
    simp
  simp [runBody_eq, b__law_height, List.replicate, de]
theorem hgt_lst {n : Nat} (hn : 1 ≤ n) {xs : List D} (hp : D.pures xs = true) : callF G n 21 [.lst false xs] = .ok .non [] := by
  refine callF_at g_21 (by omega) fun m e => ?_
  simp [runBody_eq, b__law_height, List.replicate, hp, D.fzs_of_pure _ hp]
theorem hgt_int {n : Nat} (hn : 1 ≤ n) {x : Int} : callF G n 21 [.int x] = .ok .non [] := by
  refine callF_at g_21 (by omega) fun m e => ?_
  simp [runBody_eq, b__law_height, List.replicate]
end IR.k27
set_option maxHeartbeats 4000000
namespace IR.k27
open PySem PySem.Spec L2
theorem n2a {h : Int} : run2 .in_ .non (.lst true [.non, .int h]) = some (.bl true) := by rw [run2_in_1]; rfl
theorem n2b {h : Int} : run2 .in_ .non (.lst true [.int h, .non]) = some (.bl true) := by rw [run2_in_1]; rfl
theorem n3a {h k : Int} : run2 .in_ .non (.lst true [.non, .int h, .int k]) = some (.bl true) := by rw [run2_in_1]; rfl
theorem n3b {h k : Int} : run2 .in_ .non (.lst true [.int h, .non, .int k]) = some (.bl true) := by rw [run2_in_1]; rfl
theorem n3c {h k : Int} : run2 .in_ .non (.lst true [.int h, .int k, .non]) = some (.bl true) := by rw [run2_in_1]; rfl
theorem de_tup {xs : List D} (hp : D.pures xs = true) (hb : D.nbs xs = true) (hd : D.deps xs ≤ 60) (h : xs ≠ []) : dEq (.tup xs) (.tup []) = some false := by
  rw [dEq_nb (by simpa using hb) rfl (by simp; omega) (by simp)]
  have : D.fzs xs ≠ [] := by rw [D.fzs_of_pure _ hp]; exact h
  simp [this]
theorem hgt_i {n : Nat} {h : Nat} {x : Int} {a b c : T} (hn : 20 ≤ n) (ga : T.gd h a) (gb : T.gd h b) (gc : T.gd h c) (hh : h ≤ 10) :
    callF G n 21 [.tup [.int x, b.d]] = .ok .non [] ∧ callF G n 21 [.tup [a.d, .int x]] = .ok .non [] ∧
    callF G n 21 [.tup [.int x, b.d, c.d]] = .ok .non [] ∧ callF G n 21 [.tup [a.d, .int x, c.d]] = .ok .non [] ∧ callF G n 21 [.tup [a.d, b.d, .int x]] = .ok .non [] := by
  have ha := fun (m : Nat) (hm : 15 ≤ m) => c_height (n := m) (by omega) (by omega) ga
  have hb := fun (m : Nat) (hm : 15 ≤ m) => c_height (n := m) (by omega) (by omega) gb
  have hc := fun (m : Nat) (hm : 15 ≤ m) => c_height (n := m) (by omega) (by omega) gc
  have da := T.dep ga; have db := T.dep gb; have dc := T.dep gc
  have na := a.nb; have nb := b.nb; have nc := c.nb
  refine ⟨callF_at g_21 (by omega) fun m e => ?_, callF_at g_21 (by omega) fun m e => ?_, callF_at g_21 (by omega) fun m e => ?_, callF_at g_21 (by omega) fun m e => ?_, callF_at g_21 (by omega) fun m e => ?_⟩
  · have de := de_tup (xs := [.int x, b.d]) (by simp) (by simp [na, nb, nc]) (by simp; omega) (by simp)
    simp [runBody_eq, b__law_height, List.replicate, de, loopC_cons, lcW_eq, e__law_height_1, hb m (by omega), hgt_int (n := m) (by omega), n2a]
  · have de := de_tup (xs := [a.d, .int x]) (by simp) (by simp [na, nb, nc]) (by simp; omega) (by simp)
    simp [runBody_eq, b__law_height, List.replicate, de, loopC_cons, lcW_eq, e__law_height_1, ha m (by omega), hgt_int (n := m) (by omega), n2b]
  · have de := de_tup (xs := [.int x, b.d, c.d]) (by simp) (by simp [na, nb, nc]) (by simp; omega) (by simp)
    simp [runBody_eq, b__law_height, List.replicate, de, loopC_cons, lcW_eq, e__law_height_1, hb m (by omega), hc m (by omega), hgt_int (n := m) (by omega), n3a]
  · have de := de_tup (xs := [a.d, .int x, c.d]) (by simp) (by simp [na, nb, nc]) (by simp; omega) (by simp)
    simp [runBody_eq, b__law_height, List.replicate, de, loopC_cons, lcW_eq, e__law_height_1, ha m (by omega), hc m (by omega), hgt_int (n := m) (by omega), n3b]
  · have de := de_tup (xs := [a.d, b.d, .int x]) (by simp) (by simp [na, nb, nc]) (by simp; omega) (by simp)
    simp [runBody_eq, b__law_height, List.replicate, de, loopC_cons, lcW_eq, e__law_height_1, ha m (by omega), hb m (by omega), hgt_int (n := m) (by omega), n3c]
/-- a value that is turned -/
structure Wx (w : D) (own : Bool) : Prop where
  p : w.pure = true
  is : ∀ n, 40 ≤ n → callF G n 5 [w] = .ok (.bl own) []
  law : ∀ n, 40 ≤ n → callF G n 22 [w] = .ok (.bl own) []
  d0 : (w = .dct false [] []) ∨ (dEq0 w = some false ∧ w.sm = true ∧ w.dep ≤ 30)
theorem Wx.good {h : Nat} {t : T} (g : T.gd h t) (l : t.its.length ≤ 24) : ∃ own, Wx t.d own :=
  ⟨okT t, t.pure, fun n hn => c_is (by omega) g (by omega), fun n hn => c_law_is (h := h) (by have := T.h4 g l; omega) g (by omega),
    .inr ⟨by cases t <;> rfl, t.sm, by have := T.dep g; have := T.h4 g l; omega⟩⟩
theorem Wx.bad {w : D} (hp : w.pure = true) (h1 : ∀ m, 2 ≤ m → callF G m 3 [w] = .ok .non []) (h2 : ∀ m, 20 ≤ m → callF G m 21 [w] = .ok .non []) (d0 : dEq0 w = some false) (hs : w.sm = true) (hd : w.dep ≤ 30) : ∃ own, Wx w own :=
  ⟨false, hp, fun n hn => is_no (by omega) hp h1, fun n hn => lis_no hn hp h2, .inr ⟨d0, hs, hd⟩⟩
def isDct : D → Bool
  | .dct false [] [] => true
  | _ => false
def d0f : D → Bool
  | .dct _ _ _ => false
  | .scr _ => false
  | _ => true
def okW (w : D) : Bool := w.pure && (isDct w || (d0f w && w.sm && decide (w.dep ≤ 30))) && (match callF G 12 5 [w], callF G 12 22 [w] with
  | .ok (.bl a) [], .ok (.bl b) [] => a == b
  | _, _ => false)
theorem okW_ok {w : D} (h : okW w = true) : ∃ own, Wx w own := by
  unfold okW at h
  simp only [Bool.and_eq_true, Bool.or_eq_true, decide_eq_true_eq] at h
  obtain ⟨⟨hp, hd⟩, hm⟩ := h
  split at hm
  · rename_i a b e1 e2
    have : a = b := by simpa using hm
    subst this
    refine ⟨a, hp, fun n hn => callF_more e1 (by simp) (by omega), fun n hn => callF_more e2 (by simp) (by omega), ?_⟩
    rcases hd with hd | hd
    · left
      unfold isDct at hd
      split at hd
      · rfl
      · simp at hd
    · exact .inr ⟨by have := hd.1.1; cases w <;> simp [d0f] at this <;> rfl, hd.1.2, hd.2⟩
  · simp at hm
def i1 (x : Int) : D := .tup [.int x]
def WL : List D := [.non, .int 7, .tup [], .lst false [.int 1], .tup [.non], .tup [.bl true], S_ "tree", .dct false [] [], .tup [S_ "a"], .tup [.tup [.int 1]], .tup [.tup [.int 1], .int 2], .tup [.tup [.int 1], .tup [.int 1]], .tup [.tup [.int 2], .tup [.int 1]], .tup [.tup [.int 1], .tup [.int 2], .tup [.int 3], .tup [.int 4]], .tup [.tup [.int 1], .tup [.tup [.int 2], .tup [.int 3]]], .tup [.lst false [.int 1], .tup [.int 2]]]
theorem WL_ok : (WL.all okW) = true := by decide +kernel
theorem pick {L : List D} {P : D → Prop} (h : ∀ d ∈ L, P d) {j : Int} (j0 : 0 ≤ j) (j1 : j < L.length) : ∃ d, atI L j = some d ∧ P d := by
  obtain ⟨i, rfl⟩ : ∃ i : Nat, j = i := ⟨j.toNat, by omega⟩
  have hi : i < L.length := by omega
  exact ⟨L[i], atI_nat hi, h _ (List.getElem_mem hi)⟩
end IR.k27
set_option maxHeartbeats 8000000
namespace IR.k27
open PySem PySem.Spec L2
theorem at_hd (t : T) : atI (t.its.map D.int) 0 = some (.int (t.its.headD 0)) := by
  cases e : t.its with
  | nil => exact absurd e t.its_ne
  | cons x xs => simp
section
variable {a b c e : D}
theorem q2a : cutD [a, b] (some (-1)) none = [b] := rfl
theorem q3a : cutD [a, b, c] (some (-1)) none = [c] := rfl
end
/-- the constants -/
theorem sp_const {m c : Nat} (hm : 3 ≤ m) {box : D} {t : T} (hc : c + 20 < 100000) (hb : BoxOk c box) :
    ∃ w own box', run G (callF G m) (.seq (.ret (.op2 .idx (.var 2) (.call 14 (.cons (.var 0) (.cons (.lit (.int 16)) .nil))))) .nop) [some box, some t.d, some (.lst true WL), none] = .ret w [some box', some t.d, some (.lst true WL), none] ∧ Wx w own ∧ BoxOk (c + 1) box' := by
  obtain ⟨j, b1, e1, j0, j1, q1⟩ := take27 m _ box 16 (by omega) (by omega) (by omega) (by omega) hb
  obtain ⟨w, ea, own, hw⟩ := pick (L := WL) (P := fun d => ∃ own, Wx d own) (fun d hd => okW_ok (List.all_eq_true.mp WL_ok d hd)) j0 j1
  refine ⟨w, own, b1, ?_, hw, q1⟩
  have hwp := hw.p
  generalize WL = L at ea
  simp [e1, ea, hwp, hb.pure, q1.own]
theorem sp20 {m c' h : Nat} (hm : 60 ≤ m) {box : D} {a : T} {b : T} (hh : h ≤ 5) (ga : T.gd h a) (gb : T.gd h b) (hl : (T.n2 a b).its.length ≤ 12) (hc : c' + 20 < 100000) (hb : BoxOk c' box) {b1 : D} (e1 : callF G m 14 [box, .int 2] = .ok (.int 0) [some b1]) (q1 : BoxOk (c' + 1) b1) :
    ∃ w own box', run G (callF G m) b__law_spoiled_2 [some box, some (T.n2 a b).d, some (.lst true WL), none] = .ret w [some box', some (T.n2 a b).d, some (.lst true WL), some (.int 0)] ∧ Wx w own ∧ BoxOk (c' + 2) box' := by
  obtain ⟨j, b2, e2, j0, j1, q2⟩ := take27 m _ b1 6 (by omega) (by omega) (by omega) (by omega) q1
  have li := c_lits (n := m) (h := h) (by omega) ga (by simp [T.its] at hl; omega)
  have lh := at_hd a
  generalize a.its.headD 0 = y at lh
  have da := T.dep ga
  have db := T.dep gb
  simp [T.its] at hl
  have hL : ∀ d ∈ ([.tup [b.d], .tup [b.d, a.d], .tup [a.d, b.d, b.d], .lst false [a.d, b.d], .tup [.int y, b.d], .tup [.tup [a.d, b.d], .tup [a.d, b.d]]] : List D), ∃ own, Wx d own := by
    intro d hd
    simp only [List.mem_cons, List.not_mem_nil, or_false] at hd
    rcases hd with rfl | rfl | rfl | rfl | rfl | rfl
    · exact Wx.bad (by simp) (fun m hm => dep_B hm (by simp) (.inl (by cases b <;> simp))) (fun m hm => hgt_one (by omega) (by omega)) rfl (by simp [a.sm, b.sm]) (by simp; omega)
    · exact Wx.good (h := h + 1) (t := .n2 b a) (by simp [ga, gb]) (by simp [T.its]; omega)
    · exact Wx.good (h := h + 1) (t := .n3 a b b) (by simp [ga, gb]) (by simp [T.its]; omega)
    · exact Wx.bad (by simp) (fun m hm => dep_A hm (by simp) rfl) (fun m hm => hgt_lst (by omega) (by simp)) rfl (by simp [a.sm, b.sm]) (by simp; omega)
    · exact Wx.bad (by simp) (fun m hm => dep_C hm (by simp) (by simp) (by simp [tpl])) (fun m hm => (hgt_i (x := y) hm ga gb gb (by omega)).1) rfl (by simp [a.sm, b.sm]) (by simp; omega)
    · exact Wx.good (h := h + 2) (t := .n2 (.n2 a b) (.n2 a b)) (by simp [ga, gb]) (by simp [T.its]; omega)
  obtain ⟨w, ea, own, hw⟩ := pick hL j0 j1
  refine ⟨w, own, b2, ?_, hw, q2⟩
  have hwp := hw.p
  generalize WL = L
  simp [k2a, k2b, k2c, k2d, k2e, k3a, k3b, k3c, k3d, k3e, k3f, k3g, k4a, k4b, q2a, q3a, e1, e2, ea, hwp, hb.pure, q1.own, q1.pure, q2.own, li, lh]
theorem sp21 {m c' h : Nat} (hm : 60 ≤ m) {box : D} {a : T} {b : T} (hh : h ≤ 5) (ga : T.gd h a) (gb : T.gd h b) (hl : (T.n2 a b).its.length ≤ 12) (hc : c' + 20 < 100000) (hb : BoxOk c' box) {b1 : D} (e1 : callF G m 14 [box, .int 2] = .ok (.int 1) [some b1]) (q1 : BoxOk (c' + 1) b1) :
    ∃ w own box', run G (callF G m) b__law_spoiled_2 [some box, some (T.n2 a b).d, some (.lst true WL), none] = .ret w [some box', some (T.n2 a b).d, some (.lst true WL), some (.int 1)] ∧ Wx w own ∧ BoxOk (c' + 2) box' := by
  obtain ⟨j, b2, e2, j0, j1, q2⟩ := take27 m _ b1 6 (by omega) (by omega) (by omega) (by omega) q1
  have li := c_lits (n := m) (h := h) (by omega) gb (by simp [T.its] at hl; omega)
  have lh := at_hd b
  generalize b.its.headD 0 = y at lh
  have da := T.dep ga
  have db := T.dep gb
  simp [T.its] at hl
  have hL : ∀ d ∈ ([.tup [a.d], .tup [b.d, a.d], .tup [a.d, b.d, b.d], .lst false [a.d, b.d], .tup [a.d, .int y], .tup [.tup [a.d, b.d], .tup [a.d, b.d]]] : List D), ∃ own, Wx d own := by
    intro d hd
    simp only [List.mem_cons, List.not_mem_nil, or_false] at hd
    rcases hd with rfl | rfl | rfl | rfl | rfl | rfl
    · exact Wx.bad (by simp) (fun m hm => dep_B hm (by simp) (.inl (by cases a <;> simp))) (fun m hm => hgt_one (by omega) (by omega)) rfl (by simp [a.sm, b.sm]) (by simp; omega)
    · exact Wx.good (h := h + 1) (t := .n2 b a) (by simp [ga, gb]) (by simp [T.its]; omega)
    · exact Wx.good (h := h + 1) (t := .n3 a b b) (by simp [ga, gb]) (by simp [T.its]; omega)
    · exact Wx.bad (by simp) (fun m hm => dep_A hm (by simp) rfl) (fun m hm => hgt_lst (by omega) (by simp)) rfl (by simp [a.sm, b.sm]) (by simp; omega)
    · exact Wx.bad (by simp) (fun m hm => dep_C hm (by simp) (by simp) (by simp [tpl])) (fun m hm => (hgt_i (x := y) hm ga gb gb (by omega)).2.1) rfl (by simp [a.sm, b.sm]) (by simp; omega)
    · exact Wx.good (h := h + 2) (t := .n2 (.n2 a b) (.n2 a b)) (by simp [ga, gb]) (by simp [T.its]; omega)
  obtain ⟨w, ea, own, hw⟩ := pick hL j0 j1
  refine ⟨w, own, b2, ?_, hw, q2⟩
  have hwp := hw.p
  generalize WL = L
  simp [k2a, k2b, k2c, k2d, k2e, k3a, k3b, k3c, k3d, k3e, k3f, k3g, k4a, k4b, q2a, q3a, e1, e2, ea, hwp, hb.pure, q1.own, q1.pure, q2.own, li, lh]
theorem sp30 {m c' h : Nat} (hm : 60 ≤ m) {box : D} {a : T} {b : T} {c : T} (hh : h ≤ 5) (ga : T.gd h a) (gb : T.gd h b) (gc : T.gd h c) (hl : (T.n3 a b c).its.length ≤ 12) (hc : c' + 20 < 100000) (hb : BoxOk c' box) {b1 : D} (e1 : callF G m 14 [box, .int 3] = .ok (.int 0) [some b1]) (q1 : BoxOk (c' + 1) b1) :
    ∃ w own box', run G (callF G m) b__law_spoiled_2 [some box, some (T.n3 a b c).d, some (.lst true WL), none] = .ret w [some box', some (T.n3 a b c).d, some (.lst true WL), some (.int 0)] ∧ Wx w own ∧ BoxOk (c' + 2) box' := by
  obtain ⟨j, b2, e2, j0, j1, q2⟩ := take27 m _ b1 6 (by omega) (by omega) (by omega) (by omega) q1
  have li := c_lits (n := m) (h := h) (by omega) ga (by simp [T.its] at hl; omega)
  have lh := at_hd a
  generalize a.its.headD 0 = y at lh
  have da := T.dep ga
  have db := T.dep gb
  have dc := T.dep gc
  simp [T.its] at hl
  have hL : ∀ d ∈ ([.tup [b.d, c.d], .tup [c.d, b.d, a.d], .tup [a.d, b.d, c.d, c.d], .lst false [a.d, b.d, c.d], .tup [.int y, b.d, c.d], .tup [.tup [a.d, b.d, c.d], .tup [a.d, b.d, c.d]]] : List D), ∃ own, Wx d own := by
    intro d hd
    simp only [List.mem_cons, List.not_mem_nil, or_false] at hd
    rcases hd with rfl | rfl | rfl | rfl | rfl | rfl
    · exact Wx.good (h := h + 1) (t := .n2 b c) (by simp [ga, gb, gc]) (by simp [T.its]; omega)
    · exact Wx.good (h := h + 1) (t := .n3 c b a) (by simp [ga, gb, gc]) (by simp [T.its]; omega)
    · exact Wx.bad (by simp) (fun m hm => dep_B hm (by simp) (.inr rfl)) (fun m hm => hgt_len (by omega) (by simp) (by simp [a.nb, b.nb, c.nb]) (by simp; omega) rfl) rfl (by simp [a.sm, b.sm, c.sm]) (by simp; omega)
    · exact Wx.bad (by simp) (fun m hm => dep_A hm (by simp) rfl) (fun m hm => hgt_lst (by omega) (by simp)) rfl (by simp [a.sm, b.sm, c.sm]) (by simp; omega)
    · exact Wx.bad (by simp) (fun m hm => dep_C hm (by simp) (by simp) (by simp [tpl])) (fun m hm => (hgt_i (x := y) hm ga gb gc (by omega)).2.2.1) rfl (by simp [a.sm, b.sm, c.sm]) (by simp; omega)
    · exact Wx.good (h := h + 2) (t := .n2 (.n3 a b c) (.n3 a b c)) (by simp [ga, gb, gc]) (by simp [T.its]; omega)
  obtain ⟨w, ea, own, hw⟩ := pick hL j0 j1
  refine ⟨w, own, b2, ?_, hw, q2⟩
  have hwp := hw.p
  generalize WL = L
  simp [k2a, k2b, k2c, k2d, k2e, k3a, k3b, k3c, k3d, k3e, k3f, k3g, k4a, k4b, q2a, q3a, e1, e2, ea, hwp, hb.pure, q1.own, q1.pure, q2.own, li, lh]
theorem sp31 {m c' h : Nat} (hm : 60 ≤ m) {box : D} {a : T} {b : T} {c : T} (hh : h ≤ 5) (ga : T.gd h a) (gb : T.gd h b) (gc : T.gd h c) (hl : (T.n3 a b c).its.length ≤ 12) (hc : c' + 20 < 100000) (hb : BoxOk c' box) {b1 : D} (e1 : callF G m 14 [box, .int 3] = .ok (.int 1) [some b1]) (q1 : BoxOk (c' + 1) b1) :
    ∃ w own box', run G (callF G m) b__law_spoiled_2 [some box, some (T.n3 a b c).d, some (.lst true WL), none] = .ret w [some box', some (T.n3 a b c).d, some (.lst true WL), some (.int 1)] ∧ Wx w own ∧ BoxOk (c' + 2) box' := by
  obtain ⟨j, b2, e2, j0, j1, q2⟩ := take27 m _ b1 6 (by omega) (by omega) (by omega) (by omega) q1
  have li := c_lits (n := m) (h := h) (by omega) gb (by simp [T.its] at hl; omega)
  have lh := at_hd b
  generalize b.its.headD 0 = y at lh
  have da := T.dep ga
  have db := T.dep gb
  have dc := T.dep gc
  simp [T.its] at hl
  have hL : ∀ d ∈ ([.tup [a.d, c.d], .tup [c.d, b.d, a.d], .tup [a.d, b.d, c.d, c.d], .lst false [a.d, b.d, c.d], .tup [a.d, .int y, c.d], .tup [.tup [a.d, b.d, c.d], .tup [a.d, b.d, c.d]]] : List D), ∃ own, Wx d own := by
    intro d hd
    simp only [List.mem_cons, List.not_mem_nil, or_false] at hd
    rcases hd with rfl | rfl | rfl | rfl | rfl | rfl
    · exact Wx.good (h := h + 1) (t := .n2 a c) (by simp [ga, gb, gc]) (by simp [T.its]; omega)
    · exact Wx.good (h := h + 1) (t := .n3 c b a) (by simp [ga, gb, gc]) (by simp [T.its]; omega)
    · exact Wx.bad (by simp) (fun m hm => dep_B hm (by simp) (.inr rfl)) (fun m hm => hgt_len (by omega) (by simp) (by simp [a.nb, b.nb, c.nb]) (by simp; omega) rfl) rfl (by simp [a.sm, b.sm, c.sm]) (by simp; omega)
    · exact Wx.bad (by simp) (fun m hm => dep_A hm (by simp) rfl) (fun m hm => hgt_lst (by omega) (by simp)) rfl (by simp [a.sm, b.sm, c.sm]) (by simp; omega)
    · exact Wx.bad (by simp) (fun m hm => dep_C hm (by simp) (by simp) (by simp [tpl])) (fun m hm => (hgt_i (x := y) hm ga gb gc (by omega)).2.2.2.1) rfl (by simp [a.sm, b.sm, c.sm]) (by simp; omega)
    · exact Wx.good (h := h + 2) (t := .n2 (.n3 a b c) (.n3 a b c)) (by simp [ga, gb, gc]) (by simp [T.its]; omega)
  obtain ⟨w, ea, own, hw⟩ := pick hL j0 j1
  refine ⟨w, own, b2, ?_, hw, q2⟩
  have hwp := hw.p
  generalize WL = L
  simp [k2a, k2b, k2c, k2d, k2e, k3a, k3b, k3c, k3d, k3e, k3f, k3g, k4a, k4b, q2a, q3a, e1, e2, ea, hwp, hb.pure, q1.own, q1.pure, q2.own, li, lh]
theorem sp32 {m c' h : Nat} (hm : 60 ≤ m) {box : D} {a : T} {b : T} {c : T} (hh : h ≤ 5) (ga : T.gd h a) (gb : T.gd h b) (gc : T.gd h c) (hl : (T.n3 a b c).its.length ≤ 12) (hc : c' + 20 < 100000) (hb : BoxOk c' box) {b1 : D} (e1 : callF G m 14 [box, .int 3] = .ok (.int 2) [some b1]) (q1 : BoxOk (c' + 1) b1) :
    ∃ w own box', run G (callF G m) b__law_spoiled_2 [some box, some (T.n3 a b c).d, some (.lst true WL), none] = .ret w [some box', some (T.n3 a b c).d, some (.lst true WL), some (.int 2)] ∧ Wx w own ∧ BoxOk (c' + 2) box' := by
  obtain ⟨j, b2, e2, j0, j1, q2⟩ := take27 m _ b1 6 (by omega) (by omega) (by omega) (by omega) q1
  have li := c_lits (n := m) (h := h) (by omega) gc (by simp [T.its] at hl; omega)
  have lh := at_hd c
  generalize c.its.headD 0 = y at lh
  have da := T.dep ga
  have db := T.dep gb
  have dc := T.dep gc
  simp [T.its] at hl
  have hL : ∀ d ∈ ([.tup [a.d, b.d], .tup [c.d, b.d, a.d], .tup [a.d, b.d, c.d, c.d], .lst false [a.d, b.d, c.d], .tup [a.d, b.d, .int y], .tup [.tup [a.d, b.d, c.d], .tup [a.d, b.d, c.d]]] : List D), ∃ own, Wx d own := by
    intro d hd
    simp only [List.mem_cons, List.not_mem_nil, or_false] at hd
    rcases hd with rfl | rfl | rfl | rfl | rfl | rfl
    · exact Wx.good (h := h + 1) (t := .n2 a b) (by simp [ga, gb, gc]) (by simp [T.its]; omega)
    · exact Wx.good (h := h + 1) (t := .n3 c b a) (by simp [ga, gb, gc]) (by simp [T.its]; omega)
    · exact Wx.bad (by simp) (fun m hm => dep_B hm (by simp) (.inr rfl)) (fun m hm => hgt_len (by omega) (by simp) (by simp [a.nb, b.nb, c.nb]) (by simp; omega) rfl) rfl (by simp [a.sm, b.sm, c.sm]) (by simp; omega)
    · exact Wx.bad (by simp) (fun m hm => dep_A hm (by simp) rfl) (fun m hm => hgt_lst (by omega) (by simp)) rfl (by simp [a.sm, b.sm, c.sm]) (by simp; omega)
    · exact Wx.bad (by simp) (fun m hm => dep_C hm (by simp) (by simp) (by simp [tpl])) (fun m hm => (hgt_i (x := y) hm ga gb gc (by omega)).2.2.2.2) rfl (by simp [a.sm, b.sm, c.sm]) (by simp; omega)
    · exact Wx.good (h := h + 2) (t := .n2 (.n3 a b c) (.n3 a b c)) (by simp [ga, gb, gc]) (by simp [T.its]; omega)
  obtain ⟨w, ea, own, hw⟩ := pick hL j0 j1
  refine ⟨w, own, b2, ?_, hw, q2⟩
  have hwp := hw.p
  generalize WL = L
  simp [k2a, k2b, k2c, k2d, k2e, k3a, k3b, k3c, k3d, k3e, k3f, k3g, k4a, k4b, q2a, q3a, e1, e2, ea, hwp, hb.pure, q1.own, q1.pure, q2.own, li, lh]
end IR.k27
set_option maxHeartbeats 8000000
namespace IR.k27
open PySem PySem.Spec L2
theorem c_spoiled {n c0 h : Nat} (hn : 70 ≤ n) {box : D} {t : T} (g : T.gd h t) (hl : t.its.length ≤ 12) (hc : c0 + 30 < 100000) (hb : BoxOk c0 box) :
    ∃ w own box', callF G n 25 [box, t.d] = .ok w [some box'] ∧ Wx w own ∧ BoxOk (c0 + 6) box' := by
  obtain ⟨m, rfl⟩ : ∃ m, n = m + 1 := ⟨n - 1, by omega⟩
  have h4 := T.h4 g (by omega)
  have fin : ∀ w own b3 x3, run G (callF G m) b__law_spoiled_1 [some box, some t.d, some (.lst true WL), none] = .ret w [some b3, some t.d, some (.lst true WL), x3] → Wx w own → BoxOk (c0 + 6) b3 →
      ∃ w own box', callF G (m + 1) 25 [box, t.d] = .ok w [some box'] ∧ Wx w own ∧ BoxOk (c0 + 6) box' := by
    intro w own b3 x3 e hw q
    refine ⟨w, own, b3, ?_, hw, q⟩
    unfold WL at e
    rw [callF_succ, g_25]
    simp [-b__law_spoiled_1, runBody_eq, b__law_spoiled, List.replicate, e, hb.pure, q.own, hw.p]
  obtain ⟨z, b1, e1, z0, z1, q1⟩ := take27 m _ box 3 (by omega) (by omega) (by omega) (by omega) hb
  cases t with
  | lf x =>
    obtain ⟨j, b2, e2, j0, j1, q2⟩ := take27 m _ box 16 (by omega) (by omega) (by omega) (by omega) hb
    obtain ⟨w, ea, own, hw⟩ := pick (L := WL) (P := fun d => ∃ own, Wx d own) (fun d hd => okW_ok (List.all_eq_true.mp WL_ok d hd)) j0 j1
    refine fin w own b2 none ?_ hw (q2.more (by omega))
    have hwp := hw.p
    clear fin
    generalize WL = L at ea ⊢
    simp [-b__law_spoiled_2, e2, ea, hwp, hb.pure, q2.own]
  | n2 a b =>
    by_cases hz0 : z = 0
    · subst hz0
      obtain ⟨j, b2, e2, j0, j1, q2⟩ := take27 m _ b1 16 (by omega) (by omega) (by omega) (by omega) q1
      obtain ⟨w, ea, own, hw⟩ := pick (L := WL) (P := fun d => ∃ own, Wx d own) (fun d hd => okW_ok (List.all_eq_true.mp WL_ok d hd)) j0 j1
      refine fin w own b2 none ?_ hw (q2.more (by omega))
      have hwp := hw.p
      clear fin
      generalize WL = L at ea ⊢
      simp [-b__law_spoiled_2, e1, e2, ea, hwp, hb.pure, q1.pure, q1.own, q2.own]
    · obtain ⟨h, rfl⟩ : ∃ k, h = k + 1 := by cases h with
        | zero => simp at g
        | succ h => exact ⟨h, rfl⟩
      simp at g
      obtain ⟨j, b2, e2, j0, j1, q2⟩ := take27 m _ b1 2 (by omega) (by omega) (by omega) (by omega) q1
      have key : ∃ w own box' x3, run G (callF G m) b__law_spoiled_2 [some b1, some (T.n2 a b).d, some (.lst true WL), none] = .ret w [some box', some (T.n2 a b).d, some (.lst true WL), x3] ∧ Wx w own ∧ BoxOk (c0 + 3) box' := by
        have hj : j = 0 ∨ j = 1 := by omega
        rcases hj with rfl | rfl
        · obtain ⟨w, own, b3, e3, hw, q3⟩ := sp20 (m := m) (by omega) (by omega) g.1 g.2 hl (by omega) q1 e2 q2
          exact ⟨w, own, b3, _, e3, hw, q3⟩
        · obtain ⟨w, own, b3, e3, hw, q3⟩ := sp21 (m := m) (by omega) (by omega) g.1 g.2 hl (by omega) q1 e2 q2
          exact ⟨w, own, b3, _, e3, hw, q3⟩
      obtain ⟨w, own, b3, x3, e3, hw, q3⟩ := key
      refine fin w own b3 x3 ?_ hw (q3.more (by omega))
      clear fin
      generalize WL = L at e3 ⊢
      simp [-b__law_spoiled_2] at e3
      simp [-b__law_spoiled_2, e1, hz0, hb.pure, q1.own, e3]
  | n3 a b c =>
    by_cases hz0 : z = 0
    · subst hz0
      obtain ⟨j, b2, e2, j0, j1, q2⟩ := take27 m _ b1 16 (by omega) (by omega) (by omega) (by omega) q1
      obtain ⟨w, ea, own, hw⟩ := pick (L := WL) (P := fun d => ∃ own, Wx d own) (fun d hd => okW_ok (List.all_eq_true.mp WL_ok d hd)) j0 j1
      refine fin w own b2 none ?_ hw (q2.more (by omega))
      have hwp := hw.p
      clear fin
      generalize WL = L at ea ⊢
      simp [-b__law_spoiled_2, e1, e2, ea, hwp, hb.pure, q1.pure, q1.own, q2.own]
    · obtain ⟨h, rfl⟩ : ∃ k, h = k + 1 := by cases h with
        | zero => simp at g
        | succ h => exact ⟨h, rfl⟩
      simp at g
      obtain ⟨j, b2, e2, j0, j1, q2⟩ := take27 m _ b1 3 (by omega) (by omega) (by omega) (by omega) q1
      have key : ∃ w own box' x3, run G (callF G m) b__law_spoiled_2 [some b1, some (T.n3 a b c).d, some (.lst true WL), none] = .ret w [some box', some (T.n3 a b c).d, some (.lst true WL), x3] ∧ Wx w own ∧ BoxOk (c0 + 3) box' := by
        have hj : j = 0 ∨ j = 1 ∨ j = 2 := by omega
        rcases hj with rfl | rfl | rfl
        · obtain ⟨w, own, b3, e3, hw, q3⟩ := sp30 (m := m) (by omega) (by omega) g.1 g.2.1 g.2.2 hl (by omega) q1 e2 q2
          exact ⟨w, own, b3, _, e3, hw, q3⟩
        · obtain ⟨w, own, b3, e3, hw, q3⟩ := sp31 (m := m) (by omega) (by omega) g.1 g.2.1 g.2.2 hl (by omega) q1 e2 q2
          exact ⟨w, own, b3, _, e3, hw, q3⟩
        · obtain ⟨w, own, b3, e3, hw, q3⟩ := sp32 (m := m) (by omega) (by omega) g.1 g.2.1 g.2.2 hl (by omega) q1 e2 q2
          exact ⟨w, own, b3, _, e3, hw, q3⟩
      obtain ⟨w, own, b3, x3, e3, hw, q3⟩ := key
      refine fin w own b3 x3 ?_ hw (q3.more (by omega))
      clear fin
      generalize WL = L at e3 ⊢
      simp [-b__law_spoiled_2] at e3
      simp [-b__law_spoiled_2, e1, hz0, hb.pure, q1.own, e3]
end IR.k27
set_option maxHeartbeats 8000000
namespace IR.k27
open PySem PySem.Spec L2
def Td (d : D) : D := .tup [S_ "told", d]
@[simp] theorem Td_p {d : D} (h : d.pure = true) : (Td d).pure = true := by simp [Td, h]
theorem smt : (S_ "told").sm = true := by decide +kernel
theorem sma : (S_ "taken").sm = true := by decide +kernel
theorem sml : (S_ "large").sm = true := by decide +kernel
theorem smr : (S_ "tree").sm = true := by decide +kernel
theorem smn : (S_ "number").sm = true := by decide +kernel
theorem int_sm (i : Int) : (D.int i).sm = true := rfl
/-- what grown tells -/
def due (t : T) (x : Int) : D := if x ∈ t.its then .tup [S_ "taken", .int x] else if t.its.length = 12 then .tup [S_ "large", .int 13] else .tup [S_ "told", (T.top (t.put x)).d]
theorem due_ok {h : Nat} {t : T} (g : T.gd h t) (hl : t.its.length ≤ 12) (x : Int) : (due t x).pure = true ∧ (due t x).sm = true ∧ (due t x).dep ≤ 20 := by
  unfold due
  have h4 := T.h4 g (by omega)
  split
  · simp [sma, int_sm]
  · split
    · simp [sml, int_sm]
    · obtain ⟨k, gk⟩ := T.top_gd g x
      have p1 := T.pow_le gk
      rw [T.top_its g x] at p1
      have p2 := (T.put_perm g x).length_eq
      have k5 : k ≤ 4 := T.h4 gk (by rw [T.top_its g x]; simp at p2; omega)
      have dp := T.dep gk
      simp [smt, T.sm]
      omega
theorem t_grown {n k h : Nat} (hn : 40 ≤ n) {t : T} (g : T.gd h t) (s : T.St t) (hl : t.its.length ≤ 12) (x : Int) (hk : k < 2) : callF G n 17 [.int (k : Nat), t.d, .int x] = .ok (due t x) [] := by
  have h4 := T.h4 g (by omega)
  have et : tg k t.d (.int x) = (9, [t.d, .int x]) := by simp [tg, hk]
  unfold due
  by_cases q : x ∈ t.its
  · rw [if_pos q]
    refine c_told_err (c := 2) (by simp) (by omega) (by omega) t.pure rfl fun m hm => ?_
    rw [et]
    have := c_grown (n := m) (by omega) g s hl x
    rwa [if_pos q] at this
  · rw [if_neg q]
    by_cases q2 : t.its.length = 12
    · rw [if_pos q2]
      refine c_told_err (c := 3) (by simp) (by omega) (by omega) t.pure rfl fun m hm => ?_
      rw [et]
      have := c_grown (n := m) (by omega) g s hl x
      rwa [if_neg q, if_pos q2] at this
    · rw [if_neg q2]
      refine c_told_ok (by omega) (by omega) t.pure rfl (T.pure _) fun m hm => ?_
      rw [et]
      have := c_grown (n := m) (by omega) g s hl x
      rwa [if_neg q, if_neg q2] at this
theorem okT_t {t : T} (s : T.St t) (hl : t.its.length ≤ 12) : okT t = true := by
  unfold okT asc
  rw [Bool.and_eq_true, decide_eq_true_eq, decide_eq_true_eq]
  exact ⟨hl, s⟩
theorem t_items {n k h : Nat} (hn : 40 ≤ n) {t : T} (g : T.gd h t) (s : T.St t) (hl : t.its.length ≤ 12) (hk : k = 2 ∨ k = 3) : callF G n 17 [.int (k : Nat), t.d, .non] = .ok (.tup [S_ "told", .tup (t.its.map .int)]) [] := by
  refine c_told_ok (by omega) (by omega) t.pure rfl (by simp) fun m hm => ?_
  have et : tg k t.d .non = (7, [t.d]) := by rcases hk with rfl | rfl <;> rfl
  rw [et]
  exact c_items_of (by omega) g (by omega) (okT_t s hl)
theorem t_is {n k : Nat} (hn : 60 ≤ n) {w : D} {own : Bool} (hw : Wx w own) (hk : k = 4 ∨ k = 5) : callF G n 17 [.int (k : Nat), w, .non] = .ok (.tup [S_ "told", .bl own]) [] := by
  refine c_told_ok (by omega) (by omega) hw.p rfl rfl fun m hm => ?_
  have et : tg k w .non = (5, [w]) := by rcases hk with rfl | rfl <;> rfl
  rw [et]
  exact hw.is m (by omega)
theorem t_isT {n k h : Nat} (hn : 60 ≤ n) {t : T} (g : T.gd h t) (s : T.St t) (hl : t.its.length ≤ 12) (hk : k = 4 ∨ k = 5) : callF G n 17 [.int (k : Nat), t.d, .non] = .ok (.tup [S_ "told", .bl true]) [] := by
  refine c_told_ok (by omega) (by omega) t.pure rfl rfl fun m hm => ?_
  have et : tg k t.d .non = (5, [t.d]) := by rcases hk with rfl | rfl <;> rfl
  rw [et]
  have := c_is (n := m) (by omega) g (by omega)
  rwa [okT_t s hl] at this
theorem t_wr {n k : Nat} (hn : 60 ≤ n) {w : D} (hw : Wx w false) (hk : k < 2) : callF G n 17 [.int (k : Nat), w, .int 1] = .ok (.tup [S_ "tree", w]) [] := by
  refine c_told_err (c := 4) (by simp) (by omega) (by omega) hw.p rfl fun m hm => ?_
  have et : tg k w (.int 1) = (9, [w, .int 1]) := by simp [tg, hk]
  rw [et]
  refine callF_at g_9 (by omega) fun m e => ?_
  have hz := D.fz_of_pure _ hw.p
  have hc : callF G m 6 [w] = .err 4 [w] := callF_at g_6 (by omega) fun m e => by
    simp [runBody_eq, b_check_tree, List.replicate, hw.is m (by omega), hw.p, hz]
  simp [runBody_eq, b_grown, List.replicate, hc, hw.p, hz]
theorem t_bad {n k h : Nat} (hn : 60 ≤ n) {t : T} (g : T.gd h t) (s : T.St t) (hl : t.its.length ≤ 12) {b : D} (pb : b.pure = true) (hb : callF G 20 0 [b] = .ok (.bl false) []) (hk : k < 2) : callF G n 17 [.int (k : Nat), t.d, b] = .ok (.tup [S_ "number", b]) [] := by
  refine c_told_err (c := 1) (by simp) (by omega) (by omega) t.pure pb fun m hm => ?_
  have et : tg k t.d b = (9, [t.d, b]) := by simp [tg, hk]
  rw [et]
  refine callF_at g_9 (by omega) fun m e => ?_
  have hz := D.fz_of_pure _ pb
  have hc := c_check (n := m) (by omega) g (by omega)
  rw [if_pos (okT_t s hl)] at hc
  have h0 := callF_more (m := m) hb (by simp) (by omega)
  simp [runBody_eq, b_grown, List.replicate, hc, h0, pb, hz]
theorem wb_nx {o : Out} {N : Ev → Prop} {Q : Out → Prop} (h : ∃ δ, o = .nx δ ∧ N δ) : WB o N Q := by
  obtain ⟨δ, rfl, h⟩ := h
  exact h
section
variable {n c h : Nat} {box : D} {t : T} {S : List Int}
/-- one number -/
theorem one_num (hn : 70 ≤ n) (g : T.gd h t) (s : T.St t) (hl : t.its.length ≤ 12) (hS : 1 ≤ S.length ∧ S.length ≤ 100) (hc : c + 20 < 100000) (hb : BoxOk c box) {x6 x7 x8 : Option D} :
    ∃ b' y7 y8, run G (callF G n) w__law_right_1 [some box, some t.d, some (.lst true (t.its.map .int)), none, some (.lst true (S.map .int)), none, x6, x7, x8, none, none, none] = .nx [some b', some t.d, some (.lst true (t.its.map .int)), none, some (.lst true (S.map .int)), none, x6, y7, y8, none, none, none] ∧ BoxOk (c + 1) b' := by
  obtain ⟨j, b1, e1, j0, j1, q1⟩ := take27 n c box S.length (by omega) (by omega) (by omega) (by omega) hb
  obtain ⟨i, rfl⟩ : ∃ i : Nat, j = i := ⟨j.toNat, by omega⟩
  have hi : i < S.length := by omega
  have ea : atI (S.map D.int) (i : Int) = some (.int S[i]) := by rw [atI_nat (by simpa using hi)]; simp
  generalize S[i] = x at ea
  have k0 := t_grown (n := n) (k := 0) (by omega) g s hl x (by omega)
  have k1 := t_grown (n := n) (k := 1) (by omega) g s hl x (by omega)
  obtain ⟨d1, d2, d3⟩ := due_ok g hl x
  have lg := c_lgrown (n := n) (by have := T.h4 g (by omega); omega) g s (by omega) x
  have sm := same27 n (.lst false [due t x, due t x]) (by simp [d2]) (by simp; omega)
  have hz := D.fz_of_pure _ d1
  simp at k0 k1
  have r1 : ∀ δ1 δ2 δ4 δ6 δ8, loopC (lcW G (callF G n) (.nm 3) .nil e__law_right_3) (rngD 0 2) [] [δ1, some t.d, δ2, none, δ4, none, δ6, some (.int x), δ8, none, none, none] = .ok [due t x, due t x] [δ1, some t.d, δ2, none, δ4, none, δ6, some (.int x), δ8, none, none, none] := by
    intros
    rw [rng2]
    simp [loopC_cons, lcW_eq, e__law_right_3, k0, k1, d1, hz]
  refine ⟨b1, some (.int x), some (due t x), ?_, q1⟩
  by_cases q : x ∈ t.its
  · have ed : due t x = .tup [S_ "taken", .int x] := by unfold due; rw [if_pos q]
    rw [ed] at sm r1 ⊢
    simp [w__law_right_1, e1, hb.pure, q1.own, ea, q, r1, sm]
  · by_cases q2 : t.its.length = 12
    · have ed : due t x = .tup [S_ "large", .int 13] := by unfold due; rw [if_neg q, if_pos q2]
      rw [ed] at sm r1 ⊢
      simp [w__law_right_1, e1, hb.pure, q1.own, ea, q, q2, r1, sm]
    · have ed : due t x = .tup [S_ "told", (T.top (t.put x)).d] := by unfold due; rw [if_neg q, if_neg q2]
      rw [ed] at sm r1 ⊢
      simp [w__law_right_1, e1, hb.pure, q1.own, ea, q, show (t.its.length : Int) < 12 by omega, lg, r1, sm]
end
end IR.k27
set_option maxHeartbeats 8000000
namespace IR.k27
open PySem PySem.Spec L2
theorem d0_ne {w : D} (h : dEq0 w = some false) : run2 .ne w (.dct true [] []) = some (.bl true) := by simp [h]
section
variable {n c h : Nat} {box : D} {t : T}
/-- one value that is turned -/
theorem one_wrong (hn : 90 ≤ n) (g : T.gd h t) (hl : t.its.length ≤ 12) (hc : c + 60 < 100000) (hb : BoxOk c box) {x2 x4 x6 x7 x8 x9 x10 : Option D} :
    ∃ b' y9 y10, run G (callF G n) w__law_right_2 [some box, some t.d, x2, none, x4, none, x6, x7, x8, x9, x10, none] = .nx [some b', some t.d, x2, none, x4, none, x6, x7, x8, y9, y10, none] ∧ BoxOk (c + 6) b' := by
  obtain ⟨w, own, b1, e1, hw, q1⟩ := c_spoiled (n := n) (by omega) g hl (by omega) hb
  have hz := D.fz_of_pure _ hw.p
  have wp := hw.p
  have l1 := hw.law n (by omega)
  have k4 := t_is (n := n) (k := 4) (by omega) hw (by simp)
  have k5 := t_is (n := n) (k := 5) (by omega) hw (by simp)
  simp at k4 k5
  have sb : D.sm (.bl own) = true := rfl
  have s2 := same27 n (.lst false [.tup [S_ "told", .bl own], .tup [S_ "told", .bl own]]) (by simp [smt, sb]) (by simp; omega)
  have e45 : ∀ m, evs G (callF G n) m (.cons (.lit (.int 4)) (.cons (.lit (.int 5)) .nil)) = evs G (callF G n) m (.cons (.lit (.int 4)) (.cons (.lit (.int 5)) .nil)) := fun _ => rfl
  have r2 : ∀ δ0 δ1 δ2 δ4 δ6 δ7 δ8 δ10, loopC (lcW G (callF G n) (.nm 3) .nil e__law_right_5) [.int 4, .int 5] [] [δ0, δ1, δ2, none, δ4, none, δ6, δ7, δ8, some w, δ10, none] = .ok [.tup [S_ "told", .bl own], .tup [S_ "told", .bl own]] [δ0, δ1, δ2, none, δ4, none, δ6, δ7, δ8, some w, δ10, none] := by
    intros
    simp [loopC_cons, lcW_eq, e__law_right_5, k4, k5, wp, hz]
  refine ⟨b1, some w, some (.bl own), ?_, q1⟩
  rcases hw.d0 with hd | ⟨hd, wsm, wdep⟩
  · subst hd
    simp [w__law_right_2, e1, hb.pure, q1.own, l1, dEq0, r2, s2]
  · cases own with
    | true =>
      simp [w__law_right_2, e1, hb.pure, q1.own, wp, hz, l1, hd, r2, s2]
    | false =>
      have k0 := t_wr (n := n) (k := 0) (by omega) hw (by omega)
      have k1 := t_wr (n := n) (k := 1) (by omega) hw (by omega)
      simp at k0 k1
      have s1 := same27 n (.lst false [.tup [S_ "tree", w], .tup [S_ "tree", w]]) (by simp [smr, wsm]) (by simp; omega)
      have r1 : ∀ δ0 δ1 δ2 δ4 δ6 δ7 δ8 δ10, loopC (lcW G (callF G n) (.nm 3) .nil e__law_right_4) (rngD 0 2) [] [δ0, δ1, δ2, none, δ4, none, δ6, δ7, δ8, some w, δ10, none] = .ok [.tup [S_ "tree", w], .tup [S_ "tree", w]] [δ0, δ1, δ2, none, δ4, none, δ6, δ7, δ8, some w, δ10, none] := by
        intros
        rw [rng2]
        simp [loopC_cons, lcW_eq, e__law_right_4, k0, k1, wp, hz]
      simp [w__law_right_2, e1, hb.pure, q1.own, wp, hz, l1, hd, r2, s2, r1, s1]
theorem four {S : List Int} (hn : 90 ≤ n) (g : T.gd h t) (s : T.St t) (hl : t.its.length ≤ 12) (hS : 1 ≤ S.length ∧ S.length ≤ 100) (hc : c + 60 < 100000) (hb : BoxOk c box) :
    ∃ b' y7 y8, loopF (forW G (callF G n) (.nm 6) w__law_right_1) (rngD 0 4) [some box, some t.d, some (.lst true (t.its.map .int)), none, some (.lst true (S.map .int)), none, none, none, none, none, none, none] = .nx [some b', some t.d, some (.lst true (t.its.map .int)), none, some (.lst true (S.map .int)), none, some (.int 3), y7, y8, none, none, none] ∧ BoxOk (c + 4) b' := by
  rw [show rngD 0 4 = [.int 0, .int 1, .int 2, .int 3] from rfl]
  obtain ⟨b1, y7, y8, e1, q1⟩ := one_num (n := n) (by omega) g s hl hS (by omega) hb (x6 := some (.int 0)) (x7 := none) (x8 := none)
  obtain ⟨b2, z7, z8, e2, q2⟩ := one_num (n := n) (by omega) g s hl hS (by omega) q1 (x6 := some (.int 1)) (x7 := y7) (x8 := y8)
  obtain ⟨b3, u7, u8, e3, q3⟩ := one_num (n := n) (by omega) g s hl hS (by omega) q2 (x6 := some (.int 2)) (x7 := z7) (x8 := z8)
  obtain ⟨b4, v7, v8, e4, q4⟩ := one_num (n := n) (by omega) g s hl hS (by omega) q3 (x6 := some (.int 3)) (x7 := u7) (x8 := u8)
  refine ⟨b4, v7, v8, ?_, q4.more (by omega)⟩
  simp [loopF, e1, e2, e3, e4]
theorem three (hn : 90 ≤ n) (g : T.gd h t) (hl : t.its.length ≤ 12) (hc : c + 100 < 100000) (hb : BoxOk c box) {x2 x4 x7 x8 : Option D} {x6 : Option D} :
    ∃ b' y9 y10, loopF (forW G (callF G n) (.nm 6) w__law_right_2) (rngD 0 3) [some box, some t.d, x2, none, x4, none, x6, x7, x8, none, none, none] = .nx [some b', some t.d, x2, none, x4, none, some (.int 2), x7, x8, y9, y10, none] ∧ BoxOk (c + 18) b' := by
  rw [show rngD 0 3 = [.int 0, .int 1, .int 2] from rfl]
  obtain ⟨b1, y9, y10, e1, q1⟩ := one_wrong (n := n) (by omega) g hl (by omega) hb (x2 := x2) (x4 := x4) (x6 := some (.int 0)) (x7 := x7) (x8 := x8) (x9 := none) (x10 := none)
  obtain ⟨b2, z9, z10, e2, q2⟩ := one_wrong (n := n) (by omega) g hl (by omega) q1 (x2 := x2) (x4 := x4) (x6 := some (.int 1)) (x7 := x7) (x8 := x8) (x9 := y9) (x10 := y10)
  obtain ⟨b3, u9, u10, e3, q3⟩ := one_wrong (n := n) (by omega) g hl (by omega) q2 (x2 := x2) (x4 := x4) (x6 := some (.int 2)) (x7 := x7) (x8 := x8) (x9 := z9) (x10 := z10)
  refine ⟨b3, u9, u10, ?_, q3.more (by omega)⟩
  simp [loopF, e1, e2, e3]
end
def BL : List D := [.non, S_ "1", .bl true, .tup [.int 1], .lst false [.int 1]]
def okB (b : D) : Bool := b.pure && b.sm && decide (b.dep ≤ 5) && (match callF G 20 0 [b] with | .ok (.bl false) [] => true | _ => false)
theorem BL_ok : (BL.all okB) = true := by decide +kernel
theorem okB_ok {b : D} (h : okB b = true) : b.pure = true ∧ b.sm = true ∧ b.dep ≤ 5 ∧ callF G 20 0 [b] = .ok (.bl false) [] := by
  unfold okB at h
  simp only [Bool.and_eq_true, decide_eq_true_eq] at h
  refine ⟨h.1.1.1, h.1.1.2, h.1.2, ?_⟩
  have := h.2
  split at this
  · assumption
  · cases this
theorem c_right {n c h : Nat} (hn : 100 ≤ n) {box : D} {t : T} (g : T.gd h t) (s : T.St t) (hl : t.its.length ≤ 12) (hc : c + 200 < 100000) (hb : BoxOk c box) :
    ∃ b', callF G n 26 [box, t.d] = .ok (.bl true) [some b'] ∧ BoxOk (c + 23) b' := by
  obtain ⟨n, rfl⟩ : ∃ m, n = m + 1 := ⟨n - 1, by omega⟩
  have h4 := T.h4 g (by omega)
  have li := c_lits (n := n) (h := h) (by omega) g (by omega)
  have k2 := t_items (n := n) (k := 2) (by omega) g s hl (by simp)
  have k3 := t_items (n := n) (k := 3) (by omega) g s hl (by simp)
  have k4 := t_isT (n := n) (k := 4) (by omega) g s hl (by simp)
  have k5 := t_isT (n := n) (k := 5) (by omega) g s hl (by simp)
  simp at k2 k3 k4 k5
  have sT : D.sm (.bl true) = true := rfl
  have s1 := same27 n (.lst false [.tup [S_ "told", .tup (t.its.map .int)], .tup [S_ "told", .tup (t.its.map .int)], .tup [S_ "told", .bl true], .tup [S_ "told", .bl true]]) (by simp [smt, sT]; omega) (by simp; omega)
  have r1 : ∀ δ0 δ2 δ4 δ6 δ7 δ8 δ9 δ10 δ11, loopC (lcW G (callF G n) (.nm 3) .nil e__law_right_1) (rngD 2 6) [] [δ0, some t.d, δ2, none, δ4, none, δ6, δ7, δ8, δ9, δ10, δ11] = .ok [.tup [S_ "told", .tup (t.its.map .int)], .tup [S_ "told", .tup (t.its.map .int)], .tup [S_ "told", .bl true], .tup [S_ "told", .bl true]] [δ0, some t.d, δ2, none, δ4, none, δ6, δ7, δ8, δ9, δ10, δ11] := by
    intros
    rw [show rngD 2 6 = [.int 2, .int 3, .int 4, .int 5] from rfl]
    simp [loopC_cons, lcW_eq, e__law_right_1, k2, k3, k4, k5]
  have r2 : ∀ δ0 δ1 δ4 δ6 δ7 δ8 δ9 δ10 δ11, loopCL (lcW G (callF G n) (.nm 5) .nil e__law_right_2) 2 fuel 0 [] [δ0, δ1, some (.lst true (t.its.map .int)), none, δ4, none, δ6, δ7, δ8, δ9, δ10, δ11] = .ok ((t.its.map (· + 1)).map .int) [δ0, δ1, some (.lst true (t.its.map .int)), none, δ4, none, δ6, δ7, δ8, δ9, δ10, δ11] := by
    intros
    rw [loopCL_ints (fun y => y + 1) (fun _ => true) (o := true) (xs := t.its) rfl (fun y hy => by
      simp [lcW_eq, e__law_right_2]) (by omega)]
    rw [List.filter_eq_self.mpr (by simp)]
  have lh := at_hd t
  generalize ey : t.its.headD 0 = y at lh
  have S1 : (t.its ++ t.its.map (· + 1) ++ [y - 1, 10 ^ 20, 0 - 10 ^ 20]).length ≤ 100 := by simp; omega
  obtain ⟨b1, y7, y8, e1, q1⟩ := four (n := n) (S := t.its ++ t.its.map (· + 1) ++ [y - 1, 10 ^ 20, 0 - 10 ^ 20]) (by omega) g s hl ⟨by simp; omega, S1⟩ (by omega) hb
  obtain ⟨b2, y9, y10, e2, q2⟩ := three (n := n) (by omega) g hl (by omega) q1 (x2 := some (.lst true (t.its.map .int))) (x4 := some (.lst true ((t.its ++ t.its.map (· + 1) ++ [y - 1, 10 ^ 20, 0 - 10 ^ 20]).map .int))) (x7 := y7) (x8 := y8) (x6 := some (.int 3))
  obtain ⟨j, b3, e3, j0, j1, q3⟩ := take27 n _ b2 5 (by omega) (by omega) (by omega) (by omega) q2
  obtain ⟨b, eb, hbp, hbs, hbd, hb0⟩ := pick (L := BL) (P := fun b => b.pure = true ∧ b.sm = true ∧ b.dep ≤ 5 ∧ callF G 20 0 [b] = .ok (.bl false) []) (fun d hd => okB_ok (List.all_eq_true.mp BL_ok d hd)) j0 j1
  have hz := D.fz_of_pure _ hbp
  have f0 := t_bad (n := n) (k := 0) (by omega) g s hl hbp hb0 (by omega)
  have f1 := t_bad (n := n) (k := 1) (by omega) g s hl hbp hb0 (by omega)
  simp at f0 f1
  have s3 := same27 n (.lst false [.tup [S_ "number", b], .tup [S_ "number", b]]) (by simp [smn, hbs]) (by simp; omega)
  have r3 : ∀ δ0 δ2 δ4 δ6 δ7 δ8 δ9 δ10, loopC (lcW G (callF G n) (.nm 3) .nil e__law_right_6) (rngD 0 2) [] [δ0, some t.d, δ2, none, δ4, none, δ6, δ7, δ8, δ9, δ10, some b] = .ok [.tup [S_ "number", b], .tup [S_ "number", b]] [δ0, some t.d, δ2, none, δ4, none, δ6, δ7, δ8, δ9, δ10, some b] := by
    intros
    rw [rng2]
    simp [loopC_cons, lcW_eq, e__law_right_6, f0, f1, hbp, hz]
  refine ⟨b3, ?_, q3.more (by omega)⟩
  unfold BL at eb
  rw [callF_succ, g_26]
  simp at e1 e2 r2
  simp [runBody_eq, b__law_right, List.replicate, li, hb.pure, r1, s1, r2, lh, show t.its.length + t.its.length ≤ 1000000 by omega, show t.its.length ≤ 1000000 by omega, show t.its.length + t.its.length + 3 ≤ 1000000 by omega, show t.its.length + (t.its.length + 3) ≤ 1000000 by omega, e1, e2, e3, q2.pure, q3.own, eb, hbp, hz, r3, s3]
end IR.k27
set_option maxHeartbeats 8000000
namespace IR.k27
open PySem PySem.Spec L2
/-- one integer more, unless it is there -/
theorem one_more {n : Nat} (hn : 100 ≤ n) {N : List Int} {t : T} {h : Nat} (g : T.gd h t) (s : T.St t) {at_ : Nat} (ha : at_ < N.length) (hN : N.length ≤ 12) (hl : t.its.length ≤ 12) (h11 : N[at_] ∉ t.its → t.its.length ≤ 11) {x0 x1 x2 x3 x4 x6 x8 x9 x10 x11 x12 : Option D} :
    ∃ (t' : T) (y9 : Option D), run G (callF G n) w_law_2 [x0, x1, x2, x3, x4, some (.lst true (N.map .int)), x6, some t.d, some (.int (at_ : Nat)), x9, x10, x11, x12] = .nx [x0, x1, x2, x3, x4, some (.lst true (N.map .int)), x6, some t'.d, some (.int (at_ : Nat)), y9, x10, x11, x12]
      ∧ (∃ k, T.gd k t') ∧ T.St t' ∧ ((N[at_] ∈ t.its ∧ t' = t) ∨ (N[at_] ∉ t.its ∧ t'.its.length = t.its.length + 1 ∧ ∀ x ∈ t.its, x ∈ t'.its)) := by
  have ea : atI (N.map D.int) (at_ : Int) = some (.int N[at_]) := by rw [atI_nat (by simpa using ha)]; simp
  generalize N[at_] = x at ea h11
  have h4 := T.h4 g (by omega)
  have li := c_lits (n := n) (h := h) (by omega) g (by omega)
  by_cases q : x ∈ t.its
  · refine ⟨t, x9, ?_, ⟨h, g⟩, s, .inl ⟨q, rfl⟩⟩
    simp [w_law_2, ea, li, q]
  · have h11 := h11 q
    have k0 := t_grown (n := n) (k := 0) (by omega) g s hl x (by omega)
    have ed : due t x = .tup [S_ "told", (T.top (t.put x)).d] := by unfold due; rw [if_neg q, if_neg (by omega)]
    rw [ed] at k0
    have lg := c_lgrown (n := n) (by omega) g s (by omega) x
    obtain ⟨k, gk⟩ := T.top_gd g x
    have ei := T.top_its g x
    have pp := T.put_perm g x
    have st : T.St (T.top (t.put x)) := by unfold T.St; rw [ei]; exact T.put_st g s x q
    have el : (T.top (t.put x)).its.length = t.its.length + 1 := by rw [ei, pp.length_eq]; rfl
    have k4 : k ≤ 4 := T.h4 gk (by omega)
    have hi := c_law_is (n := n) (h := k) (by omega) gk (by omega)
    rw [okT_t st (by omega)] at hi
    have em : ∀ z ∈ t.its, z ∈ (T.top (t.put x)).its := fun z hz => by rw [ei]; exact pp.mem_iff.mpr (by simp [hz])
    generalize T.top (t.put x) = u at k0 lg st el hi em gk
    have dp := T.dep gk
    have sm := same27 n (.tup [S_ "told", u.d]) (by simp [smt, u.sm]) (by simp; omega)
    simp at k0
    refine ⟨u, some (.tup [S_ "told", u.d]), ?_, ⟨k, gk⟩, st, .inr ⟨q, el, em⟩⟩
    simp [w_law_2, ea, li, q, k0, lg, sm, hi]
theorem more {n : Nat} (hn : 100 ≤ n) {N : List Int} (hN : N.length ≤ 12) (h1 : 1 ≤ N.length) {x0 x1 x2 x3 x4 x6 x10 x11 x12 : Option D} :
    ∀ (rest : List Nat) (t : T) (x8 x9 : Option D), (∀ i ∈ rest, i < N.length) → (∃ h, T.gd h t) → T.St t → N.head? = some (N.headD 0) → N.headD 0 ∈ t.its → t.its.length + rest.length ≤ N.length + (if 0 ∈ rest then 1 else 0) →
    ∃ (t' : T) (y8 y9 : Option D), loopF (forW G (callF G n) (.nm 8) w_law_2) (rest.map fun i => .int (i : Nat)) [x0, x1, x2, x3, x4, some (.lst true (N.map .int)), x6, some t.d, x8, x9, x10, x11, x12] = .nx [x0, x1, x2, x3, x4, some (.lst true (N.map .int)), x6, some t'.d, y8, y9, x10, x11, x12]
      ∧ (∃ h, T.gd h t') ∧ T.St t' ∧ t'.its.length ≤ 12
  | [], t, x8, x9, _, hg, s, _, _, hl => by
    simp at hl
    exact ⟨t, x8, x9, rfl, hg, s, by omega⟩
  | i :: rest, t, x8, x9, hi, ⟨h, g⟩, s, hh, hm, hl => by
    have i1 : i < N.length := hi i (by simp)
    have hz : N.headD 0 = N[0]'(by omega) := by
      cases N with
      | nil => simp at h1
      | cons a N => rfl
    simp only [List.length_cons] at hl
    have hl12 : t.its.length ≤ 12 := by
      split at hl <;> omega
    have h11 : N[i] ∉ t.its → t.its.length ≤ 11 := fun q => by
      have i0 : i ≠ 0 := fun e => by
        subst e
        rw [hz] at hm
        exact q hm
      by_cases c : 0 ∈ rest
      · have : 1 ≤ rest.length := List.length_pos_of_mem c
        split at hl <;> omega
      · rw [if_neg (by simp [c]; omega)] at hl
        omega
    obtain ⟨t1, y9, e1, g1, s1, hc⟩ := one_more (n := n) hn g s i1 hN hl12 h11 (x0 := x0) (x1 := x1) (x2 := x2) (x3 := x3) (x4 := x4) (x6 := x6) (x8 := x8) (x9 := x9) (x10 := x10) (x11 := x11) (x12 := x12)
    have nx : N.headD 0 ∈ t1.its ∧ t1.its.length + rest.length ≤ N.length + (if 0 ∈ rest then 1 else 0) := by
      rcases hc with ⟨q, rfl⟩ | ⟨q, el, em⟩
      · refine ⟨hm, ?_⟩
        by_cases c : 0 ∈ rest
        · rw [if_pos c]; split at hl <;> omega
        · rw [if_neg c]; split at hl <;> omega
      · refine ⟨em _ hm, ?_⟩
        have i0 : i ≠ 0 := fun e => by
          subst e
          rw [hz] at hm
          exact q hm
        by_cases c : 0 ∈ rest
        · rw [if_pos c]; split at hl <;> omega
        · rw [if_neg (by simp [c]; omega)] at hl
          rw [if_neg c]
          omega
    obtain ⟨t2, z8, z9, e2, g2, s2, l2⟩ := more hn hN h1 rest t1 (some (.int (i : Nat))) y9 (fun j hj => hi j (by simp [hj])) g1 s1 hh nx.1 nx.2
    refine ⟨t2, z8, z9, ?_, g2, s2, l2⟩
    rw [List.map_cons, loopF]
    have e3 : forW G (callF G n) (.nm 8) w_law_2 (.int (i : Nat)) [x0, x1, x2, x3, x4, some (.lst true (N.map .int)), x6, some t.d, x8, x9, x10, x11, x12] = .nx [x0, x1, x2, x3, x4, some (.lst true (N.map .int)), x6, some t1.d, some (.int (i : Nat)), y9, x10, x11, x12] := by
      simp [e1]
    rw [e3]
    exact e2
def NL : List D := [.non, .int 0, .int 41, .int (-1), .bl true, S_ "3", .tup [.int 3]]
def okN (b : D) : Bool := b.pure && b.sm && decide (b.dep ≤ 5) && (match callF G 20 1 [b, .int 1, .int 40] with | .ok (.bl false) [] => true | _ => false)
theorem NL_ok : (NL.all okN) = true := by decide +kernel
theorem okN_ok {b : D} (h : okN b = true) : b.pure = true ∧ b.sm = true ∧ b.dep ≤ 5 ∧ callF G 20 1 [b, .int 1, .int 40] = .ok (.bl false) [] := by
  unfold okN at h
  simp only [Bool.and_eq_true, decide_eq_true_eq] at h
  refine ⟨h.1.1.1, h.1.1.2, h.1.2, ?_⟩
  have := h.2
  split at this
  · assumption
  · cases this
theorem t_cbad {n k : Nat} (hn : 60 ≤ n) {b : D} (pb : b.pure = true) (hb : callF G 20 1 [b, .int 1, .int 40] = .ok (.bl false) []) (hk : k = 6 ∨ k = 7) : callF G n 17 [.int (k : Nat), .non, b] = .ok (.tup [S_ "number", b]) [] := by
  refine c_told_err (c := 1) (by simp) (by omega) (by omega) rfl pb fun m hm => ?_
  have et : tg k .non b = (10, [b]) := by rcases hk with rfl | rfl <;> rfl
  rw [et]
  refine callF_at g_10 (by omega) fun m e => ?_
  have hz := D.fz_of_pure _ pb
  have h0 := callF_more (m := m) hb (by simp) (by omega)
  simp [runBody_eq, b_two_three_count, List.replicate, h0, pb, hz]
theorem t_cnt {n k j : Nat} (hn : 60 ≤ n) (h1 : 1 ≤ j) (h2 : j ≤ 40) {v : Int} (hv : cnt j = some v) (hk : k = 6 ∨ k = 7) : callF G n 17 [.int (k : Nat), .non, .int (j : Nat)] = .ok (.tup [S_ "told", .int v]) [] := by
  refine c_told_ok (by omega) (by omega) rfl rfl rfl fun m hm => ?_
  have et : tg k .non (.int (j : Nat)) = (10, [.int (j : Nat)]) := by rcases hk with rfl | rfl <;> rfl
  rw [et]
  exact c_count (by omega) h1 h2 hv
end IR.k27
set_option maxHeartbeats 8000000
namespace IR.k27
open PySem PySem.Spec L2
def nm (step many : Nat) : List Int := (List.range many).map fun (i : Nat) => (step : Int) * (i : Int) - 9
theorem nm_len (step many : Nat) : (nm step many).length = many := by simp [nm]
theorem nm_st {step many : Nat} (h : 1 ≤ step) : (nm step many).Pairwise (· < ·) := by
  unfold nm
  rw [List.pairwise_map]
  refine List.Pairwise.imp (fun {a b} hab => ?_) List.pairwise_lt_range
  have h1 : (step : Int) * a < step * b := Int.mul_lt_mul_of_pos_left (by omega) (by omega)
  omega
theorem half {j : Int} (j0 : 0 ≤ j) (j1 : j < 3) : ∃ M : Nat, (M = 8 ∨ M = 12) ∧ atI [D.int 8, D.int 12] (j / 2) = some (.int (M : Nat)) := by
  have : j / 2 = 0 ∨ j / 2 = 1 := by omega
  rcases this with h | h <;> rw [h]
  · exact ⟨8, by omega, by simp⟩
  · exact ⟨12, by omega, by simp⟩
theorem e1_at {call : Calls} {S i : Int} (h0 : 0 ≤ i) (h1 : i < 1000) (δ0 δ1 δ2 δ3 δ5 δ7 δ8 δ9 δ10 δ11 : Option D) :
    lcW G call (.nm 6) .nil e_law_1 (.int i) [δ0, δ1, δ2, δ3, some (.int S), δ5, none, δ7, δ8, δ9, δ10, δ11, none] = .ok (some (.int (S * i - 9))) [δ0, δ1, δ2, δ3, some (.int S), δ5, none, δ7, δ8, δ9, δ10, δ11, none] := by
  have b1 : (-18446744073709551616 < i ∧ i < 18446744073709551616) := by omega
  simp [lcW_eq, e_law_1, b1]
theorem names_row {call : Calls} {s a : Nat} (ha : a ≤ 12) (δ0 δ1 δ2 δ5 δ7 δ8 δ9 δ10 δ11 : Option D) :
    loopC (lcW G call (.nm 6) .nil e_law_1) (rngD 0 (a : Int)) [] [δ0, δ1, δ2, some (.int (a : Int)), some (.int (s : Int)), δ5, none, δ7, δ8, δ9, δ10, δ11, none] = .ok ((nm s a).map .int) [δ0, δ1, δ2, some (.int (a : Int)), some (.int (s : Int)), δ5, none, δ7, δ8, δ9, δ10, δ11, none] := by
  unfold nm
  exact rng_map (N := a) _ (fun i hi => e1_at (by omega) (by omega) _ _ _ _ _ _ _ _ _ _) (by omega)
/-- one cell -/
theorem one_k {n : Nat} (hn : 110 ≤ n) {ns : List Int} {k : Nat} {cell : Int} (ec : callF G n 12 [.scr ns, .int (k : Nat)] = .ok (.int cell) []) {x2 x3 x4 x5 x7 x8 x9 x10 x11 : Option D} :
    ∃ y2 y3 y4 y5 y7 y8 y9 y10 y11, run G (callF G n) w_law_1 [some (.scr ns), some (.int (k : Nat)), x2, x3, x4, x5, none, x7, x8, x9, x10, x11, none] = .nx [some (.scr ns), some (.int (k : Nat)), y2, y3, y4, y5, none, y7, y8, y9, y10, y11, none] := by
  obtain ⟨b0, eb, q0⟩ := box27 (n := n) (by omega) (i := cell)
  obtain ⟨j, b1, e1, j0, j1, q1⟩ := take27 n 0 b0 3 (by omega) (by omega) (by omega) (by omega) q0
  obtain ⟨M, hM, eM⟩ := half j0 j1
  obtain ⟨a', b2, e2, a0, a1, q2⟩ := take27 n _ b1 (M : Int) (by omega) (by omega) (by omega) (by omega) q1
  obtain ⟨s', b3, e3, s0, s1, q3⟩ := take27 n _ b2 3 (by omega) (by omega) (by omega) (by omega) q2
  obtain ⟨a, rfl⟩ : ∃ i : Nat, a' = i := ⟨a'.toNat, by omega⟩
  obtain ⟨s, rfl⟩ : ∃ i : Nat, s' = i := ⟨s'.toNat, by omega⟩
  have hm12 : 1 + a ≤ 12 := by omega
  have nl := nm_len (1 + s) (1 + a)
  have nst := nm_st (step := 1 + s) (many := 1 + a) (by omega)
  have rN : ∀ δ0 δ1 δ2 δ5 δ7 δ8 δ9 δ10 δ11, loopC (lcW G (callF G n) (.nm 6) .nil e_law_1) (rngD 0 (1 + (a : Int))) [] [δ0, δ1, δ2, some (.int (1 + (a : Int))), some (.int (1 + (s : Int))), δ5, none, δ7, δ8, δ9, δ10, δ11, none] = .ok ((nm (1 + s) (1 + a)).map .int) [δ0, δ1, δ2, some (.int (1 + (a : Int))), some (.int (1 + (s : Int))), δ5, none, δ7, δ8, δ9, δ10, δ11, none] := by
    intros
    rw [show (1 + (a : Int)) = ((1 + a : Nat) : Int) by omega, show (1 + (s : Int)) = ((1 + s : Nat) : Int) by omega]
    exact names_row hm12 _ _ _ _ _ _ _ _ _
  have eh : atI ((nm (1 + s) (1 + a)).map D.int) 0 = some (.int ((nm (1 + s) (1 + a)).headD 0)) := by
    cases e : nm (1 + s) (1 + a) with
    | nil => rw [e] at nl; simp at nl; omega
    | cons x xs => simp
  generalize nm (1 + s) (1 + a) = N at nl nst rN eh
  obtain ⟨t, h, b4, e4, g, et, q4⟩ := c_drawn (n := n) (xs := N) (by omega) (by omega) (by omega) (by omega) q3
  have st : T.St t := by unfold T.St; rw [et]; exact nst
  obtain ⟨b5, e5, q5⟩ := c_right (n := n) (by omega) g st (by rw [et]; omega) (by omega) q4
  obtain ⟨is, b6, e6, p6, q6⟩ := mix27 n _ b5 (1 + a) (by omega) (by omega) (by omega) q5
  have ei : is = (is.map Int.toNat).map Int.ofNat := by
    rw [List.map_map]
    refine (List.map_id' is).symm.trans (List.map_congr_left fun x hx => ?_)
    obtain ⟨i, _, rfl⟩ := List.mem_map.mp (p6.mem_iff.mp hx)
    rfl
  have hi : ∀ i ∈ is.map Int.toNat, i < N.length := fun i hi => by
    obtain ⟨x, hx, rfl⟩ := List.mem_map.mp hi
    obtain ⟨j, hj, rfl⟩ := List.mem_map.mp (p6.mem_iff.mp hx)
    rw [nl]
    simpa using hj
  have li : (is.map Int.toNat).length = 1 + a := by rw [List.length_map, p6.length_eq]; simp
  have i0 : 0 ∈ is.map Int.toNat := by
    refine List.mem_map.mpr ⟨0, p6.mem_iff.mpr (List.mem_map.mpr ⟨0, by simp; omega, rfl⟩), rfl⟩
  generalize is.map Int.toNat = rest at ei hi li i0
  subst ei
  have eI : (rest.map Int.ofNat).map D.int = rest.map fun i => .int (i : Nat) := by rw [List.map_map]; rfl
  rw [eI] at e6
  obtain ⟨t2, y8, y9, e7, ⟨h2, g2⟩, st2, l2⟩ := more (n := n) (by omega) (N := N) (by omega) (by omega) (x0 := some (.scr ns)) (x1 := some (.int (k : Nat))) (x2 := some b6) (x3 := some (.int (1 + (a : Int)))) (x4 := some (.int (1 + (s : Int)))) (x6 := none) (x10 := x10) (x11 := x11) (x12 := none) rest (.lf (N.headD 0)) x8 x9 hi ⟨0, by simp⟩ (by unfold T.St; simp [T.its]) (by cases N <;> simp at nl ⊢; omega) (by simp [T.its]) (by rw [if_pos i0]; simp [T.its]; omega)
  obtain ⟨b7, e8, q7⟩ := c_right (n := n) (by omega) g2 st2 l2 (by omega) q6
  obtain ⟨c', b8, e9, c0, c1, q8⟩ := take27 n _ b7 40 (by omega) (by omega) (by omega) (by omega) q7
  obtain ⟨c, rfl⟩ : ∃ i : Nat, c' = i := ⟨c'.toNat, by omega⟩
  obtain ⟨d, b9, e10, d0, d1, q9⟩ := take27 n _ b8 7 (by omega) (by omega) (by omega) (by omega) q8
  obtain ⟨b, ebd, hbp, hbs, hbd, hb0⟩ := pick (L := NL) (P := fun b => b.pure = true ∧ b.sm = true ∧ b.dep ≤ 5 ∧ callF G 20 1 [b, .int 1, .int 40] = .ok (.bl false) []) (fun d hd => okN_ok (List.all_eq_true.mp NL_ok d hd)) d0 d1
  have hz := D.fz_of_pure _ hbp
  obtain ⟨v, hv1, hv2⟩ := eq_all (k := 1 + c) (by omega) (by omega)
  have u6 := t_cnt (n := n) (k := 6) (j := 1 + c) (by omega) (by omega) (by omega) hv1 (by simp)
  have u7 := t_cnt (n := n) (k := 7) (j := 1 + c) (by omega) (by omega) (by omega) hv1 (by simp)
  have w6 := t_cbad (n := n) (k := 6) (by omega) hbp hb0 (by simp)
  have w7 := t_cbad (n := n) (k := 7) (by omega) hbp hb0 (by simp)
  have lc := c_law_count (n := n) (by omega) (k := 1 + c) (by omega) hv2
  have e1c : ((1 + c : Nat) : Int) = 1 + (c : Int) := by omega
  rw [e1c] at u6 u7 lc
  simp at u6 u7 w6 w7
  have r6 : ∀ δ0 δ1 δ2 δ3 δ4 δ5 δ6 δ7 δ8 δ9 δ11, loopC (lcW G (callF G n) (.nm 12) .nil e_law_2) [.int 6, .int 7] [] [δ0, δ1, δ2, δ3, δ4, δ5, δ6, δ7, δ8, δ9, some (.int (1 + (c : Int))), δ11, none] = .ok [.tup [S_ "told", .int v], .tup [S_ "told", .int v]] [δ0, δ1, δ2, δ3, δ4, δ5, δ6, δ7, δ8, δ9, some (.int (1 + (c : Int))), δ11, none] := by
    intros
    simp [loopC_cons, lcW_eq, e_law_2, u6, u7]
  have r7 : ∀ δ0 δ1 δ2 δ3 δ4 δ5 δ6 δ7 δ8 δ9 δ10, loopC (lcW G (callF G n) (.nm 12) .nil e_law_3) [.int 6, .int 7] [] [δ0, δ1, δ2, δ3, δ4, δ5, δ6, δ7, δ8, δ9, δ10, some b, none] = .ok [.tup [S_ "number", b], .tup [S_ "number", b]] [δ0, δ1, δ2, δ3, δ4, δ5, δ6, δ7, δ8, δ9, δ10, some b, none] := by
    intros
    simp [loopC_cons, lcW_eq, e_law_3, w6, w7, hbp, hz]
  have sm := same27 n (.lst false [.tup [S_ "told", .int v], .tup [S_ "told", .int v], .tup [S_ "number", b], .tup [S_ "number", b]]) (by simp [smt, smn, hbs, int_sm]) (by simp; omega)
  have i1 : ((1 + a : Nat) : Int) = 1 + (a : Int) := by omega
  rw [i1] at e6
  simp at e7
  have fzR : D.fzs (rest.map fun i => .int (i : Nat)) = rest.map fun i => .int (i : Nat) := D.fzs_of_pure _ (D.pures_all _ (by intro x hx; obtain ⟨i, _, rfl⟩ := List.mem_map.mp hx; rfl))
  unfold NL at ebd
  have m1 : (1 + (a : Int)) ≤ 100000 := by omega
  have m2 : (-100000 : Int) ≤ 1 + (a : Int) := by omega
  refine ⟨some b9, some (.int (1 + (a : Int))), some (.int (1 + (s : Int))), some (.lst true (N.map .int)), some t2.d, y8, some (.lst true [.tup [S_ "told", .int v], .tup [S_ "told", .int v], .tup [S_ "number", b], .tup [S_ "number", b]]), some (.int (1 + (c : Int))), some b, ?_⟩
  simp [w_law_1, ec, eb, e1, q0.pure, q1.own, q1.pure, q2.own, q2.pure, q3.own, eM, e2, e3, m1, m2, rN, q3.pure, q4.own, e4, q4.pure, q5.own, e5, eh, e6, q5.pure, q6.own, fzR, e7, q6.pure, q7.own, e8, q7.pure, q8.own, e9, q8.pure, q9.own, e10, ebd, hbp, hz, r6, r7, lc, sm]
end IR.k27
set_option maxHeartbeats 8000000
namespace IR.k27
open PySem PySem.Spec L2
theorem hlaw {ns : List Int} (hl : ns.length ≤ 63) : callF G 200 27 [.scr ns] = .ok (.bl true) [] := by
  rw [callF_succ, g_27]
  show runBody G (callF G 199) f_law [.scr ns] = _
  have key := loopF_rule (f := forW G (callF G 199) (.nm 1) w_law_1)
    (fun s : Option D × Option D × Option D × Option D × Option D × Option D × Option D × Option D × Option D × Option D => [some (.scr ns), s.1, s.2.1, s.2.2.1, s.2.2.2.1, s.2.2.2.2.1, none, s.2.2.2.2.2.1, s.2.2.2.2.2.2.1, s.2.2.2.2.2.2.2.1, s.2.2.2.2.2.2.2.2.1, s.2.2.2.2.2.2.2.2.2, none])
    (fun rest s => ∀ x ∈ rest, ∃ k : Nat, x = .int k ∧ k < 1000)
    (fun o => ∃ x1 x2 x3 x4 x5 x7 x8 x9 x10 x11, o = .nx [some (.scr ns), x1, x2, x3, x4, x5, none, x7, x8, x9, x10, x11, none])
    ?_ ?_ (rngD 0 (max 2 (min 6 ns.length))) (none, none, none, none, none, none, none, none, none, none) (fun x hx => by
      obtain ⟨k, rfl, k0, k1⟩ := rngD_mem hx
      exact ⟨k.toNat, by congr 1; omega, by omega⟩)
  · obtain ⟨x1, x2, x3, x4, x5, x7, x8, x9, x10, x11, e⟩ := key
    have hm : (if (if (ns.length : Int) < 6 then (ns.length : Int) else 6) > 2 then (if (ns.length : Int) < 6 then (ns.length : Int) else 6) else 2) = max 2 (min 6 (ns.length : Int)) := by
      split <;> split <;> omega
    have hm1 : max 2 (min 6 (ns.length : Int)) ≤ 100000 := by omega
    have hm2 : (-100000 : Int) ≤ max 2 (min 6 (ns.length : Int)) := by omega
    simp only [gt_iff_lt] at hm
    obtain ⟨c0, ec0⟩ := cell27 (n := 199) (by omega) (ns := ns) (k := 0) (by omega)
    obtain ⟨b0, eb0, q0⟩ := box27 (n := 199) (by omega) (i := c0)
    obtain ⟨b1, f0, r0⟩ := c_right (n := 199) (by omega) (t := .lf 0) (h := 0) (by simp) (by unfold T.St; simp [T.its]) (by simp [T.its]) (by omega) q0
    simp at ec0 f0
    simp [runBody_eq, b_law, List.replicate, hm, hm1, hm2, e, ec0, eb0, f0, q0.pure, r0.own]
  · rintro x rest ⟨o1, o2, o3, o4, o5, o7, o8, o9, o10, o11⟩ hx
    obtain ⟨k, rfl, hk⟩ := hx x (by simp)
    obtain ⟨cell, ec⟩ := cell27 (n := 199) (by omega) (ns := ns) hk
    obtain ⟨y2, y3, y4, y5, y7, y8, y9, y10, y11, e1⟩ := one_k (n := 199) (by omega) ec (x2 := o2) (x3 := o3) (x4 := o4) (x5 := o5) (x7 := o7) (x8 := o8) (x9 := o9) (x10 := o10) (x11 := o11)
    refine wb_nx ⟨[some (.scr ns), some (.int (k : Nat)), y2, y3, y4, y5, none, y7, y8, y9, y10, y11, none], ?_, (some (.int (k : Nat)), y2, y3, y4, y5, y7, y8, y9, y10, y11), rfl, fun x hx' => hx x (List.mem_cons_of_mem _ hx')⟩
    simp [e1]
  · rintro s _
    exact ⟨_, _, _, _, _, _, _, _, _, _, rfl⟩
end IR.k27
set_option maxHeartbeats 0
namespace IR.k27
open PySem PySem.Spec L2
def top (i : Nat) : Stmt := PySem.Challenge.pw_treebench_k27_two_three_trees.main.body.getD i (.Pass ⟨0, 0, 0, 0⟩)
def inCls (j : Nat) : Stmt → Stmt
  | .ClassDef _ _ _ b _ _ _ _ _ _ _ => b.getD j (.Pass ⟨0, 0, 0, 0⟩)
  | s => s
def es : List DefE := [stE (Str.ofString "is_integer") (top 7), stE (Str.ofString "is_between") (top 8), stE (Str.ofString "is_rising") (top 9), stE (Str.ofString "depth_of") (top 15), stE (Str.ofString "items_in") (top 16), stE (Str.ofString "is_two_three") (top 17), stE (Str.ofString "check_tree") (top 18), stE (Str.ofString "items_of") (top 19), stE (Str.ofString "grown_parts") (top 20), stE (Str.ofString "grown") (top 21), stE (Str.ofString "two_three_count") (top 22), stE (Str.ofString "next_level") (top 23), stE (Str.ofString "_law_cell") (top 25), stE (Str.ofString "_law_box") (top 26), stE (Str.ofString "_law_take") (top 27), stE (Str.ofString "_law_same") (top 28), stE (Str.ofString "_law_mixed") (top 29), stE (Str.ofString "_law_told") (top 30), stE (Str.ofString "_law_items") (top 31), stE (Str.ofString "_law_put") (top 32), stE (Str.ofString "_law_grown") (top 33), stE (Str.ofString "_law_height") (top 34), stE (Str.ofString "_law_is") (top 35), stE (Str.ofString "_law_drawn") (top 36), stE (Str.ofString "_law_count") (top 37), stE (Str.ofString "_law_spoiled") (top 38), stE (Str.ofString "_law_right") (top 39), stE (Str.ofString "law") (top 40)]
def is : List (Option DefE) := [none, some (stE (Str.ofString "InvalidNumber.__init__") (inCls 0 (top 2))), some (stE (Str.ofString "Taken.__init__") (inCls 0 (top 4))), some (stE (Str.ofString "TooLarge.__init__") (inCls 0 (top 5))), some (stE (Str.ofString "InvalidTree.__init__") (inCls 0 (top 11)))]
/- law index 27, law statement 40, names 28 -/
/- topnames: TreeError InvalidNumber Taken TooLarge InvalidTree MOST_ITEMS MOST_COUNTED is_integer is_between is_rising depth_of items_in is_two_three check_tree items_of grown_parts grown two_three_count next_level _law_cell _law_box _law_take _law_same _law_mixed _law_told _law_items _law_put _law_grown _law_height _law_is _law_drawn _law_count _law_spoiled _law_right law -/
/- params: [['value'], ['value', 'least', 'most'], ['items'], ['tree'], ['tree', 'number'], ['number'], ['row', 'most'], ['script', 'k'], ['great'], ['box', 'many'], ['told', 'due'], ['call', 'tree', 'number'], ['box', 'names'], ['box', 'tree'], ['script'], ['self', 'given'], ['self', 'name'], ['self', 'count']] -/
end IR.k27
set_option maxHeartbeats 0
namespace IR.k27
open PySem PySem.Spec PyProof.Rows L2
abbrev R : PySem.W.OpenRow := PySem.W.OpenLaw.row PySem.Challenge.rw_treebench_k27_two_three_trees
abbrev hk : PySem.W.Hook := hookX 6 (topB G) (dsOf G es is)
def ob (s : PySem.W.SharedT) : AlX := obsX 6 (topB G) (dsOf G es is) (HandSHeadRun.getT s)
theorem ob_eq (s : PySem.W.SharedT) : ob s = hk.obs s.abs := obsX_eq (HandSHeadRun.getT_eq s)
def loose0 : List Str := ["__name__", "TreeError", "InvalidNumber", "Taken", "TooLarge", "InvalidTree", "MOST_ITEMS", "MOST_COUNTED", "is_integer", "is_between", "is_rising", "depth_of", "items_in", "is_two_three", "check_tree", "items_of", "grown_parts", "grown", "two_three_count", "next_level", "_law_cell", "_law_box", "_law_take", "_law_same"]
def loose1 : List Str := ["_law_mixed", "_law_told", "_law_items", "_law_put", "_law_grown", "_law_height", "_law_is", "_law_drawn", "_law_count", "_law_spoiled", "_law_right"]
def loose : List Str := loose0 ++ loose1
theorem run (w : World) : HandSHeadRun.RunEq R (PySem.W.view R.prog [40]) hk ob 20000 loose w := by
  intro os
  kernel_rfl
theorem ck : allB G es is = true := by decide +kernel
theorem bn0 : BindN [Str.ofString "value"] := fun as nm qual body scope kV doc pm an cdv ct us e l => by
  match as, us, e, l with
  | [⟨x0, _, _⟩], [u0], e, _ => cases e; rfl
theorem bn1 : BindN [Str.ofString "value", Str.ofString "least", Str.ofString "most"] := fun as nm qual body scope kV doc pm an cdv ct us e l => by
  match as, us, e, l with
  | [⟨x0, _, _⟩, ⟨x1, _, _⟩, ⟨x2, _, _⟩], [u0, u1, u2], e, _ => cases e; rfl
theorem bn2 : BindN [Str.ofString "items"] := fun as nm qual body scope kV doc pm an cdv ct us e l => by
  match as, us, e, l with
  | [⟨x0, _, _⟩], [u0], e, _ => cases e; rfl
theorem bn3 : BindN [Str.ofString "tree"] := fun as nm qual body scope kV doc pm an cdv ct us e l => by
  match as, us, e, l with
  | [⟨x0, _, _⟩], [u0], e, _ => cases e; rfl
theorem bn4 : BindN [Str.ofString "tree", Str.ofString "number"] := fun as nm qual body scope kV doc pm an cdv ct us e l => by
  match as, us, e, l with
  | [⟨x0, _, _⟩, ⟨x1, _, _⟩], [u0, u1], e, _ => cases e; rfl
theorem bn5 : BindN [Str.ofString "number"] := fun as nm qual body scope kV doc pm an cdv ct us e l => by
  match as, us, e, l with
  | [⟨x0, _, _⟩], [u0], e, _ => cases e; rfl
theorem bn6 : BindN [Str.ofString "row", Str.ofString "most"] := fun as nm qual body scope kV doc pm an cdv ct us e l => by
  match as, us, e, l with
  | [⟨x0, _, _⟩, ⟨x1, _, _⟩], [u0, u1], e, _ => cases e; rfl
theorem bn7 : BindN [Str.ofString "script", Str.ofString "k"] := fun as nm qual body scope kV doc pm an cdv ct us e l => by
  match as, us, e, l with
  | [⟨x0, _, _⟩, ⟨x1, _, _⟩], [u0, u1], e, _ => cases e; rfl
theorem bn8 : BindN [Str.ofString "great"] := fun as nm qual body scope kV doc pm an cdv ct us e l => by
  match as, us, e, l with
  | [⟨x0, _, _⟩], [u0], e, _ => cases e; rfl
theorem bn9 : BindN [Str.ofString "box", Str.ofString "many"] := fun as nm qual body scope kV doc pm an cdv ct us e l => by
  match as, us, e, l with
  | [⟨x0, _, _⟩, ⟨x1, _, _⟩], [u0, u1], e, _ => cases e; rfl
theorem bn10 : BindN [Str.ofString "told", Str.ofString "due"] := fun as nm qual body scope kV doc pm an cdv ct us e l => by
  match as, us, e, l with
  | [⟨x0, _, _⟩, ⟨x1, _, _⟩], [u0, u1], e, _ => cases e; rfl
theorem bn11 : BindN [Str.ofString "call", Str.ofString "tree", Str.ofString "number"] := fun as nm qual body scope kV doc pm an cdv ct us e l => by
  match as, us, e, l with
  | [⟨x0, _, _⟩, ⟨x1, _, _⟩, ⟨x2, _, _⟩], [u0, u1, u2], e, _ => cases e; rfl
theorem bn12 : BindN [Str.ofString "box", Str.ofString "names"] := fun as nm qual body scope kV doc pm an cdv ct us e l => by
  match as, us, e, l with
  | [⟨x0, _, _⟩, ⟨x1, _, _⟩], [u0, u1], e, _ => cases e; rfl
theorem bn13 : BindN [Str.ofString "box", Str.ofString "tree"] := fun as nm qual body scope kV doc pm an cdv ct us e l => by
  match as, us, e, l with
  | [⟨x0, _, _⟩, ⟨x1, _, _⟩], [u0, u1], e, _ => cases e; rfl
theorem bn14 : BindN [Str.ofString "script"] := fun as nm qual body scope kV doc pm an cdv ct us e l => by
  match as, us, e, l with
  | [⟨x0, _, _⟩], [u0], e, _ => cases e; rfl
theorem bn15 : BindN [Str.ofString "self", Str.ofString "given"] := fun as nm qual body scope kV doc pm an cdv ct us e l => by
  match as, us, e, l with
  | [⟨x0, _, _⟩, ⟨x1, _, _⟩], [u0, u1], e, _ => cases e; rfl
theorem bn16 : BindN [Str.ofString "self", Str.ofString "name"] := fun as nm qual body scope kV doc pm an cdv ct us e l => by
  match as, us, e, l with
  | [⟨x0, _, _⟩, ⟨x1, _, _⟩], [u0, u1], e, _ => cases e; rfl
theorem bn17 : BindN [Str.ofString "self", Str.ofString "count"] := fun as nm qual body scope kV doc pm an cdv ct us e l => by
  match as, us, e, l with
  | [⟨x0, _, _⟩, ⟨x1, _, _⟩], [u0, u1], e, _ => cases e; rfl
theorem bk0 : BindK [Str.ofString "tree", Str.ofString "number"] 0 [Str.ofString "number", Str.ofString "tree"] [1, 0] := fun as nm qual body scope kV doc pm an cdv ct us ws e l l2 => by
  match as, us, ws, e, l, l2 with
  | [⟨x0, _, _⟩, ⟨x1, _, _⟩], [], [w0, w1], e, _, _ => cases e; rfl
theorem bk1 : BindK [Str.ofString "tree"] 0 [Str.ofString "tree"] [0] := fun as nm qual body scope kV doc pm an cdv ct us ws e l l2 => by
  match as, us, ws, e, l, l2 with
  | [⟨x0, _, _⟩], [], [w0], e, _, _ => cases e; rfl
theorem bk2 : BindK [Str.ofString "value"] 0 [Str.ofString "value"] [0] := fun as nm qual body scope kV doc pm an cdv ct us ws e l l2 => by
  match as, us, ws, e, l, l2 with
  | [⟨x0, _, _⟩], [], [w0], e, _, _ => cases e; rfl
theorem bk3 : BindK [Str.ofString "number"] 0 [Str.ofString "number"] [0] := fun as nm qual body scope kV doc pm an cdv ct us ws e l l2 => by
  match as, us, ws, e, l, l2 with
  | [⟨x0, _, _⟩], [], [w0], e, _, _ => cases e; rfl
theorem ba : BindAll G where
  n := fun fn h => by
    simp only [G, List.mem_cons, List.not_mem_nil, or_false] at h
    rcases h with rfl | rfl | rfl | rfl | rfl | rfl | rfl | rfl | rfl | rfl | rfl | rfl | rfl | rfl | rfl | rfl | rfl | rfl | rfl | rfl | rfl | rfl | rfl | rfl | rfl | rfl | rfl | rfl
    · exact bn0
    · exact bn1
    · exact bn2
    · exact bn0
    · exact bn3
    · exact bn0
    · exact bn3
    · exact bn3
    · exact bn4
    · exact bn4
    · exact bn5
    · exact bn6
    · exact bn7
    · exact bn8
    · exact bn9
    · exact bn10
    · exact bn9
    · exact bn11
    · exact bn3
    · exact bn4
    · exact bn4
    · exact bn0
    · exact bn0
    · exact bn12
    · exact bn5
    · exact bn13
    · exact bn13
    · exact bn14
  x := fun x h ne => by
    simp only [G, List.mem_cons, List.not_mem_nil, or_false] at h
    rcases h with rfl | rfl | rfl | rfl | rfl
    · exact absurd rfl ne
    · exact bn15
    · exact bn16
    · exact bn17
    · exact bn15
  k := fun k n ns ks h fn hf => by
    simp only [G, List.mem_cons, List.not_mem_nil, or_false, Prod.mk.injEq] at h
    rcases h with ⟨rfl, rfl, rfl, rfl⟩ | ⟨rfl, rfl, rfl, rfl⟩ | ⟨rfl, rfl, rfl, rfl⟩ | ⟨rfl, rfl, rfl, rfl⟩
    · cases hf; exact bk0
    · cases hf; exact bk1
    · cases hf; exact bk2
    · cases hf; exact bk3
theorem facts {P : Program} {w : World} {K : PySem.W.Frag} {h : Heap} {mg : Str → Option Value} {f : Addr} (X : K.In h) (Gm : h.Ns mainGlobals mg) (hfa : mg ("law" : Str) = some (.ref f)) (c : SaysX (topB G) (dsOf G es is) K)
    (hlaw : ∀ ns : List Int, ns.length ≤ 63 → callF G 200 27 [.scr ns] = .ok (.bl true) []) :
    ∃ fd, (∀ (s : Shared) (us : List Value), us.length = f_law.ps.length → BindsTo s fd { pos := us } (f_law.ps.zip us)) ∧
      ∀ base, FnOk P w K mg base CX0 (200 + 2) f fd f_law.ps (fun vs H Q _ => ∃ (a : Addr) (ns : List Int), vs = [.ref a] ∧ ns.length ≤ 63 ∧ SqL K H a (ns.map V.int) ∧ ∀ H', Q (.bl true) H') :=
  law_all (fun base => top_ok (P := P) (w := w) (base := base) X Gm c ck ba) h (n := 199) (k := 27) (m := 63) (fn := f_law) rfl rfl rfl hlaw hfa
end IR.k27
open PySem PySem.W PySem.Calls PyProof.Rows
theorem IR.k27.holds_of (hlaw : ∀ ns : List Int, ns.length ≤ 63 → IR.callF IR.k27.G 200 27 [.scr ns] = .ok (.bl true) []) : PySem.Challenge.rw_treebench_k27_two_three_trees.Holds := by
  w_on; o_law
  refine HandSHeadRun.head_any (r := OpenLaw.row PySem.Challenge.rw_treebench_k27_two_three_trees) (q := view (OpenLaw.row PySem.Challenge.rw_treebench_k27_two_three_trees).prog [40]) (H := IR.k27.hk) (ob := IR.k27.ob) (M := 20000) (loose := IR.k27.loose) (d := HandSHeadRun.topDef (OpenLaw.row PySem.Challenge.rw_treebench_k27_two_three_trees).prog 40) (kwd := []) IR.k27.ob_eq
    (by kernel_rfl) (fun s => by kernel_rfl) IR.k27.run (by kernel_rfl) (by kernel_rfl) (by kernel_rfl) (by rfl) (by first | assumption | decide +kernel) (by decide +kernel) ⟨rfl, rfl, rfl, rfl, rfl, by decide +kernel⟩ ?hw ?hc
  case hw => w_witness2
  case hc =>
    refine L2.walk_ofE (l := PySem.Challenge.rw_treebench_k27_two_three_trees) (n := 63) (k := 200 + 2) (x := "script") (CX := L2.CX0) rfl (by decide) (by kernel_rfl) ⟨rfl, by decide, by decide⟩ ?F (fun _ _ _ _ z => z)
    case F =>
      intro w mg fa h Y Gm hmg0
      obtain ⟨K, KX, c⟩ := Y
      have hmg : mg ("law" : PySem.Str) = some (.ref fa) := by
        have e : (HandSHeadRun.topDef (OpenLaw.row PySem.Challenge.rw_treebench_k27_two_three_trees).prog 40).name = ("law" : PySem.Str) := by kernel_rfl
        rw [← e]
        exact hmg0
      obtain ⟨fd, hb, hF⟩ := IR.k27.facts (P := (PySem.Challenge.rw_treebench_k27_two_three_trees).prog) (w := w) KX Gm hmg c hlaw
      exact ⟨K, fd, _, KX, fun s u => hb s [u] rfl, fun H a ns hl _ hS => ⟨a, ns, rfl, hl, hS, fun _ => rfl⟩, fun base _ _ => hF base⟩

theorem PySem.Challenge.cw_treebench_k27_two_three_trees_holds : PySem.Challenge.rw_treebench_k27_two_three_trees.Holds := by
  exact IR.k27.holds_of fun ns hl => IR.k27.hlaw hl
