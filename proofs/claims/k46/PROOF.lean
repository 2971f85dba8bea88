import PyProof.Rows.All
import Wide.All
import OpenK.AllK
import Wide.FinOn
import HandS.ForMost
import HandS.ForExc
import HandS.TryMany
import HandS.ExcInit
import HandS.IsInst
import HandS.Wide
import HandS.Defaults
import PyProof.ReprRoads
import HandS.TupAny
import HandS.TupMul
import PyProof.StrOps2
import HandS.Flow
import HandS.RaiseMore
import HandS.Dict
import HandS.TupLen
import HandS.WordsDict
import HandS.Conv
import HandS.ExcField
import HandS.Head0
import HandS.Head1
import HandS.Head2
import HandS.HeadEnd
import HandS.HeadHook1
import HandS.HeadHook2
import HandS.EndBits
import KE.GoesZip
import KE.GoesMore
import KE.GoesEnum
import HandS.Zip
import HandS.Style
import HandS.Property
import HandS.ClsMeth
import HandS.ExcOwn
import HandS.HeadHook3
import HandS.HeadNt
import HandS.ReplaceLit
import PyProof.SliceStr2
import PySem.Challenge.RW_maprows_k46_maps_between_bars
set_option Elab.async false
-- text PL0
section
set_option linter.all false
set_option maxRecDepth 100000
set_option maxHeartbeats 4000000
namespace PL
open PySem PySem.Spec L2

/-- plain data -/
inductive D where
  | non | bl (b : Bool) | int (i : Int) | str (x : Str) | ty (n : String) | scr (ns : List Int)
  | lst (xs : List D) | tup (xs : List D) | dic (kvs : List (D × D)) | obj (c : Str) (fs : List (Str × D)) | kls (c : Str)
instance : Inhabited D := ⟨.non⟩
/-- what a slot holds: data, or a list that nobody else holds -/
inductive O where
  | dat (d : D) | own (xs : List O) | ob (c : Str) (ns : List Str) (xs : List O)
instance : Inhabited O := ⟨.dat .non⟩
abbrev Rho := List (Option O)

mutual
def fz : O → D
  | .dat d => d
  | .own xs => .lst (fzs xs)
  | .ob c ns xs => .obj c (ns.zip (fzs xs))
def fzs : List O → List D
  | [] => []
  | x :: xs => fz x :: fzs xs
end
theorem fzs_map : ∀ xs : List O, fzs xs = xs.map fz
  | [] => rfl
  | x :: xs => by simp only [fzs, List.map_cons, fzs_map xs]

/-- keys of a dict -/
inductive KyR : D → Key → Prop
  | int (i : Int) : KyR (.int i) (.inl i)
  | str (x : Str) : KyR (.str x) (.inr x)

/-- the dict at a as it can be read -/
def SqD (K : PySem.W.Frag) (S : Hp) (a : Addr) (kvs : List (Key × V)) : Prop := S a = some (.dK kvs)
def SqE (K : PySem.W.Frag) (S : Hp) (a : Addr) (kvs : List (List Key × V)) : Prop := S a = some (.dT kvs)

/-- a tuple that stands: tracked, or in the written part -/
def SqU (K : PySem.W.Frag) (S : Hp) (a : Addr) (xs : List V) : Prop :=
  S a = some (.tup xs) ∨ ∃ (o : Obj) (its : Array Value) (n : Nat), K.lookup a = some o ∧ o.cls = .type "tuple" ∧ o.data = .seq its n ∧ its.size ≤ sizeLine ∧ Vals xs its.toList
mutual
/-- v stands for d, all that is needed of the heap stands in S (or in the written part) -/
inductive Rep (K : PySem.W.Frag) (cl : Str → Option Addr) (S : Hp) : V → D → Prop
  | non : Rep K cl S .non .non
  | bl (b : Bool) : Rep K cl S (.bl b) (.bl b)
  | int (i : Int) : Rep K cl S (.int i) (.int i)
  | str (x : Str) : Rep K cl S (.str x) (.str x)
  | ty (n : String) : Rep K cl S (.ty n) (.ty n)
  | scr {a : Addr} {ns : List Int} : SqL K S a (ns.map V.int) → Rep K cl S (.ref a) (.scr ns)
  | lst {a : Addr} {vs : List V} {ds : List D} : S a = some (.lst vs) → Reps K cl S vs ds → Rep K cl S (.ref a) (.lst ds)
  | tup {a : Addr} {vs : List V} {ds : List D} : SqU K S a vs → Reps K cl S vs ds → Rep K cl S (.ref a) (.tup ds)
  | dicK {a : Addr} {kvs : List (Key × V)} {ds : List (D × D)} : SqD K S a kvs → RepK K cl S kvs ds → Rep K cl S (.ref a) (.dic ds)
  | dicT {a : Addr} {kvs : List (List Key × V)} {ds : List (D × D)} : SqE K S a kvs → RepT K cl S kvs ds → Rep K cl S (.ref a) (.dic ds)
  | obj {a dx C : Addr} {c : Str} {vfs : List (Str × V)} {fs : List (Str × D)} : cl c = some C → S a = some (.ins C dx vfs) → S dx = some (.own a) → RepF K cl S vfs fs → Rep K cl S (.ref a) (.obj c fs)
  | kls {C : Addr} {c : Str} : cl c = some C → Rep K cl S (.ref C) (.kls c)
inductive Reps (K : PySem.W.Frag) (cl : Str → Option Addr) (S : Hp) : List V → List D → Prop
  | nil : Reps K cl S [] []
  | cons {v : V} {d : D} {vs : List V} {ds : List D} : Rep K cl S v d → Reps K cl S vs ds → Reps K cl S (v :: vs) (d :: ds)
inductive RepK (K : PySem.W.Frag) (cl : Str → Option Addr) (S : Hp) : List (Key × V) → List (D × D) → Prop
  | nil : RepK K cl S [] []
  | cons {k : Key} {v : V} {e d : D} {vs : List (Key × V)} {ds : List (D × D)} : KyR e k → Rep K cl S v d → RepK K cl S vs ds → RepK K cl S ((k, v) :: vs) ((e, d) :: ds)
inductive RepT (K : PySem.W.Frag) (cl : Str → Option Addr) (S : Hp) : List (List Key × V) → List (D × D) → Prop
  | nil : RepT K cl S [] []
  | cons {ks : List Key} {es : List D} {v : V} {d : D} {vs : List (List Key × V)} {ds : List (D × D)} : Paired KyR es ks → Rep K cl S v d → RepT K cl S vs ds → RepT K cl S ((ks, v) :: vs) ((.tup es, d) :: ds)
inductive RepF (K : PySem.W.Frag) (cl : Str → Option Addr) (S : Hp) : List (Str × V) → List (Str × D) → Prop
  | nil : RepF K cl S [] []
  | cons {f : Str} {v : V} {d : D} {vs : List (Str × V)} {ds : List (Str × D)} : Rep K cl S v d → RepF K cl S vs ds → RepF K cl S ((f, v) :: vs) ((f, d) :: ds)
end

def Le (S S' : Hp) : Prop := ∀ b o, S b = some o → S' b = some o
theorem Le.refl (S : Hp) : Le S S := fun _ _ h => h
theorem Le.trans {A B C : Hp} (h : Le A B) (k : Le B C) : Le A C := fun b o e => k b o (h b o e)
theorem Le.rd {S S' : Hp} (h : Le S S') {a : Addr} {u : HO} (r : Rd S a u) : Rd S' a u := by
  rcases r with r | ⟨o, r⟩
  · exact .inl (h _ _ r)
  · exact .inr ⟨o, h _ _ r⟩
theorem Le.sqL {K : PySem.W.Frag} {S S' : Hp} (h : Le S S') {a : Addr} {vs : List V} (r : SqL K S a vs) : SqL K S' a vs := by
  rcases r with r | r
  · exact .inl (h.rd r)
  · exact .inr r
theorem Le.sqT {K : PySem.W.Frag} {S S' : Hp} (h : Le S S') {a : Addr} {vs : List V} (r : SqU K S a vs) : SqT K S' a vs := by
  rcases r with r | r
  · exact SqT.of (h _ _ r)
  · exact .inr r
theorem Le.sqU {K : PySem.W.Frag} {S S' : Hp} (h : Le S S') {a : Addr} {vs : List V} (r : SqU K S a vs) : SqU K S' a vs := by
  rcases r with r | r
  · exact .inl (h _ _ r)
  · exact .inr r
section
variable {K : PySem.W.Frag} {cl : Str → Option Addr} {S S' : Hp}
mutual
theorem Rep.up (h : Le S S') : ∀ {v : V} {d : D}, Rep K cl S v d → Rep K cl S' v d
  | _, _, .non => .non
  | _, _, .bl b => .bl b
  | _, _, .int i => .int i
  | _, _, .str x => .str x
  | _, _, .ty n => .ty n
  | _, _, .scr q => .scr (h.sqL q)
  | _, _, .lst q r => .lst (h _ _ q) (Reps.up h r)
  | _, _, .tup q r => .tup (h.sqU q) (Reps.up h r)
  | _, _, .dicK q r => .dicK (h _ _ q) (RepK.up h r)
  | _, _, .dicT q r => .dicT (h _ _ q) (RepT.up h r)
  | _, _, .obj c q q' r => .obj c (h _ _ q) (h _ _ q') (RepF.up h r)
  | _, _, .kls c => .kls c
theorem Reps.up (h : Le S S') : ∀ {v : List V} {d : List D}, Reps K cl S v d → Reps K cl S' v d
  | _, _, .nil => .nil
  | _, _, .cons a b => .cons (Rep.up h a) (Reps.up h b)
theorem RepK.up (h : Le S S') : ∀ {v : List (Key × V)} {d : List (D × D)}, RepK K cl S v d → RepK K cl S' v d
  | _, _, .nil => .nil
  | _, _, .cons k a b => .cons k (Rep.up h a) (RepK.up h b)
theorem RepT.up (h : Le S S') : ∀ {v : List (List Key × V)} {d : List (D × D)}, RepT K cl S v d → RepT K cl S' v d
  | _, _, .nil => .nil
  | _, _, .cons k a b => .cons k (Rep.up h a) (RepT.up h b)
theorem RepF.up (h : Le S S') : ∀ {v : List (Str × V)} {d : List (Str × D)}, RepF K cl S v d → RepF K cl S' v d
  | _, _, .nil => .nil
  | _, _, .cons a b => .cons (Rep.up h a) (RepF.up h b)
end
end
theorem Reps.length {K : PySem.W.Frag} {cl : Str → Option Addr} {S : Hp} : ∀ {v : List V} {d : List D}, Reps K cl S v d → v.length = d.length
  | _, _, .nil => rfl
  | _, _, .cons _ b => by simp [Reps.length b]
theorem Reps.get {K : PySem.W.Frag} {cl : Str → Option Addr} {S : Hp} : ∀ {v : List V} {d : List D}, Reps K cl S v d → ∀ {i : Nat} {e : D}, d[i]? = some e → ∃ x, v[i]? = some x ∧ Rep K cl S x e
  | _, _, .nil, _, _, q => by simp at q
  | _, _, .cons a b, 0, _, q => by simp at q; subst q; exact ⟨_, rfl, a⟩
  | _, _, .cons a b, i + 1, _, q => by simp at q; obtain ⟨x, h, r⟩ := Reps.get b q; exact ⟨x, by simpa using h, r⟩
theorem Reps.zip {K : PySem.W.Frag} {cl : Str → Option Addr} {S : Hp} : ∀ (ns : List Str) {v : List V} {d : List D}, Reps K cl S v d → RepF K cl S (ns.zip v) (ns.zip d)
  | [], _, _, _ => .nil
  | _ :: _, _, _, .nil => .nil
  | _ :: ns, _, _, .cons a b => .cons a (Reps.zip ns b)
theorem Reps.app {K : PySem.W.Frag} {cl : Str → Option Addr} {S : Hp} : ∀ {v v' : List V} {d d' : List D}, Reps K cl S v d → Reps K cl S v' d' → Reps K cl S (v ++ v') (d ++ d')
  | _, _, _, _, .nil, r => r
  | _, _, _, _, .cons a b, r => .cons a (Reps.app b r)

mutual
/-- v stands for o; R: the lists that nobody else holds -/
inductive Ow (K : PySem.W.Frag) (cl : Str → Option Addr) (S H : Hp) : V → O → List Addr → Prop
  | dat {v : V} {d : D} : Rep K cl S v d → Ow K cl S H v (.dat d) []
  | own {a : Addr} {vs : List V} {os : List O} {R : List Addr} : H a = some (.lst vs) → Ows K cl S H vs os R → Ow K cl S H (.ref a) (.own os) (a :: R)
  | ob {a dx C : Addr} {c : Str} {ns : List Str} {vs : List V} {os : List O} {R : List Addr} : cl c = some C → H a = some (.ins C dx (ns.zip vs)) → H dx = some (.own a) → ns.length = vs.length → Ows K cl S H vs os R → Ow K cl S H (.ref a) (.ob c ns os) (a :: dx :: R)
inductive Ows (K : PySem.W.Frag) (cl : Str → Option Addr) (S H : Hp) : List V → List O → List Addr → Prop
  | nil : Ows K cl S H [] [] []
  | cons {v : V} {o : O} {vs : List V} {os : List O} {R R' : List Addr} : Ow K cl S H v o R → Ows K cl S H vs os R' → Ows K cl S H (v :: vs) (o :: os) (R ++ R')
end
section
variable {K : PySem.W.Frag} {cl : Str → Option Addr} {S S' H H' : Hp}
mutual
/-- what is owned is not touched, the rest grows -/
theorem Ow.up (h : Le S S') : ∀ {v : V} {o : O} {R : List Addr}, Ow K cl S H v o R → (∀ a ∈ R, ∀ u, H a = some u → H' a = some u) → Ow K cl S' H' v o R
  | _, _, _, .dat r, _ => .dat (r.up h)
  | _, _, _, .own e r, k => .own (k _ List.mem_cons_self _ e) (Ows.up h r fun a ha => k a (List.mem_cons_of_mem _ ha))
  | _, _, _, .ob c e e' l r, k => .ob c (k _ List.mem_cons_self _ e) (k _ (List.mem_cons_of_mem _ List.mem_cons_self) _ e') l (Ows.up h r fun a ha => k a (List.mem_cons_of_mem _ (List.mem_cons_of_mem _ ha)))
theorem Ows.up (h : Le S S') : ∀ {v : List V} {o : List O} {R : List Addr}, Ows K cl S H v o R → (∀ a ∈ R, ∀ u, H a = some u → H' a = some u) → Ows K cl S' H' v o R
  | _, _, _, .nil, _ => .nil
  | _, _, _, .cons a b, k => .cons (Ow.up h a fun c hc => k c (List.mem_append_left _ hc)) (Ows.up h b fun c hc => k c (List.mem_append_right _ hc))
end
mutual
theorem Ow.there : ∀ {v : V} {o : O} {R : List Addr}, Ow K cl S H v o R → ∀ a ∈ R, H a ≠ none
  | _, _, _, .dat _, _, h => by simp at h
  | _, _, _, .own e r, a, h => by
    rcases List.mem_cons.mp h with q | q
    · rw [q, e]; simp
    · exact Ows.there r a q
  | _, _, _, .ob c e e' l r, a, h => by
    rcases List.mem_cons.mp h with q | q
    · rw [q, e]; simp
    · rcases List.mem_cons.mp q with q | q
      · rw [q, e']; simp
      · exact Ows.there r a q
theorem Ows.there : ∀ {v : List V} {o : List O} {R : List Addr}, Ows K cl S H v o R → ∀ a ∈ R, H a ≠ none
  | _, _, _, .nil, _, h => by simp at h
  | _, _, _, .cons x y, a, h => by
    rcases List.mem_append.mp h with q | q
    · exact Ow.there x a q
    · exact Ows.there y a q
end
/-- the owned lists become part of what stands still -/
def ice (S H : Hp) (R : List Addr) : Hp := fun b => if b ∈ R then H b else S b
theorem ice_le (ap : ∀ a ∈ R, S a = none) : Le S (ice S H R) := fun b o e => by
  unfold ice
  by_cases h : b ∈ R
  · rw [ap b h] at e; cases e
  · rw [if_neg h]; exact e
theorem ice_of {R : List Addr} {b : Addr} (h : b ∈ R) : ice S H R b = H b := if_pos h
theorem ice_not {R : List Addr} {b : Addr} (h : b ∉ R) : ice S H R b = S b := if_neg h
mutual
theorem Ow.ice : ∀ {v : V} {o : O} {R : List Addr}, Ow K cl S H v o R → Le S S' → (∀ a ∈ R, ∀ u, H a = some u → S' a = some u) → Rep K cl S' v (fz o)
  | _, _, _, .dat r, h, _ => r.up h
  | _, _, _, .own e r, h, k => .lst (k _ List.mem_cons_self _ e) (Ows.ice r h fun a ha => k a (List.mem_cons_of_mem _ ha))
  | _, _, _, .ob c e e' l r, h, k => .obj c (k _ List.mem_cons_self _ e) (k _ (List.mem_cons_of_mem _ List.mem_cons_self) _ e') (Reps.zip _ (Ows.ice r h fun a ha => k a (List.mem_cons_of_mem _ (List.mem_cons_of_mem _ ha))))
theorem Ows.ice : ∀ {v : List V} {o : List O} {R : List Addr}, Ows K cl S H v o R → Le S S' → (∀ a ∈ R, ∀ u, H a = some u → S' a = some u) → Reps K cl S' v (fzs o)
  | _, _, _, .nil, _, _ => .nil
  | _, _, _, .cons a b, h, k => .cons (Ow.ice a h fun c hc => k c (List.mem_append_left _ hc)) (Ows.ice b h fun c hc => k c (List.mem_append_right _ hc))
end
end

/-- the slots -/
inductive Sl (K : PySem.W.Frag) (cl : Str → Option Addr) (S H : Hp) : St → Rho → List Addr → Prop
  | nil : Sl K cl S H [] [] []
  | non {x : Option V} {σ : St} {ρ : Rho} {R : List Addr} : Sl K cl S H σ ρ R → Sl K cl S H (x :: σ) (none :: ρ) R
  | has {v : V} {o : O} {σ : St} {ρ : Rho} {R R' : List Addr} : Ow K cl S H v o R → Sl K cl S H σ ρ R' → Sl K cl S H (some v :: σ) (some o :: ρ) (R ++ R')
section
variable {K : PySem.W.Frag} {cl : Str → Option Addr} {S S' H H' : Hp}
theorem Sl.up (h : Le S S') : ∀ {σ : St} {ρ : Rho} {R : List Addr}, Sl K cl S H σ ρ R → (∀ a ∈ R, ∀ u, H a = some u → H' a = some u) → Sl K cl S' H' σ ρ R
  | _, _, _, .nil, _ => .nil
  | _, _, _, .non r, k => .non (Sl.up h r k)
  | _, _, _, .has a b, k => .has (a.up h fun c hc => k c (List.mem_append_left _ hc)) (Sl.up h b fun c hc => k c (List.mem_append_right _ hc))
theorem Sl.length : ∀ {σ : St} {ρ : Rho} {R : List Addr}, Sl K cl S H σ ρ R → σ.length = ρ.length
  | _, _, _, .nil => rfl
  | _, _, _, .non r => by simp [Sl.length r]
  | _, _, _, .has a b => by simp [Sl.length b]
/-- slot i taken out, and what may be put in its place -/
theorem Sl.at : ∀ {σ : St} {ρ : Rho} {R : List Addr}, Sl K cl S H σ ρ R → ∀ {i : Nat} {o : O}, ρ[i]? = some (some o) →
    ∃ v R1 Ri R2, R = R1 ++ (Ri ++ R2) ∧ σ[i]? = some (some v) ∧ Ow K cl S H v o Ri ∧
      ∀ (S' H' : Hp) (v' : V) (o' : O) (R' : List Addr), Le S S' → (∀ a ∈ R1 ++ R2, ∀ u, H a = some u → H' a = some u) → Ow K cl S' H' v' o' R' → Sl K cl S' H' (σ.set i (some v')) (ρ.set i (some o')) (R1 ++ (R' ++ R2))
  | _, _, _, .nil, _, _, q => by simp at q
  | _, _, _, .non r, 0, _, q => by simp at q
  | _, _, _, .non r, i + 1, o, q => by
    obtain ⟨v, R1, Ri, R2, e, hv, hw, hs⟩ := Sl.at r (i := i) (o := o) (by simpa using q)
    exact ⟨v, R1, Ri, R2, e, by simpa using hv, hw, fun S' H' v' o' R' h1 h2 h3 => .non (hs S' H' v' o' R' h1 h2 h3)⟩
  | _, _, _, @Sl.has _ _ _ _ v o σ ρ R R' a b, 0, o', q => by
    simp at q; subst q
    exact ⟨v, [], R, R', by simp, rfl, a, fun S' H' v' o' R'' h1 h2 h3 => by
      simpa using Sl.has h3 (b.up h1 fun c hc => h2 c (by simpa using hc))⟩
  | _, _, _, @Sl.has _ _ _ _ v o σ ρ R R' a b, i + 1, o', q => by
    obtain ⟨w, R1, Ri, R2, e, hv, hw, hs⟩ := Sl.at b (i := i) (o := o') (by simpa using q)
    refine ⟨w, R ++ R1, Ri, R2, by rw [e, List.append_assoc], by simpa using hv, hw, fun S' H' v' o' R'' h1 h2 h3 => ?_⟩
    have t := hs S' H' v' o' R'' h1 (fun c hc => h2 c (by rcases List.mem_append.mp hc with z | z <;> simp [z])) h3
    simpa [List.append_assoc] using Sl.has (a.up h1 fun c hc => h2 c (by simp [hc])) t
end
end PL

end
-- text PL1
section
set_option linter.all false
set_option maxRecDepth 100000
set_option maxHeartbeats 4000000
namespace PL
open PySem PySem.Spec L2

/-- an exception: its class, its field (none or one) -/
structure Ex where
  cls : Str
  fld : Option (Str × D)
inductive Rs (α : Type) where
  | bad | ok (a : α) (ρ : Rho) | ex (x : Ex) (ρ : Rho)
abbrev M (α : Type) := Rho → Rs α
def Rs.bnd {α β : Type} (r : Rs α) (g : α → M β) : Rs β := match r with
  | .bad => .bad
  | .ok a ρ => g a ρ
  | .ex x ρ => .ex x ρ
def M.bnd {α β : Type} (f : M α) (g : α → M β) : M β := fun ρ => (f ρ).bnd g
def M.ret {α : Type} (a : α) : M α := fun ρ => .ok a ρ
def M.bad {α : Type} : M α := fun _ => .bad

/-- from one state to a later one -/
structure Stp (R : List Addr) (H S : Hp) (R' : List Addr) (H' S' : Hp) : Prop where
  s : Le S S'
  n : ∀ b, H b ≠ none → S' b ≠ none → S b ≠ none ∨ b ∈ R
  k : ∀ b o, H b = some o → b ∉ R → H' b = some o
  r : ∀ b ∈ R', b ∈ R ∨ H b = none
  t : ∀ b, H' b = none → H b = none
theorem Stp.refl {R : List Addr} {H S : Hp} : Stp R H S R H S := ⟨Le.refl _, fun _ _ h => .inl h, fun _ _ e _ => e, fun _ h => .inl h, fun _ h => h⟩
theorem Stp.trans {R R1 R2 : List Addr} {H H1 H2 S S1 S2 : Hp} (a : Stp R H S R1 H1 S1) (b : Stp R1 H1 S1 R2 H2 S2) : Stp R H S R2 H2 S2 where
  s := a.s.trans b.s
  n := fun c h1 h2 => by
    have h3 : H1 c ≠ none := fun z => h1 (a.t c z)
    rcases b.n c h3 h2 with z | z
    · exact a.n c h1 z
    · rcases a.r c z with y | y
      · exact .inr y
      · exact absurd y h1
  k := fun c o e h => b.k c o (a.k c o e h) fun z => by
    rcases a.r c z with y | y
    · exact h y
    · rw [e] at y; cases y
  r := fun c h => by
    rcases b.r c h with z | z
    · exact a.r c z
    · exact .inr (a.t c z)
  t := fun c h => a.t c (b.t c h)
/-- fewer owned -/
theorem Stp.less {R R' R'' : List Addr} {H H' S S' : Hp} (a : Stp R H S R' H' S') (h : ∀ b ∈ R'', b ∈ R') : Stp R H S R'' H' S' := ⟨a.s, a.n, a.k, fun b hb => a.r b (h b hb), a.t⟩

/-- what is fixed: the written part, the classes, the pinned slots -/
structure Pm where
  K : PySem.W.Frag
  cl : Str → Option Addr
  io : List (Nat × V)
  P : Program
  w : World
  mg : Str → Option Value
  base : Heap

/-- the state of a body -/
structure Wd (p : Pm) (S H : Hp) (σ : L2.St) (ρ : Rho) (R : List Addr) : Prop where
  le : Le S H
  sl : Sl p.K p.cl S H σ ρ R
  nd : R.Nodup
  ap : ∀ a ∈ R, S a = none
  io : ∀ q ∈ p.io, σ[q.1]? = some (some q.2)

/-- the program's own exceptions -/
def excNames : List Str := ["RowError", "InvalidPrime", "NoInverse", "InvalidSize", "InvalidVector", "InvalidMatrix", "InvalidPattern", "InvalidPlace", "InvalidBar", "InvalidSizes", "InvalidMaps", "InvalidNumbers", "InvalidText", "InvalidTerms", "InvalidTable", "InvalidNumber", "InvalidArrow",
  "InvalidName", "InvalidLine", "NotFitting", "NotOneWay", "NegativeBar", "TooLarge", "UnlikeSpaces", "UnlikePlaces", "UnlikeRows", "NotWithin", "NameTaken", "UnknownName", "NothingToUndo", "NothingToRedo"]
def isXc (s : Str) : Bool := excNames.contains s
/-- an exception's class and dict -/
def XRK (K : PySem.W.Frag) (cl : Str → Option Addr) (S : Hp) (x : Ex) (C : Addr) (dd : Option Addr) : Prop :=
  cl x.cls = some C ∧ isXc x.cls = true ∧ match x.fld with
  | none => dd = none
  | some (f, d) => ∃ a v, dd = some a ∧ S a = some (.xd [(f, v)]) ∧ Rep K cl S v d
abbrev XR (p : Pm) (S : Hp) (x : Ex) (C : Addr) (dd : Option Addr) : Prop := XRK p.K p.cl S x C dd

section
variable (p : Pm) (W : WX) (σ : L2.St) (S H : Hp) (R : List Addr)
/-- what is wanted of an expression's outcome -/
def PoE (Q : VK) : Rs D → Prop
  | .bad => False
  | .ok d ρ => ∀ S' H' R' v, Stp R H S R' H' S' → Wd p S' H' σ ρ R' → Rep p.K p.cl S' v d → Q v H'
  | .ex x ρ => ∀ S' H' R' C dd, Stp R H S R' H' S' → Wd p S' H' σ ρ R' → XR p S' x C dd → W (.ref C) dd σ H'
def PoT (Q : Bool → Hp → Prop) : Rs Bool → Prop
  | .bad => False
  | .ok b ρ => ∀ S' H' R', Stp R H S R' H' S' → Wd p S' H' σ ρ R' → Q b H'
  | .ex x ρ => ∀ S' H' R' C dd, Stp R H S R' H' S' → Wd p S' H' σ ρ R' → XR p S' x C dd → W (.ref C) dd σ H'
def PoA (Q : List V → Hp → Prop) : Rs (List D) → Prop
  | .bad => False
  | .ok ds ρ => ∀ S' H' R' vs, Stp R H S R' H' S' → Wd p S' H' σ ρ R' → Reps p.K p.cl S' vs ds → Q vs H'
  | .ex x ρ => ∀ S' H' R' C dd, Stp R H S R' H' S' → Wd p S' H' σ ρ R' → XR p S' x C dd → W (.ref C) dd σ H'
/-- .. that may be owned -/
def PoO (Q : VK) : Rs O → Prop
  | .bad => False
  | .ok o ρ => ∀ S' H' R' v Rv, Stp R H S (R' ++ Rv) H' S' → Wd p S' H' σ ρ R' → Ow p.K p.cl S' H' v o Rv → (R' ++ Rv).Nodup → (∀ a ∈ Rv, S' a = none) → Q v H'
  | .ex x ρ => ∀ S' H' R' C dd, Stp R H S R' H' S' → Wd p S' H' σ ρ R' → XR p S' x C dd → W (.ref C) dd σ H'
end
inductive Fl where
  | nx | rt (o : O) | bk | ct
/-- .. of a statement's outcome -/
def PoS (p : Pm) (W : WX) (S H : Hp) (R : List Addr) (Dn : Ends) : Rs Fl → Prop
  | .bad => False
  | .ok .nx ρ => ∀ σ' S' H' R', Stp R H S R' H' S' → Wd p S' H' σ' ρ R' → Dn.nx σ' H'
  | .ok .bk ρ => ∀ σ' S' H' R', Stp R H S R' H' S' → Wd p S' H' σ' ρ R' → Dn.bk σ' H'
  | .ok .ct ρ => ∀ σ' S' H' R', Stp R H S R' H' S' → Wd p S' H' σ' ρ R' → Dn.ct σ' H'
  | .ok (.rt o) ρ => ∀ σ' S' H' R' v Rv, Stp R H S (R' ++ Rv) H' S' → Wd p S' H' σ' ρ R' → Ow p.K p.cl S' H' v o Rv → (R' ++ Rv).Nodup → (∀ a ∈ Rv, S' a = none) → Dn.rt v H'
  | .ex x ρ => ∀ σ' S' H' R' C dd, Stp R H S R' H' S' → Wd p S' H' σ' ρ R' → XR p S' x C dd → W (.ref C) dd σ' H'

/-- the readings -/
def tD (p : Pm) (W : WX) (f : M D) : TE := fun σ H Q => ∃ ρ S R, Wd p S H σ ρ R ∧ PoE p W σ S H R Q (f ρ)
def tDT (p : Pm) (W : WX) (f : M Bool) : TT := fun σ H Q => ∃ ρ S R, Wd p S H σ ρ R ∧ PoT p W σ S H R Q (f ρ)
def tDA (p : Pm) (W : WX) (f : M (List D)) : TA := fun σ H Q => ∃ ρ S R, Wd p S H σ ρ R ∧ PoA p W σ S H R Q (f ρ)
def tDO (p : Pm) (W : WX) (f : M O) : TE := fun σ H Q => ∃ ρ S R, Wd p S H σ ρ R ∧ PoO p W σ S H R Q (f ρ)
def tDS (p : Pm) (W : WX) (f : M Fl) : TS := fun Dn σ H => ∃ ρ S R, Wd p S H σ ρ R ∧ PoS p W S H R Dn (f ρ)

section
variable {p : Pm} {W : WX} {σ : L2.St} {S S1 H H1 : Hp} {R R1 : List Addr}
/-- later is enough -/
theorem PoE.up {Q : VK} {r : Rs D} (t : Stp R H S R1 H1 S1) (h : PoE p W σ S H R Q r) : PoE p W σ S1 H1 R1 Q r := by
  cases r with
  | bad => exact h
  | ok d ρ => exact fun S' H' R' v a b c => h S' H' R' v (t.trans a) b c
  | ex x ρ => exact fun S' H' R' C dd a b c => h S' H' R' C dd (t.trans a) b c
theorem PoT.up {Q : Bool → Hp → Prop} {r : Rs Bool} (t : Stp R H S R1 H1 S1) (h : PoT p W σ S H R Q r) : PoT p W σ S1 H1 R1 Q r := by
  cases r with
  | bad => exact h
  | ok d ρ => exact fun S' H' R' a b => h S' H' R' (t.trans a) b
  | ex x ρ => exact fun S' H' R' C dd a b c => h S' H' R' C dd (t.trans a) b c
theorem PoA.up {Q : List V → Hp → Prop} {r : Rs (List D)} (t : Stp R H S R1 H1 S1) (h : PoA p W σ S H R Q r) : PoA p W σ S1 H1 R1 Q r := by
  cases r with
  | bad => exact h
  | ok d ρ => exact fun S' H' R' v a b c => h S' H' R' v (t.trans a) b c
  | ex x ρ => exact fun S' H' R' C dd a b c => h S' H' R' C dd (t.trans a) b c
theorem PoO.up {Q : VK} {r : Rs O} (t : Stp R H S R1 H1 S1) (h : PoO p W σ S H R Q r) : PoO p W σ S1 H1 R1 Q r := by
  cases r with
  | bad => exact h
  | ok d ρ => exact fun S' H' R' v Rv a b c => h S' H' R' v Rv (t.trans a) b c
  | ex x ρ => exact fun S' H' R' C dd a b c => h S' H' R' C dd (t.trans a) b c
theorem PoS.up {Dn : Ends} {r : Rs Fl} (t : Stp R H S R1 H1 S1) (h : PoS p W S H R Dn r) : PoS p W S1 H1 R1 Dn r := by
  cases r with
  | bad => exact h
  | ok d ρ =>
    cases d with
    | nx => exact fun σ' S' H' R' a b => h σ' S' H' R' (t.trans a) b
    | bk => exact fun σ' S' H' R' a b => h σ' S' H' R' (t.trans a) b
    | ct => exact fun σ' S' H' R' a b => h σ' S' H' R' (t.trans a) b
    | rt o => exact fun σ' S' H' R' v Rv a b c d e => h σ' S' H' R' v Rv (t.trans a) b c d e
  | ex x ρ => exact fun σ' S' H' R' C dd a b c => h σ' S' H' R' C dd (t.trans a) b c

/-- a family of wishes that can stand behind a first part -/
structure IsPo {β : Type} (p : Pm) (W : WX) (σ : L2.St) (P : Hp → Hp → List Addr → Rs β → Prop) : Prop where
  bad : ∀ {S H R}, ¬ P S H R .bad
  ex : ∀ {S H R x ρ}, P S H R (.ex x ρ) → ∀ S' H' R' C dd, Stp R H S R' H' S' → Wd p S' H' σ ρ R' → XR p S' x C dd → W (.ref C) dd σ H'
  up : ∀ {S H R S1 H1 R1 r}, Stp R H S R1 H1 S1 → P S H R r → P S1 H1 R1 r
theorem isE {Q : VK} : IsPo p W σ (fun S H R => PoE p W σ S H R Q) := ⟨fun h => h, fun h => h, PoE.up⟩
theorem isT {Q : Bool → Hp → Prop} : IsPo p W σ (fun S H R => PoT p W σ S H R Q) := ⟨fun h => h, fun h => h, PoT.up⟩
theorem isA {Q : List V → Hp → Prop} : IsPo p W σ (fun S H R => PoA p W σ S H R Q) := ⟨fun h => h, fun h => h, PoA.up⟩
theorem isO {Q : VK} : IsPo p W σ (fun S H R => PoO p W σ S H R Q) := ⟨fun h => h, fun h => h, PoO.up⟩
theorem isS {Dn : Ends} : IsPo p W σ (fun S H R => PoS p W S H R Dn) := ⟨fun h => h, fun h => h σ, PoS.up⟩
section
variable {β : Type} {P : Hp → Hp → List Addr → Rs β → Prop} (ip : IsPo p W σ P)
include ip
/-- .. an expression first -/
theorem IsPo.bE {r : Rs D} {g : D → M β} (h : P S H R (r.bnd g)) :
    PoE p W σ S H R (fun v H1 => ∃ d ρ1 S1 R1, Rep p.K p.cl S1 v d ∧ Stp R H S R1 H1 S1 ∧ Wd p S1 H1 σ ρ1 R1 ∧ P S1 H1 R1 (g d ρ1)) r := by
  cases r with
  | bad => exact ip.bad h
  | ok d ρ => exact fun S' H' R' v a b c => ⟨d, ρ, S', R', c, a, b, ip.up a h⟩
  | ex x ρ => exact ip.ex h
theorem IsPo.bT {r : Rs Bool} {g : Bool → M β} (h : P S H R (r.bnd g)) :
    PoT p W σ S H R (fun k H1 => ∃ ρ1 S1 R1, Stp R H S R1 H1 S1 ∧ Wd p S1 H1 σ ρ1 R1 ∧ P S1 H1 R1 (g k ρ1)) r := by
  cases r with
  | bad => exact ip.bad h
  | ok d ρ => exact fun S' H' R' a b => ⟨ρ, S', R', a, b, ip.up a h⟩
  | ex x ρ => exact ip.ex h
theorem IsPo.bA {r : Rs (List D)} {g : List D → M β} (h : P S H R (r.bnd g)) :
    PoA p W σ S H R (fun vs H1 => ∃ ds ρ1 S1 R1, Reps p.K p.cl S1 vs ds ∧ Stp R H S R1 H1 S1 ∧ Wd p S1 H1 σ ρ1 R1 ∧ P S1 H1 R1 (g ds ρ1)) r := by
  cases r with
  | bad => exact ip.bad h
  | ok d ρ => exact fun S' H' R' v a b c => ⟨d, ρ, S', R', c, a, b, ip.up a h⟩
  | ex x ρ => exact ip.ex h
theorem IsPo.bO {r : Rs O} {g : O → M β} (h : P S H R (r.bnd g)) :
    PoO p W σ S H R (fun v H1 => ∃ o ρ1 S1 R1 Rv, Ow p.K p.cl S1 H1 v o Rv ∧ Stp R H S (R1 ++ Rv) H1 S1 ∧ Wd p S1 H1 σ ρ1 R1 ∧ (R1 ++ Rv).Nodup ∧ (∀ a ∈ Rv, S1 a = none) ∧ P S1 H1 (R1 ++ Rv) (g o ρ1)) r := by
  cases r with
  | bad => exact ip.bad h
  | ok d ρ => exact fun S' H' R' v Rv a b c n ap => ⟨d, ρ, S', R', Rv, c, a, b, n, ap, ip.up a h⟩
  | ex x ρ => exact ip.ex h
end
theorem PoE.mono {Q Q' : VK} {r : Rs D} (h : PoE p W σ S H R Q r) (k : ∀ v H1, Q v H1 → Q' v H1) : PoE p W σ S H R Q' r := by
  cases r with
  | bad => exact h
  | ok d ρ => exact fun S' H' R' v a b c => k _ _ (h S' H' R' v a b c)
  | ex x ρ => exact h
/-- what is known of the owned when it is frozen -/
theorem Wd.freeze {ρ : Rho} {Rv : List Addr} {v : V} {o : O} (w : Wd p S H σ ρ R) (q : Ow p.K p.cl S H v o Rv) (nd : (R ++ Rv).Nodup) (ap : ∀ a ∈ Rv, S a = none) :
    Wd p (ice S H Rv) H σ ρ R ∧ Rep p.K p.cl (ice S H Rv) v (fz o) ∧ Stp (R ++ Rv) H S R H (ice S H Rv) := by
  have l1 : Le S (ice S H Rv) := ice_le ap
  have dj : ∀ a ∈ R, a ∉ Rv := fun a h1 h2 => (List.nodup_append.mp nd).2.2 a h1 a h2 rfl
  refine ⟨⟨fun b u e => ?_, w.sl.up l1 fun _ _ _ e => e, w.nd, fun a ha => by rw [ice_not (dj a ha)]; exact w.ap a ha, w.io⟩, q.ice l1 fun a ha u e => by rw [ice_of ha]; exact e, ⟨l1, fun b h1 h2 => ?_, fun b o e _ => e, fun b hb => .inl (List.mem_append_left _ hb), fun b h => h⟩⟩
  · by_cases hb : b ∈ Rv
    · rw [ice_of hb] at e; exact e
    · rw [ice_not hb] at e; exact w.le b u e
  · by_cases hb : b ∈ Rv
    · exact .inr (List.mem_append_right _ hb)
    · rw [ice_not hb] at h2; exact .inl h2
/-- an owned outcome as data -/
theorem PoE.of_own {Q : VK} {r : Rs O} (h : PoE p W σ S H R Q (r.bnd fun o => M.ret (fz o))) : PoO p W σ S H R Q r := by
  cases r with
  | bad => exact h
  | ok o ρ =>
    intro S' H' R' v Rv a b c n ap
    obtain ⟨w, q, t⟩ := b.freeze c n ap
    exact h _ _ _ v (a.trans t) w q
  | ex x ρ => exact h
theorem PoO.of_dat {Q : VK} {r : Rs D} (h : PoO p W σ S H R Q (r.bnd fun d => M.ret (.dat d))) : PoE p W σ S H R Q r := by
  cases r with
  | bad => exact h
  | ok o ρ => exact fun S' H' R' v a b c => h S' H' R' v [] (by simpa using a) b (.dat c) (by simpa using b.nd) (fun _ z => nomatch z)
  | ex x ρ => exact h
end
theorem PE.imp {X : Cx} {e : Expr} {t t' : TE} (h : PE X e t) (k : ∀ σ H Q, t' σ H Q → t σ H Q) : PE X e t' := ⟨fun pins s σ H Q I q => h.run pins s σ H Q I (k σ H Q q)⟩
theorem PT.imp {X : Cx} {e : Expr} {t t' : TT} (h : PT X e t) (k : ∀ σ H Q, t' σ H Q → t σ H Q) : PT X e t' := ⟨fun pins s σ H Q I q => h.run pins s σ H Q I (k σ H Q q)⟩
theorem PA.imp {X : Cx} {e : List Expr} {t t' : TA} (h : PA X e t) (k : ∀ σ H Q, t' σ H Q → t σ H Q) : PA X e t' := ⟨fun pos pins s σ H Q I q => h.run pos pins s σ H Q I (k σ H Q q)⟩
theorem PS.imp {X : Cx} {e : Stmt} {t t' : TS} (h : PS X e t) (k : ∀ D σ H, t' D σ H → t D σ H) : PS X e t' := ⟨fun pins s σ H D I q => h.run pins s σ H D I (k D σ H q)⟩
theorem PSs.imp {X : Cx} {e : List Stmt} {t t' : TS} (h : PSs X e t) (k : ∀ D σ H, t' D σ H → t D σ H) : PSs X e t' := ⟨fun pins s σ H D I q => h.run pins s σ H D I (k D σ H q)⟩
section
variable {X : Cx} {p : Pm} {W : WX} {e : Expr}
/-- an owned one as data, data as owned -/
theorem toD {f : M O} (h : PE X e (tDO p W f)) : PE X e (tD p W (f.bnd fun o => M.ret (fz o))) := PE.imp h fun _ _ _ ⟨ρ, S, R, w, q⟩ => ⟨ρ, S, R, w, PoE.of_own q⟩
theorem toO {f : M D} (h : PE X e (tD p W f)) : PE X e (tDO p W (f.bnd fun d => M.ret (.dat d))) := PE.imp h fun _ _ _ ⟨ρ, S, R, w, q⟩ => ⟨ρ, S, R, w, PoO.of_dat q⟩
end
end PL

end
-- text PL2
section
set_option linter.all false
set_option maxRecDepth 100000
set_option maxHeartbeats 4000000
namespace PL
open PySem PySem.Spec L2

/-- only new things came -/
structure Grow (S H S' H' : Hp) : Prop where
  s : Le S S'
  le : Le S' H'
  h : Le H H'
  n : ∀ b, H b ≠ none → S' b = S b
theorem Grow.refl {S H : Hp} (le : Le S H) : Grow S H S H := ⟨Le.refl _, le, Le.refl _, fun _ _ => rfl⟩
/-- a new object that stands still -/
theorem Grow.new {S H : Hp} {a : Addr} {o : HO} (le : Le S H) (hn : H a = none) : Grow S H (upd S a o) (upd H a o) := by
  have sn : S a = none := by
    cases q : S a with
    | none => rfl
    | some u => rw [le _ _ q] at hn; cases hn
  refine ⟨fun b u e => ?_, fun b u e => ?_, fun b u e => ?_, fun b hb => ?_⟩
  · rw [upd_ne (ne_of_none e sn)]; exact e
  · by_cases hb : b = a
    · subst hb; rw [upd_same] at e ⊢; exact e
    · rw [upd_ne hb] at e ⊢; exact le _ _ e
  · rw [upd_ne (ne_of_none e hn)]; exact e
  · rw [upd_ne (fun z => hb (by rw [z]; exact hn))]
theorem Grow.stp {S H S' H' : Hp} (g : Grow S H S' H') {R : List Addr} (hR : ∀ a ∈ R, H a ≠ none) : Stp R H S R H' S' :=
  ⟨g.s, fun b h1 h2 => .inl (by rw [← g.n b h1]; exact h2), fun b o e _ => g.h b o e, fun b hb => .inl hb, fun b h => by
    cases q : H b with
    | none => rfl
    | some o => rw [g.h b o q] at h; cases h⟩
theorem Sl.there {K : PySem.W.Frag} {cl : Str → Option Addr} {S H : Hp} : ∀ {σ : L2.St} {ρ : Rho} {R : List Addr}, Sl K cl S H σ ρ R → ∀ a ∈ R, H a ≠ none
  | _, _, _, .nil, _, h => by simp at h
  | _, _, _, .non r, a, h => Sl.there r a h
  | _, _, _, .has x y, a, h => by
    rcases List.mem_append.mp h with q | q
    · exact x.there a q
    · exact Sl.there y a q
theorem Grow.wd {p : Pm} {S H S' H' : Hp} (g : Grow S H S' H') {σ : L2.St} {ρ : Rho} {R : List Addr} (w : Wd p S H σ ρ R) : Wd p S' H' σ ρ R ∧ Stp R H S R H' S' := by
  have hR := w.sl.there
  exact ⟨⟨g.le, w.sl.up g.s fun a _ u e => g.h a u e, w.nd, fun a ha => by rw [g.n a (hR a ha)]; exact w.ap a ha, w.io⟩, g.stp hR⟩

/-- the outcome of a pure operation on data -/
def OutD (p : Pm) (S H : Hp) (Q : VK) : Option D → Prop
  | none => False
  | some d => ∀ S' H' v, Grow S H S' H' → Rep p.K p.cl S' v d → Q v H'
def lift {α : Type} : Option α → M α
  | none => M.bad
  | some a => M.ret a
theorem OutD.of {p : Pm} {W : WX} {σ : L2.St} {S H : Hp} {R : List Addr} {ρ : Rho} {Q : VK} {r : Option D} (w : Wd p S H σ ρ R) (h : PoE p W σ S H R Q (lift r ρ)) : OutD p S H Q r := by
  cases r with
  | none => exact h
  | some d => exact fun S' H' v g q => h S' H' R v (g.wd w).2 (g.wd w).1 q
theorem OutD.leaf {p : Pm} {S H : Hp} {Q : VK} {d : D} {v : V} (le : Le S H) (h : OutD p S H Q (some d)) (r : Rep p.K p.cl S v d) : Q v H := h S H v (Grow.refl le) r

/-- a binary operation by data -/
def rD (p : Pm) (g : D → D → Option D) : R2 := fun x y H Q => ∃ S dx dy, Le S H ∧ Rep p.K p.cl S x dx ∧ Rep p.K p.cl S y dy ∧ OutD p S H Q (g dx dy)
/-- a unary one -/
def rD1 (p : Pm) (g : D → Option D) : V → Hp → VK → Prop := fun x H Q => ∃ S dx, Le S H ∧ Rep p.K p.cl S x dx ∧ OutD p S H Q (g dx)
/-- a call -/
def rDs (p : Pm) (g : List D → Option D) : List V → Hp → VK → Prop := fun xs H Q => ∃ S ds, Le S H ∧ Reps p.K p.cl S xs ds ∧ OutD p S H Q (g ds)

section
variable {X : Cx} {p : Pm} {W : WX}
/-- the rule of two operands -/
theorem tOp_imp {fa fb : M D} {g : D → D → Option D} {σ : L2.St} {H : Hp} {Q : VK} (h : tD p W (fa.bnd fun x => fb.bnd fun y => lift (g x y)) σ H Q) : tOp (rD p g) (tD p W fa) (tD p W fb) σ H Q := by
  obtain ⟨ρ, S, R, w, h⟩ := h
  refine ⟨ρ, S, R, w, (isE.bE h).mono fun v H1 ⟨d, ρ1, S1, R1, r1, t1, w1, h1⟩ => ?_⟩
  refine ⟨ρ1, S1, R1, w1, (isE.bE h1).mono fun v2 H2 ⟨d2, ρ2, S2, R2, r2, t2, w2, h2⟩ => ?_⟩
  exact ⟨S2, d, d2, w2.le, r1.up t2.s, r2, OutD.of w2 h2⟩
theorem de_op {a b : Expr} {op : Operator} {pos : Pos} {fa fb : M D} {g : D → D → Option D} (ho : OpR X (binaryOp op) (rD p g)) (ha : PE X a (tD p W fa)) (hb : PE X b (tD p W fb)) :
    PE X (.BinOp a op b pos) (tD p W (fa.bnd fun x => fb.bnd fun y => lift (g x y))) := PE.imp (pe_op ho ha hb) fun _ _ _ h => tOp_imp h
theorem de_cmp {a b : Expr} {op : CmpOp} {pos : Pos} {fa fb : M D} {g : D → D → Option D} (ho : OpR X (compareOp op) (rD p g)) (ha : PE X a (tD p W fa)) (hb : PE X b (tD p W fb)) (hm : behindInMarks op b = false) :
    PE X (.Compare a [op] [b] pos) (tD p W (fa.bnd fun x => fb.bnd fun y => lift (g x y))) := PE.imp (pe_cmpR ho ha hb hm) fun _ _ _ h => tOp_imp h
theorem de_un {a : Expr} {op : UnaryOp} {pos : Pos} {fa : M D} {g : D → Option D} (ho : UnR X (unaryOp op) (rD1 p g)) (ha : PE X a (tD p W fa)) :
    PE X (.UnaryOp op a pos) (tD p W (fa.bnd fun x => lift (g x))) := PE.imp (pe_un ho ha) fun σ H Q h => by
  obtain ⟨ρ, S, R, w, h⟩ := h
  refine ⟨ρ, S, R, w, (isE.bE h).mono fun v H1 ⟨d, ρ1, S1, R1, r1, t1, w1, h1⟩ => ?_⟩
  exact ⟨S1, d, w1.le, r1, OutD.of w1 h1⟩
theorem tCB_imp {fa : M (List D)} {g : List D → Option D} {σ : L2.St} {H : Hp} {Q : VK} (h : tD p W (fa.bnd fun x => lift (g x)) σ H Q) : tCB (rDs p g) (tDA p W fa) σ H Q := by
  obtain ⟨ρ, S, R, w, h⟩ := h
  have k := isE.bA h
  refine ⟨ρ, S, R, w, ?_⟩
  revert k
  cases fa ρ with
  | bad => exact fun k => k
  | ex x ρ' => exact fun k => k
  | ok ds ρ' =>
    intro k S' H' R' vs t w' r
    obtain ⟨ds2, ρ1, S1, R1, r1, t1, w1, h1⟩ := k S' H' R' vs t w' r
    exact ⟨S1, ds2, w1.le, r1, OutD.of w1 h1⟩
end

/-! ### names, constants -/
def mVar (i : Nat) : M D := fun ρ => match ρ[i]? with
  | some (some (.dat d)) => .ok d ρ
  | some (some (.own xs)) => .ok (fz (.own xs)) (ρ.set i (some (.dat (fz (.own xs)))))
  | some (some (.ob c ns xs)) => .ok (fz (.ob c ns xs)) (ρ.set i (some (.dat (fz (.ob c ns xs)))))
  | _ => .bad
/-- the slot's own object -/
theorem Wd.get {p : Pm} {S H : Hp} {σ : L2.St} {ρ : Rho} {R : List Addr} (w : Wd p S H σ ρ R) {i : Nat} {d : D} (e : ρ[i]? = some (some (.dat d))) : ∃ v, σ[i]? = some (some v) ∧ Rep p.K p.cl S v d := by
  obtain ⟨v, R1, Ri, R2, eR, hv, ho, _⟩ := w.sl.at e
  cases ho with
  | dat r => exact ⟨v, hv, r⟩
theorem set_self {α : Type} : ∀ {l : List α} {i : Nat} {x : α}, l[i]? = some x → l.set i x = l
  | [], _, _, h => by simp at h
  | a :: l, 0, x, h => by simp at h; subst h; rfl
  | a :: l, i + 1, x, h => by simp at h; rw [List.set_cons_succ, set_self h]
/-- a slot is frozen where it stands -/
theorem Wd.iced {p : Pm} {S H : Hp} {σ : L2.St} {ρ : Rho} {R : List Addr} (w : Wd p S H σ ρ R) {i : Nat} {o : O} (e : ρ[i]? = some (some o)) :
    ∃ v S' R', σ[i]? = some (some v) ∧ Rep p.K p.cl S' v (fz o) ∧ Wd p S' H σ (ρ.set i (some (.dat (fz o)))) R' ∧ Stp R H S R' H S' := by
  obtain ⟨v, R1, Ri, R2, eR, hv, ho, hs⟩ := w.sl.at e
  subst eR
  have nd := w.nd
  have ap : ∀ a ∈ Ri, S a = none := fun a ha => w.ap a (by simp [ha])
  have l1 : Le S (ice S H Ri) := ice_le ap
  have n1 : ∀ a ∈ R1 ++ R2, a ∉ Ri := fun a ha hi => by
    rw [List.nodup_append] at nd
    obtain ⟨_, nd2, d1⟩ := nd
    rw [List.nodup_append] at nd2
    obtain ⟨_, _, d2⟩ := nd2
    rcases List.mem_append.mp ha with z | z
    · exact d1 a z a (List.mem_append_left _ hi) rfl
    · exact d2 a hi a z rfl
  have rep : Rep p.K p.cl (ice S H Ri) v (fz o) := ho.ice l1 fun a ha u q => by rw [ice_of ha]; exact q
  have sl := hs (ice S H Ri) H v (.dat (fz o)) [] l1 (fun a _ u q => q) (.dat rep)
  rw [set_self hv, List.nil_append] at sl
  have sub : ∀ a ∈ R1 ++ R2, a ∈ R1 ++ (Ri ++ R2) := fun a ha => by
    rcases List.mem_append.mp ha with z | z <;> simp [z]
  refine ⟨v, ice S H Ri, R1 ++ R2, hv, rep, ⟨fun b u q => ?_, sl, ?_, fun a ha => by rw [ice_not (n1 a ha)]; exact w.ap a (sub a ha), w.io⟩, ⟨l1, fun b h1 h2 => ?_, fun b o q _ => q, fun b hb => .inl (sub b hb), fun b h => h⟩⟩
  · by_cases hb : b ∈ Ri
    · rw [ice_of hb] at q; exact q
    · rw [ice_not hb] at q; exact w.le b u q
  · exact nd.sublist (List.Sublist.append (List.Sublist.refl _) (List.sublist_append_right _ _))
  · by_cases hb : b ∈ Ri
    · exact .inr (by simp [hb])
    · rw [ice_not hb] at h2; exact .inl h2
section
variable {X : Cx} {p : Pm} {W : WX}
theorem de_var {i : Nat} {x : Str} {pos : Pos} (hN : X.N[i]? = some x) (hv : Vis X.env.scope x) (hd : (x == ("__debug__" : Str)) = false) (hcd : (x == ("__classdict__" : Str)) = false) : PE X (.Name x pos) (tD p W (mVar i)) :=
  PE.imp (pe_var hN hv hd hcd) fun σ H Q h => by
    obtain ⟨ρ, S, R, w, h⟩ := h
    unfold mVar at h
    split at h
    · rename_i d e
      obtain ⟨v, hv, r⟩ := w.get e
      exact ⟨v, hv, h S H R v Stp.refl w r⟩
    · rename_i xs e
      obtain ⟨v, S', R', hv, r, w', t⟩ := w.iced e
      exact ⟨v, hv, h S' H R' v t w' r⟩
    · rename_i xs e
      obtain ⟨v, S', R', hv, r, w', t⟩ := w.iced e
      exact ⟨v, hv, h S' H R' v t w' r⟩
    · exact h.elim
theorem tD_const {v : V} {d : D} (hr : ∀ S, Rep p.K p.cl S v d) {σ : L2.St} {H : Hp} {Q : VK} (h : tD p W (M.ret d) σ H Q) : tC v σ H Q := by
  obtain ⟨ρ, S, R, w, h⟩ := h
  exact h S H R v Stp.refl w (hr S)
theorem de_int {i : Int} {j : Nat} {pos : Pos} : PE X (.Constant (.int i) j pos) (tD p W (M.ret (.int i))) := PE.imp pe_int fun _ _ _ h => tD_const (fun _ => .int i) h
theorem de_bl {i : Bool} {j : Nat} {pos : Pos} : PE X (.Constant (.bool i) j pos) (tD p W (M.ret (.bl i))) := PE.imp pe_bl fun _ _ _ h => tD_const (fun _ => .bl i) h
theorem de_non {j : Nat} {pos : Pos} : PE X (.Constant .none j pos) (tD p W (M.ret .non)) := PE.imp pe_non fun _ _ _ h => tD_const (fun _ => .non) h
theorem de_str {i : Str} {j : Nat} {pos : Pos} : PE X (.Constant (.str i) j pos) (tD p W (M.ret (.str i))) := PE.imp pe_str fun _ _ _ h => tD_const (fun _ => .str i) h
/-- a name of the module that holds data -/
theorem de_glob {x : Str} {v : V} {u : Value} {d : D} {pos : Pos} (hg : Gl X x) (hm : X.mg x = some u) (r : RelV v u) (hr : ∀ S, Rep p.K p.cl S v d) (hd : (x == ("__debug__" : Str)) = false) : PE X (.Name x pos) (tD p W (M.ret d)) :=
  PE.imp (pe_glob hg hm r hd) fun _ _ _ h => tD_const hr h
/-- a built-in class -/
theorem de_ty {x : Str} {n : String} {pos : Pos} (hg : Gl X x) (hm : X.mg x = none) (hv : bootBuiltins x = some (.type n)) (hn : x ≠ "__name__") (hd : (x == ("__debug__" : Str)) = false) : PE X (.Name x pos) (tD p W (M.ret (.ty n))) :=
  PE.imp (pe_bltn hg hm hv (v := .ty n) rfl hn hd) fun _ _ _ h => tD_const (fun _ => .ty n) h
end
end PL

end
-- text PL3
section
set_option linter.all false
set_option maxRecDepth 100000
set_option maxHeartbeats 4000000
namespace PL
open PySem PySem.Spec L2

/-! ### what the operators give on data -/
def big : Nat := 16777216
theorem big_eq : big = sizeLine := sizeLine_eq.symm
def addD : D → D → Option D
  | .int a, .int b => some (.int (a + b))
  | .str a, .str b => if a.length + b.length ≤ big then some (.str (a ++ b)) else none
  | .lst a, .lst b => if a.length + b.length ≤ big then some (.lst (a ++ b)) else none
  | .tup a, .tup b => if a.length + b.length ≤ big then some (.tup (a ++ b)) else none
  | _, _ => none
def subD : D → D → Option D
  | .int a, .int b => some (.int (a - b))
  | _, _ => none
/-- a text so many times -/
def repS (k : Int) (a : Str) : Str := if k < 1 then Str.empty else if (k == 1 || a.length == 0) = true then a else ⟨(List.replicate k.toNat a.cps).foldl (· ++ ·) #[]⟩
def mulD : D → D → Option D
  | .int a, .int b => if a.natAbs < 2 ^ 64 ∨ b.natAbs < 2 ^ 64 ∨ (a.natAbs < 2 ^ 200 ∧ b.natAbs < 2 ^ 200) then some (.int (a * b)) else none
  | .lst a, .int k => if -(2 ^ 63) ≤ k ∧ k < 2 ^ 63 ∧ a.length * k.toNat ≤ big then some (.lst (List.replicate k.toNat a).flatten) else none
  | .tup a, .int k => if 0 ≤ k ∧ k ≤ 1000 ∧ a.length ≤ 1000 then some (.tup (List.replicate k.toNat a).flatten) else none
  | .str a, .int k => if 0 ≤ k ∧ k ≤ 1000 ∧ a.length ≤ 1000 ∧ (repS k a).length ≤ big then some (.str (repS k a)) else none
  | _, _ => none
def fdivD : D → D → Option D
  | .int a, .int b => if 0 < b ∧ b < 2 ^ 200 then some (.int (a / b)) else none
  | _, _ => none
def modD : D → D → Option D
  | .int a, .int b => if 0 < b then some (.int (a % b)) else none
  | _, _ => none
def powD : D → D → Option D
  | .int a, .int b => if 0 ≤ b ∧ b ≤ 1000000 ∧ a.natAbs < 2 ^ 64 then some (.int (a ^ b.toNat)) else none
  | _, _ => none
def ltD : D → D → Option D
  | .int a, .int b => some (.bl (decide (a < b)))
  | _, _ => none
def leD : D → D → Option D
  | .int a, .int b => some (.bl (decide (a ≤ b)))
  | _, _ => none
def gtD : D → D → Option D
  | .int a, .int b => some (.bl (decide (b < a)))
  | _, _ => none
def geD : D → D → Option D
  | .int a, .int b => some (.bl (decide (b ≤ a)))
  | _, _ => none
def isD : D → D → Option D
  | .non, .non => some (.bl true)
  | .bl _, .non => some (.bl false)
  | .int _, .non => some (.bl false)
  | .str _, .non => some (.bl false)
  | .ty _, .non => some (.bl false)
  | .scr _, .non => some (.bl false)
  | .lst _, .non => some (.bl false)
  | .tup _, .non => some (.bl false)
  | .dic _, .non => some (.bl false)
  | .obj .., .non => some (.bl false)
  | _, _ => none
def notO (o : Option D) : Option D := match o with
  | some (.bl b) => some (.bl (!b))
  | _ => none
mutual
def py : D → Option PyData
  | .non => some .none
  | .bl b => some (.bool b)
  | .int i => some (.int i)
  | .str x => some (.str x)
  | .lst xs => (pys xs).map .list
  | .tup xs => (pys xs).map .tuple
  | .dic kvs => (pyk kvs).map .dict
  | _ => none
def pys : List D → Option (List PyData)
  | [] => some []
  | x :: xs => match py x, pys xs with
    | some a, some b => some (a :: b)
    | _, _ => none
def pyk : List (D × D) → Option (List (PyData × PyData))
  | [] => some []
  | (k, x) :: xs => match py k, py x, pyk xs with
    | some c, some a, some b => some ((c, a) :: b)
    | _, _, _ => none
end
def eqG (a b : D) : Option D := match py a, py b with
  | some x, some y => if SeqAt.shaped x && SeqAt.shaped y then some (.bl (PyData.eqv x y)) else none
  | _, _ => none
def eqD : D → D → Option D
  | .str x, .str y => some (.bl (x == y))
  | a, b => eqG a b
/-- == also for lists of other lengths, whatever they hold -/
def eqE : D → D → Option D
  | .lst xs, .lst ys => if xs.length = ys.length then eqD (.lst xs) (.lst ys) else some (.bl false)
  | a, b => eqD a b
def reprD (a : D) : Option D := match py a with
  | some x => if x.showable = true ∧ x.depth ≤ 40 ∧ x.shown.length ≤ big then some (.str x.shown) else none
  | none => none
/-- flat things by == -/
def flatE : D → D → Option Bool
  | .non, .non => some true
  | .bl a, .bl b => some (a == b)
  | .bl a, .int b => some ((if a then 1 else 0) == b)
  | .int a, .bl b => some (a == (if b then 1 else 0))
  | .int a, .int b => some (a == b)
  | .str a, .str b => some (a == b)
  | .non, .bl _ | .non, .int _ | .non, .str _ | .bl _, .non | .bl _, .str _ | .int _, .non | .int _, .str _ | .str _, .non | .str _, .bl _ | .str _, .int _ => some false
  | _, _ => none
def flatX : D → Bool
  | .non => true | .bl _ => true | .int _ => true | .str _ => true | _ => false
def anyE (x : D) : List D → Bool
  | [] => false
  | y :: ys => (flatE y x == some true) || anyE x ys
def inD : D → D → Option D
  | x, .lst ys => if flatX x && ys.all flatX then some (.bl (anyE x ys)) else none
  | x, .tup ys => if flatX x && ys.all flatX then some (.bl (anyE x ys)) else none
  | _, _ => none

theorem tup_mul1 (l : Addr) (items : Array Value) (n : Nat) (dd : Option Addr) (sl : Array (Option Value)) (x : Int) (u : Tok) (c0 : (decide (x < -(2 ^ 63)) || decide (x ≥ 2 ^ 63)) = false) (c1 : (items.isEmpty || x == 1) = true) :
    Meets (Builtin.«tuple.__mul__» ⟨[.ref l, .int x u], []⟩) (fun _ R s => s.heap.get? l = some { cls := .type "tuple", dict := dd, data := .seq items n, slots := sl } ∧ R (.ok (.ret (Value.ref l))) s) :=
  .of_wp fun prog w A R s h => by
    obtain ⟨hp, g, d, tk, os⟩ := s
    obtain ⟨hl, h⟩ := h
    have f1 := AutoSeq1.idx_int
    wp_walk using wpAny_loadPart' hl
    repeat (first
      | (refine wpAny_ite_false (decide_eq_false (by rw [c0]; exact Bool.false_ne_true)) ?_; wp_walk using wpAny_loadPart' hl)
      | (refine wpAny_ite_true (decide_eq_true (by rw [c1])) ?_; wp_walk using wpAny_loadPart' hl))
    exact ⟨_, rfl, h⟩
theorem tup_mul0 (l : Addr) (items : Array Value) (n : Nat) (dd : Option Addr) (sl : Array (Option Value)) (x : Int) (u : Tok) (c0 : (decide (x < -(2 ^ 63)) || decide (x ≥ 2 ^ 63)) = false) (c1 : (items.isEmpty || x == 1) = false) (c2 : (decide (x ≤ 0) || items.isEmpty) = true) :
    Meets (Builtin.«tuple.__mul__» ⟨[.ref l, .int x u], []⟩) (fun _ R s => s.heap.get? l = some { cls := .type "tuple", dict := dd, data := .seq items n, slots := sl } ∧
      R (.ok (.ret (Value.ref s.heap.objs.size))) { s with heap := s.heap.push { cls := Value.type "tuple", data := Data.seq #[] }, toks := s.toks }) :=
  .of_wp fun prog w A R s h => by
    obtain ⟨hp, g, d, tk, os⟩ := s
    obtain ⟨hl, h⟩ := h
    have f1 := AutoSeq1.idx_int
    wp_walk using wpAny_loadPart' hl
    repeat (first
      | (refine wpAny_ite_false (decide_eq_false (by rw [c0]; exact Bool.false_ne_true)) ?_; wp_walk using wpAny_loadPart' hl)
      | (refine wpAny_ite_false (decide_eq_false (by rw [c1]; exact Bool.false_ne_true)) ?_; wp_walk using wpAny_loadPart' hl)
      | (refine wpAny_ite_true (decide_eq_true (by rw [c2])) ?_; wp_walk using wpAny_loadPart' hl))
    exact ⟨_, rfl, h⟩
theorem OutD.newL {p : Pm} {S H : Hp} {Q : VK} {ds : List D} {vs : List V} (le : Le S H) (h : OutD p S H Q (some (.lst ds))) (r : Reps p.K p.cl S vs ds) {q : Addr} (hq : H q = none) : Q (.ref q) (upd H q (.lst vs)) := by
  have g := Grow.new (o := .lst vs) le hq
  exact h _ _ _ g (.lst upd_same (r.up g.s))
theorem OutD.newT {p : Pm} {S H : Hp} {Q : VK} {ds : List D} {vs : List V} (le : Le S H) (h : OutD p S H Q (some (.tup ds))) (r : Reps p.K p.cl S vs ds) {q : Addr} (hq : H q = none) : Q (.ref q) (upd H q (.tup vs)) := by
  have g := Grow.new (o := .tup vs) le hq
  exact h _ _ _ g (.tup (.inl upd_same) (r.up g.s))
section
variable {X : Cx} {p : Pm}
theorem op_addD (hK : X.K = p.K) : OpR X (binaryOp .Add) (rD p addD) := by
  intro pins s σ H x y v u Q I rx ry h
  obtain ⟨S, dx, dy, le, hx, hy, h⟩ := h
  unfold addD at h
  split at h
  · cases hx; cases hy
    exact op_add pins s σ H _ _ v u Q I rx ry ⟨_, _, rfl, rfl, h.leaf le (.int _)⟩
  · cases hx; cases hy
    split at h
    · rename_i hz
      exact op_add_str pins s σ H _ _ v u Q I rx ry ⟨_, _, rfl, rfl, by rw [← big_eq]; exact hz, h.leaf le (.str _)⟩
    · exact h.elim
  · cases hx with
    | lst ha ra =>
      cases hy with
      | lst hb rb =>
        split at h
        · rename_i hz
          refine op_cat pins s σ H _ _ v u Q I rx ry ⟨_, _, _, _, rfl, rfl, le _ _ ha, le _ _ hb, by rw [ra.length, rb.length, ← big_eq]; exact hz, fun q hq => h.newL le (ra.app rb) hq⟩
        · exact h.elim
  · cases hx with
    | tup ha ra =>
      cases hy with
      | tup hb rb =>
        split at h
        · rename_i hz
          have ha' := le.sqT ha
          have hb' := le.sqT hb
          rw [← hK] at ha' hb'
          refine op_catA pins s σ H _ _ v u Q I rx ry ⟨_, _, _, _, rfl, rfl, ha', hb', by rw [ra.length, rb.length, ← big_eq]; exact hz, fun e => ?_, fun e1 e2 => ?_, fun e1 e2 q hq => ?_⟩
          · subst e
            cases ra
            exact h.leaf le (.tup hb rb)
          · subst e2
            cases rb
            rw [List.append_nil] at h
            exact h.leaf le (.tup ha ra)
          · exact h.newT le (ra.app rb) hq
        · exact h.elim
  · exact h.elim
theorem op_subD : OpR X (binaryOp .Sub) (rD p subD) := by
  intro pins s σ H x y v u Q I rx ry h
  obtain ⟨S, dx, dy, le, hx, hy, h⟩ := h
  unfold subD at h
  split at h
  · cases hx; cases hy
    exact op_sub pins s σ H _ _ v u Q I rx ry ⟨_, _, rfl, rfl, h.leaf le (.int _)⟩
  · exact h.elim
theorem Reps.flat {K : PySem.W.Frag} {cl : Str → Option Addr} {S : Hp} {v : List V} {d : List D} (r : Reps K cl S v d) : ∀ n : Nat, Reps K cl S (List.replicate n v).flatten (List.replicate n d).flatten
  | 0 => by simpa using Reps.nil
  | n + 1 => by simpa [List.replicate_succ] using r.app (Reps.flat r n)
theorem abs64 {a : Int} (h : a.natAbs < 2 ^ 64) : -(2 ^ 64) < a ∧ a < 2 ^ 64 := by omega
theorem op_mulD (hK : X.K = p.K) : OpR X (binaryOp .Mult) (rD p mulD) := by
  intro pins s σ H x y v u Q I rx ry h
  obtain ⟨S, dx, dy, le, hx, hy, h⟩ := h
  unfold mulD at h
  split at h
  · cases hx; cases hy
    split at h
    · rename_i hz
      rcases hz with z | z | z
      · exact op_mul pins s σ H _ _ v u Q I rx ry ⟨_, _, rfl, rfl, .inl (abs64 z), h.leaf le (.int _)⟩
      · exact op_mul pins s σ H _ _ v u Q I rx ry ⟨_, _, rfl, rfl, .inr (abs64 z), h.leaf le (.int _)⟩
      · exact op_mulW pins s σ H _ _ v u Q I rx ry ⟨_, _, rfl, rfl, wide_mul z.1 z.2 (by decide) (by decide) (by decide), h.leaf le (.int _)⟩
    · exact h.elim
  · cases hx with
    | lst ha ra =>
      cases hy
      split at h
      · rename_i hz
        refine op_rep pins s σ H _ _ v u Q I rx ry ⟨_, _, _, rfl, rfl, le _ _ ha, hz.1, hz.2.1, by rw [ra.length, ← big_eq]; exact hz.2.2, fun q hq => h.newL le (ra.flat _) hq⟩
      · exact h.elim
  · rename_i aa k
    cases hx with
    | tup ha ra =>
      rename_i l vs
      cases hy
      split at h
      · rename_i hz
        have hT : SqT X.K H l vs := by rw [hK]; exact le.sqT ha
        have hlen : vs.length ≤ 1000 := by rw [ra.length]; exact hz.2.2
        by_cases big2 : vs ≠ [] ∧ 2 ≤ k
        · exact L2.op_repT pins s σ H _ _ v u Q I rx ry ⟨l, k, vs, rfl, rfl, hT, big2.1, big2.2, hz.2.1, hlen, fun q hq => h.newT le (ra.flat _) hq⟩
        · cases rx
          obtain ⟨t, rfl⟩ := ry
          obtain ⟨its, r, ⟨⟨cls, dd, data, sl⟩, ho, hc, n, hd⟩, hs⟩ := I.tuple hT
          simp only at hc hd
          subst hc hd
          have hle : its.length = vs.length := r.length.symm
          have c0 : (decide (k < -(2 ^ 63)) || decide (k ≥ 2 ^ 63)) = false := by
            rw [decide_eq_false (by omega), decide_eq_false (by omega)] <;> rfl
          by_cases c1 : (its.toArray.isEmpty || k == 1) = true
          · refine wpAny_binaryOp_repeat_ref (T := "tuple") (U := "int") (by decide) ⟨_, ho, rfl⟩ (fun s' => typeIs_int s' k t) L2.noFill_tuple_mul F.fills_int_mul F.slot_int_rmul L2.repeat_tuple F.slot_int_index.lookup
              (call_meets F.slot_int_rmul (typeIs_int s k t) F.entry_int_rmul (F.args_int_rmul_2 _ _) (L2.int_rmul_tuple k t l its.toArray n dd sl)
                ⟨ho, rfl, ⟨_, ho, rfl⟩, call_meets F.slot_tuple_mul ⟨_, ho, rfl⟩ F.entry_tuple_mul (F.args_tuple_mul_2 _ _) (tup_mul1 l its.toArray n dd sl k t c0 c1) ⟨ho, ?_⟩⟩)
            refine ⟨.ref l, H, I, rfl, h.leaf le ?_⟩
            rw [Bool.or_eq_true] at c1
            rcases c1 with c1 | c1
            · have e0 : its = [] := by simpa using c1
              have e1 : vs = [] := List.eq_nil_of_length_eq_zero (by rw [← hle, e0]; rfl)
              have e2 : aa = [] := List.eq_nil_of_length_eq_zero (by rw [← ra.length, e1]; rfl)
              have e3 : (List.replicate k.toNat ([] : List D)).flatten = [] := by simp
              rw [e2] at ra ⊢
              rw [e3]
              exact .tup ha ra
            · have e0 : k = 1 := by simpa using c1
              have e3 : (List.replicate k.toNat aa).flatten = aa := by rw [e0]; simp
              rw [e3]
              exact .tup ha ra
          · have c1' : (its.toArray.isEmpty || k == 1) = false := by simpa using c1
            have k0 : k = 0 := by
              rw [Bool.or_eq_false_iff] at c1'
              have n1 : vs ≠ [] := fun e => by
                have : its = [] := List.eq_nil_of_length_eq_zero (by rw [hle, e]; rfl)
                rw [this] at c1'
                exact absurd c1'.1 (by simp)
              have n2 : k ≠ 1 := fun e => by
                rw [e] at c1'
                exact absurd c1'.2 (by simp)
              have n3 : ¬ 2 ≤ k := fun e => big2 ⟨n1, e⟩
              omega
            have c2 : (decide (k ≤ 0) || its.toArray.isEmpty) = true := by rw [decide_eq_true (by omega)]; rfl
            refine wpAny_binaryOp_repeat_ref (T := "tuple") (U := "int") (by decide) ⟨_, ho, rfl⟩ (fun s' => typeIs_int s' k t) L2.noFill_tuple_mul F.fills_int_mul F.slot_int_rmul L2.repeat_tuple F.slot_int_index.lookup
              (call_meets F.slot_int_rmul (typeIs_int s k t) F.entry_int_rmul (F.args_int_rmul_2 _ _) (L2.int_rmul_tuple k t l its.toArray n dd sl)
                ⟨ho, rfl, ⟨_, ho, rfl⟩, call_meets F.slot_tuple_mul ⟨_, ho, rfl⟩ F.entry_tuple_mul (F.args_tuple_mul_2 _ _) (tup_mul0 l its.toArray n dd sl k t c0 c1' c2) ⟨ho, ?_⟩⟩)
            have e3 : (List.replicate k.toNat aa).flatten = [] := by rw [k0]; simp
            rw [e3] at h
            refine ⟨.ref s.heap.objs.size, _, I.laid (t' := s.toks) (o := .tup []) (fun b ob q => Heap.get?_push_of_some _ q) (Nat.le_refl _) ?_, rfl, h.newT le .nil (I.hok.fresh (Nat.le_refl _))⟩
            exact ⟨Nat.zero_le _, [], .nil, PyProof.Rows.IsTup.new _ _⟩
      · exact h.elim
  · rename_i aa k
    cases hx
    cases hy
    split at h
    · rename_i hz
      obtain ⟨t, rfl⟩ := rx
      obtain ⟨t', rfl⟩ := ry
      have lenb : ¬ k < 1 → aa.length * k.toNat ≤ 1000000 := fun _ => by
        have : aa.length * k.toNat ≤ 1000 * 1000 := Nat.mul_le_mul hz.2.2.1 (by omega)
        omega
      refine PySem.P.mul_str (by rw [decide_eq_false (by omega), decide_eq_false (by omega)]; rfl) (fun h1 _ => ?_) (fun h1 _ => ?_) ?_
      · have h2 : (1000 : Int) ≤ (2 ^ 63 - 1) / k := by
          rw [Int.le_ediv_iff_mul_le (by omega)]
          omega
        omega
      · unfold Builtin.Str.tooLong
        rw [sizeLine_eq]
        have := lenb h1
        exact decide_eq_false (by omega)
      · have hb : (repS k aa).length ≤ sizeLine := by rw [← big_eq]; exact hz.2.2.2
        have go : ∀ u, RelV (.str (repS k aa)) u → ∀ k', EP X pins σ Q u { s with toks := k' } := fun u r k' => ⟨.str (repS k aa), H, I.tok k', r, h.leaf le (.str _)⟩
        unfold repS at hb go
        split
        · rename_i h1
          rw [if_pos h1] at go hb
          exact ⟨hb, go _ ⟨_, rfl⟩ _⟩
        · rename_i h1
          rw [if_neg h1] at go hb
          split
          · rename_i h2
            rw [if_pos h2] at go hb
            exact go _ ⟨_, rfl⟩ s.toks
          · rename_i h2
            rw [if_neg h2] at go hb
            exact ⟨hb, go _ ⟨_, rfl⟩ _⟩
    · exact h.elim
  · exact h.elim
theorem op_fdivD : OpR X (binaryOp .FloorDiv) (rD p fdivD) := by
  intro pins s σ H x y v u Q I rx ry h
  obtain ⟨S, dx, dy, le, hx, hy, h⟩ := h
  unfold fdivD at h
  split at h
  · cases hx; cases hy
    split at h
    · rename_i a b hz
      have hl : b.natAbs < 2 ^ 200 := by omega
      exact op_fdivW pins s σ H _ _ v u Q I rx ry ⟨_, _, rfl, rfl, ⟨hz.1, Nat.lt_of_lt_of_le (PySem.Flt.log2_lt_of (by decide) hl) (by decide)⟩, h.leaf le (.int _)⟩
    · exact h.elim
  · exact h.elim
theorem op_modD : OpR X (binaryOp .Mod) (rD p modD) := by
  intro pins s σ H x y v u Q I rx ry h
  obtain ⟨S, dx, dy, le, hx, hy, h⟩ := h
  unfold modD at h
  split at h
  · cases hx; cases hy
    split at h
    · rename_i hz
      exact op_mod pins s σ H _ _ v u Q I rx ry ⟨_, _, rfl, rfl, hz, h.leaf le (.int _)⟩
    · exact h.elim
  · exact h.elim
theorem op_powD : OpR X (binaryOp .Pow) (rD p powD) := by
  intro pins s σ H x y v u Q I rx ry h
  obtain ⟨S, dx, dy, le, hx, hy, h⟩ := h
  unfold powD at h
  split at h
  · cases hx; cases hy
    split at h
    · rename_i hz
      exact op_pow pins s σ H _ _ v u Q I rx ry ⟨_, _, rfl, rfl, hz, h.leaf le (.int _)⟩
    · exact h.elim
  · exact h.elim
theorem op_ltD : OpR X (compareOp .Lt) (rD p ltD) := by
  intro pins s σ H x y v u Q I rx ry h
  obtain ⟨S, dx, dy, le, hx, hy, h⟩ := h
  unfold ltD at h
  split at h
  · cases hx; cases hy
    exact op_lt pins s σ H _ _ v u Q I rx ry ⟨_, _, rfl, rfl, h.leaf le (.bl _)⟩
  · exact h.elim
theorem op_leD : OpR X (compareOp .LtE) (rD p leD) := by
  intro pins s σ H x y v u Q I rx ry h
  obtain ⟨S, dx, dy, le, hx, hy, h⟩ := h
  unfold leD at h
  split at h
  · cases hx; cases hy
    exact op_le pins s σ H _ _ v u Q I rx ry ⟨_, _, rfl, rfl, h.leaf le (.bl _)⟩
  · exact h.elim
theorem op_gtD : OpR X (compareOp .Gt) (rD p gtD) := by
  intro pins s σ H x y v u Q I rx ry h
  obtain ⟨S, dx, dy, le, hx, hy, h⟩ := h
  unfold gtD at h
  split at h
  · cases hx; cases hy
    exact op_gt pins s σ H _ _ v u Q I rx ry ⟨_, _, rfl, rfl, h.leaf le (.bl _)⟩
  · exact h.elim
theorem op_geD : OpR X (compareOp .GtE) (rD p geD) := by
  intro pins s σ H x y v u Q I rx ry h
  obtain ⟨S, dx, dy, le, hx, hy, h⟩ := h
  unfold geD at h
  split at h
  · cases hx; cases hy
    exact op_ge pins s σ H _ _ v u Q I rx ry ⟨_, _, rfl, rfl, h.leaf le (.bl _)⟩
  · exact h.elim
theorem op_isD : OpR X (compareOp .Is) (rD p isD) := by
  intro pins s σ H x y v u Q I rx ry h
  obtain ⟨S, dx, dy, le, hx, hy, h⟩ := h
  unfold isD at h
  split at h <;> first | exact h.elim | (cases hx <;> cases hy <;> exact op_isN pins s σ H _ _ v u Q I rx ry ⟨rfl, h.leaf le (.bl _)⟩)
theorem op_isnotD : OpR X (compareOp .IsNot) (rD p (fun a b => notO (isD a b))) := by
  intro pins s σ H x y v u Q I rx ry h
  obtain ⟨S, dx, dy, le, hx, hy, h⟩ := h
  replace h : OutD p S H Q (notO (isD dx dy)) := h
  unfold isD at h
  split at h <;> first | exact h.elim | (cases hx <;> cases hy <;> exact op_notN pins s σ H _ _ v u Q I rx ry ⟨rfl, h.leaf le (.bl _)⟩)
end
end PL
namespace PL
open PySem PySem.Spec L2
/-! ### the heap's own reading of data -/
section
variable {X : Cx} {p : Pm} {pins : List (Addr × Obj)} {σ : L2.St} {S H : Hp} {s : Shared}
/-- sys.modules stands at its place -/
def Ms (base : Heap) : Prop := ∃ mm, base.Ns sysModules mm
theorem notSys (I : L2.Inv X pins σ H s) (hM : Ms X.base) {a : Addr} {o : Obj} {vs : Array Value} {n : Nat} (e : s.heap.get? a = some o) (d : o.data = .seq vs n) : a ≠ sysModules := fun z => by
  obtain ⟨mm, o2, es, ep, e2, d2, _⟩ := hM
  have e3 := I.bk _ _ e2
  rw [z, e3] at e
  cases e
  rw [d2] at d
  cases d
theorem ky_read {h : Heap} {e : D} {k : Key} {u : Value} {q : PyData} (hk : KyR e k) (hu : keyIs k u = true) (hq : py e = some q) : Reads h u q [] := by
  cases hk with
  | int i =>
    rcases keyIs_shape hu with ⟨j, t, z, rfl⟩ | ⟨j, t, z, rfl⟩
    · cases z; simp [py] at hq; subst hq; exact .int i t
    · cases z
  | str i =>
    rcases keyIs_shape hu with ⟨j, t, z, rfl⟩ | ⟨j, t, z, rfl⟩
    · cases z
    · cases z; simp [py] at hq; subst hq; exact .str i t
theorem kyV_read {h : Heap} : ∀ {es : List D} {ks : List Key} {us : List Value} {qs : List PyData}, Paired KyR es ks → Vals (ks.map kV) us → pys es = some qs → ReadsAll h us qs []
  | _, _, _, _, .nil, r, e => by cases r; simp [pys] at e; subst e; exact .nil
  | _, _, _, _, .cons a b, r, e => by
    cases r with
    | cons r1 r2 =>
      simp only [pys] at e
      split at e
      · rename_i q1 q2 e1 e2
        cases e
        have h2 := kyV_read (h := h) b r2 e2
        refine ReadsAll.cons (as := []) (bs := []) ?_ h2
        cases a with
        | int i => obtain ⟨t, rfl⟩ := r1; simp [py] at e1; subst e1; exact .int i t
        | str i => obtain ⟨t, rfl⟩ := r1; simp [py] at e1; subst e1; exact .str i t
      · cases e
mutual
theorem Rep.reads (I : L2.Inv X pins σ H s) (hK : X.K = p.K) (hM : Ms X.base) (le : Le S H) : ∀ {v : V} {d : D} {u : Value} {q : PyData}, Rep p.K p.cl S v d → RelV v u → py d = some q → ∃ as, Reads s.heap u q as ∧ sysModules ∉ as
  | _, _, _, _, .non, r, e => by cases r; simp [py] at e; subst e; exact ⟨_, .none, by simp⟩
  | _, _, _, _, .bl b, r, e => by cases r; simp [py] at e; subst e; exact ⟨_, .bool b, by simp⟩
  | _, _, _, _, .int b, r, e => by obtain ⟨t, rfl⟩ := r; simp [py] at e; subst e; exact ⟨_, .int b t, by simp⟩
  | _, _, _, _, .str b, r, e => by obtain ⟨t, rfl⟩ := r; simp [py] at e; subst e; exact ⟨_, .str b t, by simp⟩
  | _, _, _, _, .ty _, r, e => by simp [py] at e
  | _, _, _, _, .scr _, r, e => by simp [py] at e
  | _, _, _, _, .obj .., r, e => by simp [py] at e
  | _, _, _, _, .dicT ha ra, r, e => by
    cases r
    simp only [py, Option.map_eq_some_iff] at e
    obtain ⟨qs, e1, rfl⟩ := e
    obtain ⟨_, ns, xs, pr, o, es, ep, ho, hx, hd, hh, _⟩ := I.hok _ _ (le _ _ ha)
    obtain ⟨as, bs, h1, h2, n1, n2⟩ := RepT.reads I hK hM le ra pr e1
    have n0 : _ ≠ sysModules := beq_eq_false_iff_ne.mp ns
    refine ⟨_, Reads.dict ho hx.1 hd (by rw [hh]; exact h1) (by rw [hh]; exact h2), ?_⟩
    simp only [List.cons_append, List.mem_cons, List.mem_append, not_or]
    exact ⟨fun z => n0 z.symm, n1, n2⟩
  | _, _, _, _, .lst ha ra, r, e => by
    cases r
    simp only [py, Option.map_eq_some_iff] at e
    obtain ⟨qs, e1, rfl⟩ := e
    obtain ⟨its, rv, ⟨o, n, ho, hc, _, hd⟩, _⟩ := I.list (SqL.of (le _ _ ha))
    obtain ⟨as, hr, hn⟩ := Reps.reads I hK hM le ra rv e1
    exact ⟨_, Reads.list ho hc hd hr, by simp only [List.mem_cons, not_or]; exact ⟨fun z => notSys I hM ho hd z.symm, hn⟩⟩
  | _, _, _, _, .tup ha ra, r, e => by
    cases r
    simp only [py, Option.map_eq_some_iff] at e
    obtain ⟨qs, e1, rfl⟩ := e
    have ha' := le.sqT ha
    rw [← hK] at ha'
    obtain ⟨its, rv, ⟨o, ho, hc, n, hd⟩, _⟩ := I.tuple ha'
    obtain ⟨as, hr, hn⟩ := Reps.reads I hK hM le ra rv e1
    exact ⟨_, Reads.tuple ho hc hd hr, hn⟩
  | _, _, _, _, .dicK ha ra, r, e => by
    cases r
    simp only [py, Option.map_eq_some_iff] at e
    obtain ⟨qs, e1, rfl⟩ := e
    obtain ⟨_, ns, vs, kv, o, es, ep, ho, hx, hd, _, hp, _⟩ := I.hok _ _ (le _ _ ha)
    obtain ⟨as, bs, h1, h2, n1, n2⟩ := RepK.reads I hK hM le ra kv hp e1
    have n0 : _ ≠ sysModules := beq_eq_false_iff_ne.mp ns
    refine ⟨_, Reads.dict ho hx.1 hd h1 h2, ?_⟩
    simp only [List.cons_append, List.mem_cons, List.mem_append, not_or]
    exact ⟨fun z => n0 z.symm, n1, n2⟩
theorem Reps.reads (I : L2.Inv X pins σ H s) (hK : X.K = p.K) (hM : Ms X.base) (le : Le S H) : ∀ {v : List V} {d : List D} {u : List Value} {q : List PyData}, Reps p.K p.cl S v d → Vals v u → pys d = some q → ∃ as, ReadsAll s.heap u q as ∧ sysModules ∉ as
  | _, _, _, _, .nil, r, e => by cases r; simp [pys] at e; subst e; exact ⟨_, .nil, by simp⟩
  | _, _, _, _, .cons a b, r, e => by
    cases r with
    | cons r1 r2 =>
      simp only [pys] at e
      split at e
      · rename_i q1 q2 e1 e2
        cases e
        obtain ⟨as, h1, n1⟩ := Rep.reads I hK hM le a r1 e1
        obtain ⟨bs, h2, n2⟩ := Reps.reads I hK hM le b r2 e2
        exact ⟨_, .cons h1 h2, by simp [n1, n2]⟩
      · cases e
theorem RepK.reads (I : L2.Inv X pins σ H s) (hK : X.K = p.K) (hM : Ms X.base) (le : Le S H) : ∀ {v : List (Key × V)} {d : List (D × D)} {vs : List (Key × Value)} {es : List DictEntry} {q : List (PyData × PyData)},
    RepK p.K p.cl S v d → KV v vs → Pairs (mixKind X.prog X.w) es vs → pyk d = some q → ∃ as bs, ReadsAll s.heap (es.map (·.key)) (q.map (·.1)) as ∧ ReadsAll s.heap (es.map (·.val)) (q.map (·.2)) bs ∧ sysModules ∉ as ∧ sysModules ∉ bs
  | _, _, _, _, _, .nil, r, pr, e => by cases r; cases pr; simp [pyk] at e; subst e; exact ⟨[], [], .nil, .nil, by simp, by simp⟩
  | _, _, _, _, _, .cons k a b, r, pr, e => by
    cases r with
    | cons r1 r2 =>
      cases pr with
      | cons p1 p2 p3 =>
        simp only [pyk] at e
        split at e
        · rename_i q0 q1 q2 e0 e1 e2
          cases e
          obtain ⟨hk, hv⟩ := r1
          obtain ⟨as, h1, n1⟩ := Rep.reads I hK hM le a hv e1
          obtain ⟨bs, cs, h2, h3, n2, n3⟩ := RepK.reads I hK hM le b r2 p3 e2
          replace hk : _ = _ := hk
          dsimp only at hk
          subst hk
          have h0 := ky_read (h := s.heap) k p1 e0
          exact ⟨[] ++ bs, as ++ cs, .cons h0 h2, .cons (by dsimp only; rw [p2]; exact h1) h3, by simp [n2], by simp [n1, n3]⟩
        · cases e
theorem RepT.reads (I : L2.Inv X pins σ H s) (hK : X.K = p.K) (hM : Ms X.base) (le : Le S H) : ∀ {v : List (List Key × V)} {d : List (D × D)} {xs : List (List Key × Addr × Value)} {q : List (PyData × PyData)},
    RepT p.K p.cl S v d → Paired (fun (p : List Key × V) (q : List Key × Addr × Value) => p.1 = q.1 ∧ H q.2.1 = some (.tup (p.1.map kV)) ∧ RelV p.2 q.2.2) v xs → pyk d = some q →
    ∃ as bs, ReadsAll s.heap ((xs.map (entryOfKey (tupleKind (mixKind X.prog X.w)))).map (·.key)) (q.map (·.1)) as ∧ ReadsAll s.heap ((xs.map (entryOfKey (tupleKind (mixKind X.prog X.w)))).map (·.val)) (q.map (·.2)) bs ∧ sysModules ∉ as ∧ sysModules ∉ bs
  | _, _, _, _, .nil, r, e => by cases r; simp [pyk] at e; subst e; exact ⟨[], [], .nil, .nil, by simp, by simp⟩
  | _, _, _, _, .cons k a b, r, e => by
    cases r with
    | cons r1 r2 =>
      simp only [pyk, py] at e
      split at e
      · rename_i q0 q1 q2 e0 e1 e2
        cases e
        obtain ⟨hk, ht, hv⟩ := r1
        simp only [Option.map_eq_some_iff] at e0
        obtain ⟨qs, e0, rfl⟩ := e0
        obtain ⟨its, rv, ⟨o, ho, hc, n, hd⟩, _⟩ := I.tuple (SqT.of ht)
        have h0 : Reads s.heap (.ref _) (.tuple qs) [] := Reads.tuple ho hc hd (kyV_read k rv e0)
        obtain ⟨as, h1, n1⟩ := Rep.reads I hK hM le a hv e1
        obtain ⟨bs, cs, h2, h3, n2, n3⟩ := RepT.reads I hK hM le b r2 e2
        exact ⟨[] ++ bs, as ++ cs, .cons h0 h2, .cons h1 h3, by simp [n2], by simp [n1, n3]⟩
      · cases e
end
end
section
variable {X : Cx} {p : Pm}
theorem dec_str {x y : Str} : decide (V.str x = V.str y) = (x == y) := by
  rw [Bool.eq_iff_iff]
  simp
theorem op_eqDD (hK : X.K = p.K) (hM : Ms X.base) (hu : X.A.units + 64 < cLine) : OpR X (compareOp .Eq) (rD p eqD) := by
  intro pins s σ H x y v u Q I rx ry h
  obtain ⟨S, dx, dy, le, hx, hy, h⟩ := h
  unfold eqD at h
  split at h
  · cases hx; cases hy
    exact op_eq pins s σ H _ _ v u Q I rx ry ⟨rfl, by rw [dec_str]; exact h.leaf le (.bl _)⟩
  · unfold eqG at h
    split at h
    · rename_i q1 q2 e1 e2
      split at h
      · rename_i hz
        rw [Bool.and_eq_true] at hz
        obtain ⟨as, r1, _⟩ := hx.reads I hK hM le rx e1
        obtain ⟨bs, r2, _⟩ := hy.reads I hK hM le ry e2
        exact SeqAt.compareEq_shaped r1 r2 hz.1 hz.2 hu ⟨.bl _, H, I, rfl, h.leaf le (.bl _)⟩
      · exact h.elim
    · exact h.elim
theorem op_neDD (hK : X.K = p.K) (hM : Ms X.base) (hu : X.A.units + 64 < cLine) : OpR X (compareOp .NotEq) (rD p (fun a b => notO (eqD a b))) := by
  intro pins s σ H x y v u Q I rx ry h
  obtain ⟨S, dx, dy, le, hx, hy, h⟩ := h
  replace h : OutD p S H Q (notO (eqD dx dy)) := h
  unfold eqD at h
  split at h
  · cases hx; cases hy
    exact op_ne pins s σ H _ _ v u Q I rx ry ⟨rfl, by rw [dec_str]; exact h.leaf le (.bl _)⟩
  · unfold eqG at h
    split at h
    · rename_i q1 q2 e1 e2
      split at h
      · rename_i hz
        rw [Bool.and_eq_true] at hz
        obtain ⟨as, r1, _⟩ := hx.reads I hK hM le rx e1
        obtain ⟨bs, r2, _⟩ := hy.reads I hK hM le ry e2
        exact SeqAt.compareNe_shaped r1 r2 hz.1 hz.2 hu ⟨.bl _, H, I, rfl, h.leaf le (.bl _)⟩
      · exact h.elim
    · exact h.elim
theorem op_eqEE (hK : X.K = p.K) (hM : Ms X.base) (hu : X.A.units + 64 < cLine) : OpR X (compareOp .Eq) (rD p eqE) := by
  intro pins s σ H x y v u Q I rx ry h
  obtain ⟨S, dx, dy, le, hx, hy, h⟩ := h
  unfold eqE at h
  split at h
  · split at h
    · exact op_eqDD hK hM hu pins s σ H _ _ v u Q I rx ry ⟨S, _, _, le, hx, hy, h⟩
    · rename_i hz
      cases hx with
      | lst ha ra =>
        cases hy with
        | lst hb rb =>
          cases rx
          cases ry
          obtain ⟨i1, r1, p1, _⟩ := I.list (SqL.of (K := X.K) (le _ _ ha))
          obtain ⟨i2, r2, p2, _⟩ := I.list (SqL.of (K := X.K) (le _ _ hb))
          have hl : (i1.toArray.size != i2.toArray.size) = true := by
            have e1 := r1.length
            have e2 := r2.length
            have e3 := ra.length
            have e4 := rb.length
            simp only [List.size_toArray, bne_iff_ne, ne_eq]
            omega
          exact SeqAt.eq_list_lengthsAt p1.isList p2.isList hl (by omega) ⟨.bl false, H, I, rfl, h.leaf le (.bl _)⟩
  · exact op_eqDD hK hM hu pins s σ H _ _ v u Q I rx ry ⟨S, _, _, le, hx, hy, h⟩
end
end PL

end
-- text PL4
section
set_option linter.all false
set_option maxRecDepth 100000
set_option maxHeartbeats 4000000
namespace PL
open PySem PySem.Spec L2

/-! ### truth, tests -/
def truD : D → Option Bool
  | .non => some false
  | .bl b => some b
  | .int i => some (i != 0)
  | .str x => if x.length ≤ big then some (x.length != 0) else none
  | .lst xs => some (!xs.isEmpty)
  | .tup xs => some (!xs.isEmpty)
  | _ => none
section
variable {X : Cx} {p : Pm} {W : WX}
theorem isEmp {K : PySem.W.Frag} {cl : Str → Option Addr} {S : Hp} {v : List V} {d : List D} (r : Reps K cl S v d) : v.isEmpty = d.isEmpty := by cases r <;> rfl
theorem tru_of (hK : X.K = p.K) {S H : Hp} {x : V} {d : D} {b : Bool} (le : Le S H) (r : Rep p.K p.cl S x d) (h : truD d = some b) : TruV X.K x H b := by
  cases r with
  | non => cases h; rfl
  | bl c => cases h; rfl
  | int i => cases h; rfl
  | str y =>
    simp only [truD] at h
    split at h
    · cases h
      refine ⟨by rw [← big_eq]; assumption, ?_⟩
      cases e : y.length with
      | zero => rfl
      | succ n => simp; omega
    · cases h
  | lst ha ra => cases h; exact .inl ⟨_, SqL.of (le _ _ ha), by rw [isEmp ra]⟩
  | tup ha ra => cases h; exact .inr (.inl ⟨_, by rw [hK]; exact le.sqT ha, by rw [isEmp ra]⟩)
  | _ => cases h
theorem PoT.mono {σ : L2.St} {S H : Hp} {R : List Addr} {Q Q' : Bool → Hp → Prop} {r : Rs Bool} (h : PoT p W σ S H R Q r) (k : ∀ v H1, Q v H1 → Q' v H1) : PoT p W σ S H R Q' r := by
  cases r with
  | bad => exact h
  | ok d ρ => exact fun S' H' R' a b => k _ _ (h S' H' R' a b)
  | ex x ρ => exact h
theorem PoA.mono {σ : L2.St} {S H : Hp} {R : List Addr} {Q Q' : List V → Hp → Prop} {r : Rs (List D)} (h : PoA p W σ S H R Q r) (k : ∀ v H1, Q v H1 → Q' v H1) : PoA p W σ S H R Q' r := by
  cases r with
  | bad => exact h
  | ok d ρ => exact fun S' H' R' v a b c => k _ _ (h S' H' R' v a b c)
  | ex x ρ => exact h
theorem PoO.mono {σ : L2.St} {S H : Hp} {R : List Addr} {Q Q' : VK} {r : Rs O} (h : PoO p W σ S H R Q r) (k : ∀ v H1, Q v H1 → Q' v H1) : PoO p W σ S H R Q' r := by
  cases r with
  | bad => exact h
  | ok d ρ => exact fun S' H' R' v Rv a b c d e => k _ _ (h S' H' R' v Rv a b c d e)
  | ex x ρ => exact h
/-- the truth of a value -/
def mTru (f : M D) : M Bool := f.bnd fun x => lift (truD x)
theorem dt_truth (hK : X.K = p.K) {a : Expr} {f : M D} (ha : PE X a (tD p W f)) (he : ∀ whole, isTrue a X.env whole = (do let v ← whole; standAt a.pos; holding [v] (truthy v))) : PT X a (tDT p W (mTru f)) :=
  PT.imp (pt_truth ha he) fun σ H Q h => by
    obtain ⟨ρ, S, R, w, h⟩ := h
    refine ⟨ρ, S, R, w, (isT.bE h).mono fun v H1 ⟨d, ρ1, S1, R1, r1, t1, w1, h1⟩ => ?_⟩
    cases e : truD d with
    | none => rw [e] at h1; exact h1.elim
    | some b =>
      rw [e] at h1
      exact ⟨b, tru_of hK w1.le r1 e, h1 S1 H1 R1 Stp.refl w1⟩
/-- a comparison as a test -/
def asB : D → M Bool
  | .bl b => M.ret b
  | _ => M.bad
def mTst (f : M D) : M Bool := f.bnd asB
theorem tTest_imp {f : M D} {σ : L2.St} {H : Hp} {Q : Bool → Hp → Prop} (h : tDT p W (mTst f) σ H Q) : tTest (tD p W f) σ H Q := by
  obtain ⟨ρ, S, R, w, h⟩ := h
  refine ⟨ρ, S, R, w, (isT.bE h).mono fun v H1 ⟨d, ρ1, S1, R1, r1, t1, w1, h1⟩ => ?_⟩
  unfold asB at h1
  split at h1
  · cases r1
    exact ⟨_, rfl, h1 S1 H1 R1 Stp.refl w1⟩
  · exact h1.elim
theorem dt_cmp {a b : Expr} {op : CmpOp} {pos : Pos} {fa fb : M D} {g : D → D → Option D} (ho : OpR X (compareOp op) (rD p g)) (ha : PE X a (tD p W fa)) (hb : PE X b (tD p W fb)) (hm : behindInMarks op b = false) :
    PT X (.Compare a [op] [b] pos) (tDT p W (mTst (fa.bnd fun x => fb.bnd fun y => lift (g x y)))) := PT.imp (pt_cmpR ho ha hb hm) fun σ H Q h => by
  obtain ⟨ρ, S, R, w, h⟩ := tTest_imp h
  exact tOp_imp ⟨ρ, S, R, w, h⟩
/-! and, or, not as tests -/
def mAnd (f g : M Bool) : M Bool := f.bnd fun b => if b then g else M.ret false
def mOr (f g : M Bool) : M Bool := f.bnd fun b => if b then M.ret true else g
def mNot (f : M Bool) : M Bool := f.bnd fun b => M.ret (!b)
theorem dw_one {op : BoolOp} {a : Expr} {pos : Pos} {f : M Bool} (ha : PT X a (tDT p W f)) : PW X (.BoolOp op [a] pos) (tDT p W f) := by
  cases op
  · exact pw_and1 ha
  · exact pw_or1 ha
theorem PW.imp {X : Cx} {e : Expr} {t t' : TT} (h : PW X e t) (k : ∀ σ H Q, t' σ H Q → t σ H Q) : PW X e t' := ⟨fun wh pins s σ H Q I q => h.run wh pins s σ H Q I (k σ H Q q)⟩
theorem dw_and {a b : Expr} {rest : List Expr} {pos : Pos} {f g : M Bool} (ha : PT X a (tDT p W f)) (hb : PW X (.BoolOp .And (b :: rest) pos) (tDT p W g)) : PW X (.BoolOp .And (a :: b :: rest) pos) (tDT p W (mAnd f g)) :=
  PW.imp (pw_and ha hb) fun σ H Q h => by
    obtain ⟨ρ, S, R, w, h⟩ := h
    refine ⟨ρ, S, R, w, (isT.bT h).mono fun c H1 ⟨ρ1, S1, R1, t1, w1, h1⟩ => ?_⟩
    cases c with
    | true => exact ⟨ρ1, S1, R1, w1, h1⟩
    | false => exact h1 S1 H1 R1 Stp.refl w1
theorem dw_or {a b : Expr} {rest : List Expr} {pos : Pos} {f g : M Bool} (ha : PT X a (tDT p W f)) (hb : PW X (.BoolOp .Or (b :: rest) pos) (tDT p W g)) : PW X (.BoolOp .Or (a :: b :: rest) pos) (tDT p W (mOr f g)) :=
  PW.imp (pw_or ha hb) fun σ H Q h => by
    obtain ⟨ρ, S, R, w, h⟩ := h
    refine ⟨ρ, S, R, w, (isT.bT h).mono fun c H1 ⟨ρ1, S1, R1, t1, w1, h1⟩ => ?_⟩
    cases c with
    | false => exact ⟨ρ1, S1, R1, w1, h1⟩
    | true => exact h1 S1 H1 R1 Stp.refl w1
theorem dt_not {a : Expr} {pos : Pos} {f : M Bool} (ha : PT X a (tDT p W f)) : PT X (.UnaryOp .Not a pos) (tDT p W (mNot f)) :=
  PT.imp (pt_not ha) fun σ H Q h => by
    obtain ⟨ρ, S, R, w, h⟩ := h
    exact ⟨ρ, S, R, w, (isT.bT h).mono fun c H1 ⟨ρ1, S1, R1, t1, w1, h1⟩ => h1 S1 H1 R1 Stp.refl w1⟩
/-! .. as values -/
def mAndV (f g : M D) : M D := f.bnd fun x => (lift (truD x)).bnd fun t => if t then g else M.ret x
def mOrV (f g : M D) : M D := f.bnd fun x => (lift (truD x)).bnd fun t => if t then M.ret x else g
def mNotV (f : M D) : M D := f.bnd fun x => (lift (truD x)).bnd fun t => M.ret (.bl (!t))
theorem de_one {op : BoolOp} {a : Expr} {pos : Pos} {f : M D} (ha : PE X a (tD p W f)) : PE X (.BoolOp op [a] pos) (tD p W f) := pe_one ha
theorem de_and (hK : X.K = p.K) {a b : Expr} {rest : List Expr} {pos : Pos} {f g : M D} (ha : PE X a (tD p W f)) (hb : PE X (.BoolOp .And (b :: rest) pos) (tD p W g)) : PE X (.BoolOp .And (a :: b :: rest) pos) (tD p W (mAndV f g)) :=
  PE.imp (pe_andT ha hb) fun σ H Q h => by
    obtain ⟨ρ, S, R, w, h⟩ := h
    refine ⟨ρ, S, R, w, (isE.bE h).mono fun v H1 ⟨d, ρ1, S1, R1, r1, t1, w1, h1⟩ => ?_⟩
    cases e : truD d with
    | none => rw [e] at h1; exact h1.elim
    | some b =>
      rw [e] at h1
      refine ⟨b, tru_of hK w1.le r1 e, ?_⟩
      cases b with
      | true => exact ⟨ρ1, S1, R1, w1, h1⟩
      | false => exact h1 S1 H1 R1 v Stp.refl w1 r1
theorem de_or (hK : X.K = p.K) {a b : Expr} {rest : List Expr} {pos : Pos} {f g : M D} (ha : PE X a (tD p W f)) (hb : PE X (.BoolOp .Or (b :: rest) pos) (tD p W g)) : PE X (.BoolOp .Or (a :: b :: rest) pos) (tD p W (mOrV f g)) :=
  PE.imp (pe_orT ha hb) fun σ H Q h => by
    obtain ⟨ρ, S, R, w, h⟩ := h
    refine ⟨ρ, S, R, w, (isE.bE h).mono fun v H1 ⟨d, ρ1, S1, R1, r1, t1, w1, h1⟩ => ?_⟩
    cases e : truD d with
    | none => rw [e] at h1; exact h1.elim
    | some b =>
      rw [e] at h1
      refine ⟨b, tru_of hK w1.le r1 e, ?_⟩
      cases b with
      | false => exact ⟨ρ1, S1, R1, w1, h1⟩
      | true => exact h1 S1 H1 R1 v Stp.refl w1 r1
theorem de_not (hK : X.K = p.K) {a : Expr} {pos : Pos} {f : M D} (ha : PE X a (tD p W f)) : PE X (.UnaryOp .Not a pos) (tD p W (mNotV f)) :=
  PE.imp (pe_notT ha) fun σ H Q h => by
    obtain ⟨ρ, S, R, w, h⟩ := h
    refine ⟨ρ, S, R, w, (isE.bE h).mono fun v H1 ⟨d, ρ1, S1, R1, r1, t1, w1, h1⟩ => ?_⟩
    cases e : truD d with
    | none => rw [e] at h1; exact h1.elim
    | some b =>
      rw [e] at h1
      exact ⟨b, tru_of hK w1.le r1 e, h1 S1 H1 R1 _ Stp.refl w1 (.bl _)⟩
/-- a if t else b -/
def mIf {α : Type} (t : M Bool) (a b : M α) : M α := t.bnd fun c => if c then a else b
theorem de_if {c a b : Expr} {pos : Pos} {t : M Bool} {f g : M D} (hc : PT X c (tDT p W t)) (ha : PE X a (tD p W f)) (hb : PE X b (tD p W g)) : PE X (.IfExp c a b pos) (tD p W (mIf t f g)) :=
  PE.imp (pe_ifExp hc ha hb) fun σ H Q h => by
    obtain ⟨ρ, S, R, w, h⟩ := h
    refine ⟨ρ, S, R, w, (isE.bT h).mono fun c H1 ⟨ρ1, S1, R1, t1, w1, h1⟩ => ?_⟩
    cases c with
    | true => exact ⟨ρ1, S1, R1, w1, h1⟩
    | false => exact ⟨ρ1, S1, R1, w1, h1⟩

/-! ### argument lists and displays -/
def mNil : M (List D) := M.ret []
def mCons (f : M D) (g : M (List D)) : M (List D) := f.bnd fun x => g.bnd fun xs => M.ret (x :: xs)
theorem da_nil : PA X [] (tDA p W mNil) := PA.imp pa_nil fun σ H Q ⟨ρ, S, R, w, h⟩ => h S H R [] Stp.refl w .nil
theorem da_cons {e : Expr} {es : List Expr} {f : M D} {g : M (List D)} (ha : PE X e (tD p W f)) (hr : PA X es (tDA p W g)) (hs : starEach (e :: es) X.env = (false, eval e X.env) :: starEach es X.env) : PA X (e :: es) (tDA p W (mCons f g)) :=
  PA.imp (pa_cons ha hr hs) fun σ H Q h => by
    obtain ⟨ρ, S, R, w, h⟩ := h
    refine ⟨ρ, S, R, w, (isA.bE h).mono fun v H1 ⟨d, ρ1, S1, R1, r1, t1, w1, h1⟩ => ?_⟩
    refine ⟨ρ1, S1, R1, w1, (isA.bA h1).mono fun vs H2 ⟨ds, ρ2, S2, R2, r2, t2, w2, h2⟩ => ?_⟩
    exact h2 S2 H2 R2 _ Stp.refl w2 (.cons (r1.up t2.s) r2)
def szD {α : Type} (xs : List D) (r : α) : Option α := if xs.length ≤ big then some r else none
def mTup (f : M (List D)) : M D := f.bnd fun xs => lift (szD xs (.tup xs))
/-- a new list that nobody else holds -/
def mLst (f : M (List D)) : M O := f.bnd fun xs => lift (szD xs (.own (xs.map .dat)))
theorem de_tup {es : List Expr} {x1 : Nat} {pos : Pos} {f : M (List D)} (ha : PA X es (tDA p W f)) : PE X (.Tuple es x1 pos) (tD p W (mTup f)) :=
  PE.imp (pe_tup ha) fun σ H Q h => by
    obtain ⟨ρ, S, R, w, h⟩ := h
    refine ⟨ρ, S, R, w, (isE.bA h).mono fun vs H1 ⟨ds, ρ1, S1, R1, r1, t1, w1, h1⟩ => ?_⟩
    unfold szD at h1
    split at h1
    · rename_i hz
      exact ⟨by rw [r1.length, ← big_eq]; exact hz, fun q hq => (OutD.of w1 h1).newT w1.le r1 hq⟩
    · exact h1.elim
theorem Reps.ows {K : PySem.W.Frag} {cl : Str → Option Addr} {S H : Hp} : ∀ {v : List V} {d : List D}, Reps K cl S v d → Ows K cl S H v (d.map .dat) []
  | _, _, .nil => .nil
  | _, _, .cons a b => Ows.cons (R := []) (.dat a) (Reps.ows b)
/-- a new list is owned -/
theorem PoO.new {σ : L2.St} {S H : Hp} {R : List Addr} {ρ : Rho} {Q : VK} {os : List O} {vs : List V} {q : Addr} (w : Wd p S H σ ρ R) (h : PoO p W σ S H R Q (.ok (.own os) ρ)) (hq : H q = none) (r : Ows p.K p.cl S (upd H q (.lst vs)) vs os []) : Q (.ref q) (upd H q (.lst vs)) := by
  have kp : Le H (upd H q (.lst vs)) := fun b o e => by rw [upd_ne (ne_of_none e hq)]; exact e
  have sn : S q = none := by
    cases e : S q with
    | none => rfl
    | some u => rw [w.le _ _ e] at hq; cases hq
  have hR : q ∉ R := fun z => w.sl.there q z hq
  refine h S _ R _ [q] ⟨Le.refl _, fun b _ z => .inl z, fun b o e _ => kp b o e, fun b hb => ?_, fun b z => ?_⟩ ⟨w.le.trans kp, w.sl.up (Le.refl _) fun a _ u e => kp a u e, w.nd, w.ap, w.io⟩ (.own upd_same r) ?_ (fun a ha => ?_)
  · rcases List.mem_append.mp hb with z | z
    · exact .inl z
    · simp only [List.mem_singleton] at z; subst z; exact .inr hq
  · cases e : H b with
    | none => rfl
    | some u => rw [kp _ _ e] at z; cases z
  · exact List.nodup_append.mpr ⟨w.nd, by simp, fun a h1 b h2 e => by simp only [List.mem_singleton] at h2; subst h2; subst e; exact hR h1⟩
  · simp only [List.mem_singleton] at ha; subst ha; exact sn
theorem do_lst {es : List Expr} {pos : Pos} {f : M (List D)} (ha : PA X es (tDA p W f)) : PE X (.List es pos) (tDO p W (mLst f)) :=
  PE.imp (pe_lst ha) fun σ H Q h => by
    obtain ⟨ρ, S, R, w, h⟩ := h
    refine ⟨ρ, S, R, w, (isO.bA h).mono fun vs H1 ⟨ds, ρ1, S1, R1, r1, t1, w1, h1⟩ => ?_⟩
    unfold szD at h1
    split at h1
    · rename_i hz
      exact ⟨by rw [r1.length, ← big_eq]; exact hz, fun q hq => PoO.new w1 h1 hq r1.ows⟩
    · exact h1.elim
end
end PL

end
-- text PL5
section
set_option linter.all false
set_option maxRecDepth 100000
set_option maxHeartbeats 4000000
namespace PL
open PySem PySem.Spec L2

/-! ### subscripts -/
def chr1 (c : Nat) : D := .str ⟨#[c]⟩
def ixD : D → D → Option D
  | .lst xs, .int i => atI xs i
  | .tup xs, .int i => atI xs i
  | .str z, .int i => if z.length ≤ big then (atI z.cps.toList i).map chr1 else none
  | .scr ns, .int i => (atI ns i).map .int
  | _, _ => none
theorem Reps.atI {K : PySem.W.Frag} {cl : Str → Option Addr} {S : Hp} {vs : List V} {ds : List D} (r : Reps K cl S vs ds) {i : Int} {d : D} (h : L2.atI ds i = some d) : ∃ v, L2.atI vs i = some v ∧ Rep K cl S v d := by
  unfold L2.atI at h ⊢
  rw [r.length]
  cases e : ixN ds.length i with
  | none => rw [e] at h; cases h
  | some j =>
    rw [e] at h
    obtain ⟨v, h1, h2⟩ := r.get h
    exact ⟨v, h1, h2⟩
theorem atI_map {α β : Type} {f : α → β} {xs : List α} {i : Int} : L2.atI (xs.map f) i = (L2.atI xs i).map f := by
  unfold L2.atI
  rw [List.length_map]
  cases ixN xs.length i with
  | none => rfl
  | some j => simp
section
variable {X : Cx} {p : Pm} {W : WX}
theorem ix_D (hK : X.K = p.K) : IxR X (rD p ixD) := by
  intro value slice pins s σ H x y v u Q I rx ry h hs
  obtain ⟨S, dx, dy, le, hx, hy, h⟩ := h
  unfold ixD at h
  split at h
  · cases hx with
    | lst ha ra =>
      cases hy
      rename_i xs i a vs
      cases e : L2.atI xs i with
      | none => rw [e] at h; exact h.elim
      | some d =>
        rw [e] at h
        obtain ⟨z, e1, r1⟩ := ra.atI e
        exact ix_list value slice pins s σ H _ _ v u Q I rx ry ⟨_, _, _, z, rfl, rfl, SqL.of (le _ _ ha), e1, h.leaf le r1⟩ hs
  · cases hx with
    | tup ha ra =>
      cases hy
      rename_i xs i a vs
      have ha' := le.sqT ha
      rw [← hK] at ha'
      cases e : L2.atI xs i with
      | none => rw [e] at h; exact h.elim
      | some d =>
        rw [e] at h
        obtain ⟨z, e1, r1⟩ := ra.atI e
        exact ix_tup value slice pins s σ H _ _ v u Q I rx ry ⟨_, _, _, z, rfl, rfl, ha', e1, h.leaf le r1⟩ hs
  · cases hx; cases hy
    rename_i z i
    split at h
    · rename_i hz
      cases e : L2.atI z.cps.toList i with
      | none => rw [e] at h; exact h.elim
      | some c =>
        rw [e] at h
        exact ix_str value slice pins s σ H _ _ v u Q I rx ry ⟨_, _, c, rfl, rfl, by rw [← big_eq]; exact hz, e, h.leaf le (.str _)⟩ hs
    · exact h.elim
  · cases hx with
    | scr ha =>
      cases hy
      rename_i ns i a
      have ha' := le.sqL ha
      rw [← hK] at ha'
      cases e : L2.atI ns i with
      | none => rw [e] at h; exact h.elim
      | some d =>
        rw [e] at h
        exact ix_list value slice pins s σ H _ _ v u Q I rx ry ⟨_, _, _, _, rfl, rfl, ha', by rw [atI_map, e]; rfl, h.leaf le (.int _)⟩ hs
  · exact h.elim
theorem de_ix (hK : X.K = p.K) {a b : Expr} {pos : Pos} {fa fb : M D} (ha : PE X a (tD p W fa)) (hb : PE X b (tD p W fb)) (hs : PlainIx b) : PE X (.Subscript a b pos) (tD p W (fa.bnd fun x => fb.bnd fun y => lift (ixD x y))) :=
  PE.imp (pe_ix (ix_D hK) ha hb hs) fun _ _ _ h => tOp_imp h
/-- an item of an owned list that is read by its name -/
def ownAt (i : Nat) (y : D) : M D := fun ρ => match ρ[i]? with
  | some (some (.own xs)) => match y with
    | .int k => match L2.atI xs k with
      | some (.dat d) => .ok d ρ
      | _ => .bad
    | _ => .bad
  | some (some (.dat x)) => lift (ixD x y) ρ
  | _ => .bad
def mOwnIx (i : Nat) (fb : M D) : M D := fun ρ => match ρ[i]? with
  | some (some _) => (fb.bnd (ownAt i)) ρ
  | _ => .bad
theorem Ows.length {K : PySem.W.Frag} {cl : Str → Option Addr} {S H : Hp} : ∀ {v : List V} {o : List O} {R : List Addr}, Ows K cl S H v o R → v.length = o.length
  | _, _, _, .nil => rfl
  | _, _, _, .cons _ b => by simp [Ows.length b]
theorem Ows.get {K : PySem.W.Frag} {cl : Str → Option Addr} {S H : Hp} : ∀ {v : List V} {o : List O} {R : List Addr}, Ows K cl S H v o R → ∀ {i : Nat} {d : D}, o[i]? = some (.dat d) → ∃ x, v[i]? = some x ∧ Rep K cl S x d
  | _, _, _, .nil, _, _, q => by simp at q
  | _, _, _, .cons a b, 0, _, q => by
    simp at q; subst q
    cases a with
    | dat r => exact ⟨_, rfl, r⟩
  | _, _, _, .cons a b, i + 1, _, q => by simp at q; obtain ⟨x, h, r⟩ := Ows.get b q; exact ⟨x, by simpa using h, r⟩
/-- the tail of a sequence of two, the first a slot that is only looked at -/
theorem de_ownIx (hK : X.K = p.K) {i : Nat} {x : Str} {b : Expr} {pos pos' : Pos} {fb : M D} (hN : X.N[i]? = some x) (hv : Vis X.env.scope x) (hd : (x == ("__debug__" : Str)) = false) (hcd : (x == ("__classdict__" : Str)) = false)
    (hb : PE X b (tD p W fb)) (hs : PlainIx b) : PE X (.Subscript (.Name x pos) b pos') (tD p W (mOwnIx i fb)) :=
  PE.imp (pe_ix (IxR.or (ix_list (X := X)) (ix_D (p := p) hK)) (pe_var hN hv hd hcd) hb hs) fun σ H Q h => by
    obtain ⟨ρ, S, R, w, h⟩ := h
    unfold mOwnIx at h
    split at h
    · rename_i o0 e0
      obtain ⟨v, R1, Ri, R2, _, hv', _, _⟩ := w.sl.at e0
      refine ⟨v, hv', ρ, S, R, w, (isE.bE h).mono fun y H1 ⟨d, ρ1, S1, R1, r1, t1, w1, h1⟩ => ?_⟩
      unfold ownAt at h1
      split at h1
      · rename_i xs e1
        obtain ⟨v1, Q1, Qi, Q2, _, hv1, ho, _⟩ := w1.sl.at e1
        rw [hv'] at hv1
        cases hv1
        split at h1
        · rename_i k
          cases r1
          split at h1
          · rename_i d e2
            cases ho with
            | own ha ra =>
              unfold L2.atI at e2
              cases e3 : ixN xs.length k with
              | none => rw [e3] at e2; cases e2
              | some j =>
                rw [e3] at e2
                obtain ⟨z, hz, rz⟩ := ra.get e2
                refine .inl ⟨_, _, k, z, rfl, rfl, SqL.of ha, ?_, h1 S1 H1 R1 z Stp.refl w1 rz⟩
                unfold L2.atI
                rw [ra.length, e3]
                exact hz
          · exact h1.elim
        · exact h1.elim
      · rename_i x0 e1
        obtain ⟨v1, hv1, rx⟩ := w1.get e1
        rw [hv'] at hv1
        cases hv1
        exact .inr ⟨S1, _, _, w1.le, rx, r1, OutD.of w1 h1⟩
      · exact h1.elim
    · exact h.elim

/-! ### calls of built-ins -/
def lenD : List D → Option D
  | [.str x] => if x.length ≤ big then some (.int x.length) else none
  | [.lst xs] => some (.int xs.length)
  | [.tup xs] => some (.int xs.length)
  | [.scr xs] => some (.int xs.length)
  | [.dic kvs] => some (.int kvs.length)
  | _ => none
def intD : List D → Option D
  | [.int i] => some (.int i)
  | [.bl b] => some (.int (if b then 1 else 0))
  | _ => none
def maxD : List D → Option D
  | [.int i, .int j] => some (.int (if j > i then j else i))
  | _ => none
def minD : List D → Option D
  | [.int i, .int j] => some (.int (if j < i then j else i))
  | _ => none
def tyN : D → Option String
  | .non => some "NoneType"
  | .bl _ => some "bool"
  | .int _ => some "int"
  | .str _ => some "str"
  | .lst _ => some "list"
  | .tup _ => some "tuple"
  | .dic _ => some "dict"
  | _ => none
def tysD : List D → Option (List String)
  | [] => some []
  | .ty n :: r => (tysD r).map (n :: ·)
  | _ => none
def kitsB (a : String) : List String → Option Bool
  | [] => some false
  | n :: r => match kitB a n with
    | some true => some true
    | some false => kitsB a r
    | none => none
def isiD : List D → Option D
  | [x, .ty n] => match tyN x with
    | some a => (kitB a n).map .bl
    | none => none
  | [x, .tup cs] => match tyN x, tysD cs with
    | some a, some ns => (kitsB a ns).map .bl
    | _, _ => none
  | _ => none
def bls : List D → Option (List Bool)
  | [] => some []
  | .bl b :: r => (bls r).map (b :: ·)
  | _ => none
def inz : List D → Option (List Int)
  | [] => some []
  | .int b :: r => (inz r).map (b :: ·)
  | _ => none
def allD : List D → Option D
  | [.lst xs] => (bls xs).map fun bs => .bl (bs.all id)
  | _ => none
def anyD : List D → Option D
  | [.lst xs] => (bls xs).map fun bs => .bl (bs.any id)
  | _ => none
def sumD : List D → Option D
  | [.lst xs] => (inz xs).map fun bs => .int bs.sum
  | _ => none
def listD : List D → Option D
  | [.lst xs] => some (.lst xs)
  | [.tup xs] => some (.lst xs)
  | _ => none
def tupD : List D → Option D
  | [.lst xs] => some (.tup xs)
  | [.tup xs] => some (.tup xs)
  | _ => none
def repr1 : List D → Option D
  | [x] => reprD x
  | _ => none
theorem bls_of {K : PySem.W.Frag} {cl : Str → Option Addr} {S : Hp} : ∀ {vs : List V} {ds : List D} {bs : List Bool}, Reps K cl S vs ds → bls ds = some bs → vs = bs.map V.bl
  | _, _, _, .nil, e => by cases e; rfl
  | _, _, _, .cons a b, e => by
    cases a with
    | bl c =>
      simp only [bls, Option.map_eq_some_iff] at e
      obtain ⟨bs, e1, rfl⟩ := e
      rw [bls_of b e1]; rfl
    | _ => cases e
theorem inz_of {K : PySem.W.Frag} {cl : Str → Option Addr} {S : Hp} : ∀ {vs : List V} {ds : List D} {bs : List Int}, Reps K cl S vs ds → inz ds = some bs → vs = bs.map V.int
  | _, _, _, .nil, e => by cases e; rfl
  | _, _, _, .cons a b, e => by
    cases a with
    | int c =>
      simp only [inz, Option.map_eq_some_iff] at e
      obtain ⟨bs, e1, rfl⟩ := e
      rw [inz_of b e1]; rfl
    | _ => cases e
theorem RepK.length {K : PySem.W.Frag} {cl : Str → Option Addr} {S : Hp} : ∀ {v : List (Key × V)} {d : List (D × D)}, RepK K cl S v d → v.length = d.length
  | _, _, .nil => rfl
  | _, _, .cons _ _ b => by simp [RepK.length b]
theorem RepT.length {K : PySem.W.Frag} {cl : Str → Option Addr} {S : Hp} : ∀ {v : List (List Key × V)} {d : List (D × D)}, RepT K cl S v d → v.length = d.length
  | _, _, .nil => rfl
  | _, _, .cons _ _ b => by simp [RepT.length b]
theorem reps1 {K : PySem.W.Frag} {cl : Str → Option Addr} {S : Hp} {xs : List V} {d : D} (r : Reps K cl S xs [d]) : ∃ v, xs = [v] ∧ Rep K cl S v d := by
  cases r with
  | cons a b => cases b; exact ⟨_, rfl, a⟩
theorem reps2 {K : PySem.W.Frag} {cl : Str → Option Addr} {S : Hp} {xs : List V} {d e : D} (r : Reps K cl S xs [d, e]) : ∃ v u, xs = [v, u] ∧ Rep K cl S v d ∧ Rep K cl S u e := by
  cases r with
  | cons a b =>
    cases b with
    | cons c d => cases d; exact ⟨_, _, rfl, a, c⟩
theorem call_lenDD (hK : X.K = p.K) : CallR X (.builtin "len") (rDs p lenD) := by
  intro pins s σ H xs us Q I r h
  obtain ⟨S, ds, le, hr, h⟩ := h
  unfold lenD at h
  split at h
  · obtain ⟨v, rfl, q⟩ := reps1 hr
    cases q
    split at h
    · rename_i hz
      exact call_len_str pins s σ H _ us Q I r ⟨_, rfl, by rw [← big_eq]; exact hz, h.leaf le (.int _)⟩
    · exact h.elim
  · obtain ⟨v, rfl, q⟩ := reps1 hr
    cases q with
    | lst ha ra => exact call_len_seq pins s σ H _ us Q I r ⟨_, _, rfl, .inl (SqL.of (le _ _ ha)), by rw [ra.length]; exact h.leaf le (.int _)⟩
  · obtain ⟨v, rfl, q⟩ := reps1 hr
    cases q with
    | tup ha ra => exact call_len_seq pins s σ H _ us Q I r ⟨_, _, rfl, .inr (by rw [hK]; exact le.sqT ha), by rw [ra.length]; exact h.leaf le (.int _)⟩
  · obtain ⟨v, rfl, q⟩ := reps1 hr
    cases q with
    | scr ha => exact call_len_seq pins s σ H _ us Q I r ⟨_, _, rfl, .inl (by rw [hK]; exact le.sqL ha), by rw [List.length_map]; exact h.leaf le (.int _)⟩
  · obtain ⟨v, rfl, q⟩ := reps1 hr
    cases q with
    | dicK ha ra => exact call_lenD pins s σ H _ us Q I r ⟨_, _, rfl, le _ _ ha, by rw [ra.length]; exact h.leaf le (.int _)⟩
    | dicT ha ra => exact call_len_dT pins s σ H _ us Q I r ⟨_, _, rfl, le _ _ ha, by rw [ra.length]; exact h.leaf le (.int _)⟩
  · exact h.elim
theorem call_intD : CallR X (.type "int") (rDs p intD) := by
  intro pins s σ H xs us Q I r h
  obtain ⟨S, ds, le, hr, h⟩ := h
  unfold intD at h
  split at h
  · obtain ⟨v, rfl, q⟩ := reps1 hr
    cases q
    exact call_int1 pins s σ H _ us Q I r (.inl ⟨_, rfl, h.leaf le (.int _)⟩)
  · obtain ⟨v, rfl, q⟩ := reps1 hr
    cases q
    exact call_int1 pins s σ H _ us Q I r (.inr ⟨_, rfl, h.leaf le (.int _)⟩)
  · exact h.elim
theorem call_maxD (hc : X.calm = true) : CallR X (.builtin "max") (rDs p maxD) := by
  intro pins s σ H xs us Q I r h
  obtain ⟨S, ds, le, hr, h⟩ := h
  unfold maxD at h
  split at h
  · obtain ⟨v, u, rfl, q, q'⟩ := reps2 hr
    cases q; cases q'
    exact call_max2 hc pins s σ H _ us Q I r ⟨_, _, rfl, h.leaf le (.int _)⟩
  · exact h.elim
theorem call_minD (hc : X.calm = true) : CallR X (.builtin "min") (rDs p minD) := by
  intro pins s σ H xs us Q I r h
  obtain ⟨S, ds, le, hr, h⟩ := h
  unfold minD at h
  split at h
  · obtain ⟨v, u, rfl, q, q'⟩ := reps2 hr
    cases q; cases q'
    exact call_min2 hc pins s σ H _ us Q I r ⟨_, _, rfl, h.leaf le (.int _)⟩
  · exact h.elim
theorem tyX_of (hK : X.K = p.K) {S H : Hp} {v : V} {d : D} {n : String} (le : Le S H) (r : Rep p.K p.cl S v d) (h : tyN d = some n) : TyX X.K H v (.type n) := by
  cases r with
  | non => cases h; exact .base .non
  | bl b => cases h; exact .base (.bl b)
  | int b => cases h; exact .base (.int b)
  | str b => cases h; exact .base (.str b)
  | lst ha ra => cases h; exact .base (.lst (le _ _ ha))
  | tup ha ra =>
    cases h
    rcases ha with q | ⟨o, _, _, q, c, _⟩
    · exact .base (.tup (le _ _ q))
    · exact .kTuple (by rw [hK]; exact q) c
  | dicK ha ra => cases h; exact .base (.dK (le _ _ ha))
  | dicT ha ra => cases h; exact .base (.dT (le _ _ ha))
  | _ => cases h
theorem tys_of {K : PySem.W.Frag} {cl : Str → Option Addr} {S : Hp} : ∀ {vs : List V} {ds : List D} {ns : List String}, Reps K cl S vs ds → tysD ds = some ns → Paired ClsV vs (ns.map Value.type)
  | _, _, _, .nil, e => by cases e; exact .nil
  | _, _, b, .cons x y, e => by
    cases x with
    | ty n =>
      simp only [tysD, Option.map_eq_some_iff] at e
      obtain ⟨bs, e1, rfl⟩ := e
      exact .cons (.ty n) (tys_of y e1)
    | _ => cases e
theorem kits_of {K : PySem.W.Frag} {a : String} : ∀ {ns : List String} {b : Bool}, kitsB a ns = some b → PySem.W.kitAny K (.type a) (ns.map Value.type) = some b
  | [], _, e => by cases e; exact kitAny_nil
  | n :: r, b, e => by
    simp only [kitsB] at e
    split at e
    · rename_i e1
      cases e
      exact kitAny_cons (kit_ty e1) (fun z => by cases z) (fun _ => rfl)
    · rename_i e1
      exact kitAny_cons (kit_ty e1) (fun _ => kits_of e) (fun z => by cases z)
    · cases e
theorem call_isiD (hK : X.K = p.K) : CallR X (.builtin "isinstance") (rDs p isiD) := by
  intro pins s σ H xs us Q I r h
  obtain ⟨S, ds, le, hr, h⟩ := h
  unfold isiD at h
  split at h
  · obtain ⟨v, u, rfl, q, q'⟩ := reps2 hr
    cases q'
    split at h
    · rename_i a e1
      cases e2 : kitB a _ with
      | none => rw [e2] at h; exact h.elim
      | some b =>
        rw [e2] at h
        exact call_isi pins s σ H _ us Q I r ⟨_, _, _, _, b, rfl, .ty _, tyX_of hK le q e1, kit_ty e2, h.leaf le (.bl _)⟩
    · exact h.elim
  · obtain ⟨v, u, rfl, q, q'⟩ := reps2 hr
    cases q' with
    | tup ha ra =>
      split at h
      · rename_i a ns e1 e3
        cases e2 : kitsB a ns with
        | none => rw [e2] at h; exact h.elim
        | some b =>
          rw [e2] at h
          rcases ha with q1 | ⟨⟨o1, o2, o3, o4⟩, its, n, q1, c1, c2, _, c4⟩
          · exact call_isiT pins s σ H _ us Q I r ⟨_, _, _, _, _, b, rfl, le _ _ q1, tys_of ra e3, tyX_of hK le q e1, kits_of e2, h.leaf le (.bl _)⟩
          · dsimp only at c1 c2
            subst c1 c2
            have e4 : its.toList = ns.map Value.type := ClsV.all (tys_of ra e3) c4
            have e5 : its = (ns.map Value.type).toArray := by rw [← e4]
            subst e5
            exact call_isiK pins s σ H _ us Q I r ⟨_, _, _, _, _, _, _, b, rfl, by rw [hK]; exact q1, tyX_of hK le q e1, kits_of e2, h.leaf le (.bl _)⟩
      · exact h.elim
  · exact h.elim
theorem call_allD (hK : X.K = p.K) (hc : X.calm = true) : CallR X (.builtin "all") (rDs p allD) := by
  intro pins s σ H xs us Q I r h
  obtain ⟨S, ds, le, hr, h⟩ := h
  unfold allD at h
  split at h
  · obtain ⟨v, rfl, q⟩ := reps1 hr
    cases q with
    | lst ha ra =>
      cases e : bls _ with
      | none => rw [e] at h; exact h.elim
      | some bs =>
        rw [e] at h
        have := bls_of ra e
        subst this
        exact cr_all hc pins s σ H _ us Q I r ⟨_, bs, rfl, SqL.of (le _ _ ha), h.leaf le (.bl _)⟩
  · exact h.elim
theorem call_anyD (hK : X.K = p.K) (hc : X.calm = true) : CallR X (.builtin "any") (rDs p anyD) := by
  intro pins s σ H xs us Q I r h
  obtain ⟨S, ds, le, hr, h⟩ := h
  unfold anyD at h
  split at h
  · obtain ⟨v, rfl, q⟩ := reps1 hr
    cases q with
    | lst ha ra =>
      cases e : bls _ with
      | none => rw [e] at h; exact h.elim
      | some bs =>
        rw [e] at h
        have := bls_of ra e
        subst this
        exact cr_any hc pins s σ H _ us Q I r ⟨_, bs, rfl, SqL.of (le _ _ ha), h.leaf le (.bl _)⟩
  · exact h.elim
theorem call_sumD (hK : X.K = p.K) (hc : X.calm = true) : CallR X (.builtin "sum") (rDs p sumD) := by
  intro pins s σ H xs us Q I r h
  obtain ⟨S, ds, le, hr, h⟩ := h
  unfold sumD at h
  split at h
  · obtain ⟨v, rfl, q⟩ := reps1 hr
    cases q with
    | lst ha ra =>
      cases e : inz _ with
      | none => rw [e] at h; exact h.elim
      | some bs =>
        rw [e] at h
        have := inz_of ra e
        subst this
        exact cr_sum hc pins s σ H _ us Q I r ⟨_, bs, rfl, SqL.of (le _ _ ha), h.leaf le (.int _)⟩
  · exact h.elim
theorem call_listD (hK : X.K = p.K) : CallR X (.type "list") (rDs p listD) := by
  intro pins s σ H xs us Q I r h
  obtain ⟨S, ds, le, hr, h⟩ := h
  unfold listD at h
  split at h
  · obtain ⟨v, rfl, q⟩ := reps1 hr
    cases q with
    | lst ha ra => exact call_list_of pins s σ H _ us Q I r ⟨_, _, rfl, .inl (SqL.of (le _ _ ha)), fun q hq => h.newL le ra hq⟩
  · obtain ⟨v, rfl, q⟩ := reps1 hr
    cases q with
    | tup ha ra => exact call_list_of pins s σ H _ us Q I r ⟨_, _, rfl, .inr (by rw [hK]; exact le.sqT ha), fun q hq => h.newL le ra hq⟩
  · exact h.elim
theorem call_tupD (hK : X.K = p.K) : CallR X (.type "tuple") (rDs p tupD) := by
  intro pins s σ H xs us Q I r h
  obtain ⟨S, ds, le, hr, h⟩ := h
  unfold tupD at h
  split at h
  · obtain ⟨v, rfl, q⟩ := reps1 hr
    cases q with
    | lst ha ra => exact call_tuple_of pins s σ H _ us Q I r ⟨_, _, rfl, .inl ⟨SqL.of (le _ _ ha), fun q hq => h.newT le ra hq⟩⟩
  · obtain ⟨v, rfl, q⟩ := reps1 hr
    cases q with
    | tup ha ra => exact call_tuple_of pins s σ H _ us Q I r ⟨_, _, rfl, .inr ⟨by rw [hK]; exact le.sqT ha, h.leaf le (.tup ha ra)⟩⟩
  · exact h.elim
end
end PL

end
-- text PL6
section
set_option linter.all false
set_option maxRecDepth 100000
set_option maxHeartbeats 4000000
namespace PL
open PySem PySem.Spec L2
section
variable {X : Cx} {p : Pm} {W : WX}
/-! ### repr -/
theorem call_reprD (hK : X.K = p.K) (hM : Ms X.base) (hg : X.A.guards = some []) (hu : X.A.units + 64 < cLine) : CallR X (.builtin "repr") (rDs p repr1) := by
  intro pins s σ H xs us Q I r h
  obtain ⟨S, ds, le, hr, h⟩ := h
  unfold repr1 at h
  split at h
  · rename_i d
    obtain ⟨v, rfl, q⟩ := reps1 hr
    unfold reprD at h
    split at h
    · rename_i x ex
      split at h
      · rename_i hz
        obtain ⟨hs, hd, hl⟩ := hz
        rw [big_eq] at hl
        obtain ⟨u, rfl, rv⟩ := vals1 r
        obtain ⟨as, rd, hn⟩ := q.reads I hK hM le rv ex
        have fin : ∀ h' tk t, (∀ b o, s.heap.get? b = some o → h'.get? b = some o) → EP X pins σ Q (.str x.shown t) { s with heap := h', toks := tk } := fun h' tk t k => ⟨.str x.shown, H, I.kept k, ⟨_, rfl⟩, h.leaf le (.str _)⟩
        cases rd with
        | none => exact PySem.P.repr_of_none (fin s.heap _ _ fun _ _ e => e)
        | bool b => exact PySem.P.repr_of_bool (fin s.heap _ _ fun _ _ e => e)
        | int i t => exact PySem.P.repr_of_int (by simpa [PyData.showable] using hs) (fin s.heap _ _ fun _ _ e => e)
        | str z t => exact PySem.P.repr_of_str (fin s.heap _ _ fun _ _ e => e) hl
        | list h1 h2 h3 h4 => exact repr_of_reads' (Reads.list h1 h2 h3 h4) hs (fun _ => hn) hg (by omega) (fun _ _ e => e) (fun h' u tk k => fin h' tk u k) hl
        | tuple h1 h2 h3 h4 => exact repr_of_reads' (Reads.tuple h1 h2 h3 h4) hs (fun _ => hn) hg (by omega) (fun _ _ e => e) (fun h' u tk k => fin h' tk u k) hl
        | dict h1 h2 h3 h4 h5 => exact repr_of_reads' (Reads.dict h1 h2 h3 h4 h5) hs (fun _ => hn) hg (by omega) (fun _ _ e => e) (fun h' u tk k => fin h' tk u k) hl
      · exact h.elim
    · exact h.elim
  · exact h.elim

/-! ### in -/
theorem flatV_of {S : Hp} {v : V} {d : D} (r : Rep p.K p.cl S v d) (h : flatX d = true) : flatV v = true := by
  cases r <;> first | rfl | cases h
theorem flatAll {S : Hp} : ∀ {vs : List V} {ds : List D}, Reps p.K p.cl S vs ds → ds.all flatX = true → vs.all flatV = true
  | _, _, .nil, _ => rfl
  | _, _, .cons a b, h => by
    rw [List.all_cons, Bool.and_eq_true] at h
    rw [List.all_cons, flatV_of a h.1, flatAll b h.2]; rfl
theorem eqV_of {S : Hp} {v u : V} {d e : D} (r : Rep p.K p.cl S v d) (q : Rep p.K p.cl S u e) (h : flatX d = true) (k : flatX e = true) : eqV v u = (flatE d e == some true) := by
  cases r <;> (first | exact absurd h Bool.false_ne_true | skip) <;> cases q <;> (first | exact absurd k Bool.false_ne_true | skip)
  all_goals first | rfl | exact (Bool.eq_iff_iff.mpr (by simp [eqV, flatE]))
theorem anyV_of {S : Hp} {v : V} {d : D} (r : Rep p.K p.cl S v d) (h : flatX d = true) : ∀ {vs : List V} {ds : List D}, Reps p.K p.cl S vs ds → ds.all flatX = true → inV v vs = anyE d ds
  | _, _, .nil, _ => rfl
  | _, _, .cons a b, k => by
    rw [List.all_cons, Bool.and_eq_true] at k
    have e1 := anyV_of r h b k.2
    unfold inV at e1 ⊢
    rw [List.any_cons, e1, eqV_of a r k.1 h]
    rfl
theorem op_inD (hK : X.K = p.K) : OpR X (compareOp .In) (rD p inD) := by
  intro pins s σ H x y v u Q I rx ry h
  obtain ⟨S, dx, dy, le, hx, hy, h⟩ := h
  unfold inD at h
  split at h
  · split at h
    · rename_i hz
      rw [Bool.and_eq_true] at hz
      cases hy with
      | lst ha ra => exact op_in_seq pins s σ H _ _ v u Q I rx ry ⟨_, _, rfl, .inl (SqL.of (le _ _ ha)), flatV_of hx hz.1, flatAll ra hz.2, by rw [anyV_of hx hz.1 ra hz.2]; exact h.leaf le (.bl _)⟩
    · exact h.elim
  · split at h
    · rename_i hz
      rw [Bool.and_eq_true] at hz
      cases hy with
      | tup ha ra => exact op_in_seq pins s σ H _ _ v u Q I rx ry ⟨_, _, rfl, .inr (by rw [hK]; exact le.sqT ha), flatV_of hx hz.1, flatAll ra hz.2, by rw [anyV_of hx hz.1 ra hz.2]; exact h.leaf le (.bl _)⟩
    · exact h.elim
  · exact h.elim
theorem op_notInD (hK : X.K = p.K) : OpR X (compareOp .NotIn) (rD p (fun a b => notO (inD a b))) := by
  intro pins s σ H x y v u Q I rx ry h
  obtain ⟨S, dx, dy, le, hx, hy, h⟩ := h
  replace h : OutD p S H Q (notO (inD dx dy)) := h
  unfold inD at h
  split at h
  · split at h
    · rename_i hz
      rw [Bool.and_eq_true] at hz
      cases hy with
      | lst ha ra => exact op_notIn_seq pins s σ H _ _ v u Q I rx ry ⟨_, _, rfl, .inl (SqL.of (le _ _ ha)), flatV_of hx hz.1, flatAll ra hz.2, by rw [anyV_of hx hz.1 ra hz.2]; exact h.leaf le (.bl _)⟩
    · exact h.elim
  · split at h
    · rename_i hz
      rw [Bool.and_eq_true] at hz
      cases hy with
      | tup ha ra => exact op_notIn_seq pins s σ H _ _ v u Q I rx ry ⟨_, _, rfl, .inr (by rw [hK]; exact le.sqT ha), flatV_of hx hz.1, flatAll ra hz.2, by rw [anyV_of hx hz.1 ra hz.2]; exact h.leaf le (.bl _)⟩
    · exact h.elim
  · exact h.elim

/-! ### unary -/
def negD : D → Option D
  | .int i => some (.int (-i))
  | _ => none
theorem un_negD : UnR X (unaryOp .USub) (rD1 p negD) := by
  intro pins s σ H x v Q I rx h
  obtain ⟨S, dx, le, hx, h⟩ := h
  unfold negD at h
  split at h
  · cases hx
    exact un_neg pins s σ H _ v Q I rx ⟨_, rfl, h.leaf le (.int _)⟩
  · exact h.elim

/-! ### the table of operators -/
def cmpD : CmpOp → D → D → Option D
  | .Eq => eqE | .NotEq => fun a b => notO (eqD a b) | .Lt => ltD | .LtE => leD | .Gt => gtD | .GtE => geD | .Is => isD | .IsNot => fun a b => notO (isD a b) | .In => inD | .NotIn => fun a b => notO (inD a b)
def binD : Operator → D → D → Option D
  | .Add => addD | .Sub => subD | .Mult => mulD | .FloorDiv => fdivD | .Mod => modD | .Pow => powD | _ => fun _ _ => none
/-- what a body's context must bear for all of them -/
structure Ok0 (X : Cx) (p : Pm) : Prop where
  K : X.K = p.K
  M : Ms X.base
  u : X.A.units + 64 < cLine
  g : X.A.guards = some []
  c : X.calm = true
  N : X.N.Nodup
theorem op_cmpD (o : Ok0 X p) (op : CmpOp) : OpR X (compareOp op) (rD p (cmpD op)) := by
  cases op with
  | Eq => exact op_eqEE o.K o.M o.u
  | NotEq => exact op_neDD o.K o.M o.u
  | Lt => exact op_ltD
  | LtE => exact op_leD
  | Gt => exact op_gtD
  | GtE => exact op_geD
  | Is => exact op_isD
  | IsNot => exact op_isnotD
  | In => exact op_inD o.K
  | NotIn => exact op_notInD o.K
theorem op_none {f : Value → Value → Sem Value} : OpR X f (rD p (fun _ _ => none)) := by
  intro pins s σ H x y v u Q I rx ry h
  obtain ⟨S, dx, dy, le, hx, hy, h⟩ := h
  exact h.elim
theorem op_binD (o : Ok0 X p) (op : Operator) : OpR X (binaryOp op) (rD p (binD op)) := by
  cases op <;> first | exact op_addD o.K | exact op_subD | exact op_mulD o.K | exact op_fdivD | exact op_modD | exact op_powD | exact op_none

/-! ### chains -/
/-- a op b op c .. behind the first operand's value -/
def mChain : D → List CmpOp → List (M D) → M D
  | a, [op], [f] => f.bnd fun b => lift (cmpD op a b)
  | a, op :: op' :: ops, f :: f' :: fs => f.bnd fun b => (lift (cmpD op a b)).bnd fun c => (lift (truD c)).bnd fun t => if t then mChain b (op' :: ops) (f' :: fs) else M.ret c
  | _, _, _ => M.bad
inductive EsD (X : Cx) (p : Pm) (W : WX) : List Expr → List (M D) → Prop
  | nil : EsD X p W [] []
  | cons {e : Expr} {f : M D} {es : List Expr} {fs : List (M D)} : PE X e (tD p W f) → EsD X p W es fs → EsD X p W (e :: es) (f :: fs)
theorem chainD (o : Ok0 X p) {pins : List (Addr × Obj)} {σ : L2.St} {pos : Pos} : ∀ {ops : List CmpOp} {es : List Expr} {fs : List (M D)} {s : Shared} {H : Hp} {S : Hp} {ρ : Rho} {R : List Addr} {Q : VK} {x : V} {v : Value} {d : D}, EsD X p W es fs → L2.Inv X pins σ H s → RelV x v → Wd p S H σ ρ R → Rep p.K p.cl S x d →
    PoE p W σ S H R Q (mChain d ops fs ρ) → wpAny (model X.prog X.w) X.A (compareChain pos v ops (evalEach es X.env)) (EP X pins σ Q) X.xe s
  | [], _, _, _, _, _, _, _, _, _, _, _, h, I, rx, w, r, q => by cases h <;> exact q.elim
  | _ :: _, [], _, _, _, _, _, _, _, _, _, _, h, I, rx, w, r, q => by cases h; cases ‹List CmpOp› <;> exact q.elim
  | [op], [e], _, s, H, S, ρ, R, Q, x, v, d, .cons he .nil, I, rx, w, r, q => by
    refine PyProof.Rows.chain_last (thn (he.run pins s σ H _ I ⟨ρ, S, R, w, isE.bE q⟩) fun u s1 ⟨y, H1, I1, r1, d1, ρ1, S1, R1, rp, t1, w1, q1⟩ => ?_)
    exact op_cmpD o op pins s1 σ H1 x y v u Q I1 rx r1 ⟨S1, d, d1, w1.le, r.up t1.s, rp, OutD.of w1 q1⟩
  | [op], e :: e' :: es, _, s, H, S, ρ, R, Q, x, v, d, .cons he (.cons _ _), I, rx, w, r, q => by exact q.elim
  | op :: op' :: ops, [e], _, s, H, S, ρ, R, Q, x, v, d, .cons he .nil, I, rx, w, r, q => by exact q.elim
  | op :: op' :: ops, e :: e' :: es, _, s, H, S, ρ, R, Q, x, v, d, .cons he (.cons he' hr), I, rx, w, r, q => by
    refine PyProof.Rows.chain_link (thn (he.run pins s σ H _ I ⟨ρ, S, R, w, isE.bE q⟩) fun u s1 ⟨y, H1, I1, r1, d1, ρ1, S1, R1, rp, t1, w1, q1⟩ => ?_)
    have q2 := isE.bE q1
    cases e3 : cmpD op d d1 with
    | none => rw [e3] at q1; exact q1.elim
    | some c =>
      rw [e3] at q1 q2
      have step := op_cmpD o op pins s1 σ H1 x y v u (fun z H2 => ∃ S2, Grow S1 H1 S2 H2 ∧ Rep p.K p.cl S2 z c) I1 rx r1 ⟨S1, d, d1, w1.le, r.up t1.s, rp, by rw [e3]; exact fun S' H' z g rz => ⟨S', g, rz⟩⟩
      refine thn step fun cv s2 ⟨z, H2, I2, rz, S2, g, rc⟩ => ?_
      obtain ⟨w2, t2⟩ := g.wd w1
      have q3 : PoE p W σ S1 H1 R1 Q (((lift (truD c)).bnd fun t => if t then mChain d1 (op' :: ops) (_ :: _) else M.ret c) ρ1) := q1
      replace q3 := q3.up t2
      cases e4 : truD c with
      | none => rw [e4] at q3; exact q3.elim
      | some b =>
        rw [e4] at q3
        refine thn (tru_ok pins s2 σ H2 z cv (fun k H3 => k = b ∧ H3 = H2) I2 rz ⟨b, tru_of o.K w2.le rc e4, rfl, rfl⟩) fun k s3 ⟨H3, I3, e5, e6⟩ => ?_
        subst e5 e6
        cases k with
        | true => exact chainD o (.cons he' hr) I3 r1 w2 (rp.up g.s) q3
        | false => exact ⟨z, H3, I3, rz, q3 S2 H3 R1 z Stp.refl w2 rc⟩
theorem de_chain (o : Ok0 X p) {a b c : Expr} {op op' : CmpOp} {ops : List CmpOp} {es : List Expr} {pos : Pos} {fa fb fc : M D} {fs : List (M D)} (ha : PE X a (tD p W fa)) (hb : PE X b (tD p W fb)) (hc : PE X c (tD p W fc)) (hs : EsD X p W es fs)
    (hm : lastMarks (op :: op' :: ops) (b :: c :: es) = false) : PE X (.Compare a (op :: op' :: ops) (b :: c :: es) pos) (tD p W (fa.bnd fun x => mChain x (op :: op' :: ops) (fb :: fc :: fs))) := by
  refine ⟨fun pins s σ H Q I h => ?_⟩
  obtain ⟨ρ, S, R, w, h⟩ := h
  refine PyProof.Rows.Compare_chain (thn (ha.run pins s σ H _ I ⟨ρ, S, R, w, isE.bE h⟩) fun v s1 ⟨x, H1, I1, r1, d1, ρ1, S1, R1, rp, t1, w1, q1⟩ => ?_) hm
  exact chainD o (.cons hb (.cons hc hs)) I1 r1 w1 rp q1
end
end PL

end
-- text PL7
section
set_option linter.all false
set_option maxRecDepth 100000
set_option maxHeartbeats 4000000
namespace PL
open PySem PySem.Spec L2

/-! ### defs and their calls -/
def isDat : O → Bool
  | .dat _ => true
  | _ => false
/-- what the parameters' objects hold at the end: the owned ones -/
inductive Bk (K : PySem.W.Frag) (cl : Str → Option Addr) (S H : Hp) : List V → List O → Rho → List Addr → Prop
  | nil {ρ : Rho} : Bk K cl S H [] [] ρ []
  | dat {v : V} {d : D} {x : Option O} {vs : List V} {os : List O} {ρ : Rho} {R : List Addr} : Bk K cl S H vs os ρ R → Bk K cl S H (v :: vs) (.dat d :: os) (x :: ρ) R
  | own {v : V} {o0 o : O} {vs : List V} {os : List O} {ρ : Rho} {R R' : List Addr} : isDat o0 = false → Ow K cl S H v o R → Bk K cl S H vs os ρ R' → Bk K cl S H (v :: vs) (o0 :: os) (some o :: ρ) (R ++ R')
/-- what is wanted of a call's outcome -/
def PoF (K : PySem.W.Frag) (cl : Str → Option Addr) (vs : List V) (os : List O) (S H : Hp) (R : List Addr) (Q : VK) (E : XK) : Rs O → Prop
  | .bad => False
  | .ok o ρ => ∀ S' H' R' v Rv, Le S' H' → Stp R H S (R' ++ Rv) H' S' → Bk K cl S' H' vs os ρ R' → Ow K cl S' H' v o Rv → (R' ++ Rv).Nodup → (∀ a ∈ R' ++ Rv, S' a = none) → Q v H'
  | .ex x ρ => ∀ S' H' R' C dd, Le S' H' → Stp R H S R' H' S' → Bk K cl S' H' vs os ρ R' → R'.Nodup → (∀ a ∈ R', S' a = none) → XRK K cl S' x C dd → E (.ref C) dd H'
/-- a def's promise by its function on data -/
def spF (K : PySem.W.Frag) (cl : Str → Option Addr) (n : Nat) (F : List O → Rs O) : Sp := fun vs H Q E => vs.length = n ∧ ∃ S R os, Le S H ∧ Ows K cl S H vs os R ∧ R.Nodup ∧ (∀ a ∈ R, S a = none) ∧ PoF K cl vs os S H R Q E (F os)
/-- a def keeps its promise, wherever no text is being shown -/
structure FnG (P : Program) (w : World) (K : PySem.W.Frag) (mg : Str → Option Value) (base : Heap) (k : Nat) (f : Addr) (fd : FuncData) (ps : List Str) (sp : Sp) : Prop where
  run : ∀ (A : Around) (outer : List PySem.Env) (s : Shared) (H : Hp) (args : Args) (us : List Value) (vs : List V) (Q : VK) (E : XK), Room k A → A.guards = some [] → Env0 P w K mg base A outer s H → BindsTo s fd args (ps.zip us) → Vals vs us → sp vs H Q E →
    codeAny (model P w) A (.call (.ref f) args) (CR (L2.CX P w) outer P w H s Q E) s
theorem FnG.mono {P : Program} {w : World} {K : PySem.W.Frag} {mg : Str → Option Value} {base : Heap} {j k : Nat} {f : Addr} {fd : FuncData} {ps : List Str} {sp : Sp} (F : FnG P w K mg base j f fd ps sp) (h : j ≤ k) : FnG P w K mg base k f fd ps sp :=
  ⟨fun A o s H a us vs Q E hr => F.run A o s H a us vs Q E (hr.mono h)⟩

/-- a def as the callers know it: its name, its parameters, its defaults, its function -/
structure Ent where
  name : Str
  ps : List Str
  dfl : List D
  F : List O → Rs O
/-- the def at f keeps the promise of t, and takes its arguments in order -/
structure FnE (P : Program) (w : World) (K : PySem.W.Frag) (cl : Str → Option Addr) (mg : Str → Option Value) (base : Heap) (k : Nat) (f : Addr) (t : Ent) : Prop where
  ex : ∃ (fd : FuncData) (dvs : List V) (ds : List Value), PySem.W.keepIn K (.ref f) = true ∧ FnG P w K mg base k f fd t.ps (spF K cl t.ps.length t.F) ∧ Vals dvs ds ∧ (∀ S, Reps K cl S dvs t.dfl) ∧
    ∀ (s : Shared) (us : List Value), K.In s.heap → us.length ≤ t.ps.length → t.ps.length ≤ us.length + ds.length → BindsTo s fd ⟨us, []⟩ (t.ps.zip (us ++ ds.drop (us.length + ds.length - t.ps.length)))
theorem FnE.mono {P : Program} {w : World} {K : PySem.W.Frag} {cl : Str → Option Addr} {mg : Str → Option Value} {base : Heap} {j k : Nat} {f : Addr} {t : Ent} (h : FnE P w K cl mg base j f t) (l : j ≤ k) : FnE P w K cl mg base k f t := by
  obtain ⟨fd, dvs, ds, a, c, d⟩ := h.ex
  exact ⟨fd, dvs, ds, a, c.mono l, d⟩
structure EntOk (P : Program) (w : World) (K : PySem.W.Frag) (cl : Str → Option Addr) (mg : Str → Option Value) (base : Heap) (k : Nat) (t : Ent) : Prop where
  ex : ∃ (f : Addr) (fd : FuncData) (dvs : List V) (ds : List Value), mg t.name = some (.ref f) ∧ PySem.W.keepIn K (.ref f) = true ∧ FnG P w K mg base k f fd t.ps (spF K cl t.ps.length t.F) ∧ Vals dvs ds ∧ (∀ S, Reps K cl S dvs t.dfl) ∧
    ∀ (s : Shared) (us : List Value), K.In s.heap → us.length ≤ t.ps.length → t.ps.length ≤ us.length + ds.length → BindsTo s fd ⟨us, []⟩ (t.ps.zip (us ++ ds.drop (us.length + ds.length - t.ps.length)))
theorem EntOk.mono {P : Program} {w : World} {K : PySem.W.Frag} {cl : Str → Option Addr} {mg : Str → Option Value} {base : Heap} {j k : Nat} {t : Ent} (h : EntOk P w K cl mg base j t) (l : j ≤ k) : EntOk P w K cl mg base k t := by
  obtain ⟨f, fd, dvs, ds, a, b, c, d⟩ := h.ex
  exact ⟨f, fd, dvs, ds, a, b, c.mono l, d⟩

/-! arguments: data, or a slot whose object is handed over -/
inductive Ar where
  | d (x : D) | s (i : Nat)
inductive RepA (K : PySem.W.Frag) (cl : Str → Option Addr) (S : Hp) (σ : L2.St) : List V → List Ar → Prop
  | nil : RepA K cl S σ [] []
  | d {v : V} {x : D} {vs : List V} {as : List Ar} : Rep K cl S v x → RepA K cl S σ vs as → RepA K cl S σ (v :: vs) (.d x :: as)
  | s {v : V} {i : Nat} {vs : List V} {as : List Ar} : σ[i]? = some (some v) → RepA K cl S σ vs as → RepA K cl S σ (v :: vs) (.s i :: as)
theorem RepA.up {K : PySem.W.Frag} {cl : Str → Option Addr} {S S' : Hp} {σ : L2.St} (h : Le S S') : ∀ {vs : List V} {as : List Ar}, RepA K cl S σ vs as → RepA K cl S' σ vs as
  | _, _, .nil => .nil
  | _, _, .d a b => .d (a.up h) (RepA.up h b)
  | _, _, .s a b => .s a (RepA.up h b)
theorem RepA.length {K : PySem.W.Frag} {cl : Str → Option Addr} {S : Hp} {σ : L2.St} : ∀ {vs : List V} {as : List Ar}, RepA K cl S σ vs as → vs.length = as.length
  | _, _, .nil => rfl
  | _, _, .d a b => by simp [RepA.length b]
  | _, _, .s a b => by simp [RepA.length b]
theorem RepA.app {K : PySem.W.Frag} {cl : Str → Option Addr} {S : Hp} {σ : L2.St} : ∀ {vs : List V} {as : List Ar} {us : List V} {ds : List D}, RepA K cl S σ vs as → Reps K cl S us ds → RepA K cl S σ (vs ++ us) (as ++ ds.map .d)
  | _, _, _, _, .nil, .nil => .nil
  | _, _, _, _, .nil, .cons a b => .d a (RepA.app .nil b)
  | _, _, _, _, .d a b, r => .d a (RepA.app b r)
  | _, _, _, _, .s a b, r => .s a (RepA.app b r)
def PoX (p : Pm) (W : WX) (σ : L2.St) (S H : Hp) (R : List Addr) (Q : List V → Hp → Prop) : Rs (List Ar) → Prop
  | .bad => False
  | .ok ds ρ => ∀ S' H' R' vs, Stp R H S R' H' S' → Wd p S' H' σ ρ R' → RepA p.K p.cl S' σ vs ds → Q vs H'
  | .ex x ρ => ∀ S' H' R' C dd, Stp R H S R' H' S' → Wd p S' H' σ ρ R' → XR p S' x C dd → W (.ref C) dd σ H'
def tDX (p : Pm) (W : WX) (f : M (List Ar)) : TA := fun σ H Q => ∃ ρ S R, Wd p S H σ ρ R ∧ PoX p W σ S H R Q (f ρ)
section
variable {p : Pm} {W : WX} {σ : L2.St} {S H : Hp} {R : List Addr}
theorem PoX.up {S1 H1 : Hp} {R1 : List Addr} {Q : List V → Hp → Prop} {r : Rs (List Ar)} (t : Stp R H S R1 H1 S1) (h : PoX p W σ S H R Q r) : PoX p W σ S1 H1 R1 Q r := by
  cases r with
  | bad => exact h
  | ok d ρ => exact fun S' H' R' v a b c => h S' H' R' v (t.trans a) b c
  | ex x ρ => exact fun S' H' R' C dd a b c => h S' H' R' C dd (t.trans a) b c
theorem isX {Q : List V → Hp → Prop} : IsPo p W σ (fun S H R => PoX p W σ S H R Q) := ⟨fun h => h, fun h => h, PoX.up⟩
theorem PoX.mono {Q Q' : List V → Hp → Prop} {r : Rs (List Ar)} (h : PoX p W σ S H R Q r) (k : ∀ v H1, Q v H1 → Q' v H1) : PoX p W σ S H R Q' r := by
  cases r with
  | bad => exact h
  | ok d ρ => exact fun S' H' R' v a b c => k _ _ (h S' H' R' v a b c)
  | ex x ρ => exact h
theorem IsPo.bX {β : Type} {P : Hp → Hp → List Addr → Rs β → Prop} (ip : IsPo p W σ P) {r : Rs (List Ar)} {g : List Ar → M β} (h : P S H R (r.bnd g)) :
    PoX p W σ S H R (fun vs H1 => ∃ ds ρ1 S1 R1, RepA p.K p.cl S1 σ vs ds ∧ Stp R H S R1 H1 S1 ∧ Wd p S1 H1 σ ρ1 R1 ∧ P S1 H1 R1 (g ds ρ1)) r := by
  cases r with
  | bad => exact ip.bad h
  | ok d ρ => exact fun S' H' R' v a b c => ⟨d, ρ, S', R', c, a, b, ip.up a h⟩
  | ex x ρ => exact ip.ex h
end
def xNil : M (List Ar) := M.ret []
def xCons (f : M D) (g : M (List Ar)) : M (List Ar) := f.bnd fun x => g.bnd fun xs => M.ret (.d x :: xs)
/-- a slot handed over: owned as it is, or data -/
def xSlot (i : Nat) (g : M (List Ar)) : M (List Ar) := fun ρ => match ρ[i]? with
  | some (some (.dat d)) => (g.bnd fun xs => M.ret (.d d :: xs)) ρ
  | some (some (.own _)) => (g.bnd fun xs => M.ret (.s i :: xs)) ρ
  | some (some (.ob _ _ _)) => (g.bnd fun xs => M.ret (.s i :: xs)) ρ
  | _ => .bad
section
variable {X : Cx} {p : Pm} {W : WX}
theorem dx_nil : PA X [] (tDX p W xNil) := PA.imp pa_nil fun σ H Q ⟨ρ, S, R, w, h⟩ => h S H R [] Stp.refl w .nil
theorem dx_cons {e : Expr} {es : List Expr} {f : M D} {g : M (List Ar)} (ha : PE X e (tD p W f)) (hr : PA X es (tDX p W g)) (hs : starEach (e :: es) X.env = (false, eval e X.env) :: starEach es X.env) : PA X (e :: es) (tDX p W (xCons f g)) :=
  PA.imp (pa_cons ha hr hs) fun σ H Q h => by
    obtain ⟨ρ, S, R, w, h⟩ := h
    refine ⟨ρ, S, R, w, (isX.bE h).mono fun v H1 ⟨d, ρ1, S1, R1, r1, t1, w1, h1⟩ => ?_⟩
    refine ⟨ρ1, S1, R1, w1, (isX.bX h1).mono fun vs H2 ⟨ds, ρ2, S2, R2, r2, t2, w2, h2⟩ => ?_⟩
    exact h2 S2 H2 R2 _ Stp.refl w2 (.d (r1.up t2.s) r2)
theorem dx_slot {i : Nat} {x : Str} {pos : Pos} {es : List Expr} {g : M (List Ar)} (hN : X.N[i]? = some x) (hv : Vis X.env.scope x) (hd : (x == ("__debug__" : Str)) = false) (hcd : (x == ("__classdict__" : Str)) = false)
    (hr : PA X es (tDX p W g)) (hs : starEach (.Name x pos :: es) X.env = (false, eval (.Name x pos) X.env) :: starEach es X.env) : PA X (.Name x pos :: es) (tDX p W (xSlot i g)) :=
  PA.imp (pa_cons (pe_var hN hv hd hcd) hr hs) fun σ H Q h => by
    obtain ⟨ρ, S, R, w, h⟩ := h
    unfold xSlot at h
    split at h
    · rename_i d e
      obtain ⟨v, hv', rv⟩ := w.get e
      refine ⟨v, hv', ρ, S, R, w, (isX.bX h).mono fun vs H2 ⟨ds, ρ2, S2, R2, r2, t2, w2, h2⟩ => ?_⟩
      exact h2 S2 H2 R2 _ Stp.refl w2 (.d (rv.up t2.s) r2)
    · rename_i o e
      obtain ⟨v, R1, Ri, R2, _, hv', _, _⟩ := w.sl.at e
      refine ⟨v, hv', ρ, S, R, w, (isX.bX h).mono fun vs H2 ⟨ds, ρ2, S2, R2, r2, t2, w2, h2⟩ => ?_⟩
      exact h2 S2 H2 R2 _ Stp.refl w2 (.s hv' r2)
    · rename_i o e
      obtain ⟨v, R1, Ri, R2, _, hv', _, _⟩ := w.sl.at e
      refine ⟨v, hv', ρ, S, R, w, (isX.bX h).mono fun vs H2 ⟨ds, ρ2, S2, R2, r2, t2, w2, h2⟩ => ?_⟩
      exact h2 S2 H2 R2 _ Stp.refl w2 (.s hv' r2)
    · exact h.elim
end

/-! the call on data -/
/-- the slots that are handed over -/
def slots : List Ar → List Nat
  | [] => []
  | .d _ :: r => slots r
  | .s i :: r => i :: slots r
def objs (ρ : Rho) : List Ar → Option (List O)
  | [] => some []
  | .d x :: r => (objs ρ r).map (.dat x :: ·)
  | .s i :: r => match ρ[i]? with
    | some (some o) => (objs ρ r).map (o :: ·)
    | _ => none
/-- the slots behind the call -/
def backs (ρ : Rho) : List Ar → Rho → Option Rho
  | [], _ => some ρ
  | .d _ :: r, _ :: ρ' => backs ρ r ρ'
  | .d _ :: _, [] => none
  | .s i :: r, x :: ρ' => match ρ[i]?, x with
    | some (some (.own _)), some o => backs (ρ.set i (some o)) r ρ'
    | some (some (.ob _ _ _)), some o => backs (ρ.set i (some o)) r ρ'
    | some (some (.dat _)), _ => backs ρ r ρ'
    | _, _ => none
  | .s _ :: _, [] => none
/-- no slot is handed over twice -/
def ndB : List Nat → Bool
  | [] => true
  | x :: xs => !xs.contains x && ndB xs
def callF (t : Ent) (as : List Ar) : M O := fun ρ =>
  if as.length ≤ t.ps.length ∧ t.ps.length ≤ as.length + t.dfl.length ∧ ndB (slots as) = true then
    match objs ρ (as ++ (t.dfl.drop (as.length + t.dfl.length - t.ps.length)).map .d) with
    | none => .bad
    | some os => match t.F os with
      | .bad => .bad
      | .ok o ρ' => match backs ρ as ρ' with
        | some ρ1 => .ok o ρ1
        | none => .bad
      | .ex x ρ' => match backs ρ as ρ' with
        | some ρ1 => .ex x ρ1
        | none => .bad
  else .bad
def mCall (t : Ent) (f : M (List Ar)) : M O := f.bnd fun as ρ =>
  if as.length ≤ t.ps.length ∧ t.ps.length ≤ as.length + t.dfl.length ∧ ndB (slots as) = true then
    match objs ρ (as ++ (t.dfl.drop (as.length + t.dfl.length - t.ps.length)).map .d) with
    | none => .bad
    | some os => match t.F os with
      | .bad => .bad
      | .ok o ρ' => match backs ρ as ρ' with
        | some ρ1 => .ok o ρ1
        | none => .bad
      | .ex x ρ' => match backs ρ as ρ' with
        | some ρ1 => .ex x ρ1
        | none => .bad
  else .bad
end PL

end
-- text PL8
section
set_option linter.all false
set_option maxRecDepth 100000
set_option maxHeartbeats 4000000
namespace PL
open PySem PySem.Spec L2
section
variable {K : PySem.W.Frag} {cl : Str → Option Addr} {S H : Hp} {σ : L2.St}
theorem Sl.out : ∀ {σ : L2.St} {ρ : Rho} {R : List Addr}, Sl K cl S H σ ρ R → ∀ {i : Nat} {o : O}, ρ[i]? = some (some o) →
    ∃ v Ri R0, σ[i]? = some (some v) ∧ Ow K cl S H v o Ri ∧ (Ri ++ R0).Perm R ∧ Sl K cl S H σ (ρ.set i none) R0
  | _, _, _, .nil, _, _, q => by simp at q
  | _, _, _, .non r, 0, _, q => by simp at q
  | _, _, _, .non r, i + 1, o, q => by
    obtain ⟨v, Ri, R0, hv, ho, hp, hs⟩ := Sl.out r (i := i) (o := o) (by simpa using q)
    exact ⟨v, Ri, R0, by simpa using hv, ho, hp, .non hs⟩
  | _, _, _, @Sl.has _ _ _ _ v o σ ρ R R' a b, 0, o', q => by
    simp at q; subst q
    exact ⟨v, R, R', rfl, a, List.Perm.refl _, .non b⟩
  | _, _, _, @Sl.has _ _ _ _ v o σ ρ R R' a b, i + 1, o', q => by
    obtain ⟨w, Ri, R0, hv, ho, hp, hs⟩ := Sl.out b (i := i) (o := o') (by simpa using q)
    refine ⟨w, Ri, R ++ R0, by simpa using hv, ho, ?_, .has a hs⟩
    refine List.Perm.trans ?_ (List.Perm.append_left R hp)
    rw [← List.append_assoc, ← List.append_assoc]
    exact List.Perm.append_right R0 List.perm_append_comm
theorem Sl.into : ∀ {σ : L2.St} {ρ : Rho} {R : List Addr}, Sl K cl S H σ ρ R → ∀ {i : Nat} {v : V} {o : O} {Ri : List Addr}, ρ[i]? = some none → σ[i]? = some (some v) → Ow K cl S H v o Ri →
    ∃ R1, R1.Perm (Ri ++ R) ∧ Sl K cl S H σ (ρ.set i (some o)) R1
  | _, _, _, .nil, _, _, _, _, q, _, _ => by simp at q
  | _, _, _, .non r, 0, v, o, Ri, q, hv, ho => by
    simp at hv; subst hv
    exact ⟨_, List.Perm.refl _, .has ho r⟩
  | _, _, _, .non r, i + 1, v, o, Ri, q, hv, ho => by
    obtain ⟨R1, hp, hs⟩ := Sl.into r (i := i) (by simpa using q) (by simpa using hv) ho
    exact ⟨R1, hp, .non hs⟩
  | _, _, _, @Sl.has _ _ _ _ w o' σ ρ R R' a b, 0, v, o, Ri, q, hv, ho => by simp at q
  | _, _, _, @Sl.has _ _ _ _ w o' σ ρ R R' a b, i + 1, v, o, Ri, q, hv, ho => by
    obtain ⟨R1, hp, hs⟩ := Sl.into b (i := i) (by simpa using q) (by simpa using hv) ho
    refine ⟨R ++ R1, ?_, .has a hs⟩
    refine List.Perm.trans (List.Perm.append_left R hp) ?_
    rw [← List.append_assoc, ← List.append_assoc]
    exact List.Perm.append_right R' List.perm_append_comm
theorem objs_set {i : Nat} {x : Option O} : ∀ {as : List Ar} {ρ : Rho}, i ∉ slots as → objs (ρ.set i x) as = objs ρ as
  | [], _, _ => rfl
  | .d _ :: as, ρ, h => by simp only [objs, objs_set (as := as) (ρ := ρ) h]
  | .s j :: as, ρ, h => by
    simp only [slots, List.mem_cons, not_or] at h
    have e : (ρ.set i x)[j]? = ρ[j]? := by rw [List.getElem?_set_ne h.1]
    simp only [objs, e, objs_set (as := as) (ρ := ρ) h.2]
theorem backs_set {i : Nat} {x : Option O} : ∀ {as : List Ar} {ρ ρ' ρ1 : Rho}, i ∉ slots as → backs ρ as ρ' = some ρ1 → backs (ρ.set i x) as ρ' = some (ρ1.set i x)
  | [], _, _, _, _, h => by simp only [backs, Option.some.injEq] at h ⊢; rw [h]
  | .d _ :: as, ρ, ρ', ρ1, hn, h => by
    cases ρ' with
    | nil => cases h
    | cons z ρ' => exact backs_set (as := as) hn h
  | .s j :: as, ρ, ρ', ρ1, hn, h => by
    simp only [slots, List.mem_cons, not_or] at hn
    have e : (ρ.set i x)[j]? = ρ[j]? := by rw [List.getElem?_set_ne hn.1]
    cases ρ' with
    | nil => cases h
    | cons z ρ' =>
      simp only [backs, e] at h ⊢
      split at h
      · rw [List.set_comm _ _ hn.1]; exact backs_set hn.2 h
      · rw [List.set_comm _ _ hn.1]; exact backs_set hn.2 h
      · exact backs_set hn.2 h
      · cases h
theorem backs_get {i : Nat} : ∀ {as : List Ar} {ρ ρ' ρ1 : Rho}, i ∉ slots as → backs ρ as ρ' = some ρ1 → ρ1[i]? = ρ[i]?
  | [], _, _, _, _, h => by simp only [backs, Option.some.injEq] at h; rw [h]
  | .d _ :: as, ρ, ρ', ρ1, hn, h => by
    cases ρ' with
    | nil => cases h
    | cons z ρ' => exact backs_get (as := as) hn h
  | .s j :: as, ρ, ρ', ρ1, hn, h => by
    simp only [slots, List.mem_cons, not_or] at hn
    cases ρ' with
    | nil => cases h
    | cons z ρ' =>
      simp only [backs] at h
      split at h
      · rw [backs_get hn.2 h, List.getElem?_set_ne (fun z => hn.1 z.symm)]
      · rw [backs_get hn.2 h, List.getElem?_set_ne (fun z => hn.1 z.symm)]
      · exact backs_get hn.2 h
      · cases h
/-- the owned objects of the slots that are handed over, and the others -/
theorem inN : ∀ {as : List Ar} {vs : List V} {os : List O} {ρ : Rho} {R : List Addr}, Sl K cl S H σ ρ R → RepA K cl S σ vs as → ndB (slots as) = true → objs ρ as = some os →
    ∃ Rc Rr, (Rc ++ Rr).Perm R ∧ Ows K cl S H vs os Rc ∧ ∀ S' H' ρ' R' ρ1, Le S S' → (∀ a ∈ Rr, ∀ u, H a = some u → H' a = some u) → Bk K cl S' H' vs os ρ' R' → backs ρ as ρ' = some ρ1 → ∃ R1, R1.Perm (R' ++ Rr) ∧ Sl K cl S' H' σ ρ1 R1
  | [], _, _, ρ, R, hs, .nil, _, e => by
    cases e
    refine ⟨[], R, List.Perm.refl _, .nil, fun S' H' ρ' R' ρ1 l k b q => ?_⟩
    cases b
    simp only [backs, Option.some.injEq] at q
    subst q
    exact ⟨R, List.Perm.refl _, hs.up l k⟩
  | .d x :: as, _, _, ρ, R, hs, .d a b, hn, e => by
    simp only [objs, Option.map_eq_some_iff] at e
    obtain ⟨os, e1, rfl⟩ := e
    obtain ⟨Rc, Rr, hp, ho, hb⟩ := inN hs b hn e1
    refine ⟨Rc, Rr, hp, Ows.cons (R := []) (.dat a) ho, fun S' H' ρ' R' ρ1 l k h q => ?_⟩
    cases h with
    | dat h => exact hb _ _ _ _ _ l k h q
    | own z _ _ => cases z
  | .s i :: as, _, _, ρ, R, hs, @RepA.s _ _ _ _ v0 _ vs0 _ a b, hn, e => by
    simp only [slots, ndB, Bool.and_eq_true, Bool.not_eq_true'] at hn
    have hi : i ∉ slots as := fun z => by
      have := hn.1
      rw [List.contains_iff_mem.mpr z] at this
      cases this
    simp only [objs] at e
    split at e
    · rename_i o eo
      simp only [Option.map_eq_some_iff] at e
      obtain ⟨os, e1, rfl⟩ := e
      obtain ⟨v, Ri, R0, hv, how, hp0, hs0⟩ := hs.out eo
      have ev : v0 = v := Option.some.inj (Option.some.inj (a.symm.trans hv))
      subst ev
      have hlt : i < ρ.length := (List.getElem?_eq_some_iff.mp eo).1
      obtain ⟨Rc, Rr, hp, ho, hb⟩ := inN (ρ := ρ.set i none) hs0 b hn.2 (by rw [objs_set hi]; exact e1)
      refine ⟨Ri ++ Rc, Rr, ?_, Ows.cons how ho, fun S' H' ρ' R' ρ1 l k h q => ?_⟩
      · rw [List.append_assoc]
        exact (List.Perm.append_left Ri hp).trans hp0
      have fin : ∀ {ρ2 : Rho} {o1 : O} {Rv R2 : List Addr}, Ow K cl S' H' v0 o1 Rv → Bk K cl S' H' vs0 os ρ2 R2 → ρ1[i]? = some (some o1) → backs (ρ.set i none) as ρ2 = some (ρ1.set i none) → ∃ R1, R1.Perm ((Rv ++ R2) ++ Rr) ∧ Sl K cl S' H' σ ρ1 R1 := fun {ρ2 o1 Rv R2} w1 b1 g1 q1 => by
        obtain ⟨R3, hp3, hs3⟩ := hb _ _ _ _ _ l k b1 q1
        have hl1 : i < ρ1.length := (List.getElem?_eq_some_iff.mp g1).1
        obtain ⟨R4, hp4, hs4⟩ := hs3.into (i := i) (by simp [hl1]) hv w1
        rw [List.set_set, set_self g1] at hs4
        refine ⟨R4, hp4.trans ?_, hs4⟩
        rw [List.append_assoc Rv R2 Rr]
        exact List.Perm.append_left Rv hp3
      cases h with
      | dat h =>
        rename_i d x ρ2
        cases how with
        | dat r =>
          simp only [backs, eo] at q
          have g1 := backs_get hi q
          exact fin (Rv := []) (.dat (r.up l)) h (g1.trans eo) (backs_set hi q)
      | own z w1 h =>
        rename_i o1 ρ2 Rv R2
        have q2 : backs (ρ.set i (some o1)) as ρ2 = some ρ1 := by
          simp only [backs, eo] at q
          cases o with
          | dat _ => cases z
          | own _ => exact q
          | ob _ _ _ => exact q
        have g1 : ρ1[i]? = some (some o1) := by
          rw [backs_get hi q2]
          simp [hlt]
        have q3 := backs_set (x := none) hi q2
        rw [List.set_set] at q3
        exact fin w1 h g1 q3
    · cases e
theorem slots_app : ∀ (as : List Ar) (ds : List D), slots (as ++ ds.map .d) = slots as
  | [], [] => rfl
  | [], d :: ds => slots_app [] ds
  | .d _ :: as, ds => slots_app as ds
  | .s _ :: as, ds => by simp [slots, slots_app as ds]
theorem backs_app : ∀ (as : List Ar) (ds : List D) {ρ ρ' : Rho}, as.length + ds.length ≤ ρ'.length → backs ρ (as ++ ds.map .d) ρ' = backs ρ as ρ'
  | [], [], _, _, _ => rfl
  | [], d :: ds, ρ, [], h => by simp at h
  | [], d :: ds, ρ, x :: ρ', h => by
    have := backs_app [] ds (ρ := ρ) (ρ' := ρ') (by simp at h ⊢; omega)
    simpa [backs] using this
  | .d _ :: as, ds, ρ, [], h => by simp at h
  | .d _ :: as, ds, ρ, x :: ρ', h => by
    have := backs_app as ds (ρ := ρ) (ρ' := ρ') (by simp at h ⊢; omega)
    simpa [backs] using this
  | .s i :: as, ds, ρ, [], h => by simp at h
  | .s i :: as, ds, ρ, x :: ρ', h => by
    simp only [List.cons_append, backs]
    split
    · exact backs_app as ds (by simp at h ⊢; omega)
    · exact backs_app as ds (by simp at h ⊢; omega)
    · exact backs_app as ds (by simp at h ⊢; omega)
    · rfl
end
theorem Bk.len {K : PySem.W.Frag} {cl : Str → Option Addr} {S H : Hp} : ∀ {vs : List V} {os : List O} {ρ : Rho} {R : List Addr}, Bk K cl S H vs os ρ R → os.length ≤ ρ.length
  | _, _, _, _, .nil => Nat.zero_le _
  | _, _, _, _, .dat h => by simpa using Bk.len h
  | _, _, _, _, .own _ _ h => by simpa using Bk.len h
theorem objs_len {ρ : Rho} : ∀ {as : List Ar} {os : List O}, objs ρ as = some os → os.length = as.length
  | [], _, h => by cases h; rfl
  | .d _ :: as, _, h => by
    simp only [objs, Option.map_eq_some_iff] at h
    obtain ⟨os, h1, rfl⟩ := h
    simp [objs_len h1]
  | .s i :: as, _, h => by
    simp only [objs] at h
    split at h
    · simp only [Option.map_eq_some_iff] at h
      obtain ⟨os, h1, rfl⟩ := h
      simp [objs_len h1]
    · cases h
/-- into the call and back -/
theorem Wd.call {p : Pm} {S H : Hp} {σ : L2.St} {ρ : Rho} {R : List Addr} (w : Wd p S H σ ρ R) {vs : List V} {as : List Ar} {os : List O} (ra : RepA p.K p.cl S σ vs as) (h1 : ndB (slots as) = true) (ho : objs ρ as = some os) :
    ∃ Rc, Ows p.K p.cl S H vs os Rc ∧ Rc.Nodup ∧ (∀ a ∈ Rc, S a = none) ∧
      ∀ S' H' ρ' R' ρ1 Rv, Le S' H' → Stp Rc H S (R' ++ Rv) H' S' → Bk p.K p.cl S' H' vs os ρ' R' → (R' ++ Rv).Nodup → (∀ a ∈ R' ++ Rv, S' a = none) → backs ρ as ρ' = some ρ1 →
        ∃ R1, Wd p S' H' σ ρ1 R1 ∧ (R1 ++ Rv).Nodup ∧ Stp R H S (R1 ++ Rv) H' S' := by
  have there := w.sl.there
  obtain ⟨Rc, Rr, hp, k1, k2⟩ := inN w.sl ra h1 ho
  have ndp : (Rc ++ Rr).Nodup := hp.nodup_iff.mpr w.nd
  obtain ⟨nc, nr, dj⟩ := List.nodup_append.mp ndp
  have inR : ∀ a, a ∈ Rc ++ Rr ↔ a ∈ R := fun a => hp.mem_iff
  have rc : ∀ a ∈ Rc, a ∈ R := fun a ha => (inR a).mp (List.mem_append_left _ ha)
  have rr : ∀ a ∈ Rr, a ∈ R := fun a ha => (inR a).mp (List.mem_append_right _ ha)
  have out : ∀ a ∈ Rr, a ∉ Rc := fun a ha hb => dj a hb a ha rfl
  refine ⟨Rc, k1, nc, fun a ha => w.ap a (rc a ha), fun S' H' ρ' R' ρ1 Rv l t b nd ap k => ?_⟩
  have keep : ∀ a ∈ Rr, ∀ o, H a = some o → H' a = some o := fun a ha o e => t.k a o e (out a ha)
  obtain ⟨R1, hp1, sl⟩ := k2 S' H' ρ' R' ρ1 t.s keep b k
  have disj : ∀ a ∈ Rr, a ∉ R' ++ Rv := fun a ha hb => by
    rcases t.r a hb with z | z
    · exact out a ha z
    · exact there a (rr a ha) z
  have in1 : ∀ a, a ∈ R1 ↔ a ∈ R' ++ Rr := fun a => hp1.mem_iff
  obtain ⟨n1, n2, n3⟩ := List.nodup_append.mp nd
  have nd1 : R1.Nodup := hp1.nodup_iff.mpr (List.nodup_append.mpr ⟨n1, nr, fun a ha b hb e => by subst e; exact disj a hb (List.mem_append_left _ ha)⟩)
  have ndF : (R1 ++ Rv).Nodup := List.nodup_append.mpr ⟨nd1, n2, fun a ha b hb e => by
    subst e
    rcases List.mem_append.mp ((in1 a).mp ha) with z | z
    · exact n3 a z a hb rfl
    · exact disj a z (List.mem_append_right _ hb)⟩
  refine ⟨R1, ⟨l, sl, nd1, fun a ha => ?_, w.io⟩, ndF, ⟨t.s, fun b h1 h2 => ?_, fun b o e hb => t.k b o e fun z => hb (rc b z), fun b hb => ?_, t.t⟩⟩
  · rcases List.mem_append.mp ((in1 a).mp ha) with z | z
    · exact ap a (List.mem_append_left _ z)
    · cases q : S' a with
      | none => rfl
      | some o =>
        rcases t.n a (there a (rr a z)) (by rw [q]; simp) with y | y
        · exact absurd (w.ap a (rr a z)) y
        · exact absurd y (out a z)
  · rcases t.n b h1 h2 with z | z
    · exact .inl z
    · exact .inr (rc b z)
  · have new : b ∈ R' ++ Rv → b ∈ R ∨ H b = none := fun z => by
      rcases t.r b z with y | y
      · exact .inl (rc b y)
      · exact .inr y
    rcases List.mem_append.mp hb with z | z
    · rcases List.mem_append.mp ((in1 b).mp z) with y | y
      · exact new (List.mem_append_left _ y)
      · exact .inl (rr b y)
    · exact new (List.mem_append_right _ z)
section
variable {X : Cx} {p : Pm} {W : WX}
/-- the callee runs -/
theorem run_G {k : Nat} {f : Addr} {fd : FuncData} {ps : List Str} {sp : Sp} {pins : List (Addr × Obj)} {σ : L2.St} {H : Hp} {s : Shared} {Q : VK} {us ws : List Value} {vs : List V} (F : FnG X.prog X.w X.K X.mg X.base k f fd ps sp) (hr : Room k X.A) (hg : X.A.guards = some []) (tk : Takes X W)
    (hb : BindsTo s fd ⟨us, []⟩ (ps.zip ws)) (I : L2.Inv X pins σ H s) (r : Vals vs ws) (h : sp vs H Q (WE W σ)) : wpAny (model X.prog X.w) X.A (call (.ref f) us) (EP X pins σ Q) X.xe s := by
  refine wpAny_call (codeAny_mono (F.run X.A X.stack s H ⟨us, []⟩ ws vs Q (WE W σ) hr hg I.env0 hb r h) fun res s' hq => ?_)
  match res, hq with
  | .error e, hq => exact passAt tk σ pins H s e s' I hq
  | .ok (.ret u), hq => exact I.after hq
/-- .. with arguments laid out -/
theorem run_E {k : Nat} {t : Ent} {f : Addr} {pins : List (Addr × Obj)} {σ : L2.St} {H1 S1 : Hp} {R1 : List Addr} {ρ1 : Rho} {s1 : Shared} {Q : VK} {us : List Value} {vs : List V} {as : List Ar} (ok : FnE X.prog X.w p.K p.cl X.mg X.base k f t) (hK : X.K = p.K) (hr : Room k X.A) (hgd : X.A.guards = some []) (tk : Takes X W)
    (I1 : L2.Inv X pins σ H1 s1) (rv : Vals vs us) (w1 : Wd p S1 H1 σ ρ1 R1) (ra : RepA p.K p.cl S1 σ vs as) (h1 : PoO p W σ S1 H1 R1 Q (callF t as ρ1)) : wpAny (model X.prog X.w) X.A (call (.ref f) us) (EP X pins σ Q) X.xe s1 := by
  obtain ⟨fd, dvs, ds, hkp, F, rd, rdd, hbind⟩ := ok.ex
  unfold callF at h1
  split at h1
  · rename_i hlen
    obtain ⟨l1, l2, l3⟩ := hlen
    split at h1
    · exact h1.elim
    · rename_i os ho
      have eds : ds.length = t.dfl.length := by rw [← rd.length]; exact (rdd S1).length
      have evs : us.length = as.length := by rw [← rv.length]; exact ra.length
      obtain ⟨n, en⟩ : ∃ n, n = as.length + t.dfl.length - t.ps.length := ⟨_, rfl⟩
      rw [← en] at ho
      have rdrop : ∀ {a : List V} {b : List D} (m : Nat), Reps p.K p.cl S1 a b → Reps p.K p.cl S1 (a.drop m) (b.drop m) := by
        intro a b m hh
        induction m generalizing a b with
        | zero => exact hh
        | succ m ih =>
          cases hh with
          | nil => exact .nil
          | cons _ hh => exact ih hh
      have ra2 : RepA p.K p.cl S1 σ (vs ++ dvs.drop n) (as ++ (t.dfl.drop n).map .d) := ra.app (rdrop n (rdd S1))
      have rv2 : Vals (vs ++ dvs.drop n) (us ++ ds.drop n) := rv.append (rd.drop n)
      have l4 : ndB (slots (as ++ (t.dfl.drop n).map .d)) = true := by rw [slots_app]; exact l3
      obtain ⟨Rc, c1, c2, c3, back⟩ := w1.call ra2 l4 ho
      have hb := hbind s1 us (by rw [← hK]; exact I1.kIn) (by omega) (by omega)
      have en2 : us.length + ds.length - t.ps.length = n := by omega
      rw [en2] at hb
      have olen : os.length = t.ps.length := by
        rw [objs_len ho, List.length_append, List.length_map, List.length_drop]
        omega
      have vlen : (vs ++ dvs.drop n).length = t.ps.length := by rw [c1.length]; exact olen
      have bk : ∀ {ρ' ρ2 : Rho} {S' H' : Hp} {R' : List Addr}, Bk p.K p.cl S' H' (vs ++ dvs.drop n) os ρ' R' → backs ρ1 as ρ' = some ρ2 → backs ρ1 (as ++ (t.dfl.drop n).map .d) ρ' = some ρ2 := fun {ρ' ρ2 S' H' R'} b z => by
        rw [backs_app _ _ (by
          have := b.len
          have := objs_len ho
          simp only [List.length_append, List.length_map] at this
          omega)]
        exact z
      have F2 : FnG X.prog X.w X.K X.mg X.base k f fd t.ps (spF p.K p.cl t.ps.length t.F) := by rw [hK]; exact F
      refine run_G F2 hr hgd tk hb I1 rv2 ⟨vlen, S1, Rc, os, w1.le, c1, c2, c3, ?_⟩
      revert h1
      cases eF : t.F os with
      | bad => exact fun h1 => h1
      | ok o ρ' =>
        intro h1 S' H' R' v Rv l tt b ow nd ap
        dsimp only at h1
        split at h1
        · rename_i ρ2 e2
          obtain ⟨R2, w2, nd2, t2⟩ := back S' H' ρ' R' ρ2 Rv l tt b nd ap (bk b e2)
          exact h1 S' H' R2 v Rv t2 w2 ow nd2 fun a ha => ap a (List.mem_append_right _ ha)
        · exact h1.elim
      | ex x ρ' =>
        intro h1 S' H' R' C dd l tt b nd ap xr
        dsimp only at h1
        split at h1
        · rename_i ρ2 e2
          obtain ⟨R2, w2, nd2, t2⟩ := back S' H' ρ' R' ρ2 [] l (by simpa using tt) b (by simpa using nd) (by simpa using ap) (bk b e2)
          exact h1 S' H' R2 C dd (by simpa using t2) w2 xr
        · exact h1.elim
  · exact h1.elim
theorem do_call {k : Nat} {t : Ent} {e : Expr} {es : List Expr} {fa : M (List Ar)} {q pos : Pos} (ok : EntOk X.prog X.w p.K p.cl X.mg X.base k t) (hK : X.K = p.K) (hr : Room k X.A) (hgd : X.A.guards = some []) (tk : Takes X W) (hg : Gl X t.name) (ha : PA X (e :: es) (tDX p W fa))
    (hdb : (t.name == ("__debug__" : Str)) = false) (he : starEach (e :: es) X.env = (false, eval e X.env) :: starEach es X.env) (hpl : (backTo pos (starEach es X.env)).any (·.1) = false) :
    PE X (.Call (.Name t.name q) (e :: es) [] pos) (tDO p W (mCall t fa)) := by
  refine ⟨fun pins s σ H Q I h => ?_⟩
  obtain ⟨f, fd, dvs, ds, hm, hkp, F, rd, rdd, hbind⟩ := ok.ex
  have FE : FnE X.prog X.w p.K p.cl X.mg X.base k f t := ⟨fd, dvs, ds, hkp, F, rd, rdd, hbind⟩
  rw [← hK] at hkp
  refine wpAny_Call_Name_kw (ld_glob I hg hm ?_ hdb)
  obtain ⟨ρ, S, R, w, h⟩ := h
  refine PySem.W.callWith_K (h₀ := X.base) I.ok.mod.kin hkp (thn (ha.run pos pins s σ H _ I ⟨ρ, S, R, w, isO.bX h⟩) fun us s1 ⟨vs, H1, I1, rv, as, ρ1, S1, R1, ra, t1, w1, h1⟩ => ⟨I1.kIn, ?_⟩) he hpl
  exact run_E FE hK hr hgd tk I1 rv w1 ra h1
end
end PL

end
-- text PL9
section
set_option linter.all false
set_option maxRecDepth 100000
set_option maxHeartbeats 4000000
namespace PL
open PySem PySem.Spec L2

/-! ### statements -/
def mSeq (f g : M Fl) : M Fl := f.bnd fun fl => match fl with
  | .nx => g
  | fl => M.ret fl
def mNx : M Fl := M.ret .nx
section
variable {X : Cx} {p : Pm} {W : WX}
theorem ds_nil : PSs X [] (tDS p W mNx) := PSs.imp pss_nil fun D σ H ⟨ρ, S, R, w, h⟩ => h σ S H R Stp.refl w
theorem ds_cons {st : Stmt} {rest : List Stmt} {f g : M Fl} (h1 : PS X st (tDS p W f)) (h2 : PSs X rest (tDS p W g)) : PSs X (st :: rest) (tDS p W (mSeq f g)) :=
  PSs.imp (pss_cons h1 h2) fun D σ H ⟨ρ, S, R, w, h⟩ => by
    refine ⟨ρ, S, R, w, ?_⟩
    have h' : PoS p W S H R D ((f ρ).bnd fun fl => match fl with | .nx => g | fl => M.ret fl) := h
    revert h'
    cases f ρ with
    | bad => exact fun h => h
    | ex x ρ' => exact fun h => h
    | ok fl ρ' =>
      cases fl with
      | nx => exact fun h σ' S' H' R' t w' => ⟨ρ', S', R', w', PoS.up t h⟩
      | rt o => exact fun h => h
      | bk => exact fun h => h
      | ct => exact fun h => h
theorem ds_pass {pos : Pos} : PS X (.Pass pos) (tDS p W mNx) := PS.imp ps_pass fun D σ H ⟨ρ, S, R, w, h⟩ => h σ S H R Stp.refl w
theorem ds_break {pos : Pos} : PS X (.Break pos) (tDS p W (M.ret .bk)) := PS.imp ps_break fun D σ H ⟨ρ, S, R, w, h⟩ => h σ S H R Stp.refl w
theorem ds_cont {pos : Pos} : PS X (.Continue pos) (tDS p W (M.ret .ct)) := PS.imp ps_continue fun D σ H ⟨ρ, S, R, w, h⟩ => h σ S H R Stp.refl w
def mIfS (t : M Bool) (f g : M Fl) : M Fl := mIf t f g
theorem ds_if {c : Expr} {a b : List Stmt} {pos : Pos} {t : M Bool} {f g : M Fl} (hc : PT X c (tDT p W t)) (ha : PSs X a (tDS p W f)) (hb : PSs X b (tDS p W g)) : PS X (.If c a b pos) (tDS p W (mIf t f g)) :=
  PS.imp (ps_if hc ha hb) fun D σ H ⟨ρ, S, R, w, h⟩ => by
    refine ⟨ρ, S, R, w, ((isS (σ := σ)).bT h).mono fun k H1 ⟨ρ1, S1, R1, t1, w1, h1⟩ => ?_⟩
    cases k with
    | true => exact ⟨ρ1, S1, R1, w1, h1⟩
    | false => exact ⟨ρ1, S1, R1, w1, h1⟩
def mEx (f : M O) : M Fl := f.bnd fun _ => mNx
theorem ds_expr {e : Expr} {pos : Pos} {f : M O} (he : PE X e (tDO p W f)) (hs : swapsWith e none pos.line X.env = pure false) : PS X (.Expr e pos) (tDS p W (mEx f)) :=
  PS.imp (ps_expr he hs) fun D σ H ⟨ρ, S, R, w, h⟩ => by
    refine ⟨ρ, S, R, w, ((isS (σ := σ)).bO h).mono fun v H1 ⟨o, ρ1, S1, R1, Rv, ow, t1, w1, nd, ap, h1⟩ => ?_⟩
    exact h1 σ S1 H1 R1 (Stp.refl.less fun b hb => List.mem_append_left _ hb) w1
def mRet (f : M O) : M Fl := f.bnd fun o => M.ret (.rt o)
theorem ds_ret {e : Expr} {pos : Pos} {f : M O} (he : PE X e (tDO p W f)) : PS X (.Return (some e) pos) (tDS p W (mRet f)) :=
  PS.imp (ps_ret he) fun D σ H ⟨ρ, S, R, w, h⟩ => by
    refine ⟨ρ, S, R, w, ((isS (σ := σ)).bO h).mono fun v H1 ⟨o, ρ1, S1, R1, Rv, ow, t1, w1, nd, ap, h1⟩ => ?_⟩
    exact h1 σ S1 H1 R1 v Rv Stp.refl w1 ow nd ap
theorem ds_retN {pos : Pos} : PS X (.Return none pos) (tDS p W (M.ret (.rt (.dat .non)))) :=
  PS.imp ps_retN fun D σ H ⟨ρ, S, R, w, h⟩ => h σ S H R .non [] (by simpa using Stp.refl) w (.dat .non) (by simpa using w.nd) (fun _ z => nomatch z)
/-- a slot gets a new value -/
theorem Wd.put {S H : Hp} {σ : L2.St} {ρ : Rho} {R Rv : List Addr} {i : Nat} {v : V} {o : O} (w : Wd p S H σ ρ R) (ow : Ow p.K p.cl S H v o Rv) (nd : (R ++ Rv).Nodup) (ap : ∀ a ∈ Rv, S a = none) (hi : ∀ q ∈ p.io, q.1 ≠ i) (hl : i < ρ.length) :
    ∃ R', Wd p S H (σ.set i (some v)) (ρ.set i (some o)) R' ∧ ∀ b ∈ R', b ∈ R ++ Rv := by
  have gen : ∀ {σ : L2.St} {ρ : Rho} {R : List Addr}, Sl p.K p.cl S H σ ρ R → ∀ {i : Nat}, i < ρ.length → ∃ R1 R2 Ri, R = R1 ++ (Ri ++ R2) ∧ Sl p.K p.cl S H (σ.set i (some v)) (ρ.set i (some o)) (R1 ++ (Rv ++ R2)) := by
    intro σ ρ R h
    induction h with
    | nil => intro i h; simp at h
    | @non x σ ρ R r ih =>
      intro i hi
      cases i with
      | zero => exact ⟨[], R, [], by simp, by simpa using Sl.has ow r⟩
      | succ i =>
        obtain ⟨R1, R2, Ri, e, h⟩ := ih (i := i) (by simpa using hi)
        exact ⟨R1, R2, Ri, e, .non h⟩
    | @has v0 o0 σ ρ R0 R' a r ih =>
      intro i hi
      cases i with
      | zero => exact ⟨[], R', R0, by simp, by simpa using Sl.has ow r⟩
      | succ i =>
        obtain ⟨R1, R2, Ri, e, h⟩ := ih (i := i) (by simpa using hi)
        exact ⟨R0 ++ R1, R2, Ri, by rw [e]; simp, by simpa using Sl.has a h⟩
  obtain ⟨R1, R2, Ri, e, sl⟩ := gen w.sl hl
  subst e
  have sub : ∀ b ∈ R1 ++ (Rv ++ R2), b ∈ (R1 ++ (Ri ++ R2)) ++ Rv := fun b hb => by
    simp only [List.mem_append] at hb ⊢
    rcases hb with z | z | z <;> simp [z]
  refine ⟨_, ⟨w.le, sl, ?_, fun a ha => ?_, fun q hq => ?_⟩, sub⟩
  · obtain ⟨n1, n2, n3⟩ := List.nodup_append.mp nd
    obtain ⟨m1, m2, m3⟩ := List.nodup_append.mp n1
    obtain ⟨l1, l2, l3⟩ := List.nodup_append.mp m2
    refine List.nodup_append.mpr ⟨m1, List.nodup_append.mpr ⟨n2, l2, fun a ha b hb z => ?_⟩, fun a ha b hb z => ?_⟩
    · subst z; exact n3 a (by simp [hb]) a ha rfl
    · subst z
      rcases List.mem_append.mp hb with y | y
      · exact n3 a (by simp [ha]) a y rfl
      · exact m3 a ha a (by simp [y]) rfl
  · rcases List.mem_append.mp (sub a ha) with z | z
    · exact w.ap a z
    · exact ap a z
  · have := w.io q hq
    rw [List.getElem?_set_ne (Ne.symm (hi q hq))]
    exact this
def mSet (i : Nat) (f : M O) : M Fl := f.bnd fun o ρ => if i < ρ.length then .ok .nx (ρ.set i (some o)) else .bad
theorem tSet_imp {i : Nat} {f : M O} (hi : ∀ q ∈ p.io, q.1 ≠ i) {D : Ends} {σ : L2.St} {H : Hp} (h : tDS p W (mSet i f) D σ H) : tAsg (tDO p W f) (gName i) D σ H := by
  obtain ⟨ρ, S, R, w, h⟩ := h
  refine ⟨ρ, S, R, w, ((isS (σ := σ)).bO h).mono fun v H1 ⟨o, ρ1, S1, R1, Rv, ow, t1, w1, nd, ap, h1⟩ => ?_⟩
  show D.nx (σ.set i (some v)) H1
  replace h1 : PoS p W S1 H1 (R1 ++ Rv) D (if i < ρ1.length then .ok .nx (ρ1.set i (some o)) else .bad) := h1
  split at h1
  · rename_i hl
    obtain ⟨R2, w2, sub⟩ := w1.put ow nd ap hi hl
    exact h1 _ S1 H1 R2 (Stp.refl.less sub) w2
  · exact h1.elim
theorem ds_set (o : Ok0 X p) {i : Nat} {x : Str} {e : Expr} {pos pos' : Pos} {f : M O} (hN : X.N[i]? = some x) (hx : Loc X.env.scope x) (hi : ∀ q ∈ p.io, q.1 ≠ i) (he : PE X e (tDO p W f)) (hs : swapsWith e (some (.Name x pos')) pos.line X.env = pure false)
    (hf : X.fn x = true ∨ X.env.scope.names.lookup x = some .local) : PS X (.Assign [.Name x pos'] e pos) (tDS p W (mSet i f)) :=
  PS.imp (ps_set o.N hN hx he hs hf) fun D σ H h => tSet_imp hi h
end

/-! ### a def by its body -/
/-- how a body's outcome is the call's -/
def okB : List O → Rho → Bool
  | [], _ => true
  | .dat _ :: os, _ :: ρ => okB os ρ
  | .own _ :: os, some _ :: ρ => okB os ρ
  | .ob _ _ _ :: os, some _ :: ρ => okB os ρ
  | _, _ => false
def fin (os : List O) : Rs Fl → Rs O
  | .ok .nx ρ => if okB os ρ then .ok (.dat .non) ρ else .bad
  | .ok (.rt o) ρ => if okB os ρ then .ok o ρ else .bad
  | .ex x ρ => if okB os ρ then .ex x ρ else .bad
  | _ => .bad
/-- which parameters are handed over: io; the others must be data -/
def okIn (io : List Nat) : Nat → List O → Bool
  | _, [] => true
  | i, .dat _ :: os => okIn io (i + 1) os
  | i, .own _ :: os => io.contains i && okIn io (i + 1) os
  | i, .ob _ _ _ :: os => io.contains i && okIn io (i + 1) os
def bodyF (N n : Nat) (io : List Nat) (g : M Fl) : List O → Rs O := fun os => if os.length = n ∧ okIn io 0 os then fin os (g (os.map some ++ List.replicate (N - n) none)) else .bad
def pinsOf (io : List Nat) : Nat → List V → List (Nat × V)
  | _, [] => []
  | i, v :: vs => if io.contains i then (i, v) :: pinsOf io (i + 1) vs else pinsOf io (i + 1) vs
theorem pins_ge {io : List Nat} : ∀ {vs : List V} {i : Nat} {q : Nat × V}, q ∈ pinsOf io i vs → i ≤ q.1 ∧ io.contains q.1 = true ∧ vs[q.1 - i]? = some q.2
  | [], _, _, h => by cases h
  | v :: vs, i, q, h => by
    unfold pinsOf at h
    split at h
    · rename_i hc
      rcases List.mem_cons.mp h with z | z
      · subst z; exact ⟨Nat.le_refl _, hc, by simp⟩
      · obtain ⟨h1, h2, h3⟩ := pins_ge z
        refine ⟨by omega, h2, ?_⟩
        have : q.1 - i = (q.1 - (i + 1)) + 1 := by omega
        rw [this]; simpa using h3
    · obtain ⟨h1, h2, h3⟩ := pins_ge h
      refine ⟨by omega, h2, ?_⟩
      have : q.1 - i = (q.1 - (i + 1)) + 1 := by omega
      rw [this]; simpa using h3
theorem Sl.start {K : PySem.W.Frag} {cl : Str → Option Addr} {S H : Hp} : ∀ {vs : List V} {os : List O} {R : List Addr} (m : Nat), Ows K cl S H vs os R → Sl K cl S H (vs.map some ++ List.replicate m none) (os.map some ++ List.replicate m none) R
  | _, _, _, 0, .nil => .nil
  | _, _, _, m + 1, .nil => .non (Sl.start m .nil)
  | _, _, _, m, .cons a b => .has a (Sl.start m b)
/-- the owned parameters at the end -/
theorem Sl.back {K : PySem.W.Frag} {cl : Str → Option Addr} {S H : Hp} {io : List Nat} : ∀ {vs : List V} {os : List O} {i : Nat} {σ : L2.St} {ρ : Rho} {R : List Addr}, Sl K cl S H σ ρ R → vs.length = os.length → okIn io i os = true → okB os ρ = true →
    (∀ j v, io.contains (i + j) = true → vs[j]? = some v → σ[j]? = some (some v)) → ∃ R', Bk K cl S H vs os ρ R' ∧ List.Sublist R' R
  | [], [], _, _, _, R, _, _, _, _, _ => ⟨[], .nil, List.nil_sublist _⟩
  | v :: vs, .dat d :: os, i, _, _, R, h, hl, h1, h2, h3 => by
    cases h with
    | nil => cases h2
    | non r =>
      obtain ⟨R', b, s⟩ := Sl.back (i := i + 1) r (by simpa using hl) h1 h2 fun j u c e => by
        have := h3 (j + 1) u (by rw [show i + (j + 1) = i + 1 + j by omega]; exact c) (by simpa using e)
        simpa using this
      exact ⟨R', .dat b, s⟩
    | has a r =>
      obtain ⟨R', b, s⟩ := Sl.back (i := i + 1) r (by simpa using hl) h1 h2 fun j u c e => by
        have := h3 (j + 1) u (by rw [show i + (j + 1) = i + 1 + j by omega]; exact c) (by simpa using e)
        simpa using this
      exact ⟨R', .dat b, s.trans (List.sublist_append_right _ _)⟩
  | v :: vs, .own xs :: os, i, _, _, R, h, hl, h1, h2, h3 => by
    simp only [okIn, Bool.and_eq_true] at h1
    cases h with
    | nil => cases h2
    | non r => cases h2
    | has a r =>
      have e0 := h3 0 v (by simpa using h1.1) rfl
      simp only [List.getElem?_cons_zero, Option.some.injEq] at e0
      subst e0
      obtain ⟨R', b, s⟩ := Sl.back (i := i + 1) r (by simpa using hl) h1.2 h2 fun j u c e => by
        have := h3 (j + 1) u (by rw [show i + (j + 1) = i + 1 + j by omega]; exact c) (by simpa using e)
        simpa using this
      exact ⟨_, .own rfl a b, List.Sublist.append (List.Sublist.refl _) s⟩
  | v :: vs, .ob c ns xs :: os, i, _, _, R, h, hl, h1, h2, h3 => by
    simp only [okIn, Bool.and_eq_true] at h1
    cases h with
    | nil => cases h2
    | non r => cases h2
    | has a r =>
      have e0 := h3 0 v (by simpa using h1.1) rfl
      simp only [List.getElem?_cons_zero, Option.some.injEq] at e0
      subst e0
      obtain ⟨R', b, s⟩ := Sl.back (i := i + 1) r (by simpa using hl) h1.2 h2 fun j u c e => by
        have := h3 (j + 1) u (by rw [show i + (j + 1) = i + 1 + j by omega]; exact c) (by simpa using e)
        simpa using this
      exact ⟨_, .own rfl a b, List.Sublist.append (List.Sublist.refl _) s⟩
/-- what stands in the written part of a def with defaults dV -/
structure FunD (K : PySem.W.Frag) (x qual : Str) (st : Stmt) (f : Addr) (dV : Value) (fd : FuncData) : Prop where
  ex : ∃ (oc : Value) (od : Option Addr) (kV doc pm : Value) (an : Option Addr) (cdv ct : Value) (osl : Array (Option Value)),
    fd = PySem.W.fnOf x qual (defArgs st) (defBody st) (defScope st) dV kV doc pm an cdv ct ∧ K.lookup f = some ⟨oc, od, .func fd, osl⟩ ∧ PySem.W.codeIn K cdv qual = true
  kp : PySem.W.keepIn K (.ref f) = true
/-- the context of a body -/
structure BodyX (X : Cx) (k : Nat) (N : List Str) (sc : Scope) (W : WX) : Prop where
  n : X.N = N
  s : X.env.scope = sc
  c : X.calm = true
  r : Room k X.A
  g : X.A.guards = some []
  f : X.fn = fun _ => true
  t : Takes X W
  po : PassesOwn (model X.prog X.w) X.A X.env X.xe
  k : X.stack = X.env :: X.outer
  l : X.env.frame = some X.env.locals
theorem fnG_of {P : Program} {w : World} {K : PySem.W.Frag} {cl : Str → Option Addr} {mg : Str → Option Value} {base : Heap} {k : Nat} {x qual : Str} {st : Stmt} {f : Addr} {dV : Value} {fd : FuncData} {N ps : List Str} {io : List Nat} {g : M Fl} (F : FunD K x qual st f dV fd) (Sc : FnScope N ps (defScope st))
    (hbody : ∀ (X : Cx) (W : WX) (io' : List (Nat × V)), X.prog = P → X.w = w → X.K = K → X.mg = mg → X.base = base → BodyX X k N (defScope st) W → (∀ q ∈ io', io.contains q.1 = true) → PSs X (defBody st) (tDS ⟨K, cl, io', P, w, mg, base⟩ W g)) :
    FnG P w K mg base (k + 1) f fd ps (spF K cl ps.length (bodyF N.length ps.length io g)) := by
  obtain ⟨oc, od, kV, doc, pm, an, cdv, ct, osl, rfl, lk, hcd⟩ := F.ex
  refine ⟨fun A outer s H args us vs Q E hr hg e0 hb rv hsp => ?_⟩
  obtain ⟨hl, S, R, os, le, ow, nd, ap, hq⟩ := hsp
  have KX : K.In s.heap := e0.mod.kin.keeps fun b o z => (e0.bs b o z).1
  have lim : s.heap.NoLimit := e0.mod.nolimit.keeps fun b o z => (e0.bs b o z).1
  have kinds : ∀ y ∈ ps.zip us, (defScope st).names.lookup y.1 = some .local ∨ ((defScope st).names.lookup y.1 = some .cell ∧ ((cellsFrom (s.heap.objs.size + 1) (defScope st).names []).lookup y.1).isSome = true) := by
    rintro ⟨n, v⟩ hy
    rcases Sc.par n (List.of_mem_zip hy).1 with z | z
    · exact .inl z
    · exact .inr ⟨z, PySem.W.cellsFrom_some _ _ _ (.inl z)⟩
  refine codeAny_call_function hr.depth (KX _ _ lk) rfl Sc.co Sc.gen rfl (PySem.W.codeRec_of KX hcd) (hb _ _ _ _ ?_)
  refine wpAny_newFunctionEnv_cells Sc.kind kinds fun env he s1 ic => ?_
  subst he
  refine ⟨lim.keeps ic.toInCall.keep, codeAny_func ?_⟩
  have I : L2.Inv (cxOf (L2.CX P w) P w K mg base N qual (defScope st) f cdv A outer s H E) [] (L2.start N vs) H s1 := inv_start Sc hr.hd e0 hl rv ic
  have bx : BodyX (cxOf (L2.CX P w) P w K mg base N qual (defScope st) f cdv A outer s H E) k N (defScope st) (fun cls d _ H => E cls d H) :=
    ⟨rfl, rfl, rfl, hr.deeper _, hg, rfl, takes_of rfl rfl rfl rfl, passes_of rfl, rfl, rfl⟩
  have hbd := hbody _ _ (pinsOf io 0 vs) rfl rfl rfl rfl rfl bx (fun q hq => (pins_ge hq).2.1)
  have hpl : ps.length ≤ N.length := by have := congrArg List.length Sc.pre; rw [List.length_take] at this; omega
  unfold bodyF at hq
  have ol : os.length = vs.length := ow.length.symm
  by_cases hin : os.length = ps.length ∧ okIn io 0 os = true
  · rw [if_pos hin] at hq
    have w0 : Wd ⟨K, cl, pinsOf io 0 vs, P, w, mg, base⟩ S H (L2.start N vs) (os.map some ++ List.replicate (N.length - ps.length) none) R := by
      refine ⟨le, ?_, nd, ap, fun q hq => ?_⟩
      · unfold L2.start
        rw [hl]
        exact Sl.start _ ow
      · obtain ⟨h1, h2, h3⟩ := pins_ge hq
        unfold L2.start
        have hlt : q.1 < vs.length := by
          have := (List.getElem?_eq_some_iff.mp h3).1
          omega
        rw [List.getElem?_append_left (by simpa using hlt), List.getElem?_map]
        simp only [Nat.sub_zero] at h3
        rw [h3]; rfl
    have pinned : ∀ {σ' : L2.St} {ρ' : Rho} {S' H' : Hp} {R' : List Addr}, Wd ⟨K, cl, pinsOf io 0 vs, P, w, mg, base⟩ S' H' σ' ρ' R' → ∀ j v, io.contains (0 + j) = true → vs[j]? = some v → σ'[j]? = some (some v) := by
      intro σ' ρ' S' H' R' w' j v hc hv
      have mem : ∀ {vs : List V} {i j : Nat} {v : V}, io.contains (i + j) = true → vs[j]? = some v → (i + j, v) ∈ pinsOf io i vs := by
        intro vs
        induction vs with
        | nil => intro i j v _ h; simp at h
        | cons u us ih =>
          intro i j v hc h
          unfold pinsOf
          cases j with
          | zero =>
            simp at h; subst h
            rw [if_pos (by simpa using hc)]
            exact List.mem_cons_self
          | succ j =>
            have := ih (i := i + 1) (j := j) (v := v) (by rw [show i + 1 + j = i + (j + 1) by omega]; exact hc) (by simpa using h)
            rw [show i + 1 + j = i + (j + 1) by omega] at this
            split
            · exact List.mem_cons_of_mem _ this
            · exact this
      have := w'.io _ (mem (i := 0) hc hv)
      simpa using this
    have go : PoS ⟨K, cl, pinsOf io 0 vs, P, w, mg, base⟩ (fun cls d _ H => E cls d H) S H R { nx := fun _ H' => Q .non H', rt := Q } (g (os.map some ++ List.replicate (N.length - ps.length) none)) := by
      have back : ∀ {σ' : L2.St} {ρ' : Rho} {S' H' : Hp} {R' : List Addr}, okB os ρ' = true → Wd ⟨K, cl, pinsOf io 0 vs, P, w, mg, base⟩ S' H' σ' ρ' R' → ∃ R2, Bk K cl S' H' vs os ρ' R2 ∧ List.Sublist R2 R' := fun {σ' ρ' S' H' R'} hk w' =>
        Sl.back (i := 0) w'.sl ol.symm hin.2 hk (pinned w')
      cases hgr : g (os.map some ++ List.replicate (N.length - ps.length) none) with
      | bad => rw [hgr] at hq; exact hq
      | ok fl ρ' =>
        rw [hgr] at hq
        cases fl with
        | nx =>
          unfold fin at hq
          dsimp only at hq
          split at hq
          · rename_i hk
            intro σ' S' H' R' t w'
            obtain ⟨R2, b, sb⟩ := back hk w'
            exact hq S' H' R2 .non [] w'.le (by simpa using t.less fun b hb => sb.subset hb) b (.dat .non) (by simpa using w'.nd.sublist sb) (fun a ha => w'.ap a (sb.subset (by simpa using ha)))
          · exact hq.elim
        | rt o =>
          unfold fin at hq
          dsimp only at hq
          split at hq
          · rename_i hk
            intro σ' S' H' R' v Rv t w' ow' nd' ap'
            obtain ⟨R2, b, sb⟩ := back hk w'
            have sb2 : List.Sublist (R2 ++ Rv) (R' ++ Rv) := List.Sublist.append sb (List.Sublist.refl _)
            refine hq S' H' R2 v Rv w'.le (t.less fun b hb => sb2.subset hb) b ow' (nd'.sublist sb2) fun a ha => ?_
            rcases List.mem_append.mp ha with z | z
            · exact w'.ap a (sb.subset z)
            · exact ap' a z
          · exact hq.elim
        | bk => exact hq.elim
        | ct => exact hq.elim
      | ex x ρ' =>
        rw [hgr] at hq
        unfold fin at hq
        dsimp only at hq
        split at hq
        · rename_i hk
          intro σ' S' H' R' C dd t w' xr
          obtain ⟨R2, b, sb⟩ := back hk w'
          exact hq S' H' R2 C dd w'.le (t.less fun b hb => sb.subset hb) b (w'.nd.sublist sb) (fun a ha => w'.ap a (sb.subset ha)) xr
        · exact hq.elim
    refine wpAny_mono (hbd.run [] s1 (L2.start N vs) H _ I ⟨_, S, R, w0, go⟩) (fun fl s' hs => ?_) fun e s' hs => hs
    match fl, hs with
    | .ret u, ⟨v, σ', H', J, rv, q⟩ => exact ⟨v, H', J.os, J.bare, J.base, J.hok, rv, q⟩
    | .next, ⟨σ', H', J, q⟩ => exact ⟨.non, H', J.os, J.bare, J.base, J.hok, rfl, q⟩
    | .brk, ⟨_, _, _, q⟩ => exact False.elim q
    | .cont, ⟨_, _, _, q⟩ => exact False.elim q
  · rw [if_neg hin] at hq
    exact hq.elim
end PL

end
-- text PL10
section
set_option linter.all false
set_option maxRecDepth 100000
set_option maxHeartbeats 4000000
namespace PL
open PySem PySem.Spec L2

/-! ### targets -/
/-- only these slots may differ -/
def Sm (ts : List Nat) (σ σ' : L2.St) : Prop := σ'.length = σ.length ∧ ∀ i, i ∉ ts → σ'[i]? = σ[i]?
def PoG (p : Pm) (ts : List Nat) (σ : L2.St) (S H : Hp) (R : List Addr) (Q : L2.St → Hp → Prop) : Option Rho → Prop
  | none => False
  | some ρ => ∀ σ' S' H' R', Sm ts σ σ' → Stp R H S R' H' S' → Wd p S' H' σ' ρ R' → Q σ' H'
abbrev Tgt := D → Rho → Option Rho
def tDG (p : Pm) (ts : List Nat) (g : Tgt) : TG := fun v σ H Q => ∃ ρ S R d, Wd p S H σ ρ R ∧ Rep p.K p.cl S v d ∧ PoG p ts σ S H R Q (g d ρ)
def gSet (i : Nat) : Tgt := fun d ρ => if i < ρ.length then some (ρ.set i (some (.dat d))) else none
def gSets : List Nat → List D → Rho → Option Rho
  | [], [], ρ => some ρ
  | i :: is, d :: ds, ρ => (gSet i d ρ).bind (gSets is ds)
  | _, _, _ => none
def gTupD (is : List Nat) : Tgt
  | .tup ds, ρ => gSets is ds ρ
  | _, _ => none
section
variable {X : Cx} {p : Pm} {W : WX}
theorem PG.imp {e : Expr} {t t' : TG} (h : PG X e t) (k : ∀ v σ H Q, t' v σ H Q → t v σ H Q) : PG X e t' := ⟨fun pins s σ H v u Q I r q => h.run pins s σ H v u Q I r (k v σ H Q q)⟩
theorem dg_name (o : Ok0 X p) {i : Nat} {x : Str} {pos : Pos} (hN : X.N[i]? = some x) (hx : Loc X.env.scope x) (hi : ∀ q ∈ p.io, q.1 ≠ i) (hf : X.fn x = true ∨ X.env.scope.names.lookup x = some .local) : PG X (.Name x pos) (tDG p [i] (gSet i)) :=
  PG.imp (pg_name o.N hN hx hf) fun v σ H Q ⟨ρ, S, R, d, w, r, h⟩ => by
    unfold gSet at h
    split at h
    · rename_i hl
      obtain ⟨R2, w2, sub⟩ := w.put (Rv := []) (.dat r) (by simpa using w.nd) (fun _ z => nomatch z) hi hl
      exact h _ S H R2 ⟨by simp, fun j hj => by rw [List.getElem?_set_ne]; intro z; exact hj (by simp [z])⟩ (Stp.refl.less fun b hb => by simpa using sub b hb) w2
    · exact h.elim
/-- several names, from the left -/
def tDGs (p : Pm) (is : List Nat) : TGs := fun vs σ H Q => ∃ ρ S R ds, Wd p S H σ ρ R ∧ Reps p.K p.cl S vs ds ∧ PoG p is σ S H R Q (gSets is ds ρ)
inductive NamesAt (X : Cx) (p : Pm) : List Expr → List Nat → Prop
  | nil : NamesAt X p [] []
  | cons {x : Str} {pos : Pos} {i : Nat} {es : List Expr} {is : List Nat} : X.N[i]? = some x → Loc X.env.scope x → (∀ q ∈ p.io, q.1 ≠ i) → (X.fn x = true ∨ X.env.scope.names.lookup x = some .local) → NamesAt X p es is → NamesAt X p (.Name x pos :: es) (i :: is)
theorem dgs_of (o : Ok0 X p) : ∀ {es : List Expr} {is : List Nat}, NamesAt X p es is → PGs X es (tDGs p is)
  | _, _, .nil => ⟨fun pins s σ H vs us Q I r ⟨ρ, S, R, ds, w, rs, h⟩ => by
      cases rs with
      | nil => exact pgs_nil.run pins s σ H _ us Q I r ⟨rfl, h σ S H R ⟨rfl, fun _ _ => rfl⟩ Stp.refl w⟩
      | cons _ _ => exact h.elim⟩
  | _, _, .cons (i := i) hN hx hi hf hr => by
    refine ⟨fun pins s σ H vs us Q I r ⟨ρ, S, R, ds, w, rs, h⟩ => ?_⟩
    cases rs with
    | nil => exact h.elim
    | cons r0 rs =>
      refine (pgs_cons (pg_name o.N hN hx hf) (dgs_of o hr) rfl).run pins s σ H _ us Q I r ⟨_, _, rfl, ?_⟩
      show tDGs p _ _ (σ.set i (some _)) H Q
      replace h : PoG p _ σ S H R Q ((gSet i _ ρ).bind (gSets _ _)) := h
      unfold gSet at h
      split at h
      · rename_i hl
        obtain ⟨R2, w2, sub⟩ := w.put (Rv := []) (.dat r0) (by simpa using w.nd) (fun _ z => nomatch z) hi hl
        refine ⟨_, S, R2, _, w2, rs, ?_⟩
        have t2 : Stp R H S R2 H S := Stp.refl.less fun b hb => by simpa using sub b hb
        replace h : PoG p _ σ S H R Q (gSets _ _ (ρ.set i (some (.dat _)))) := h
        revert h
        cases gSets _ _ (ρ.set i (some (.dat _))) with
        | none => exact fun h => h
        | some ρ' =>
          intro h σ' S' H' R' sm t w'
          refine h σ' S' H' R' ⟨by rw [sm.1]; simp, fun j hj => ?_⟩ (t2.trans t) w'
          simp only [List.mem_cons, not_or] at hj
          rw [sm.2 j hj.2, List.getElem?_set_ne (Ne.symm hj.1)]
      · exact h.elim
theorem assignEach_len : ∀ {X : Cx} {p : Pm} {es : List Expr} {is : List Nat}, NamesAt X p es is → (assignEach es X.env).length = is.length ∧ (assignEach es X.env).findIdx? (·.1) = none
  | _, _, _, _, .nil => ⟨rfl, rfl⟩
  | _, _, _, _, .cons _ _ _ _ h => by
    obtain ⟨h1, h2⟩ := assignEach_len h
    refine ⟨?_, ?_⟩
    · show (_ :: assignEach _ _).length = _
      simp [h1]
    · show ((false, _) :: assignEach _ _).findIdx? (·.1) = none
      rw [List.findIdx?_cons]
      simp [h2]
theorem dg_tup (o : Ok0 X p) {es : List Expr} {is : List Nat} {k : Nat} {pos : Pos} (h : NamesAt X p es is) : PG X (.Tuple es k pos) (tDG p is (gTupD is)) := by
  obtain ⟨h1, h2⟩ := assignEach_len h
  refine PG.imp (pg_tup (n := is.length) o.c (dgs_of o h) h1 h2) fun v σ H Q ⟨ρ, S, R, d, w, r, q⟩ => ?_
  cases r with
  | @tup a vs ds ha ra =>
    replace q : PoG p is σ S H R Q (gSets is ds ρ) := q
    have len : ∀ {is : List Nat} {ds : List D} {ρ ρ' : Rho}, gSets is ds ρ = some ρ' → ds.length = is.length := by
      intro is
      induction is with
      | nil => intro ds ρ ρ' q; cases ds with | nil => rfl | cons _ _ => cases q
      | cons i is ih =>
        intro ds ρ ρ' q
        cases ds with
        | nil => cases q
        | cons d ds =>
          simp only [gSets, Option.bind_eq_some_iff] at q
          obtain ⟨ρ1, _, q⟩ := q
          simp [ih q]
    cases e : gSets is ds ρ with
    | none => rw [e] at q; exact q.elim
    | some ρ' => exact ⟨a, vs, rfl, by rw [o.K]; exact w.le.sqT ha, by rw [ra.length]; exact len e, ρ, S, R, ds, w, ra, q⟩
  | _ => exact q.elim

/-! ### what is walked -/
/-- the iterator J gives these data, one after another -/
def ItOk (p : Pm) (S : Hp) (J : It) (ds : List D) : Prop := ∀ S' H', Le S S' → Le S' H' →
  (∀ i d, ds[i]? = some d → J.go i H' ∧ ∀ x H'', J.yld i H' x H'' → ∃ S'', Grow S' H' S'' H'' ∧ Rep p.K p.cl S'' x d) ∧ J.stop ds.length H'
def PoI (p : Pm) (W : WX) (σ : L2.St) (S H : Hp) (R : List Addr) (Q : It → Hp → Prop) : Rs (List D) → Prop
  | .bad => False
  | .ok ds ρ => ∀ S' H' R' J, Stp R H S R' H' S' → Wd p S' H' σ ρ R' → ItOk p S' J ds → Q J H'
  | .ex x ρ => ∀ S' H' R' C dd, Stp R H S R' H' S' → Wd p S' H' σ ρ R' → XR p S' x C dd → W (.ref C) dd σ H'
def tDI (p : Pm) (W : WX) (f : M (List D)) : TI := fun σ H Q => ∃ ρ S R, Wd p S H σ ρ R ∧ PoI p W σ S H R Q (f ρ)
theorem PI.imp {tg e : Expr} {t t' : TI} (h : PI X tg e t) (k : ∀ σ H Q, t' σ H Q → t σ H Q) : PI X tg e t' := ⟨fun pins s σ H R I q => h.run pins s σ H R I (k σ H R q)⟩
theorem IsPo.bI {σ : L2.St} {S H : Hp} {R : List Addr} {β : Type} {P : Hp → Hp → List Addr → Rs β → Prop} (ip : IsPo p W σ P) {r : Rs (List D)} {g : List D → M β} (h : P S H R (r.bnd g)) :
    PoI p W σ S H R (fun J H1 => ∃ ds ρ1 S1 R1, ItOk p S1 J ds ∧ Stp R H S R1 H1 S1 ∧ Wd p S1 H1 σ ρ1 R1 ∧ P S1 H1 R1 (g ds ρ1)) r := by
  cases r with
  | bad => exact ip.bad h
  | ok d ρ => exact fun S' H' R' v a b c => ⟨d, ρ, S', R', c, a, b, ip.up a h⟩
  | ex x ρ => exact ip.ex h
theorem isI {σ : L2.St} {Q : It → Hp → Prop} : IsPo p W σ (fun S H R => PoI p W σ S H R Q) := ⟨fun h => h, fun h => h, fun {S H R S1 H1 R1 r} t h => by
  cases r with
  | bad => exact h
  | ok d ρ => exact fun S' H' R' v a b c => h S' H' R' v (t.trans a) b c
  | ex x ρ => exact fun S' H' R' C dd a b c => h S' H' R' C dd (t.trans a) b c⟩
theorem it_list {S : Hp} {a : Addr} {vs : List V} {ds : List D} (ha : S a = some (.lst vs)) (ra : Reps p.K p.cl S vs ds) : ItOk p S (Itl X.K a) ds := fun S' H' l1 l2 => by
  have e : SqL X.K H' a vs := SqL.of (l2 _ _ (l1 _ _ ha))
  refine ⟨fun i d hd => ?_, ⟨vs, e, by rw [ra.length]; exact Nat.le_refl _⟩⟩
  obtain ⟨x, hx, rx⟩ := ra.get hd
  refine ⟨⟨vs, x, e, hx⟩, fun y H'' ⟨e1, e2⟩ => ?_⟩
  subst e1
  have := e2 vs e
  rw [hx] at this
  cases this
  exact ⟨S', Grow.refl l2, rx.up l1⟩
theorem it_tup (hK : X.K = p.K) {S : Hp} {a : Addr} {vs : List V} {ds : List D} (ha : SqU p.K S a vs) (ra : Reps p.K p.cl S vs ds) : ItOk p S (Itt X.K a) ds := fun S' H' l1 l2 => by
  have e : SqT X.K H' a vs := by rw [hK]; exact (l1.trans l2).sqT ha
  refine ⟨fun i d hd => ?_, ⟨vs, e, by rw [ra.length]; exact Nat.le_refl _⟩⟩
  obtain ⟨x, hx, rx⟩ := ra.get hd
  refine ⟨⟨vs, x, e, hx⟩, fun y H'' ⟨e1, e2⟩ => ?_⟩
  subst e1
  have := e2 vs e
  rw [hx] at this
  cases this
  exact ⟨S', Grow.refl l2, rx.up l1⟩
def rngL (lo : Int) (n : Nat) : List D := (List.range n).map fun i => .int (lo + (i : Nat))
theorem it_range {S : Hp} {lo : Int} {n : Nat} : ItOk p S (Itr lo n) (rngL lo n) := fun S' H' l1 l2 => by
  refine ⟨fun i d hd => ?_, by show n ≤ _; simp [rngL]⟩
  unfold rngL at hd
  rw [List.getElem?_map] at hd
  cases e : (List.range n)[i]? with
  | none => rw [e] at hd; cases hd
  | some j =>
    rw [e] at hd
    obtain ⟨hi, hj⟩ := List.getElem?_eq_some_iff.mp e
    rw [List.getElem_range] at hj
    subst hj
    cases hd
    refine ⟨(by show i < n; simpa using hi), fun y H'' ⟨e1, e2⟩ => ?_⟩
    subst e1 e2
    exact ⟨S', Grow.refl l2, .int _⟩
/-- for x in a list, a tuple, a text that an expression gives -/
def itemsD : D → Option (List D)
  | .lst ds => some ds
  | .tup ds => some ds
  | .str z => some (z.cps.toList.map chr1)
  | _ => none
def mItems (f : M D) : M (List D) := f.bnd fun x => lift (itemsD x)
theorem it_str {S : Hp} {z : Str} : ItOk p S (Its z) (z.cps.toList.map chr1) := fun S' H' l1 l2 => by
  refine ⟨fun i d hd => ?_, by show z.cps.size ≤ _; simp⟩
  rw [List.getElem?_map] at hd
  cases e : z.cps.toList[i]? with
  | none => rw [e] at hd; cases hd
  | some c =>
    rw [e] at hd
    cases hd
    have hi := (List.getElem?_eq_some_iff.mp e).1
    refine ⟨(by show i < z.cps.size; simpa using hi), fun y H'' ⟨e1, c2, e2, e3⟩ => ?_⟩
    subst e1 e3
    have : z.cps[i]? = some c := by rw [← Array.getElem?_toList]; exact e
    rw [this] at e2
    cases e2
    exact ⟨S', Grow.refl l2, .str _⟩
theorem di_seq (hK : X.K = p.K) {tg e : Expr} {f : M D} (he : PE X e (tD p W f)) : PI X tg e (tDI p W (mItems f)) := by
  refine ⟨fun pins s σ H R I ⟨ρ, S, Rg, w, h⟩ => ?_⟩
  refine thn (he.run pins s σ H _ I ⟨ρ, S, Rg, w, isI.bE h⟩) fun v s1 ⟨x, H1, I1, r1, d, ρ1, S1, R1, rp, t1, w1, h1⟩ => ?_
  unfold itemsD at h1
  split at h1
  · cases rp with
    | lst ha ra =>
      cases r1
      obtain ⟨its, rv, pl, _⟩ := I1.list (SqL.of (K := X.K) (w1.le _ _ ha))
      exact wpAny_pyIter_list pl.isList (pi_one (tk := s1.toks) I1 _ (turn_list _ _) ⟨_, Heap.get?_push_size _ rfl, rfl, rfl⟩ (h1 S1 H1 R1 _ Stp.refl w1 (it_list ha ra)))
  · cases rp with
    | tup ha ra =>
      cases r1
      have ha' := w1.le.sqT ha
      rw [← hK] at ha'
      obtain ⟨its, rv, pl, _⟩ := I1.tuple ha'
      exact PySem.wpAny_pyIter_tuple (show s1.heap.IsTuple _ its.toArray from pl) (pi_one (tk := s1.toks) I1 _ (turn_tuple _ _) ⟨_, Heap.get?_push_size _ rfl, rfl, rfl⟩ (h1 S1 H1 R1 _ Stp.refl w1 (it_tup hK ha ra)))
  · cases rp
    rename_i z
    obtain ⟨t, rfl⟩ := r1
    have q := h1 S1 H1 R1 _ Stp.refl w1 (it_str (p := p) (z := z))
    cases ha : z.cps.all (· < 128)
    · exact wpAny_pyIter_wide ha (pi_one (tk := s1.toks) I1 _ (turn_str _ z t "str_iterator" (.inr rfl)) ⟨_, Heap.get?_push_size _ rfl, rfl, rfl⟩ q)
    · exact wpAny_pyIter_ascii ha (pi_one (tk := s1.toks) I1 _ (turn_str _ z t "str_ascii_iterator" (.inl rfl)) ⟨_, Heap.get?_push_size _ rfl, rfl, rfl⟩ q)
  · exact h1.elim
/-- range(a), range(a, b) -/
def rng1D : List D → Option (List D)
  | [.int j] => if -(2 ^ 62) ≤ j ∧ j < 2 ^ 62 then some (rngL 0 j.toNat) else none
  | _ => none
def rng2D : List D → Option (List D)
  | [.int i, .int j] => if -(2 ^ 62) ≤ i ∧ i < 2 ^ 62 ∧ -(2 ^ 62) ≤ j ∧ j < 2 ^ 62 then some (rngL i (j - i).toNat) else none
  | _ => none
def mRng1 (f : M (List D)) : M (List D) := f.bnd fun x => lift (rng1D x)
def mRng2 (f : M (List D)) : M (List D) := f.bnd fun x => lift (rng2D x)
theorem di_range1 {tg a : Expr} {f : M (List D)} {q pos : Pos} (hg : Gl X "range") (hm : X.mg "range" = none) (ha : PA X [a] (tDA p W f)) (hs : starEach [a] X.env = [(false, eval a X.env)]) : PI X tg (.Call (.Name "range" q) [a] [] pos) (tDI p W (mRng1 f)) :=
  PI.imp (pi_range1 hg hm ha hs) fun σ H R ⟨ρ, S, Rg, w, h⟩ => by
    refine ⟨ρ, S, Rg, w, (isI.bA h).mono fun vs H1 ⟨ds, ρ1, S1, R1, r1, t1, w1, h1⟩ => ?_⟩
    unfold rng1D at h1
    split at h1
    · obtain ⟨v, rfl, r⟩ := reps1 r1
      cases r
      split at h1
      · rename_i hz
        exact ⟨_, rfl, hz.1, hz.2, h1 S1 H1 R1 _ Stp.refl w1 it_range⟩
      · exact h1.elim
    · exact h1.elim
theorem di_range2 {tg a b : Expr} {f : M (List D)} {q pos : Pos} (hg : Gl X "range") (hm : X.mg "range" = none) (ha : PA X [a, b] (tDA p W f)) (hs : starEach [a, b] X.env = [(false, eval a X.env), (false, eval b X.env)]) (hs2 : starEach [b] X.env = [(false, eval b X.env)]) :
    PI X tg (.Call (.Name "range" q) [a, b] [] pos) (tDI p W (mRng2 f)) :=
  PI.imp (pi_range2 hg hm ha hs hs2) fun σ H R ⟨ρ, S, Rg, w, h⟩ => by
    refine ⟨ρ, S, Rg, w, (isI.bA h).mono fun vs H1 ⟨ds, ρ1, S1, R1, r1, t1, w1, h1⟩ => ?_⟩
    unfold rng2D at h1
    split at h1
    · obtain ⟨v, u, rfl, r, r'⟩ := reps2 r1
      cases r; cases r'
      split at h1
      · rename_i hz
        exact ⟨_, _, rfl, hz, h1 S1 H1 R1 _ Stp.refl w1 it_range⟩
      · exact h1.elim
    · exact h1.elim

/-! ### for -/
/-- behind the body of a turn -/
def turnEnd (again : M Fl) : Fl → M Fl
  | .nx => again
  | .ct => again
  | .bk => mNx
  | .rt o => M.ret (.rt o)
def forL (gt : Tgt) (fb : M Fl) : List D → M Fl
  | [] => mNx
  | d :: ds => fun ρ => match gt d ρ with
    | some ρ' => fb.bnd (turnEnd (forL gt fb ds)) ρ'
    | none => .bad
def mFor (fi : M (List D)) (gt : Tgt) (fb : M Fl) : M Fl := fi.bnd (forL gt fb)
theorem PoI.mono {σ : L2.St} {S H : Hp} {R : List Addr} {Q Q' : It → Hp → Prop} {r : Rs (List D)} (h : PoI p W σ S H R Q r) (k : ∀ v H1, Q v H1 → Q' v H1) : PoI p W σ S H R Q' r := by
  cases r with
  | bad => exact h
  | ok d ρ => exact fun S' H' R' v a b c => k _ _ (h S' H' R' v a b c)
  | ex x ρ => exact h
theorem ds_for (o : Ok0 X p) {tg iter : Expr} {body : List Stmt} {pos : Pos} {fi : M (List D)} {ts : List Nat} {gt : Tgt} {fb : M Fl} (hpo : PassesOwn (model X.prog X.w) X.A X.env X.xe) (hi : PI X tg iter (tDI p W fi)) (hg : PG X tg (tDG p ts gt)) (hb : PSs X body (tDS p W fb))
    (hs : ∀ x, foldedSetIterable iter X.env x = pure x) : PS X (.For tg iter body [] pos) (tDS p W (mFor fi gt fb)) :=
  PS.imp (ps_for hpo o.c hi hg hb hs) fun Dn σ H ⟨ρ, S, R, w, h⟩ => by
    refine ⟨ρ, S, R, w, ((isS (σ := σ)).bI h).mono fun J H1 ⟨ds, ρ1, S1, R1, it, t1, w1, h1⟩ => ?_⟩
    refine ⟨fun i m σ' H' => ∃ ρ' S' R', Wd p S' H' σ' ρ' R' ∧ Le S1 S' ∧ PoS p W S' H' R' Dn (forL gt fb (ds.drop i) ρ') ∧ m = ds.length - i ∧ i ≤ ds.length, ⟨ds.length, ρ1, S1, R1, w1, Le.refl _, h1, by simp, Nat.zero_le _⟩, ?_⟩
    rintro i m σ' H' ⟨ρ', S', R', w', le, hq, rfl, hi'⟩
    obtain ⟨go, stop⟩ := it S' H' le w'.le
    by_cases hlt : i < ds.length
    · right
      obtain ⟨d, hd⟩ : ∃ d, ds[i]? = some d := ⟨ds[i], by simp [hlt]⟩
      have edrop : ds.drop i = d :: ds.drop (i + 1) := by
        rw [List.drop_eq_getElem_cons hlt]
        congr 1
        rw [List.getElem?_eq_getElem hlt] at hd
        exact Option.some.inj hd
      rw [edrop] at hq
      obtain ⟨g1, g2⟩ := go i d hd
      refine ⟨g1, fun σ2 H2 => ∃ ρ2 S2 R2, Wd p S2 H2 σ2 ρ2 R2 ∧ Le S1 S2 ∧ PoS p W S2 H2 R2 Dn (forL gt fb (ds.drop (i + 1)) ρ2), fun σ2 H2 ⟨ρ2, S2, R2, w2, l2, q2⟩ => ⟨ds.length - (i + 1), by omega, ρ2, S2, R2, w2, l2, q2, rfl, hlt⟩, fun x H'' hy => ?_⟩
      obtain ⟨S'', gr, rx⟩ := g2 x H'' hy
      obtain ⟨w3, t3⟩ := gr.wd w'
      refine ⟨ρ', S'', R', d, w3, rx, ?_⟩
      replace hq : PoS p W S' H' R' Dn (match gt d ρ' with | some ρ3 => fb.bnd (turnEnd (forL gt fb (ds.drop (i + 1)))) ρ3 | none => .bad) := hq
      replace hq := hq.up t3
      revert hq
      cases gt d ρ' with
      | none => exact fun h => h
      | some ρ3 =>
        intro hq σ4 S4 H4 R4 sm t4 w4
        refine ⟨ρ3, S4, R4, w4, ?_⟩
        replace hq : PoS p W S'' H'' R' Dn ((fb ρ3).bnd (turnEnd (forL gt fb (ds.drop (i + 1))))) := hq
        replace hq := hq.up t4
        have l4 : Le S1 S4 := le.trans (gr.s.trans t4.s)
        revert hq
        cases fb ρ3 with
        | bad => exact fun h => h
        | ex x ρ5 => exact fun h => h
        | ok fl ρ5 =>
          cases fl with
          | nx => exact fun hq σ6 S6 H6 R6 t6 w6 => ⟨ρ5, S6, R6, w6, l4.trans t6.s, PoS.up t6 hq⟩
          | ct => exact fun hq σ6 S6 H6 R6 t6 w6 => ⟨ρ5, S6, R6, w6, l4.trans t6.s, PoS.up t6 hq⟩
          | bk => exact fun hq => hq
          | rt o => exact fun hq => hq
    · left
      have e : i = ds.length := by omega
      subst e
      rw [List.drop_length] at hq
      exact ⟨stop, hq σ' S' H' R' Stp.refl w'⟩
/-! ### while: by fuel -/
def whL (c : M Bool) (b : M Fl) : Nat → M Fl
  | 0 => M.bad
  | n + 1 => c.bnd fun t => if t then b.bnd (turnEnd (whL c b n)) else mNx
theorem ds_while {c : Expr} {body : List Stmt} {pos : Pos} {fc : M Bool} {fb : M Fl} (n : Nat) (hpo : PassesOwn (model X.prog X.w) X.A X.env X.xe) (hc : PT X c (tDT p W fc)) (hb : PSs X body (tDS p W fb)) : PS X (.While c body [] pos) (tDS p W (whL fc fb n)) :=
  PS.imp (ps_while hpo hc hb) fun Dn σ H ⟨ρ, S, R, w, h⟩ => by
    refine ⟨fun m σ' H' => ∃ ρ' S' R', Wd p S' H' σ' ρ' R' ∧ PoS p W S' H' R' Dn (whL fc fb m ρ'), ⟨n, ρ, S, R, w, h⟩, ?_⟩
    rintro m σ' H' ⟨ρ', S', R', w', hq⟩
    cases m with
    | zero => exact hq.elim
    | succ m =>
      refine ⟨ρ', S', R', w', ((isS (σ := σ')).bT hq).mono fun k H1 ⟨ρ1, S1, R1, t1, w1, h1⟩ => ?_⟩
      cases k with
      | false => exact h1 σ' S1 H1 R1 Stp.refl w1
      | true =>
        refine ⟨fun σ2 H2 => ∃ ρ2 S2 R2, Wd p S2 H2 σ2 ρ2 R2 ∧ PoS p W S2 H2 R2 Dn (whL fc fb m ρ2), fun σ2 H2 z => ⟨m, by omega, z⟩, ρ1, S1, R1, w1, ?_⟩
        replace h1 : PoS p W S1 H1 R1 Dn ((fb ρ1).bnd (turnEnd (whL fc fb m))) := h1
        revert h1
        cases fb ρ1 with
        | bad => exact fun h => h
        | ex x ρ5 => exact fun h => h
        | ok fl ρ5 =>
          cases fl with
          | nx => exact fun hq σ6 S6 H6 R6 t6 w6 => ⟨ρ5, S6, R6, w6, PoS.up t6 hq⟩
          | ct => exact fun hq σ6 S6 H6 R6 t6 w6 => ⟨ρ5, S6, R6, w6, PoS.up t6 hq⟩
          | bk => exact fun hq => hq
          | rt o => exact fun hq => hq
end
end PL

end
-- text PL11
section
set_option linter.all false
set_option maxRecDepth 100000
set_option maxHeartbeats 4000000
namespace PL
open PySem PySem.Spec L2

/-! ### list comprehensions -/
def wipeR (ρ : Rho) : List Nat → Rho
  | [] => ρ
  | v :: vs => (wipeR ρ vs).set v none
/-- the outer slots again -/
def unwipe (ρ : Rho) : List Nat → Rho → Rho
  | [], ρ' => ρ'
  | v :: vs, ρ' => (unwipe ρ vs ρ').set v ((ρ[v]?).join)
/-- the block's own slots hold nothing owned -/
def plainAt (ρ : Rho) (vs : List Nat) : Bool := vs.all fun v => match ρ[v]? with
  | some (some (.own _)) => false
  | some (some (.ob _ _ _)) => false
  | _ => true
section
variable {K : PySem.W.Frag} {cl : Str → Option Addr} {S H : Hp}
/-- slot by slot: as it was, or empty, or some data -/
theorem Sl.pw : ∀ {σ1 : L2.St} {ρ1 : Rho} {R1 : List Addr}, Sl K cl S H σ1 ρ1 R1 → ∀ {σ : L2.St} {ρ : Rho}, σ.length = σ1.length → ρ.length = ρ1.length →
    (∀ i : Nat, (σ[i]? = σ1[i]? ∧ ρ[i]? = ρ1[i]?) ∨ ρ[i]? = some none ∨ ∃ (x : V) (d : D), σ[i]? = some (some x) ∧ ρ[i]? = some (some (O.dat d)) ∧ Rep K cl S x d) → ∃ R2, Sl K cl S H σ ρ R2 ∧ List.Sublist R2 R1
  | _, _, _, .nil, [], [], _, _, _ => ⟨[], .nil, List.Sublist.refl _⟩
  | _, _, _, .nil, _ :: _, _, h, _, _ => by simp at h
  | _, _, _, .nil, [], _ :: _, _, h, _ => by simp at h
  | _, _, _, .non r, [], _, h, _, _ => by simp at h
  | _, _, _, .non r, _ :: _, [], _, h, _ => by simp at h
  | _, _, _, .non r, x :: σ, o :: ρ, h1, h2, h3 => by
    obtain ⟨R2, h, s⟩ := Sl.pw r (σ := σ) (ρ := ρ) (by simpa using h1) (by simpa using h2) fun i => by simpa using h3 (i + 1)
    rcases h3 0 with ⟨a, b⟩ | b | ⟨y, d, a, b, q⟩
    · simp at a b; subst a b; exact ⟨R2, .non h, s⟩
    · simp at b; subst b; exact ⟨R2, .non h, s⟩
    · simp at a b; subst a b; exact ⟨_, Sl.has (R := []) (.dat q) h, s⟩
  | _, _, _, .has a r, [], _, h, _, _ => by simp at h
  | _, _, _, .has a r, _ :: _, [], _, h, _ => by simp at h
  | _, _, _, .has c r, x :: σ, o :: ρ, h1, h2, h3 => by
    obtain ⟨R2, h, s⟩ := Sl.pw r (σ := σ) (ρ := ρ) (by simpa using h1) (by simpa using h2) fun i => by simpa using h3 (i + 1)
    rcases h3 0 with ⟨a, b⟩ | b | ⟨y, d, a, b, q⟩
    · simp at a b; subst a b; exact ⟨_, .has c h, List.Sublist.append (List.Sublist.refl _) s⟩
    · simp at b; subst b; exact ⟨R2, .non h, s.trans (List.sublist_append_right _ _)⟩
    · simp at a b; subst a b; exact ⟨_, Sl.has (R := []) (.dat q) h, s.trans (List.sublist_append_right _ _)⟩
end
theorem wipeR_length (ρ : Rho) : ∀ vs : List Nat, (wipeR ρ vs).length = ρ.length
  | [] => rfl
  | v :: vs => by unfold wipeR; rw [List.length_set, wipeR_length ρ vs]
theorem wipeR_out {ρ : Rho} {i : Nat} : ∀ {vs : List Nat}, i ∉ vs → (wipeR ρ vs)[i]? = ρ[i]?
  | [], _ => rfl
  | v :: vs, h => by
    simp only [List.mem_cons, not_or] at h
    unfold wipeR
    rw [List.getElem?_set_ne (Ne.symm h.1), wipeR_out h.2]
theorem wipeR_in {ρ : Rho} {i : Nat} : ∀ {vs : List Nat}, i ∈ vs → i < ρ.length → (wipeR ρ vs)[i]? = some none
  | [], h, _ => by cases h
  | v :: vs, h, hl => by
    unfold wipeR
    by_cases e : v = i
    · subst e; rw [List.getElem?_set_self (by rw [wipeR_length]; exact hl)]
    · rw [List.getElem?_set_ne e]
      exact wipeR_in ((List.mem_cons.mp h).resolve_left fun z => e z.symm) hl
theorem unwipe_length (ρ ρ' : Rho) : ∀ vs : List Nat, (PL.unwipe ρ vs ρ').length = ρ'.length
  | [] => rfl
  | v :: vs => by unfold PL.unwipe; rw [List.length_set, unwipe_length ρ ρ' vs]
theorem unwipe_out {ρ ρ' : Rho} {i : Nat} : ∀ {vs : List Nat}, i ∉ vs → (PL.unwipe ρ vs ρ')[i]? = ρ'[i]?
  | [], _ => rfl
  | v :: vs, h => by
    simp only [List.mem_cons, not_or] at h
    unfold PL.unwipe
    rw [List.getElem?_set_ne (Ne.symm h.1), unwipe_out h.2]
theorem unwipe_in {ρ ρ' : Rho} {i : Nat} : ∀ {vs : List Nat}, i ∈ vs → i < ρ'.length → (PL.unwipe ρ vs ρ')[i]? = some ((ρ[i]?).join)
  | [], h, _ => by cases h
  | v :: vs, h, hl => by
    unfold PL.unwipe
    by_cases e : v = i
    · subst e; rw [List.getElem?_set_self (by rw [unwipe_length]; exact hl)]
    · rw [List.getElem?_set_ne e]
      exact unwipe_in ((List.mem_cons.mp h).resolve_left fun z => e z.symm) hl
section
variable {p : Pm} {S H : Hp}
/-- into the block -/
theorem Wd.wipe {σ : L2.St} {ρ : Rho} {R : List Addr} (w : Wd p S H σ ρ R) {vs : List Nat} (hv : ∀ q ∈ p.io, q.1 ∉ vs) : ∃ R', Wd p S H (L2.wipe σ vs) (wipeR ρ vs) R' ∧ List.Sublist R' R := by
  obtain ⟨R', h, s⟩ := w.sl.pw (wipe_length σ vs) (wipeR_length ρ vs) fun i => by
    by_cases hi : i ∈ vs
    · by_cases hl : i < ρ.length
      · exact .inr (.inl (wipeR_in hi hl))
      · have e := w.sl.length
        refine .inl ⟨?_, ?_⟩
        · rw [List.getElem?_eq_none (by rw [wipe_length]; omega), List.getElem?_eq_none (by omega)]
        · rw [List.getElem?_eq_none (by rw [wipeR_length]; omega), List.getElem?_eq_none (by omega)]
    · exact .inl ⟨wipe_out hi, wipeR_out hi⟩
  refine ⟨R', ⟨w.le, h, w.nd.sublist s, fun a ha => w.ap a (s.subset ha), fun q hq => ?_⟩, s⟩
  rw [wipe_out (hv q hq)]
  exact w.io q hq
/-- out of the block: the outer slots hold what they held -/
theorem Wd.unwipe {S0 H0 : Hp} {σ : L2.St} {ρ ρ' : Rho} {R R' : List Addr} (w0 : Wd p S0 H0 σ ρ R) {vs : List Nat} (hp : plainAt ρ vs = true) (w : Wd p S H (L2.wipe σ vs) ρ' R') (le : Le S0 S) : ∃ R2, Wd p S H σ (PL.unwipe ρ vs ρ') R2 ∧ List.Sublist R2 R' := by
  have len : σ.length = ρ.length := w0.sl.length
  have len' : σ.length = ρ'.length := by rw [← wipe_length σ vs]; exact w.sl.length
  obtain ⟨R2, h2, s2⟩ := w.sl.pw (σ := σ) (ρ := PL.unwipe ρ vs ρ') (wipe_length σ vs).symm (unwipe_length ρ ρ' vs) fun i => by
    by_cases hi : i ∈ vs
    · by_cases hl : i < ρ'.length
      · rw [unwipe_in hi hl]
        have hpi : (match ρ[i]? with | some (some (.own _)) => false | some (some (.ob _ _ _)) => false | _ => true) = true := List.all_eq_true.mp hp i hi
        cases e : ρ[i]? with
        | none => exact .inr (.inl rfl)
        | some x =>
          cases x with
          | none => exact .inr (.inl rfl)
          | some o =>
            cases o with
            | dat d =>
              obtain ⟨v, hv, r⟩ := w0.get e
              exact .inr (.inr ⟨v, d, hv, rfl, r.up le⟩)
            | own xs => rw [e] at hpi; cases hpi
            | ob c ns xs => rw [e] at hpi; cases hpi
      · refine .inl ⟨?_, ?_⟩
        · rw [List.getElem?_eq_none (by omega), List.getElem?_eq_none (by rw [wipe_length]; omega)]
        · rw [List.getElem?_eq_none (by rw [unwipe_length]; omega), List.getElem?_eq_none (by omega)]
    · exact .inl ⟨(wipe_out hi).symm, unwipe_out hi⟩
  exact ⟨R2, ⟨w.le, h2, w.nd.sublist s2, fun a ha => w.ap a (s2.subset ha), w0.io⟩, s2⟩
/-- a list that is not of the slots changes -/
theorem Wd.upd {σ : L2.St} {ρ : Rho} {R : List Addr} {a : Addr} {u : HO} (w : Wd p S H σ ρ R) (ha : a ∉ R) (sn : S a = none) : Wd p S (L2.upd H a u) σ ρ R :=
  ⟨fun b o e => by rw [upd_ne (ne_of_none e sn)]; exact w.le b o e, w.sl.up (Le.refl _) fun b hb o e => by rw [upd_ne (fun z => ha (by rw [← z]; exact hb))]; exact e, w.nd, w.ap, w.io⟩
end

/-! the comprehension on data -/
/-- one clause: items, target, test, element -/
def lcL (vs : List Nat) (gt : Tgt) (ft : M Bool) (fe : M O) : List D → List O → M (List O)
  | [], acc => M.ret acc
  | d :: ds, acc => fun ρ => match gt d ρ with
    | none => .bad
    | some ρ1 => match ft ρ1 with
      | .ok false ρ2 => lcL vs gt ft fe ds acc (wipeR ρ2 vs)
      | .ok true ρ2 => match fe ρ2 with
        | .ok o ρ3 => if acc.length < big then lcL vs gt ft fe ds (acc ++ [o]) (wipeR ρ3 vs) else .bad
        | _ => .bad
      | _ => .bad
def mLc (vs : List Nat) (fi : M (List D)) (gt : Tgt) (ft : M Bool) (fe : M O) : M O := fi.bnd fun ds ρ => if plainAt ρ vs then match lcL vs gt ft fe ds [] (wipeR ρ vs) with
    | .ok os ρ' => .ok (.own os) (unwipe ρ vs ρ')
    | _ => .bad
  else .bad
def noW : WX := fun _ _ _ _ => False
theorem Ows.app {K : PySem.W.Frag} {cl : Str → Option Addr} {S H : Hp} : ∀ {v v' : List V} {o o' : List O} {R R' : List Addr}, Ows K cl S H v o R → Ows K cl S H v' o' R' → Ows K cl S H (v ++ v') (o ++ o') (R ++ R')
  | _, _, _, _, _, _, .nil, r => r
  | _, _, _, _, _, _, .cons a b, r => by simpa using Ows.cons a (Ows.app b r)
theorem wipe_in {σ : L2.St} {i : Nat} : ∀ {vs : List Nat}, i ∈ vs → i < σ.length → (L2.wipe σ vs)[i]? = some none
  | [], h, _ => by cases h
  | v :: vs, h, hl => by
    unfold L2.wipe
    by_cases e : v = i
    · subst e; rw [List.getElem?_set_self (by rw [wipe_length]; exact hl)]
    · rw [List.getElem?_set_ne e]
      exact wipe_in ((List.mem_cons.mp h).resolve_left fun z => e z.symm) hl
theorem wipe_sm {ts vs : List Nat} {σ σ2 : L2.St} (h : Sm ts (L2.wipe σ vs) σ2) (hs : ∀ i ∈ ts, i ∈ vs) : L2.wipe σ2 vs = L2.wipe σ vs := by
  have hl : σ2.length = σ.length := by rw [h.1, wipe_length]
  refine List.ext_getElem? fun i => ?_
  by_cases hi : i ∈ vs
  · by_cases hlt : i < σ.length
    · rw [wipe_in hi (by omega), wipe_in hi hlt]
    · rw [List.getElem?_eq_none (by rw [wipe_length]; omega), List.getElem?_eq_none (by rw [wipe_length]; omega)]
  · rw [wipe_out hi, h.2 i fun z => hi (hs i z)]
section
variable {p : Pm} {W : WX}
/-- what is in flight stays -/
theorem flight {A : Addr} {R1 R' Rn Ra : List Addr} {H1 S1 H' S' Hn Sn : Hp} {acc : List V} {oc : List O} (T : Stp R' H' S' Rn Hn Sn) (ow : Ows p.K p.cl S' H' acc oc Ra) (nd : (R' ++ (A :: Ra)).Nodup) (hA : H' A = some (.lst acc)) (sA : S' A = none) (ap : ∀ a ∈ Ra, S' a = none)
    (t' : Stp R1 H1 S1 (R' ++ (A :: Ra)) H' S') : Hn A = some (.lst acc) ∧ Sn A = none ∧ Ows p.K p.cl Sn Hn acc oc Ra ∧ (∀ a ∈ Ra, Sn a = none) ∧ (∀ a ∈ A :: Ra, a ∉ Rn) ∧ Stp R1 H1 S1 (Rn ++ (A :: Ra)) Hn Sn := by
  have dj : ∀ a ∈ A :: Ra, a ∉ R' := fun a h1 h2 => (List.nodup_append.mp nd).2.2 a h2 a h1 rfl
  have hr : ∀ a ∈ A :: Ra, H' a ≠ none := fun a ha => by
    rcases List.mem_cons.mp ha with z | z
    · rw [z, hA]; simp
    · exact ow.there a z
  have sn : ∀ a ∈ A :: Ra, S' a = none → Sn a = none := fun a ha e => by
    cases q : Sn a with
    | none => rfl
    | some o =>
      rcases T.n a (hr a ha) (by rw [q]; simp) with z | z
      · exact absurd e z
      · exact absurd z (dj a ha)
  refine ⟨T.k A _ hA (dj A List.mem_cons_self), sn A List.mem_cons_self sA, ow.up T.s fun a ha u e => T.k a u e (dj a (List.mem_cons_of_mem _ ha)), fun a ha => sn a (List.mem_cons_of_mem _ ha) (ap a ha), fun a ha z => ?_, ?_⟩
  · rcases T.r a z with y | y
    · exact dj a ha y
    · exact hr a ha y
  · refine ⟨t'.s.trans T.s, fun b h1 h2 => ?_, fun b o e hb => T.k b o (t'.k b o e hb) fun z => ?_, fun b hb => ?_, fun b h => t'.t b (T.t b h)⟩
    · rcases T.n b (fun z => h1 (t'.t b z)) h2 with z | z
      · exact t'.n b h1 z
      · rcases t'.r b (List.mem_append_left _ z) with y | y
        · exact .inr y
        · exact absurd y h1
    · rcases t'.r b (List.mem_append_left _ z) with y | y
      · exact hb y
      · rw [e] at y; cases y
    · rcases List.mem_append.mp hb with z | z
      · rcases T.r b z with y | y
        · exact t'.r b (List.mem_append_left _ y)
        · exact .inr (t'.t b y)
      · exact t'.r b (List.mem_append_right _ z)
theorem lc_imp {vs ts : List Nat} {fi : M (List D)} {gt : Tgt} {ft : M Bool} {fe : M O} (hts : ∀ i ∈ ts, i ∈ vs) (hv : ∀ q ∈ p.io, q.1 ∉ vs) {σ : L2.St} {H : Hp} {Q : VK} (h : tDO p W (mLc vs fi gt ft fe) σ H Q) :
    tLc (tDI p W fi) (tDG p ts gt) (tDT p noW ft) (tDO p noW fe) vs σ H Q := by
  obtain ⟨ρ, S, R, w, h⟩ := h
  refine ⟨ρ, S, R, w, (isO.bI h).mono fun J H1 ⟨ds, ρ1, S1, R1, it, t1, w1, h1⟩ => ?_⟩
  intro A hA
  replace h1 : PoO p W σ S1 H1 R1 Q (if plainAt ρ1 vs then match lcL vs gt ft fe ds [] (wipeR ρ1 vs) with
    | .ok os ρ' => .ok (.own os) (unwipe ρ1 vs ρ')
    | _ => .bad
    else .bad) := h1
  by_cases hpl : plainAt ρ1 vs = true
  case neg => rw [if_neg hpl] at h1; exact h1.elim
  rw [if_pos hpl] at h1
  have sA : S1 A = none := by
    cases e : S1 A with
    | none => rfl
    | some u => rw [w1.le _ _ e] at hA; cases hA
  have aR1 : A ∉ R1 := fun z => w1.sl.there A z hA
  cases hr : lcL vs gt ft fe ds [] (wipeR ρ1 vs) with
  | bad => rw [hr] at h1; exact h1.elim
  | ex x ρ' => rw [hr] at h1; exact h1.elim
  | ok os ρF =>
    rw [hr] at h1
    dsimp only at h1
    obtain ⟨R0, w0, s0⟩ := w1.wipe hv
    have w0' := w0.upd (u := .lst []) (fun z => aR1 (s0.subset z)) sA
    have Inv : Nat → Hp → Prop := fun i H' => True
    refine ⟨fun i m H' => (∃ ρ' S' R' acc oc Ra, Wd p S' H' (L2.wipe σ vs) ρ' R' ∧ Stp R1 H1 S1 (R' ++ (A :: Ra)) H' S' ∧ H' A = some (.lst acc) ∧ S' A = none ∧ Ows p.K p.cl S' H' acc oc Ra ∧ (R' ++ (A :: Ra)).Nodup ∧ (∀ a ∈ Ra, S' a = none) ∧
        lcL vs gt ft fe (ds.drop i) oc ρ' = .ok os ρF) ∧ m = ds.length - i ∧ i ≤ ds.length, ⟨ds.length, ⟨wipeR ρ1 vs, S1, R0, [], [], [], w0', ?_, upd_same, sA, .nil, ?_, (fun _ z => nomatch z), by simpa using hr⟩, by simp, Nat.zero_le _⟩, ?_⟩
    · refine ⟨Le.refl _, fun b _ z => .inl z, fun b o e _ => by rw [upd_ne (ne_of_none e hA)]; exact e, fun b hb => ?_, fun b z => ?_⟩
      · rcases List.mem_append.mp hb with z | z
        · exact .inl (s0.subset z)
        · simp only [List.mem_singleton] at z; subst z; exact .inr hA
      · by_cases e : b = A
        · subst e; rw [upd_same] at z; cases z
        · rw [upd_ne e] at z; exact z
    · exact List.nodup_append.mpr ⟨w0.nd, by simp, fun a ha b hb e => by simp at hb; subst hb; subst e; exact aR1 (s0.subset ha)⟩
    rintro i m H' ⟨⟨ρ', S', R', acc, oc, Ra, w', t', hA', sA', ow, nd, ap, hq⟩, rfl, hi'⟩
    obtain ⟨go, stop⟩ := it S' H' t'.s w'.le
    by_cases hlt : i < ds.length
    · right
      obtain ⟨d, hd⟩ : ∃ d, ds[i]? = some d := ⟨ds[i], by simp [hlt]⟩
      have edrop : ds.drop i = d :: ds.drop (i + 1) := by
        rw [List.drop_eq_getElem_cons hlt]
        congr 1
        rw [List.getElem?_eq_getElem hlt] at hd
        exact Option.some.inj hd
      rw [edrop] at hq
      obtain ⟨g1, g2⟩ := go i d hd
      refine ⟨g1, fun H' => ∃ ρ' S' R' acc oc Ra, Wd p S' H' (L2.wipe σ vs) ρ' R' ∧ Stp R1 H1 S1 (R' ++ (A :: Ra)) H' S' ∧ H' A = some (.lst acc) ∧ S' A = none ∧ Ows p.K p.cl S' H' acc oc Ra ∧ (R' ++ (A :: Ra)).Nodup ∧ (∀ a ∈ Ra, S' a = none) ∧
        lcL vs gt ft fe (ds.drop (i + 1)) oc ρ' = .ok os ρF, fun H2 z => ⟨ds.length - (i + 1), by omega, z, rfl, hlt⟩, fun x H'' hy => ?_⟩
      obtain ⟨Sg, gr, rx⟩ := g2 x H'' hy
      obtain ⟨wg, tg⟩ := gr.wd w'
      simp only [lcL] at hq
      cases egt : gt d ρ' with
      | none => rw [egt] at hq; cases hq
      | some ρ2 =>
        rw [egt] at hq
        dsimp only at hq
        refine ⟨ρ', Sg, R', d, wg, rx, ?_⟩
        rw [egt]
        intro σ2 S2 H2 R2 sm t2 w2
        have ew := wipe_sm sm hts
        refine ⟨ew, ρ2, S2, R2, w2, ?_⟩
        cases eft : ft ρ2 with
        | bad => rw [eft] at hq; cases hq
        | ex x ρ3 => rw [eft] at hq; cases hq
        | ok b ρ3 =>
          rw [eft] at hq
          intro S3 H3 R3 t3 w3
          have T3 : Stp R' H' S' R3 H3 S3 := (tg.trans t2).trans t3
          cases b with
          | false =>
            dsimp only at hq
            rw [if_neg Bool.false_ne_true]
            obtain ⟨R4, w4, s4⟩ := w3.wipe hv
            rw [ew] at w4
            obtain ⟨f1, f2, f3, f4, f5, f6⟩ := flight T3 ow nd hA' sA' ap t'
            refine ⟨wipeR ρ3 vs, S3, R4, acc, oc, Ra, w4, f6.less fun b hb => ?_, f1, f2, f3, ?_, f4, hq⟩
            · rcases List.mem_append.mp hb with z | z
              · exact List.mem_append_left _ (s4.subset z)
              · exact List.mem_append_right _ z
            · exact List.nodup_append.mpr ⟨w4.nd, (List.nodup_append.mp nd).2.1, fun a ha b hb e => by subst e; exact f5 a hb (s4.subset ha)⟩
          | true =>
            dsimp only at hq
            rw [if_pos rfl]
            refine ⟨ρ3, S3, R3, w3, ?_⟩
            cases efe : fe ρ3 with
            | bad => rw [efe] at hq; cases hq
            | ex x ρ4 => rw [efe] at hq; cases hq
            | ok o ρ4 =>
              rw [efe] at hq
              dsimp only at hq
              split at hq
              · rename_i hbig
                intro S4 H4 R4 v Rv t4 w4 ow4 nd4 ap4
                have T4 : Stp R' H' S' (R4 ++ Rv) H4 S4 := T3.trans t4
                obtain ⟨f1, f2, f3, f4, f5, f6⟩ := flight T4 ow nd hA' sA' ap t'
                refine ⟨acc, f1, by rw [ow.length, ← big_eq]; exact hbig, ?_⟩
                obtain ⟨R5, w5, s5⟩ := w4.wipe hv
                rw [ew] at w5
                have a4 : A ∉ R4 ++ Rv := f5 A List.mem_cons_self
                have a5 : A ∉ R5 := fun z => a4 (List.mem_append_left _ (s5.subset z))
                have w6 := w5.upd (u := .lst (acc ++ [v])) a5 f2
                have nRa := (List.nodup_cons.mp (List.nodup_append.mp nd).2.1)
                have hup : ∀ b ∈ Ra ++ Rv, ∀ u, H4 b = some u → L2.upd H4 A (.lst (acc ++ [v])) b = some u := fun b hb u e => by
                  rw [upd_ne (fun z => ?_)]
                  · exact e
                  · subst z
                    rcases List.mem_append.mp hb with y | y
                    · exact nRa.1 y
                    · exact a4 (List.mem_append_right _ y)
                have ow5 : Ows p.K p.cl S4 (L2.upd H4 A (.lst (acc ++ [v]))) (acc ++ [v]) (oc ++ [o]) (Ra ++ Rv) := by
                  have q := f3.app (Ows.cons ow4 .nil)
                  rw [List.append_nil] at q
                  exact q.up (Le.refl _) hup
                have n4 := List.nodup_append.mp nd4
                refine ⟨wipeR ρ4 vs, S4, R5, acc ++ [v], oc ++ [o], Ra ++ Rv, w6, ?_, upd_same, f2, ow5, ?_, fun a ha => ?_, hq⟩
                · refine ⟨f6.s, f6.n, fun b u e hb => ?_, fun b hb => ?_, fun b z => ?_⟩
                  · rw [upd_ne (ne_of_none e hA)]; exact f6.k b u e hb
                  · simp only [List.mem_append, List.mem_cons] at hb
                    rcases hb with z | z | z | z
                    · exact f6.r b (by simp [s5.subset z])
                    · exact f6.r b (by simp [z])
                    · exact f6.r b (by simp [z])
                    · exact f6.r b (by simp [z])
                  · by_cases e : b = A
                    · subst e; rw [upd_same] at z; cases z
                    · rw [upd_ne e] at z; exact f6.t b z
                · refine List.nodup_append.mpr ⟨w5.nd, List.nodup_cons.mpr ⟨fun z => ?_, List.nodup_append.mpr ⟨nRa.2, n4.2.1, fun a ha b hb e => ?_⟩⟩, fun a ha b hb e => ?_⟩
                  · rcases List.mem_append.mp z with y | y
                    · exact nRa.1 y
                    · exact a4 (List.mem_append_right _ y)
                  · subst e; exact f5 a (List.mem_cons_of_mem _ ha) (List.mem_append_right _ hb)
                  · subst e
                    rcases List.mem_cons.mp hb with y | y
                    · subst y; exact a5 ha
                    · rcases List.mem_append.mp y with x | x
                      · exact f5 a (List.mem_cons_of_mem _ x) (List.mem_append_left _ (s5.subset ha))
                      · exact n4.2.2 a (s5.subset ha) a x rfl
                · rcases List.mem_append.mp ha with y | y
                  · exact f4 a y
                  · exact ap4 a y
              · cases hq
    · left
      have e : i = ds.length := by omega
      subst e
      rw [List.drop_length] at hq
      simp only [lcL, M.ret, Rs.ok.injEq] at hq
      obtain ⟨e1, e2⟩ := hq
      subst e1 e2
      refine ⟨stop, ?_⟩
      obtain ⟨R2, w2, s2⟩ := w1.unwipe hpl w' t'.s
      refine h1 S' H' R2 (.ref A) (A :: Ra) (t'.less fun b hb => ?_) w2 (.own hA' ow) ?_ fun a ha => ?_
      · rcases List.mem_append.mp hb with z | z
        · exact List.mem_append_left _ (s2.subset z)
        · exact List.mem_append_right _ z
      · have n := List.nodup_append.mp nd
        exact List.nodup_append.mpr ⟨w2.nd, n.2.1, fun a ha b hb e => n.2.2 a (s2.subset ha) b hb e⟩
      · rcases List.mem_cons.mp ha with z | z
        · subst z; exact sA'
        · exact ap a z
end
end PL

end
-- text PL12
section
set_option linter.all false
set_option maxRecDepth 100000
set_option maxHeartbeats 4000000
namespace PL
open PySem PySem.Spec L2

/-! ### try .. except, several clauses, each with a name or without -/
/-- a clause: the class that it names, its slot (where it has a name), its suite's reading -/
structure Cls1 where
  c : Value
  i : Option Nat
  ts : Addr → Value → Option Addr → TS
/-- where a suite with a name ends, its slot is emptied -/
def endsAt (D : Ends) : Option Nat → Ends
  | none => D
  | some i => { nx := fun σ H => D.nx (σ.set i none) H, rt := D.rt, bk := fun σ H => D.bk (σ.set i none) H, ct := fun σ H => D.ct (σ.set i none) H }
def slotAt (σ : L2.St) (a : Addr) : Option Nat → L2.St
  | none => σ
  | some i => σ.set i (some (.ref a))
/-- what the clauses want of an exception out of the body -/
def wCl (K : PySem.W.Frag) (Wout : WX) (D : Ends) : List Cls1 → WX
  | [] => Wout
  | k :: r => fun cls d σ H => ∃ b, PySem.W.exmOne K cls k.c = some b ∧ (b = true → ∀ a, H a = none → k.ts a cls d (endsAt D k.i) (slotAt σ a k.i) H) ∧ (b = false → wCl K Wout D r cls d σ H)
inductive ClsOk (X : Cx) : List ExceptHandler → List Cls1 → Prop
  | nil : ClsOk X [] []
  | bare {x : Str} {c : Value} {ts : Addr → Value → Option Addr → TS} {s0 : Stmt} {suite : List Stmt} {np hp : Pos} {hs : List ExceptHandler} {l : List Cls1} (hc : Names X x c)
      (hsu : ∀ (a : Addr) (oe : Obj) (cls : Value) (d : Option Addr) (pn : List (Addr × Obj)), Zc cls d oe → (∃ vs, oe.data = .fields vs) → PSs (X.suite a ((a, oe) :: pn)) (s0 :: suite) (ts a cls d)) (r : ClsOk X hs l) :
      ClsOk X (.ExceptHandler (some (.Name x np)) none (s0 :: suite) hp :: hs) (⟨c, none, ts⟩ :: l)
  | named {x n : Str} {i : Nat} {c : Value} {ts : Addr → Value → Option Addr → TS} {s0 : Stmt} {suite : List Stmt} {np hp : Pos} {hs : List ExceptHandler} {l : List Cls1} (hc : Names X x c) (hi : X.N[i]? = some n) (hn : X.env.kindOf n = some .local)
      (hsu : ∀ (a : Addr) (oe : Obj) (cls : Value) (d : Option Addr) (pn : List (Addr × Obj)), Zc cls d oe → (∃ vs, oe.data = .fields vs) → PSs (X.suite a ((a, oe) :: pn)) (s0 :: suite) (ts a cls d)) (r : ClsOk X hs l) :
      ClsOk X (.ExceptHandler (some (.Name x np)) (some n) (s0 :: suite) hp :: hs) (⟨c, some i, ts⟩ :: l)
section
variable {X : Cx} {body : List Stmt} {h0 : ExceptHandler} {hs : List ExceptHandler} {l : List Cls1} {pos : Pos} {tb : WX → TS} {Wout : WX}
theorem ps_tryN (hst : X.stack = X.env :: X.outer) (hfr : X.env.frame = some X.env.locals) (hN : X.N.Nodup) (tk : Takes X Wout)
    (hb : ∀ (W : WX) (pn : List (Addr × Obj)) (xe : Value → Shared → Prop), Takes (X.tr pn xe) W → PassesOwn (model X.prog X.w) X.A X.env xe → PSs (X.tr pn xe) body (tb W))
    (hh : ClsOk X (h0 :: hs) l) : PS X (.Try body (h0 :: hs) [] [] pos) (fun D σ H => tb (wCl X.K Wout D l) D σ H) := by
  refine ⟨fun pins s σ H D I h => ?_⟩
  have ok := I.ok
  have frm : X.A.frames = some (X.env :: X.outer) := by rw [ok.frames, hst]
  refine wpAny_Try_except ?_
  let Exc : Value → Shared → Prop := fun e s1 => wpAny (model X.prog X.w) X.A (noteFrame e X.env)
    (fun _ s2 => wpAny (model X.prog X.w) X.A (setFlight e none)
      (fun _ s3 => wpAny (model X.prog X.w) X.A (handleBy e X.env (h0 :: hs)) (SP X pins D) X.xe s3) X.xe s2) X.xe s1
  have caught : Takes (X.tr (X.pn ++ pins) Exc) (wCl X.K Wout D l) := by
    intro u s' xx
    obtain ⟨a, B, sI, pins', σ', H', cls, d, rfl, J', ground, up, sky, na, os, ag, wish⟩ := xx
    have J : L2.Inv X pins σ' H' sI := J'.ofTry ok
    have sky2 : Sky B (X.env :: X.outer) a (Zc cls d) X.env.locals s'.heap := by rw [← hst]; exact sky
    show wpAny (model X.prog X.w) X.A (noteFrame (.ref a) X.env) _ _ _
    refine Sky.land Zc.steady frm hfr sky2 fun h3 fl3 up3 => ?_
    have J3 : L2.Inv X pins σ' H' { s' with heap := h3 } := J.landed ground fl3.1 (up.trans up3) os ag
    obtain ⟨oe3, vs3, he3, hz3, hd3⟩ := fl3.there
    have far : a ∉ frs (X.env :: X.outer) := fun hm => by
      obtain ⟨_, o', e', hnf⟩ := fl3.2.2.1.mem hm
      rw [he3] at e'; cases e'
      exact hnf _ hd3
    have nL : a ≠ X.env.locals := fun z => far (List.mem_filterMap.mpr ⟨X.env, List.mem_cons_self, by rw [hfr, z]⟩)
    have nF : a ∉ X.fs := fun hm => by
      obtain ⟨e, he, q⟩ := List.mem_filterMap.mp hm
      exact far (List.mem_filterMap.mpr ⟨e, List.mem_cons_of_mem _ he, q⟩)
    have S3 := J3.suite he3 hd3 na nL nF
    -- the class that a clause names
    have named : ∀ {x : Str} {c : Value} {np : Pos} {Q : Value → Shared → Prop} {E : Value → Shared → Prop}, Names X x c → Q c { s' with heap := h3 } →
        wpAny (model X.prog X.w) (X.A.mark (some (.ref a))) (eval (.Name x np) X.env) Q E { s' with heap := h3 } := by
      intro x c np Q E hc q
      obtain ⟨hg, hdbg, hm | ⟨hm, hv, hnn⟩⟩ := hc
      · exact ld_glob (X := X.suite a ((a, oe3) :: (X.pn ++ pins))) S3 hg hm q hdbg
      · exact ld_blt (X := X.suite a ((a, oe3) :: (X.pn ++ pins))) S3 hg hm hv q hnn hdbg
    have kind : PySem.W.Looks (model X.prog X.w) h3 (typeOf (.ref a)) cls := fun A Q E s k q => wpAny_typeOf_ref (k _ _ he3) (by rw [hz3.1]; exact q)
    have go : ∀ {hs' : List ExceptHandler} {l' : List Cls1}, ClsOk X hs' l' → wCl X.K Wout D l' cls d σ' H' → wpAny (model X.prog X.w) X.A (handleBy (.ref a) X.env hs') (SP X pins D) X.xe { s' with heap := h3 } := by
      intro hs' l' hk
      induction hk with
      | nil =>
        intro wsh
        refine wpAny_handleBy_nil ?_
        obtain ⟨k1, k2, k3, oe, vs, T, oT, ts', he, hz, hd, h1, hr⟩ := id fl3
        unfold PySem.passOn
        refine wpAny_bind (wpAny_field he hd h1 ?_)
        rw [if_neg (show ¬ ((Value.ref T == Value.none) = true) from by simp)]
        have out : wpAny (model X.prog X.w) X.A (setFlight (.ref a) X.env.frame)
            (fun _ s4 => wpAny (model X.prog X.w) X.A (throw (.ref a) : Sem Flow) (SP X pins D) X.xe s4) X.xe { s' with heap := h3 } := by
          rw [hfr]
          refine HandSPX.setFlight_upZ fl3 fun h4 hh4 up4 => wpAny_throw (tk _ _ ?_)
          exact ⟨a, B, sI, pins, σ', H', cls, d, rfl, J, ground, (up.trans up3).trans up4, .inr (.inr (by rw [hst]; exact hh4)), na, os, ag, wsh⟩
        first
          | exact wpAny_bind (wpAny_pure (wpAny_bind out))
          | exact wpAny_bind out
      | @bare x c ts s0 suite np hp hs2 l2 hc hsu r ih =>
        rintro ⟨b, hb1, yes, no⟩
        refine wpAny_handleBy_cons (codeAny_handlers_test ?_) (by intro q; cases q)
        refine named hc ((PySem.W.exm_one (M := model X.prog X.w) J3.kIn kind hb1).here ?_)
        cases b with
        | false => exact ih (no rfl)
        | true =>
          refine codeAny_handlers_suite (HandSPX.lands_againZ fl3 fun h4 fl4 up4 => ?_)
          have J4 : L2.Inv X pins σ' H' { s' with heap := h4 } := J.landed ground fl4.1 ((up.trans up3).trans up4) os ag
          obtain ⟨oe4, vs4, he4, hz4, hd4⟩ := fl4.there
          have S4 := J4.suite he4 hd4 na nL nF
          refine wpAny_mono ((hsu a oe4 cls d (X.pn ++ pins) hz4 ⟨_, hd4⟩).run [] _ _ H' _ S4 (yes rfl a na)) (fun f s6 hsp => ?_) (fun _ _ z => False.elim z)
          match f, hsp with
          | .next, ⟨σ6, H6, S6, q6⟩ => exact ⟨_, _, S6.unsuite ok, q6⟩
          | .brk, ⟨σ6, H6, S6, q6⟩ => exact ⟨_, _, S6.unsuite ok, q6⟩
          | .cont, ⟨σ6, H6, S6, q6⟩ => exact ⟨_, _, S6.unsuite ok, q6⟩
          | .ret u, ⟨v6, σ6, H6, S6, r6, q6⟩ => exact ⟨_, _, _, S6.unsuite ok, r6, q6⟩
      | @named x n i c ts s0 suite np hp hs2 l2 hc hi hn hsu r ih =>
        rintro ⟨b, hb1, yes, no⟩
        refine wpAny_handleBy_cons (codeAny_handlers_test ?_) (by intro q; cases q)
        refine named hc ((PySem.W.exm_one (M := model X.prog X.w) J3.kIn kind hb1).here ?_)
        cases b with
        | false => exact ih (no rfl)
        | true =>
          refine codeAny_handlers_suite_as (HandSPX.lands_againZ fl3 fun h4 fl4 up4 => ?_)
          have J4 : L2.Inv X pins σ' H' { s' with heap := h4 } := J.landed ground fl4.1 ((up.trans up3).trans up4) os ag
          obtain ⟨oe4, vs4, he4, hz4, hd4⟩ := fl4.there
          have S4 := J4.suite he4 hd4 na nL nF
          refine store_ok (X := X.suite a ((a, oe4) :: (X.pn ++ pins))) (v := .ref a) S4 hN hi (.inl hn) rfl (fun s5 S5 => ?_) (.inr hn)
          refine wpAny_mono ((hsu a oe4 cls d (X.pn ++ pins) hz4 ⟨_, hd4⟩).run [] s5 _ H' _ S5 (yes rfl a na)) (fun f s6 hsp => ?_) (fun _ _ z => False.elim z)
          have over : ∀ {σ6 : L2.St} {H6 : Hp} {Q : Shared → Prop}, L2.Inv (X.suite a ((a, oe4) :: (X.pn ++ pins))) [] σ6 H6 s6 → (∀ s7, L2.Inv X pins (σ6.set i none) H6 s7 → Q s7) →
              wpAny (model X.prog X.w) X.A (do bindName X.env n .none; unbindBehindTheSuite X.env n hp) (fun _ s7 => Q s7) X.xe s6 := fun {σ6 H6 Q} S6 hq => gone_ok (S6.unsuite ok) hN hi hn hq
          match f, hsp with
          | .next, ⟨σ6, H6, S6, q6⟩ => exact over S6 fun s7 J7 => ⟨_, _, J7, q6⟩
          | .brk, ⟨σ6, H6, S6, q6⟩ => exact over S6 fun s7 J7 => ⟨_, _, J7, q6⟩
          | .cont, ⟨σ6, H6, S6, q6⟩ => exact over S6 fun s7 J7 => ⟨_, _, J7, q6⟩
          | .ret u, ⟨v6, σ6, H6, S6, r6, q6⟩ => exact over S6 fun s7 J7 => ⟨_, _, _, J7, r6, q6⟩
    exact go hh wish
  refine wpAny_mono ((hb (wCl X.K Wout D l) (X.pn ++ pins) Exc caught PassesOwn.looking).run [] s σ H D (I.toTry _) h) (fun f s1 hsp => ?_) (fun e s1 he => he)
  match f, hsp with
  | .next, ⟨σ', H', J', q⟩ => exact wpAny_execs_nil ⟨σ', H', J'.ofTry ok, q⟩
  | .brk, ⟨σ', H', J', q⟩ => exact ⟨σ', H', J'.ofTry ok, q⟩
  | .cont, ⟨σ', H', J', q⟩ => exact ⟨σ', H', J'.ofTry ok, q⟩
  | .ret u, ⟨v, σ', H', J', r, q⟩ => exact ⟨v, σ', H', J'.ofTry ok, r, q⟩
end
end PL

end
-- text PL13
section
set_option linter.all false
set_option maxRecDepth 100000
set_option maxHeartbeats 4000000
namespace PL
open PySem PySem.Spec L2

/-! ### try on data -/
def exmD (x h : Str) : Bool := h == "RowError" || x == h
structure Hdl where
  h : Str
  i : Option Nat
  g : Ex → M Fl
/-- the slot of the name is emptied -/
def goneR (i : Option Nat) (ρ : Rho) : Rho := match i with
  | none => ρ
  | some i => ρ.set i none
def gone (i : Option Nat) : Rs Fl → Rs Fl
  | .ok fl ρ => .ok fl (goneR i ρ)
  | _ => .bad
def inR (i : Option Nat) (ρ : Rho) : Bool := match i with
  | none => true
  | some i => i < ρ.length
def handle : List Hdl → Ex → M Fl
  | [], x => fun ρ => .ex x ρ
  | k :: r, x => fun ρ => if exmD x.cls k.h then (if inR k.i ρ then gone k.i (k.g x (goneR k.i ρ)) else .bad) else handle r x ρ
def mTry (fb : M Fl) (hs : List Hdl) : M Fl := fun ρ => match fb ρ with
  | .ex x ρ' => handle hs x ρ'
  | r => r
/-- what the written part says of the program's exceptions -/
structure XcK (K : PySem.W.Frag) (cl : Str → Option Addr) : Prop where
  f : ∀ x C, cl x = some C → isXc x = true → XfC K C
  no : ∀ x C, cl x = some C → isXc x = true → PySem.W.findIn K (.ref C) "value" = some none ∧ PySem.W.findIn K (.ref C) "bar" = some none ∧ PySem.W.findIn K (.ref C) "name" = some none
  m : ∀ x C h E, cl x = some C → isXc x = true → cl h = some E → isXc h = true → PySem.W.exmOne K (.ref C) (.ref E) = some (exmD x h)
section
variable {X : Cx} {p : Pm} {W : WX}
/-- a suite's reading -/
def tSu (p : Pm) (g : Ex → M Fl) (i : Option Nat) (a : Addr) (cls : Value) (d : Option Addr) : TS := fun D σ H => ∃ ρ S R x C, cls = .ref C ∧ XR p S x C d ∧ (∀ j, i = some j → σ[j]? = some (some (.ref a))) ∧ Wd p S H σ ρ R ∧ PoS p noW S H R D (g x ρ)
theorem Wd.gone {S H : Hp} {σ : L2.St} {ρ : Rho} {R : List Addr} (w : Wd p S H σ ρ R) {i : Nat} (y : Option V) (hi : ∀ q ∈ p.io, q.1 ≠ i) : ∃ R', Wd p S H (σ.set i y) (ρ.set i none) R' ∧ List.Sublist R' R := by
  have len := w.sl.length
  obtain ⟨R', h, s⟩ := w.sl.pw (σ := σ.set i y) (ρ := ρ.set i none) (by simp) (by simp) fun j => by
    by_cases e : i = j
    · subst e
      by_cases hl : i < ρ.length
      · exact .inr (.inl (by rw [List.getElem?_set_self hl]))
      · refine .inl ⟨?_, ?_⟩
        · rw [List.getElem?_eq_none (by simp; omega), List.getElem?_eq_none (by omega)]
        · rw [List.getElem?_eq_none (by simp; omega), List.getElem?_eq_none (by omega)]
    · exact .inl ⟨List.getElem?_set_ne e, List.getElem?_set_ne e⟩
  refine ⟨R', ⟨w.le, h, w.nd.sublist s, fun a ha => w.ap a (s.subset ha), fun q hq => ?_⟩, s⟩
  rw [List.getElem?_set_ne (Ne.symm (hi q hq))]
  exact w.io q hq
/-- clauses and their data -/
inductive HsOk (X : Cx) (p : Pm) : List Hdl → List Cls1 → Prop
  | nil : HsOk X p [] []
  | cons {k : Hdl} {E : Addr} {r : List Hdl} {l : List Cls1} : p.cl k.h = some E → isXc k.h = true → (∀ i, k.i = some i → ∀ q ∈ p.io, q.1 ≠ i) → HsOk X p r l → HsOk X p (k :: r) (⟨.ref E, k.i, tSu p k.g k.i⟩ :: l)
theorem PoS.gone {S H : Hp} {R : List Addr} {D : Ends} {i : Option Nat} {r : Rs Fl} (hi : ∀ j, i = some j → ∀ q ∈ p.io, q.1 ≠ j) (h : PoS p W S H R D (PL.gone i r)) : PoS p noW S H R (endsAt D i) r := by
  cases r with
  | bad => exact h
  | ex x ρ => exact h.elim
  | ok fl ρ =>
    cases i with
    | none => cases fl <;> exact h
    | some i =>
      cases fl with
      | nx =>
        intro σ' S' H' R' t w'
        obtain ⟨R2, w2, s2⟩ := w'.gone none (hi i rfl)
        exact h _ S' H' R2 (t.less fun b hb => s2.subset hb) w2
      | bk =>
        intro σ' S' H' R' t w'
        obtain ⟨R2, w2, s2⟩ := w'.gone none (hi i rfl)
        exact h _ S' H' R2 (t.less fun b hb => s2.subset hb) w2
      | ct =>
        intro σ' S' H' R' t w'
        obtain ⟨R2, w2, s2⟩ := w'.gone none (hi i rfl)
        exact h _ S' H' R2 (t.less fun b hb => s2.subset hb) w2
      | rt o =>
        intro σ' S' H' R' v Rv t w' ow nd ap
        obtain ⟨R2, w2, s2⟩ := w'.gone none (hi i rfl)
        have s3 : List.Sublist (R2 ++ Rv) (R' ++ Rv) := List.Sublist.append s2 (List.Sublist.refl _)
        exact h _ S' H' R2 v Rv (t.less fun b hb => s3.subset hb) w2 ow (nd.sublist s3) ap
theorem handle_ok (hK : X.K = p.K) (xk : XcK p.K p.cl) {D : Ends} : ∀ {hs : List Hdl} {l : List Cls1}, HsOk X p hs l → ∀ {S H : Hp} {R : List Addr} {x : Ex} {ρ : Rho}, PoS p W S H R D (handle hs x ρ) →
    ∀ σ' S' H' R' C dd, Stp R H S R' H' S' → Wd p S' H' σ' ρ R' → XR p S' x C dd → wCl X.K W D l (.ref C) dd σ' H'
  | _, _, .nil, _, _, _, _, _, h => h
  | _, _, .cons (k := k) (E := E) hE hx hio hr, S, H, R, x, ρ, h => by
    intro σ' S' H' R' C dd t w' xr
    refine ⟨exmD x.cls k.h, by rw [hK]; exact xk.m _ _ _ _ xr.1 xr.2.1 hE hx, fun hm a ha => ?_, fun hm => ?_⟩
    · simp only [handle, hm, if_true] at h
      split at h
      · rename_i hin
        have h2 := PoS.gone hio (h.up t)
        show tSu p k.g k.i a (.ref C) dd (endsAt D k.i) (slotAt σ' a k.i) H'
        cases ei : k.i with
        | none => rw [ei] at h2; exact ⟨ρ, S', R', x, C, rfl, xr, (fun j z => nomatch z), w', h2⟩
        | some i =>
          rw [ei] at h2 hin
          have hl : i < σ'.length := by rw [w'.sl.length]; simpa [inR] using hin
          obtain ⟨R2, w2, s2⟩ := w'.gone (some (.ref a)) (hio i ei)
          refine ⟨ρ.set i none, S', R2, x, C, rfl, xr, fun j z => ?_, w2, PoS.up (Stp.refl.less fun b hb => s2.subset hb) h2⟩
          cases z
          exact List.getElem?_set_self hl
      · exact h.elim
    · have hm' : exmD x.cls k.h = false := hm
      simp only [handle, hm', Bool.false_eq_true, if_false] at h
      exact handle_ok hK xk hr h σ' S' H' R' C dd t w' xr
theorem ds_try (o : Ok0 X p) (xk : XcK p.K p.cl) {body : List Stmt} {h0 : ExceptHandler} {hs : List ExceptHandler} {l : List Cls1} {pos : Pos} {fb : M Fl} {hd : List Hdl} (hst : X.stack = X.env :: X.outer) (hfr : X.env.frame = some X.env.locals) (tk : Takes X W)
    (hb : ∀ (W' : WX) (pn : List (Addr × Obj)) (xe : Value → Shared → Prop), Takes (X.tr pn xe) W' → PassesOwn (model X.prog X.w) X.A X.env xe → PSs (X.tr pn xe) body (tDS p W' fb))
    (hh : ClsOk X (h0 :: hs) l) (hd' : HsOk X p hd l) : PS X (.Try body (h0 :: hs) [] [] pos) (tDS p W (mTry fb hd)) :=
  PS.imp (ps_tryN (tb := fun W' => tDS p W' fb) hst hfr o.N tk hb hh) fun D σ H ⟨ρ, S, R, w, h⟩ => by
    refine ⟨ρ, S, R, w, ?_⟩
    unfold mTry at h
    revert h
    cases fb ρ with
    | bad => exact fun h => h
    | ok fl ρ' => cases fl <;> exact fun h => h
    | ex x ρ' => exact fun h => handle_ok o.K xk hd' h

/-! suites: return [text], return [text, e.field] -/
def gTxt (t : Str) : Ex → M Fl := fun _ => M.ret (.rt (.own [.dat (.str t)]))
def gTxtF (t f : Str) : Ex → M Fl := fun x => match x.fld with
  | some (f', d) => if f' = f then M.ret (.rt (.own [.dat (.str t), .dat d])) else M.bad
  | none => M.bad
def fldN (f : Str) : Bool := f == "value" || f == "bar" || f == "name"
theorem su_txt {i : Option Nat} {a : Addr} {oe : Obj} {cls : Value} {d : Option Addr} {pn : List (Addr × Obj)} {t : Str} {j : Nat} {p1 p2 p3 : Pos} : PSs (X.suite a ((a, oe) :: pn)) [.Return (some (.List [.Constant (.str t) j p1] p2)) p3] (tSu p (gTxt t) i a cls d) :=
  PSs.imp (pss_one (ps_ret (pe_lst (pa_cons pe_str pa_nil)))) fun D σ H ⟨ρ, S, R, x, C, _, _, _, w, h⟩ => by
    refine ⟨by rw [sizeLine_eq]; simp, fun q hq => ?_⟩
    have h2 : PoO p noW σ S H R D.rt (.ok (.own [.dat (.str t)]) ρ) := fun S' H' R' v Rv t w ow nd ap => h σ S' H' R' v Rv t w ow nd ap
    exact PoO.new w h2 hq (Ows.cons (R := []) (.dat (.str t)) .nil)
theorem su_txtF (hK : X.K = p.K) (xk : XcK p.K p.cl) {i : Nat} {n f : Str} {a : Addr} {oe : Obj} {cls : Value} {d : Option Addr} {pn : List (Addr × Obj)} {t : Str} {j : Nat} {p1 p2 p3 p4 p5 : Pos} (hi : X.N[i]? = some n) (hn : X.env.kindOf n = some .local) (hf : fldN f = true)
    (hdb : (n == ("__debug__" : Str)) = false) (hcd : (n == ("__classdict__" : Str)) = false) (hz : Zc cls d oe) (hfl : ∃ vs, oe.data = .fields vs) :
    PSs (X.suite a ((a, oe) :: pn)) [.Return (some (.List [.Constant (.str t) j p1, .Attribute (.Name n p4) f p5] p2)) p3] (tSu p (gTxtF t f) (some i) a cls d) := by
  by_cases hx : ∃ x C, cls = .ref C ∧ p.cl x = some C ∧ isXc x = true
  · obtain ⟨x0, C, rfl, hx0, hx1⟩ := hx
    have T := xk.f _ _ hx0 hx1
    have hno : PySem.W.findIn X.K (.ref C) f = some none := by
      rw [hK]
      obtain ⟨n1, n2, n3⟩ := xk.no _ _ hx0 hx1
      simp only [fldN, Bool.or_eq_true, beq_iff_eq] at hf
      rcases hf with (z | z) | z <;> rw [z] <;> assumption
    rw [← hK] at T
    refine PSs.imp (pss_one (ps_ret (pe_lst (pa_cons pe_str (pa_cons (pe_xf T hno hz hfl (pe_var (X := X.suite a ((a, oe) :: pn)) (i := i) hi (.inl hn) hdb hcd)) pa_nil))))) fun D σ H ⟨ρ, S, R, x, C', e1, xr, hs, w, h⟩ => ?_
    cases e1
    refine ⟨_, hs i rfl, rfl, rfl, ?_⟩
    unfold gTxtF at h
    obtain ⟨xc, xf⟩ := x
    cases xf with
    | none => exact h.elim
    | some fd =>
      obtain ⟨f', dd⟩ := fd
      dsimp only at h
      split at h
      · rename_i ef
        subst ef
        obtain ⟨_, _, b, v, rfl, hb, rv⟩ := xr
        refine ⟨b, _, v, rfl, w.le _ _ hb, by simp [List.lookup], by rw [sizeLine_eq]; simp, fun q hq => ?_⟩
        have h2 : PoO p noW σ S H R D.rt (.ok (.own [.dat (.str t), .dat dd]) ρ) := fun S' H' R' v Rv t w ow nd ap => h σ S' H' R' v Rv t w ow nd ap
        exact PoO.new w h2 hq (Ows.cons (R := []) (.dat (.str t)) (Ows.cons (R := []) (.dat rv) .nil))
      · exact h.elim
  · exact ⟨fun pins s σ H D I ⟨ρ, S, R, x, C, e1, xr, _⟩ => absurd ⟨x.cls, C, e1, xr.1, xr.2.1⟩ hx⟩

/-! ### raise X(e) -/
def mRaise (x f : Str) (fe : M D) : M Fl := fe.bnd fun d ρ => .ex ⟨x, some (f, d)⟩ ρ
/-- __init__ of an exception with one field -/
def spXI (C : Addr) (f : Str) : Sp := fun vs H Q _ => ∃ a v, vs = [.ref a, v] ∧ H a = some (exo a C none) ∧ ∀ d, H d = none → d ≠ a → Q .non (upd (upd H d (exd d [(f, v)])) a (exo a C (some d)))
structure XmOk (P : Program) (w : World) (K : PySem.W.Frag) (cl : Str → Option Addr) (mg : Str → Option Value) (base : Heap) (k : Nat) (x f : Str) : Prop where
  ex : ∃ (C fI : Addr) (fd : FuncData) (ps : List Str), cl x = some C ∧ isXc x = true ∧ OexC K C ∧ PySem.W.findIn K (.ref C) "__init__" = some (some (.ref fI)) ∧ PySem.W.typeIn K (.ref fI) = some (.type "function") ∧
    FnOk P w K mg base CX0 k fI fd ps (spXI C f) ∧ Binds K fd ps [] ∧ mg x = some (.ref C)
theorem ds_raise (o : Ok0 X p) {k : Nat} {x f : Str} {e : Expr} {q1 q2 q3 : Pos} {fe : M D} (xm : XmOk X.prog X.w p.K p.cl X.mg X.base k x f) (hr : Room (k + 1) X.A) (tk : Takes X W) (hg : Gl X x) (he : PE X e (tD p W fe)) (hdb : (x == ("__debug__" : Str)) = false)
    (hse : starEach [e] X.env = (false, eval e X.env) :: starEach [] X.env) : PS X (.Raise (some (.Call (.Name x q1) [e] [] q2)) none q3) (tDS p W (mRaise x f fe)) := by
  obtain ⟨C, fI, fd, ps, hC, hx, T, iC, tI, F, hb, hm⟩ := xm.ex
  rw [← o.K] at T iC tI F hb
  refine PS.imp (ps_raise o.c tk (pmk_oex (dvs := []) T iC tI F hr hb .nil pass0 hg hm (pa_cons he pa_nil hse) hdb hse rfl)) fun D σ H ⟨ρ, S, R, w, h⟩ => ?_
  refine ⟨ρ, S, R, w, ((isS (σ := σ)).bE h).mono fun v H1 ⟨d, ρ1, S1, R1, r1, t1, w1, h1⟩ => ⟨by simp, fun a ha => ⟨a, v, rfl, upd_same, fun b hb hne => ⟨rfl, ?_⟩⟩⟩⟩
  have hb1 : H1 b = none := by rw [upd_ne hne] at hb; exact hb
  refine ⟨b, [(f, v)], upd_same, by rw [upd_ne hne, upd_same], hb1, ?_⟩
  have e1 : upd (del (upd (upd (upd H1 a (exo a C none)) b (exd b [(f, v)])) a (exo a C (some b))) a) b (.xd [(f, v)]) = upd H1 b (.xd [(f, v)]) := by
    funext c
    by_cases c1 : c = b
    · subst c1; rw [upd_same, upd_same]
    · rw [upd_ne c1, upd_ne c1]
      by_cases c2 : c = a
      · subst c2; rw [del_same, ha]
      · rw [del_ne c2, upd_ne c2, upd_ne c1, upd_ne c2]
  rw [e1]
  have g := Grow.new (o := .xd [(f, v)]) w1.le hb1
  obtain ⟨w2, t2⟩ := g.wd w1
  exact h1 σ _ _ R1 C (some b) t2 w2 ⟨hC, hx, b, v, rfl, upd_same, r1.up g.s⟩
end
end PL

end
-- text HK
section
set_option linter.all false
set_option maxRecDepth 100000
set_option maxHeartbeats 4000000
namespace PL
open PySem PySem.Spec L2
/-- a head's Hook by a check of one's own -/
def sees (chk : PySem.W.Frag → Bool) (fn : List He.DefD) (K : PySem.W.Frag) : He.AlD := (chk K && fn.all fun d => d.ok K, fn.map fun d => He.fnW K d.at_)
def seesG (n : Nat) (chk : PySem.W.Frag → Bool) (fn : List He.DefD) (g : Addr → Option Obj) : He.AlD := sees chk fn (He.frG g (He.asD g n))
def hookP (n : Nat) (chk : PySem.W.Frag → Bool) (fn : List He.DefD) : PySem.W.Hook where
  α := He.AlD
  obs := fun s => seesG n chk fn s.heap.get?
  val := fun _ => He.valD fn
  says := fun _ h => ∃ K : PySem.W.Frag, K.In h ∧ sees chk fn K = He.valD fn
  of := fun _ _ e => ⟨_, He.frG_in, e⟩
  keeps := fun _ _ _ ⟨K, hK, c⟩ k => ⟨K, PySem.W.Frag.In.keeps hK k, c⟩
theorem seesG_eq {n : Nat} {chk : PySem.W.Frag → Bool} {fn : List He.DefD} {g : Addr → Option Obj} {s : Shared} (h : ∀ a, g a = s.heap.get? a) : seesG n chk fn g = (hookP n chk fn).obs s := by
  have e : g = s.heap.get? := funext h
  rw [e] <;> rfl
section
variable {chk : PySem.W.Frag → Bool} {fn : List He.DefD} {K : PySem.W.Frag}
theorem sees_chk (c : sees chk fn K = He.valD fn) : chk K = true := (Bool.and_eq_true_iff.mp (congrArg Prod.fst c)).1
theorem sees_def (c : sees chk fn K = He.valD fn) (i : Nat) {d : He.DefD} (h : fn[i]? = some d) : ∃ fd, L2.FunD K d.name d.qual d.params d.body d.scope (d.dvs K) (d.kws K) (He.fAd K d.at_) fd := by
  have c2 : (fn.all fun d => d.ok K) = true := (Bool.and_eq_true_iff.mp (congrArg Prod.fst c)).2
  have e2 : (fn.map fun d => He.fnW K d.at_)[i]? = (fn.map He.DefD.val)[i]? := congrArg (fun z : He.AlD => z.2[i]?) c
  rw [List.getElem?_map, List.getElem?_map, h] at e2
  exact He.DefD.funD (Option.some.inj e2) (List.all_eq_true.mp c2 d (List.mem_of_getElem? h))
end
end PL

end
-- text PL14
section
set_option linter.all false
set_option maxRecDepth 100000
set_option maxHeartbeats 4000000
namespace PL
open PySem PySem.Spec L2

/-! ### the context of a body, in one piece -/
/-- what is written of a def: its names, the module's names that it uses, its scope, how deep it may go, the parameters that are handed over -/
structure Df where
  N : List Str
  gl : List Str
  sc : Scope
  k : Nat
  io : List Nat
  us : List Nat
  blk : Bool
  bs : Scope
def visB (sc : Scope) (x : Str) : Bool := match sc.names.lookup x with
  | some .local => true
  | some .cell => true
  | some .free => true
  | _ => false
def locB (sc : Scope) (x : Str) : Bool := match sc.names.lookup x with
  | some .local => true
  | some .cell => true
  | _ => false
theorem visB_ok {sc : Scope} {x : Str} (h : visB sc x = true) : Vis sc x := by
  unfold visB at h
  split at h
  · exact .inl (by assumption)
  · exact .inr (.inl (by assumption))
  · exact .inr (.inr (by assumption))
  · cases h
theorem locB_ok {sc : Scope} {x : Str} (h : locB sc x = true) : Loc sc x := by
  unfold locB at h
  split at h
  · exact .inl (by assumption)
  · exact .inr (by assumption)
  · cases h
def okN (d : Df) : Bool := d.us.all fun i => match d.N[i]? with
  | some x => (visB d.sc x && (d.blk || locB d.sc x)) && (!(x == ("__debug__" : Str)) && !(x == ("__classdict__" : Str)))
  | none => false
def okG (sc : Scope) (gl : List Str) : Bool := gl.all fun x => decide (sc.names.lookup x = some .globalImplicit) && (!(x == ("__debug__" : Str)) && decide (x ≠ "__name__"))
/-- built-in names that no module binds -/
def bltns : List Str := ["len", "int", "max", "min", "repr", "isinstance", "range", "list", "tuple", "sum", "all", "any", "bool", "str", "dict", "zip", "enumerate"]
structure Cn (X : Cx) (p : Pm) (W : WX) (d : Df) : Prop where
  o : Ok0 X p
  n : X.N = d.N
  s : X.env.scope = d.sc
  r : Room d.k X.A
  t : Takes X W
  po : PassesOwn (model X.prog X.w) X.A X.env X.xe
  fn : X.fn = if d.blk then (fun x => d.bs.names.lookup x == some .cell) else fun _ => true
  st : d.blk = false → X.stack = X.env :: X.outer
  fr : d.blk = false → X.env.frame = some X.env.locals
  nk : okN d = true
  gk : okG d.sc d.gl = true
  kd : d.sc.kind = .function
  io : ∀ q ∈ p.io, d.io.contains q.1 = true
  mf : ∀ x ∈ bltns, X.mg x = none
  eP : X.prog = p.P
  eW : X.w = p.w
  eM : X.mg = p.mg
  eB : X.base = p.base
section
variable {X : Cx} {p : Pm} {W : WX} {d : Df} (c : Cn X p W d)
include c
theorem Cn.nameV {i : Nat} {x : Str} (h : d.N[i]? = some x) (hu : d.us.contains i = true) : visB d.sc x = true ∧ (d.blk || locB d.sc x) = true ∧ (x == ("__debug__" : Str)) = false ∧ (x == ("__classdict__" : Str)) = false := by
  have h1 := List.all_eq_true.mp c.nk i (by simpa using hu)
  rw [h] at h1
  simp only [Bool.and_eq_true, Bool.not_eq_true'] at h1
  exact ⟨h1.1.1, h1.1.2, h1.2.1, h1.2.2⟩
theorem Cn.nameK {i : Nat} {x : Str} (h : d.N[i]? = some x) (hu : d.us.contains i = true) : (x == ("__debug__" : Str)) = false ∧ (x == ("__classdict__" : Str)) = false := (c.nameV h hu).2.2
theorem Cn.vis {i : Nat} {x : Str} (h : d.N[i]? = some x) (hu : d.us.contains i = true) : Vis X.env.scope x := by
  rw [c.s]
  exact visB_ok (c.nameV h hu).1
theorem Cn.loc {i : Nat} {x : Str} (h : d.N[i]? = some x) (hu : d.us.contains i = true) (hb : d.blk = false) : Loc X.env.scope x := by
  have h1 := (c.nameV h hu).2.1
  rw [hb] at h1
  rw [c.s]
  exact locB_ok (by simpa using h1)
theorem Cn.fnT (hb : d.blk = false) (x : Str) : X.fn x = true := by rw [c.fn, hb]; rfl
theorem Cn.nx {i : Nat} {x : Str} (h : d.N[i]? = some x) : X.N[i]? = some x := by rw [c.n]; exact h
theorem Cn.gl {j : Nat} {x : Str} (h : d.gl[j]? = some x) : Gl X x ∧ (x == ("__debug__" : Str)) = false ∧ x ≠ "__name__" := by
  have h1 := List.all_eq_true.mp c.gk x (List.mem_of_getElem? h)
  simp only [Bool.and_eq_true, decide_eq_true_eq, Bool.not_eq_true'] at h1
  refine ⟨?_, h1.2.1, h1.2.2⟩
  show X.env.scope.names.lookup x = _
  rw [c.s]
  exact h1.1
theorem Cn.pin {i : Nat} (h : d.io.contains i = false) : ∀ q ∈ p.io, q.1 ≠ i := fun q hq z => by
  have := c.io q hq
  rw [z, h] at this
  cases this
/-! names -/
theorem Cn.v (i : Nat) {x : Str} {pos : Pos} (h : d.N[i]? = some x) (hu : d.us.contains i = true := by rfl) : PE X (.Name x pos) (tD p W (mVar i)) := de_var (c.nx h) (c.vis h hu) (c.nameK h hu).1 (c.nameK h hu).2
theorem Cn.vix (i : Nat) {x : Str} {b : Expr} {pos pos' : Pos} {fb : M D} (h : d.N[i]? = some x) (hb : PE X b (tD p W fb)) (hs : PlainIx b) (hu : d.us.contains i = true := by rfl) : PE X (.Subscript (.Name x pos) b pos') (tD p W (mOwnIx i fb)) :=
  de_ownIx c.o.K (c.nx h) (c.vis h hu) (c.nameK h hu).1 (c.nameK h hu).2 hb hs
theorem Cn.ix {a b : Expr} {pos : Pos} {fa fb : M D} (ha : PE X a (tD p W fa)) (hb : PE X b (tD p W fb)) (hs : PlainIx b) : PE X (.Subscript a b pos) (tD p W (fa.bnd fun x => fb.bnd fun y => lift (ixD x y))) := de_ix c.o.K ha hb hs
omit c in
theorem nobind : True := trivial
end
def mBin (op : Operator) (fa fb : M D) : M D := fa.bnd fun x => fb.bnd fun y => lift (binD op x y)
def mCmp (op : CmpOp) (fa fb : M D) : M D := fa.bnd fun x => fb.bnd fun y => lift (cmpD op x y)
def mIx (fa fb : M D) : M D := fa.bnd fun x => fb.bnd fun y => lift (ixD x y)
def mNeg (fa : M D) : M D := fa.bnd fun x => lift (negD x)
def mCB (g : List D → Option D) (fa : M (List D)) : M D := fa.bnd fun x => lift (g x)
def mCh (fa : M D) (ops : List CmpOp) (fs : List (M D)) : M D := fa.bnd fun x => mChain x ops fs
def asD (f : M O) : M D := f.bnd fun o => M.ret (fz o)
def asO (f : M D) : M O := f.bnd fun d => M.ret (.dat d)
section
variable {X : Cx} {p : Pm} {W : WX} {d : Df} (c : Cn X p W d)
theorem Cn.bin {a b : Expr} {op : Operator} {pos : Pos} {fa fb : M D} (c : Cn X p W d) (ha : PE X a (tD p W fa)) (hb : PE X b (tD p W fb)) : PE X (.BinOp a op b pos) (tD p W (mBin op fa fb)) := de_op (op_binD c.o op) ha hb
theorem Cn.cmp {a b : Expr} {op : CmpOp} {pos : Pos} {fa fb : M D} (c : Cn X p W d) (ha : PE X a (tD p W fa)) (hb : PE X b (tD p W fb)) (hm : behindInMarks op b = false) : PE X (.Compare a [op] [b] pos) (tD p W (mCmp op fa fb)) := de_cmp (op_cmpD c.o op) ha hb hm
theorem Cn.tcmp {a b : Expr} {op : CmpOp} {pos : Pos} {fa fb : M D} (c : Cn X p W d) (ha : PE X a (tD p W fa)) (hb : PE X b (tD p W fb)) (hm : behindInMarks op b = false) : PT X (.Compare a [op] [b] pos) (tDT p W (mTst (mCmp op fa fb))) := dt_cmp (op_cmpD c.o op) ha hb hm
theorem Cn.ixx {a b : Expr} {pos : Pos} {fa fb : M D} (c : Cn X p W d) (ha : PE X a (tD p W fa)) (hb : PE X b (tD p W fb)) (hs : PlainIx b) : PE X (.Subscript a b pos) (tD p W (mIx fa fb)) := de_ix c.o.K ha hb hs
theorem e_neg {a : Expr} {pos : Pos} {fa : M D} (ha : PE X a (tD p W fa)) : PE X (.UnaryOp .USub a pos) (tD p W (mNeg fa)) := de_un un_negD ha
theorem Cn.chain {a b c' : Expr} {op op' : CmpOp} {ops : List CmpOp} {es : List Expr} {pos : Pos} {fa fb fc : M D} {fs : List (M D)} (c : Cn X p W d) (ha : PE X a (tD p W fa)) (hb : PE X b (tD p W fb)) (hc : PE X c' (tD p W fc)) (hs : EsD X p W es fs)
    (hm : lastMarks (op :: op' :: ops) (b :: c' :: es) = false) : PE X (.Compare a (op :: op' :: ops) (b :: c' :: es) pos) (tD p W (mCh fa (op :: op' :: ops) (fb :: fc :: fs))) := de_chain c.o ha hb hc hs hm
/-! a chain as a test -/
theorem chainT (o : Ok0 X p) {pins : List (Addr × Obj)} {σ : L2.St} {pos : Pos} : ∀ {ops : List CmpOp} {es : List Expr} {fs : List (M D)} {s : Shared} {H : Hp} {S : Hp} {ρ : Rho} {R : List Addr} {Q : Bool → Hp → Prop} {x : V} {v : Value} {d : D}, EsD X p W es fs → L2.Inv X pins σ H s → RelV x v → Wd p S H σ ρ R → Rep p.K p.cl S x d →
    PoT p W σ S H R Q ((mChain d ops fs ρ).bnd fun z => lift (truD z)) → wpAny (model X.prog X.w) X.A (testChain pos v ops (evalEach es X.env)) (TP X pins σ Q) X.xe s
  | [], _, _, _, _, _, _, _, _, _, _, _, h, I, rx, w, r, q => by cases h <;> exact q.elim
  | _ :: _, [], _, _, _, _, _, _, _, _, _, _, h, I, rx, w, r, q => by cases h; cases ‹List CmpOp› <;> exact q.elim
  | [op], [e], _, s, H, S, ρ, R, Q, x, v, d, .cons (f := f) he .nil, I, rx, w, r, q => by
    have q0 : PoT p W σ S H R Q ((f ρ).bnd fun b => (lift (cmpD op d b)).bnd fun z => lift (truD z)) := by
      revert q
      show PoT p W σ S H R Q (((f ρ).bnd fun b => lift (cmpD op d b)).bnd fun z => lift (truD z)) → _
      cases f ρ <;> exact fun z => z
    refine PyProof.Rows.test_last (thn (he.run pins s σ H _ I ⟨ρ, S, R, w, isT.bE q0⟩) fun u s1 ⟨y, H1, I1, r1, d1, ρ1, S1, R1, rp, t1, w1, q1⟩ => ?_)
    cases e3 : cmpD op d d1 with
    | none => rw [e3] at q1; exact q1.elim
    | some cc =>
      rw [e3] at q1
      refine thn (op_cmpD o op pins s1 σ H1 x y v u (fun z H2 => ∃ S2, Grow S1 H1 S2 H2 ∧ Rep p.K p.cl S2 z cc) I1 rx r1 ⟨S1, d, d1, w1.le, r.up t1.s, rp, by rw [e3]; exact fun S' H' z g rz => ⟨S', g, rz⟩⟩) fun cv s2 ⟨z, H2, I2, rz, S2, g, rc⟩ => ?_
      obtain ⟨w2, t2⟩ := g.wd w1
      replace q1 : PoT p W σ S1 H1 R1 Q (lift (truD cc) ρ1) := q1
      cases e4 : truD cc with
      | none => rw [e4] at q1; exact q1.elim
      | some b =>
        rw [e4] at q1
        exact tru_ok pins s2 σ H2 z cv Q I2 rz ⟨b, tru_of o.K w2.le rc e4, q1 S2 H2 R1 t2 w2⟩
  | [op], e :: e' :: es, _, s, H, S, ρ, R, Q, x, v, d, .cons he (.cons _ _), I, rx, w, r, q => by exact q.elim
  | op :: op' :: ops, [e], _, s, H, S, ρ, R, Q, x, v, d, .cons he .nil, I, rx, w, r, q => by exact q.elim
  | op :: op' :: ops, e :: e' :: es, _, s, H, S, ρ, R, Q, x, v, d, .cons (f := f) he (.cons (f := f') (fs := fs) he' hr), I, rx, w, r, q => by
    have q0 : PoT p W σ S H R Q ((f ρ).bnd fun b => (lift (cmpD op d b)).bnd fun cc => (lift (truD cc)).bnd fun t => if t then (mChain b (op' :: ops) (f' :: fs)).bnd (fun z => lift (truD z)) else M.ret false) := by
      revert q
      show PoT p W σ S H R Q (((f ρ).bnd fun b => (lift (cmpD op d b)).bnd fun cc => (lift (truD cc)).bnd fun t => if t then mChain b (op' :: ops) (f' :: fs) else M.ret cc).bnd fun z => lift (truD z)) → _
      cases f ρ with
      | bad => exact fun z => z
      | ex _ _ => exact fun z => z
      | ok b ρ1 =>
        show PoT p W σ S H R Q ((((lift (cmpD op d b)).bnd fun cc => (lift (truD cc)).bnd fun t => if t then mChain b (op' :: ops) (f' :: fs) else M.ret cc) ρ1).bnd fun z => lift (truD z)) → PoT p W σ S H R Q (((lift (cmpD op d b)).bnd fun cc => (lift (truD cc)).bnd fun t => if t then (mChain b (op' :: ops) (f' :: fs)).bnd (fun z => lift (truD z)) else M.ret false) ρ1)
        cases cmpD op d b with
        | none => exact fun z => z
        | some cc =>
          show PoT p W σ S H R Q ((((lift (truD cc)).bnd fun t => if t then mChain b (op' :: ops) (f' :: fs) else M.ret cc) ρ1).bnd fun z => lift (truD z)) → PoT p W σ S H R Q (((lift (truD cc)).bnd fun t => if t then (mChain b (op' :: ops) (f' :: fs)).bnd (fun z => lift (truD z)) else M.ret false) ρ1)
          cases e4 : truD cc with
          | none => exact fun z => z
          | some t =>
            cases t with
            | true => exact fun z => z
            | false =>
              show PoT p W σ S H R Q (lift (truD cc) ρ1) → _
              rw [e4]
              exact fun z => z
    refine PyProof.Rows.test_link (thn (he.run pins s σ H _ I ⟨ρ, S, R, w, isT.bE q0⟩) fun u s1 ⟨y, H1, I1, r1, d1, ρ1, S1, R1, rp, t1, w1, q1⟩ => ?_)
    cases e3 : cmpD op d d1 with
    | none => rw [e3] at q1; exact q1.elim
    | some cc =>
      rw [e3] at q1
      refine thn (op_cmpD o op pins s1 σ H1 x y v u (fun z H2 => ∃ S2, Grow S1 H1 S2 H2 ∧ Rep p.K p.cl S2 z cc) I1 rx r1 ⟨S1, d, d1, w1.le, r.up t1.s, rp, by rw [e3]; exact fun S' H' z g rz => ⟨S', g, rz⟩⟩) fun cv s2 ⟨z, H2, I2, rz, S2, g, rc⟩ => ?_
      obtain ⟨w2, t2⟩ := g.wd w1
      replace q1 : PoT p W σ S1 H1 R1 Q (((lift (truD cc)).bnd fun t => if t then (mChain d1 (op' :: ops) (f' :: fs)).bnd (fun z => lift (truD z)) else M.ret false) ρ1) := q1
      replace q1 := q1.up t2
      cases e4 : truD cc with
      | none => rw [e4] at q1; exact q1.elim
      | some b =>
        rw [e4] at q1
        refine thn (tru_ok pins s2 σ H2 z cv (fun k H3 => k = b ∧ H3 = H2) I2 rz ⟨b, tru_of o.K w2.le rc e4, rfl, rfl⟩) fun k s3 ⟨H3, I3, e5, e6⟩ => ?_
        subst e5 e6
        cases k with
        | true => exact chainT o (.cons he' hr) I3 r1 w2 (rp.up g.s) q1
        | false => exact ⟨H3, I3, q1 S2 H3 R1 Stp.refl w2⟩
theorem Cn.tchain {a b c' : Expr} {op op' : CmpOp} {ops : List CmpOp} {es : List Expr} {pos : Pos} {fa fb fc : M D} {fs : List (M D)} (c : Cn X p W d) (ha : PE X a (tD p W fa)) (hb : PE X b (tD p W fb)) (hc : PE X c' (tD p W fc)) (hs : EsD X p W es fs)
    (hm : lastMarks (op :: op' :: ops) (b :: c' :: es) = false) : PT X (.Compare a (op :: op' :: ops) (b :: c' :: es) pos) (tDT p W (mTru (mCh fa (op :: op' :: ops) (fb :: fc :: fs)))) := by
  refine ⟨fun pins s σ H Q I h => ?_⟩
  obtain ⟨ρ, S, R, w, h⟩ := h
  have q0 : PoT p W σ S H R Q ((fa ρ).bnd fun x => (mChain x (op :: op' :: ops) (fb :: fc :: fs)).bnd fun z => lift (truD z)) := by
    revert h
    show PoT p W σ S H R Q (((fa ρ).bnd fun x => mChain x (op :: op' :: ops) (fb :: fc :: fs)).bnd fun z => lift (truD z)) → _
    cases fa ρ <;> exact fun z => z
  refine PyProof.Rows.isTrue_chain (thn (ha.run pins s σ H _ I ⟨ρ, S, R, w, isT.bE q0⟩) fun v s1 ⟨x, H1, I1, r1, d1, ρ1, S1, R1, rp, t1, w1, q1⟩ => ?_) hm
  exact chainT c.o (.cons hb (.cons hc hs)) I1 r1 w1 rp q1
/-! truth of other expressions -/
theorem Cn.tru {a : Expr} {f : M D} (c : Cn X p W d) (ha : PE X a (tD p W f)) (he : ∀ whole, isTrue a X.env whole = (do let v ← whole; standAt a.pos; holding [v] (truthy v))) : PT X a (tDT p W (mTru f)) := dt_truth c.o.K ha he
theorem Cn.and {a b : Expr} {rest : List Expr} {pos : Pos} {f g : M D} (c : Cn X p W d) (ha : PE X a (tD p W f)) (hb : PE X (.BoolOp .And (b :: rest) pos) (tD p W g)) : PE X (.BoolOp .And (a :: b :: rest) pos) (tD p W (mAndV f g)) := de_and c.o.K ha hb
theorem Cn.or {a b : Expr} {rest : List Expr} {pos : Pos} {f g : M D} (c : Cn X p W d) (ha : PE X a (tD p W f)) (hb : PE X (.BoolOp .Or (b :: rest) pos) (tD p W g)) : PE X (.BoolOp .Or (a :: b :: rest) pos) (tD p W (mOrV f g)) := de_or c.o.K ha hb
theorem Cn.not {a : Expr} {pos : Pos} {f : M D} (c : Cn X p W d) (ha : PE X a (tD p W f)) : PE X (.UnaryOp .Not a pos) (tD p W (mNotV f)) := de_not c.o.K ha
/-! calls -/
theorem Cn.callB {g : List D → Option D} {fa : M (List D)} {e : Expr} {es : List Expr} {x : Str} {id : String} {q pos : Pos} (c : Cn X p W d) (hc : CallR X (.builtin id) (rDs p g)) (j : Nat) (hj : d.gl[j]? = some x) (hm : x ∈ bltns) (hv : bootBuiltins x = some (.builtin id)) (ha : PA X (e :: es) (tDA p W fa))
    (he : starEach (e :: es) X.env = (false, eval e X.env) :: starEach es X.env := by rfl) (hpl : (backTo pos (starEach es X.env)).any (·.1) = false := by rfl) : PE X (.Call (.Name x q) (e :: es) [] pos) (tD p W (mCB g fa)) :=
  PE.imp (pe_callB hc (c.gl hj).1 (c.mf x hm) hv ha (c.gl hj).2.2 (c.gl hj).2.1 he hpl) fun _ _ _ h => tCB_imp h
theorem Cn.callT {g : List D → Option D} {fa : M (List D)} {e : Expr} {es : List Expr} {x : Str} {id : String} {q pos : Pos} (c : Cn X p W d) (hc : CallR X (.type id) (rDs p g)) (j : Nat) (hj : d.gl[j]? = some x) (hm : x ∈ bltns) (hv : bootBuiltins x = some (.type id)) (ha : PA X (e :: es) (tDA p W fa))
    (he : starEach (e :: es) X.env = (false, eval e X.env) :: starEach es X.env := by rfl) (hpl : (backTo pos (starEach es X.env)).any (·.1) = false := by rfl) : PE X (.Call (.Name x q) (e :: es) [] pos) (tD p W (mCB g fa)) :=
  PE.imp (pe_callTy hc (c.gl hj).1 (c.mf x hm) hv ha (c.gl hj).2.2 (c.gl hj).2.1 he hpl) fun _ _ _ h => tCB_imp h
theorem Cn.ty {x : Str} {n : String} {pos : Pos} (c : Cn X p W d) (j : Nat) (hj : d.gl[j]? = some x) (hm : x ∈ bltns) (hv : bootBuiltins x = some (.type n)) : PE X (.Name x pos) (tD p W (M.ret (.ty n))) := de_ty (c.gl hj).1 (c.mf x hm) hv (c.gl hj).2.2 (c.gl hj).2.1
theorem mem_len : ("len" : Str) ∈ bltns := by decide +kernel
theorem mem_int : ("int" : Str) ∈ bltns := by decide +kernel
theorem mem_max : ("max" : Str) ∈ bltns := by decide +kernel
theorem mem_min : ("min" : Str) ∈ bltns := by decide +kernel
theorem mem_repr : ("repr" : Str) ∈ bltns := by decide +kernel
theorem mem_isi : ("isinstance" : Str) ∈ bltns := by decide +kernel
theorem mem_range : ("range" : Str) ∈ bltns := by decide +kernel
theorem mem_list : ("list" : Str) ∈ bltns := by decide +kernel
theorem mem_tuple : ("tuple" : Str) ∈ bltns := by decide +kernel
theorem mem_sum : ("sum" : Str) ∈ bltns := by decide +kernel
theorem mem_all : ("all" : Str) ∈ bltns := by decide +kernel
theorem mem_any : ("any" : Str) ∈ bltns := by decide +kernel
theorem mem_bool : ("bool" : Str) ∈ bltns := by decide +kernel
theorem mem_str : ("str" : Str) ∈ bltns := by decide +kernel
theorem mem_dict : ("dict" : Str) ∈ bltns := by decide +kernel
theorem mem_zip : ("zip" : Str) ∈ bltns := by decide +kernel
theorem mem_enum : ("enumerate" : Str) ∈ bltns := by decide +kernel
theorem bb_len : bootBuiltins "len" = some (.builtin "len") := by decide +kernel
theorem bb_int : bootBuiltins "int" = some (.type "int") := by decide +kernel
theorem bb_max : bootBuiltins "max" = some (.builtin "max") := by decide +kernel
theorem bb_min : bootBuiltins "min" = some (.builtin "min") := by decide +kernel
theorem bb_repr : bootBuiltins "repr" = some (.builtin "repr") := by decide +kernel
theorem bb_isi : bootBuiltins "isinstance" = some (.builtin "isinstance") := by decide +kernel
theorem bb_list : bootBuiltins "list" = some (.type "list") := by decide +kernel
theorem bb_tuple : bootBuiltins "tuple" = some (.type "tuple") := by decide +kernel
theorem bb_sum : bootBuiltins "sum" = some (.builtin "sum") := by decide +kernel
theorem bb_all : bootBuiltins "all" = some (.builtin "all") := by decide +kernel
theorem bb_any : bootBuiltins "any" = some (.builtin "any") := by decide +kernel
theorem bb_bool : bootBuiltins "bool" = some (.type "bool") := by decide +kernel
theorem bb_str : bootBuiltins "str" = some (.type "str") := by decide +kernel
theorem bb_dict : bootBuiltins "dict" = some (.type "dict") := by decide +kernel
section
variable {fa : M (List D)} {e : Expr} {es : List Expr} {q pos : Pos}
theorem Cn.len (c : Cn X p W d) (j : Nat) (hj : d.gl[j]? = some ("len" : Str)) (ha : PA X (e :: es) (tDA p W fa)) (he : starEach (e :: es) X.env = (false, eval e X.env) :: starEach es X.env := by rfl) (hpl : (backTo pos (starEach es X.env)).any (·.1) = false := by rfl) :
    PE X (.Call (.Name "len" q) (e :: es) [] pos) (tD p W (mCB lenD fa)) := c.callB (call_lenDD c.o.K) j hj mem_len bb_len ha he hpl
theorem Cn.int (c : Cn X p W d) (j : Nat) (hj : d.gl[j]? = some ("int" : Str)) (ha : PA X (e :: es) (tDA p W fa)) (he : starEach (e :: es) X.env = (false, eval e X.env) :: starEach es X.env := by rfl) (hpl : (backTo pos (starEach es X.env)).any (·.1) = false := by rfl) :
    PE X (.Call (.Name "int" q) (e :: es) [] pos) (tD p W (mCB intD fa)) := c.callT call_intD j hj mem_int bb_int ha he hpl
theorem Cn.max (c : Cn X p W d) (j : Nat) (hj : d.gl[j]? = some ("max" : Str)) (ha : PA X (e :: es) (tDA p W fa)) (he : starEach (e :: es) X.env = (false, eval e X.env) :: starEach es X.env := by rfl) (hpl : (backTo pos (starEach es X.env)).any (·.1) = false := by rfl) :
    PE X (.Call (.Name "max" q) (e :: es) [] pos) (tD p W (mCB maxD fa)) := c.callB (call_maxD c.o.c) j hj mem_max bb_max ha he hpl
theorem Cn.min (c : Cn X p W d) (j : Nat) (hj : d.gl[j]? = some ("min" : Str)) (ha : PA X (e :: es) (tDA p W fa)) (he : starEach (e :: es) X.env = (false, eval e X.env) :: starEach es X.env := by rfl) (hpl : (backTo pos (starEach es X.env)).any (·.1) = false := by rfl) :
    PE X (.Call (.Name "min" q) (e :: es) [] pos) (tD p W (mCB minD fa)) := c.callB (call_minD c.o.c) j hj mem_min bb_min ha he hpl
theorem Cn.repr (c : Cn X p W d) (j : Nat) (hj : d.gl[j]? = some ("repr" : Str)) (ha : PA X (e :: es) (tDA p W fa)) (he : starEach (e :: es) X.env = (false, eval e X.env) :: starEach es X.env := by rfl) (hpl : (backTo pos (starEach es X.env)).any (·.1) = false := by rfl) :
    PE X (.Call (.Name "repr" q) (e :: es) [] pos) (tD p W (mCB repr1 fa)) := c.callB (call_reprD c.o.K c.o.M c.o.g c.o.u) j hj mem_repr bb_repr ha he hpl
theorem Cn.isinstance (c : Cn X p W d) (j : Nat) (hj : d.gl[j]? = some ("isinstance" : Str)) (ha : PA X (e :: es) (tDA p W fa)) (he : starEach (e :: es) X.env = (false, eval e X.env) :: starEach es X.env := by rfl) (hpl : (backTo pos (starEach es X.env)).any (·.1) = false := by rfl) :
    PE X (.Call (.Name "isinstance" q) (e :: es) [] pos) (tD p W (mCB isiD fa)) := c.callB (call_isiD c.o.K) j hj mem_isi bb_isi ha he hpl
theorem Cn.all (c : Cn X p W d) (j : Nat) (hj : d.gl[j]? = some ("all" : Str)) (ha : PA X (e :: es) (tDA p W fa)) (he : starEach (e :: es) X.env = (false, eval e X.env) :: starEach es X.env := by rfl) (hpl : (backTo pos (starEach es X.env)).any (·.1) = false := by rfl) :
    PE X (.Call (.Name "all" q) (e :: es) [] pos) (tD p W (mCB allD fa)) := c.callB (call_allD c.o.K c.o.c) j hj mem_all bb_all ha he hpl
theorem Cn.any (c : Cn X p W d) (j : Nat) (hj : d.gl[j]? = some ("any" : Str)) (ha : PA X (e :: es) (tDA p W fa)) (he : starEach (e :: es) X.env = (false, eval e X.env) :: starEach es X.env := by rfl) (hpl : (backTo pos (starEach es X.env)).any (·.1) = false := by rfl) :
    PE X (.Call (.Name "any" q) (e :: es) [] pos) (tD p W (mCB anyD fa)) := c.callB (call_anyD c.o.K c.o.c) j hj mem_any bb_any ha he hpl
theorem Cn.sum (c : Cn X p W d) (j : Nat) (hj : d.gl[j]? = some ("sum" : Str)) (ha : PA X (e :: es) (tDA p W fa)) (he : starEach (e :: es) X.env = (false, eval e X.env) :: starEach es X.env := by rfl) (hpl : (backTo pos (starEach es X.env)).any (·.1) = false := by rfl) :
    PE X (.Call (.Name "sum" q) (e :: es) [] pos) (tD p W (mCB sumD fa)) := c.callB (call_sumD c.o.K c.o.c) j hj mem_sum bb_sum ha he hpl
theorem Cn.list (c : Cn X p W d) (j : Nat) (hj : d.gl[j]? = some ("list" : Str)) (ha : PA X (e :: es) (tDA p W fa)) (he : starEach (e :: es) X.env = (false, eval e X.env) :: starEach es X.env := by rfl) (hpl : (backTo pos (starEach es X.env)).any (·.1) = false := by rfl) :
    PE X (.Call (.Name "list" q) (e :: es) [] pos) (tD p W (mCB listD fa)) := c.callT (call_listD c.o.K) j hj mem_list bb_list ha he hpl
theorem Cn.tuple (c : Cn X p W d) (j : Nat) (hj : d.gl[j]? = some ("tuple" : Str)) (ha : PA X (e :: es) (tDA p W fa)) (he : starEach (e :: es) X.env = (false, eval e X.env) :: starEach es X.env := by rfl) (hpl : (backTo pos (starEach es X.env)).any (·.1) = false := by rfl) :
    PE X (.Call (.Name "tuple" q) (e :: es) [] pos) (tD p W (mCB tupD fa)) := c.callT (call_tupD c.o.K) j hj mem_tuple bb_tuple ha he hpl
end
/-! defs -/
theorem Cn.call {k : Nat} {t : Ent} {e : Expr} {es : List Expr} {fa : M (List Ar)} {q pos : Pos} (c : Cn X p W d) (ok : EntOk p.P p.w p.K p.cl p.mg p.base k t) (hk : k ≤ d.k) (j : Nat) (hj : d.gl[j]? = some t.name) (ha : PA X (e :: es) (tDX p W fa))
    (he : starEach (e :: es) X.env = (false, eval e X.env) :: starEach es X.env := by rfl) (hpl : (backTo pos (starEach es X.env)).any (·.1) = false := by rfl) : PE X (.Call (.Name t.name q) (e :: es) [] pos) (tDO p W (mCall t fa)) :=
  do_call (EntOk.mono (by rw [c.eP, c.eW, c.eM, c.eB]; exact ok) hk) c.o.K c.r c.o.g c.t (c.gl hj).1 ha (c.gl hj).2.1 he hpl
theorem a_cons {e : Expr} {es : List Expr} {f : M D} {g : M (List D)} (ha : PE X e (tD p W f)) (hr : PA X es (tDA p W g)) (hs : starEach (e :: es) X.env = (false, eval e X.env) :: starEach es X.env := by rfl) : PA X (e :: es) (tDA p W (mCons f g)) := da_cons ha hr hs
theorem x_cons {e : Expr} {es : List Expr} {f : M D} {g : M (List Ar)} (ha : PE X e (tD p W f)) (hr : PA X es (tDX p W g)) (hs : starEach (e :: es) X.env = (false, eval e X.env) :: starEach es X.env := by rfl) : PA X (e :: es) (tDX p W (xCons f g)) := dx_cons ha hr hs
theorem Cn.slot {x : Str} {pos : Pos} {es : List Expr} {g : M (List Ar)} (c : Cn X p W d) (i : Nat) (h : d.N[i]? = some x) (hr : PA X es (tDX p W g)) (hs : starEach (.Name x pos :: es) X.env = (false, eval (.Name x pos) X.env) :: starEach es X.env := by rfl) (hu : d.us.contains i = true := by rfl) : PA X (.Name x pos :: es) (tDX p W (xSlot i g)) :=
  dx_slot (c.nx h) (c.vis h hu) (c.nameK h hu).1 (c.nameK h hu).2 hr hs
/-! statements -/
theorem Cn.set {x : Str} {e : Expr} {pos pos' : Pos} {f : M O} (c : Cn X p W d) (i : Nat) (h : d.N[i]? = some x) (hi : d.io.contains i = false) (he : PE X e (tDO p W f)) (hs : swapsWith e (some (.Name x pos')) pos.line X.env = pure false := by rfl) (hu : d.us.contains i = true := by rfl) (hb : d.blk = false := by rfl) : PS X (.Assign [.Name x pos'] e pos) (tDS p W (mSet i f)) :=
  ds_set c.o (c.nx h) (c.loc h hu hb) (c.pin hi) he hs (.inl (c.fnT hb x))
theorem Cn.ex {e : Expr} {pos : Pos} {f : M O} (c : Cn X p W d) (he : PE X e (tDO p W f)) (hs : swapsWith e none pos.line X.env = pure false := by rfl) : PS X (.Expr e pos) (tDS p W (mEx f)) := ds_expr he hs
theorem Cn.gname {x : Str} {pos : Pos} (c : Cn X p W d) (i : Nat) (h : d.N[i]? = some x) (hi : d.io.contains i = false) (hu : d.us.contains i = true := by rfl) (hb : d.blk = false := by rfl) : PG X (.Name x pos) (tDG p [i] (gSet i)) := dg_name c.o (c.nx h) (c.loc h hu hb) (c.pin hi) (.inl (c.fnT hb x))
theorem Cn.for {tg iter : Expr} {body : List Stmt} {pos : Pos} {fi : M (List D)} {ts : List Nat} {gt : Tgt} {fb : M Fl} (c : Cn X p W d) (hi : PI X tg iter (tDI p W fi)) (hg : PG X tg (tDG p ts gt)) (hb : PSs X body (tDS p W fb)) (hs : ∀ x, foldedSetIterable iter X.env x = pure x := by intro _; rfl) :
    PS X (.For tg iter body [] pos) (tDS p W (mFor fi gt fb)) := ds_for c.o c.po hi hg hb hs
theorem Cn.seq {tg e : Expr} {f : M D} (c : Cn X p W d) (he : PE X e (tD p W f)) : PI X tg e (tDI p W (mItems f)) := di_seq c.o.K he
theorem Cn.rng1 {tg a : Expr} {f : M (List D)} {q pos : Pos} (c : Cn X p W d) (j : Nat) (hj : d.gl[j]? = some ("range" : Str)) (ha : PA X [a] (tDA p W f)) (hs : starEach [a] X.env = [(false, eval a X.env)] := by rfl) : PI X tg (.Call (.Name "range" q) [a] [] pos) (tDI p W (mRng1 f)) :=
  di_range1 (c.gl hj).1 (c.mf _ mem_range) ha hs
theorem Cn.rng2 {tg a b : Expr} {f : M (List D)} {q pos : Pos} (c : Cn X p W d) (j : Nat) (hj : d.gl[j]? = some ("range" : Str)) (ha : PA X [a, b] (tDA p W f)) (hs : starEach [a, b] X.env = [(false, eval a X.env), (false, eval b X.env)] := by rfl) (hs2 : starEach [b] X.env = [(false, eval b X.env)] := by rfl) :
    PI X tg (.Call (.Name "range" q) [a, b] [] pos) (tDI p W (mRng2 f)) := di_range2 (c.gl hj).1 (c.mf _ mem_range) ha hs hs2
theorem Cn.raise {k : Nat} {x f : Str} {e : Expr} {q1 q2 q3 : Pos} {fe : M D} (c : Cn X p W d) (xm : XmOk p.P p.w p.K p.cl p.mg p.base k x f) (hk : k + 1 ≤ d.k) (j : Nat) (hj : d.gl[j]? = some x) (he : PE X e (tD p W fe)) (hse : starEach [e] X.env = (false, eval e X.env) :: starEach [] X.env := by rfl) :
    PS X (.Raise (some (.Call (.Name x q1) [e] [] q2)) none q3) (tDS p W (mRaise x f fe)) := ds_raise c.o (by rw [c.eP, c.eW, c.eM, c.eB]; exact xm) (c.r.mono hk) c.t (c.gl hj).1 he (c.gl hj).2.1 hse
end
end PL

end
-- text PL15
section
set_option linter.all false
set_option maxRecDepth 100000
set_option maxHeartbeats 4000000
namespace PL
open PySem PySem.Spec PyProof.Rows L2

/-! ### the head's check: what the module's names reach, the two tables of the machine -/
def seesR (n : Nat) (chk : PySem.W.Frag → Bool) (fn : List He.DefD) (g : Addr → Option Obj) : He.AlD := sees chk fn (He.frG g (He.asD g n ++ [cStatics, sysModules]))
def hookR (n : Nat) (chk : PySem.W.Frag → Bool) (fn : List He.DefD) : PySem.W.Hook where
  α := He.AlD
  obs := fun s => seesR n chk fn s.heap.get?
  val := fun _ => He.valD fn
  says := fun _ h => ∃ K : PySem.W.Frag, K.In h ∧ sees chk fn K = He.valD fn
  of := fun _ _ e => ⟨_, He.frG_in, e⟩
  keeps := fun _ _ _ ⟨K, hK, c⟩ k => ⟨K, PySem.W.Frag.In.keeps hK k, c⟩
theorem seesR_eq {n : Nat} {chk : PySem.W.Frag → Bool} {fn : List He.DefD} {g : Addr → Option Obj} {s : Shared} (h : ∀ a, g a = s.heap.get? a) : seesR n chk fn g = (hookR n chk fn).obs s := by
  have e : g = s.heap.get? := funext h
  rw [e] <;> rfl
def msB (K : PySem.W.Frag) : Bool := PySem.W.nsOkIn K sysModules
theorem ms_ok {K : PySem.W.Frag} {base : Heap} (h : msB K = true) (k : K.In base) : Ms base := ⟨_, .of_isNs (PySem.W.isNs_of_in k h)⟩
def freeB (K : PySem.W.Frag) : Bool := bltns.all fun x => He.eqO (PySem.W.nsIn K mainGlobals x) (some none)
theorem free_all {K : PySem.W.Frag} {h : Heap} {mg : Str → Option Value} (X : K.In h) (G : h.Ns mainGlobals mg) (c : freeB K = true) : ∀ x ∈ bltns, mg x = none := fun x hx => PySem.W.mg_none_of X G (He.eqO_ok (List.all_eq_true.mp c x hx))

/-! ### the program's exceptions -/
def clOf (K : PySem.W.Frag) (xs : List Str) (x : Str) : Option Addr := if xs.contains x then some (He.ga K x) else none
def oexB (K : PySem.W.Frag) (C : Addr) : Bool := (match K.lookup C with
  | some ⟨.type t, _, .cls cd, sl⟩ => (match cd.mro, sl.toList with
    | .ref C' :: bm, [_, _, _, _, some (.builtin n), _] => decide (t = "type") && (decide (C' = C) && (decide (n = "ValueError.__new__") && (!cd.hasDel && (cd.hasDict && PySem.HandSPX.refsVE bm))))
    | _, _ => false)
  | _ => false) && (He.eqO (PySem.W.findIn K (.ref C) "__setattr__") (some (some (.builtin "object.__setattr__"))) && (decide (PySem.W.subIn K (.ref C) (.type "BaseException") = some true) && (decide (PySem.W.typeIn K (.ref C) = some (.type "type")) && PySem.W.keepIn K (.ref C))))
theorem oexB_ok {K : PySem.W.Frag} {C : Addr} (h : oexB K C = true) : OexC K C := by
  unfold oexB at h
  simp only [Bool.and_eq_true, decide_eq_true_eq] at h
  obtain ⟨h0, h1, h2, h3, h4⟩ := h
  refine ⟨?_, He.eqO_ok h1, h2, h3, h4⟩
  split at h0
  · rename_i t dd cd sl ho
    split at h0
    · rename_i C' bm k0 k1 k2 k3 n k5 hm hs
      simp only [Bool.and_eq_true, decide_eq_true_eq, Bool.not_eq_true'] at h0
      obtain ⟨rfl, rfl, rfl, hdel, hhd, hr⟩ := h0
      obtain ⟨nm, bs, mro, ns, qn, hd, sn, sub, ab, col, del⟩ := cd
      dsimp only at hm hdel hhd
      subst hm hdel hhd
      have hsl : sl = #[k0, k1, k2, k3, some (.builtin "ValueError.__new__"), k5] := by
        obtain ⟨l⟩ := sl
        simp only at hs
        rw [hs]
      subst hsl
      exact ⟨nm, qn, ns, bs, bm, sn, sub, ab, col, dd, k0, k1, k2, k3, k5, ho, hr⟩
    · cases h0
  · cases h0
/-- an exception among the classes -/
def xIn (xs : List Str) (x : Str) : Bool := xs.contains x && isXc x
theorem xIn_mem {xs : List Str} {x : Str} (h : xIn xs x = true) : x ∈ xs := by
  unfold xIn at h
  rw [Bool.and_eq_true] at h
  simpa using h.1
theorem xIn_x {xs : List Str} {x : Str} (h : xIn xs x = true) : isXc x = true := by
  unfold xIn at h
  rw [Bool.and_eq_true] at h
  exact h.2
theorem xIn_of {xs : List Str} {x : Str} (h : x ∈ xs) (k : isXc x = true) : xIn xs x = true := by
  unfold xIn
  rw [k]
  simpa using h
/-- all that try and raise ask of the classes xs -/
def xcB (K : PySem.W.Frag) (xs : List Str) : Bool := xs.all fun x => He.eqO (PySem.W.nsIn K mainGlobals x) (some (some (.ref (He.ga K x)))) && (!isXc x || (xfB K (He.ga K x) && (oexB K (He.ga K x) &&
  (He.eqO (PySem.W.findIn K (.ref (He.ga K x)) "value") (some none) && (He.eqO (PySem.W.findIn K (.ref (He.ga K x)) "bar") (some none) && (He.eqO (PySem.W.findIn K (.ref (He.ga K x)) "name") (some none) &&
    xs.all fun y => !isXc y || decide (PySem.W.exmOne K (.ref (He.ga K x)) (.ref (He.ga K y)) = some (exmD x y))))))))
theorem clOf_mem {K : PySem.W.Frag} {xs : List Str} {x : Str} {C : Addr} (h : clOf K xs x = some C) : x ∈ xs ∧ C = He.ga K x := by
  unfold clOf at h
  split at h
  · rename_i hx
    cases h
    exact ⟨by simpa using hx, rfl⟩
  · cases h
theorem cl_of {K : PySem.W.Frag} {xs : List Str} {x : Str} (h : x ∈ xs) : clOf K xs x = some (He.ga K x) := by
  unfold clOf
  rw [if_pos (by simpa using h)]
structure Xs (K : PySem.W.Frag) (mg : Str → Option Value) (xs : List Str) : Prop where
  k : XcK K (clOf K xs)
  g : ∀ x ∈ xs, mg x = some (.ref (He.ga K x))
  o : ∀ x, xIn xs x = true → OexC K (He.ga K x)
  n : ∀ x, xIn xs x = true → ∀ f, fldN f = true → PySem.W.findIn K (.ref (He.ga K x)) f = some none
theorem xcB_ok {K : PySem.W.Frag} {h : Heap} {mg : Str → Option Value} {xs : List Str} (X : K.In h) (G : h.Ns mainGlobals mg) (c : xcB K xs = true) : Xs K mg xs := by
  have all := fun x hx => List.all_eq_true.mp c x hx
  simp only [Bool.and_eq_true, decide_eq_true_eq] at all
  have allX : ∀ x ∈ xs, isXc x = true → xfB K (He.ga K x) = true ∧ oexB K (He.ga K x) = true ∧ He.eqO (PySem.W.findIn K (.ref (He.ga K x)) "value") (some none) = true ∧ He.eqO (PySem.W.findIn K (.ref (He.ga K x)) "bar") (some none) = true ∧ He.eqO (PySem.W.findIn K (.ref (He.ga K x)) "name") (some none) = true ∧
      (xs.all fun y => !isXc y || decide (PySem.W.exmOne K (.ref (He.ga K x)) (.ref (He.ga K y)) = some (exmD x y))) = true := fun x hx ix => by
    have h2 := (all x hx).2
    rw [ix] at h2
    simpa only [Bool.not_true, Bool.false_or, Bool.and_eq_true] using h2
  have nn : ∀ x ∈ xs, isXc x = true → PySem.W.findIn K (.ref (He.ga K x)) "value" = some none ∧ PySem.W.findIn K (.ref (He.ga K x)) "bar" = some none ∧ PySem.W.findIn K (.ref (He.ga K x)) "name" = some none := fun x hx ix =>
    ⟨He.eqO_ok (allX x hx ix).2.2.1, He.eqO_ok (allX x hx ix).2.2.2.1, He.eqO_ok (allX x hx ix).2.2.2.2.1⟩
  refine ⟨⟨fun x C e ix => ?_, fun x C e ix => ?_, fun x C y E e ix e' iy => ?_⟩, fun x hx => PySem.W.mg_of X G (He.eqO_ok (all x hx).1), fun x hx => oexB_ok (allX x (xIn_mem hx) (xIn_x hx)).2.1, fun x hx f hf => ?_⟩
  · obtain ⟨hx, rfl⟩ := clOf_mem e
    exact xfB_ok (allX x hx ix).1
  · obtain ⟨hx, rfl⟩ := clOf_mem e
    exact nn x hx ix
  · obtain ⟨hx, rfl⟩ := clOf_mem e
    obtain ⟨hy, rfl⟩ := clOf_mem e'
    have h2 := List.all_eq_true.mp (allX x hx ix).2.2.2.2.2 y hy
    rw [iy] at h2
    simpa using h2
  · obtain ⟨n1, n2, n3⟩ := nn x (xIn_mem hx) (xIn_x hx)
    simp only [fldN, Bool.or_eq_true, beq_iff_eq] at hf
    rcases hf with (z | z) | z <;> rw [z] <;> assumption

/-! ### RowError.__init__(self, text) -/
structure ReK (K : PySem.W.Frag) (mg : Str → Option Value) (E : Addr) : Prop where
  g : mg "RowError" = some (.ref E)
  s : PySem.W.specialIn K (.ref E) "__getattribute__" = some (some (.builtin "type.__getattribute__"))
  r : PySem.W.readsIn K E (.type "type") = true
  f : PySem.W.findCls K (.ref E) (.type "type") "__init__" = some (.val (.builtin "ValueError.__init__"))
def reB (K : PySem.W.Frag) : Bool := He.eqO (PySem.W.nsIn K mainGlobals "RowError") (some (some (.ref (He.ga K "RowError")))) && (He.eqO (PySem.W.specialIn K (.ref (He.ga K "RowError")) "__getattribute__") (some (some (.builtin "type.__getattribute__"))) &&
  (PySem.W.readsIn K (He.ga K "RowError") (.type "type") && (match PySem.W.findCls K (.ref (He.ga K "RowError")) (.type "type") "__init__" with
    | some (.val (.builtin b)) => decide (b = "ValueError.__init__")
    | _ => false)))
theorem reB_ok {K : PySem.W.Frag} {h : Heap} {mg : Str → Option Value} (X : K.In h) (G : h.Ns mainGlobals mg) (c : reB K = true) : ReK K mg (He.ga K "RowError") := by
  unfold reB at c
  simp only [Bool.and_eq_true] at c
  obtain ⟨c1, c2, c3, c4⟩ := c
  refine ⟨PySem.W.mg_of X G (He.eqO_ok c1), He.eqO_ok c2, c3, ?_⟩
  split at c4
  · rename_i b e
    rw [e, of_decide_eq_true c4]
  · cases c4
section
variable {X : Cx} {e : Expr} {es : List Expr} {ta : TA} {p1 p2 pos : Pos}
theorem pe_reInit {E : Addr} {pl : Sem Bool} (hg : Gl X "RowError") (T0 : ReK X.K X.mg E) (ha : PA X (e :: es) ta)
    (hc : eval (.Call (.Attribute (.Name "RowError" p1) "__init__" p2) (e :: es) [] pos) X.env = (do
      let top ← eval (.Name "RowError" p1) X.env
      standAt p2.atName
      let (meth, more) ← holding [top] (getMethod top "__init__" pl)
      callWith pos meth more (backTo pos (starEach (e :: es) X.env)) (backToKw pos (keywordEach [] X.env))) := by rfl)
    (he : starEach (e :: es) X.env = (false, eval e X.env) :: starEach es X.env := by rfl) (hpl : (backTo pos (starEach es X.env)).any (·.1) = false := by rfl) :
    PE X (.Call (.Attribute (.Name "RowError" p1) "__init__" p2) (e :: es) [] pos) (tVeI X.K ta) := by
  refine ⟨fun pins s σ H Q I h => ?_⟩
  refine PySem.W.methodCall_KW (ld_glob I hg T0.g ?_ (by decide)) hc
  refine PySem.W.method_cls I.kIn T0.s (PySem.W.cls_value I.kIn T0.r T0.f (by decide +kernel) ?_)
  show wpAny _ _ (callWith pos (Value.builtin "ValueError.__init__") [] (backTo pos (starEach (e :: es) X.env)) []) _ _ _
  refine PyProof.Rows.callWith_method1 (thn (ha.run pos pins _ σ H _ (I.tok _) h) fun zs s1 ⟨vs, H1, I1, r1, b, C, ws, hv, hl, T, hb, q⟩ => ?_) he hpl
  subst hv
  cases r1 with
  | @cons _ z _ zr rb rz =>
    obtain rfl : z = Value.ref b := rb
    exact oinit_ok T I1 hb (by rw [← Paired.length rz, sizeLine_eq]; omega) fun s' J => ⟨.non, H1, J, rfl, q⟩
end
theorem init_ok {P : Program} {w : World} {K : PySem.W.Frag} {mg : Str → Option Value} {base : Heap} {E C fI : Addr} {fd : FuncData} {qual f m : Str} {params : Arguments} {scope : Scope} {j : Nat} {q1 q2 q3 q4 q5 q6 q7 q8 q9 q10 : Pos}
    (hq : q2.endLine = q5.line) (F : L2.FunD K "__init__" qual params [.Expr (.Call (.Attribute (.Name "RowError" q1) "__init__" q2) [.Name "self" q3, .Constant (.str m) j q4] [] q5) q6, .Assign [.Attribute (.Name "self" q7) f q8] (.Name f q9) q10] scope [] [] fI fd)
    (Sc : FnScope ["self", f] ["self", f] scope) (hgl : scope.names.lookup ("RowError" : Str) = some .globalImplicit) (ls : Vis scope "self") (lf : Vis scope f) (hf1 : (f == ("__debug__" : Str)) = false) (hf2 : (f == ("__classdict__" : Str)) = false) (T0 : ReK K mg E) (T : OexC K C) (hno : PySem.W.findIn K (.ref C) f = some none) :
    FnOk P w K mg base CX0 1 fI fd ["self", f] (spXI C f) := by
  refine F.ok Sc (fun vs H Q E ⟨a, v, e, _⟩ => by rw [e]; rfl) (fun cdv A outer s H vs Q E hr h => ?_)
  have hp : ∀ few o env, methodCallPos few o env q2 q5 = pure q5 := fun few o env => by
    unfold methodCallPos
    rw [if_pos (by simp [hq])]
  have b1 : PSs (cxOf CX0 P w K mg base ["self", f] qual scope fI cdv A outer s H E).nox [.Expr (.Call (.Attribute (.Name "RowError" q1) "__init__" q2) [.Name "self" q3, .Constant (.str m) j q4] [] q5) q6, .Assign [.Attribute (.Name "self" q7) f q8] (.Name f q9) q10] _ :=
    pss_cons (ps_expr (pe_reInit hgl T0 (pa_cons (pe_var (i := 0) rfl ls (by decide) (by decide)) (pa_cons pe_str pa_nil)) (hc := by
      show (do
        let ov ← eval (.Name "RowError" q1) _
        standAt q2.atName
        methodCall (.Name "RowError" q1) "__init__" q2 q5 _ ov _ _ _) = _
      unfold methodCall
      simp only [hp, pure_bind]
      rfl))) (pss_one (ps_ost (pe_var (i := 0) rfl ls (by decide) (by decide)) (pe_var (i := 1) rfl lf hf1 hf2)))
  refine ⟨_, PSs.nox b1, ?_⟩
  obtain ⟨a, v, rfl, ea, h⟩ := h
  refine ⟨_, rfl, _, _, _, rfl, by simp, T, ea, ?_⟩
  exact ⟨_, rfl, _, rfl, a, C, rfl, T, hno, .inl ⟨ea, h⟩⟩

/-! ### the end: a law's def, called on the script -/
theorem lawG {P : Program} {w : World} {K : PySem.W.Frag} {mg mb : Str → Option Value} {k : Nat} {cl : Str → Option Addr} {fa a : Addr} {fd : FuncData} {x : Str} {F : List O → Rs O} {s1 : Shared} {vs : List Value} {zs : List Int}
    (KX : K.In s1.heap) (hG : s1.heap.Ns mainGlobals mg) (hB : s1.heap.Ns builtinsNs mb) (hBB : ∀ y : Str, y ≠ "__name__" → mb y = bootBuiltins y) (hL : s1.heap.NoLimit) (hg : s1.gens = #[])
    (ha : s1.heap.get? a = some { cls := .type "list", data := .seq vs.toArray }) (hi : IntsAre vs zs) (hl : zs.length ≤ sizeLine) (hr : Room k callerA)
    (hF : ∀ base : Heap, K.In base → base.Ns mainGlobals mg → FnG P w K mg base k fa fd [x] (spF K cl 1 F)) (hb : ∀ (s : Shared) (u : Value), BindsTo s fd ⟨[u], []⟩ [(x, u)]) (hT : ∃ ρ, F [.dat (.scr zs)] = .ok (.dat (.bl true)) ρ) :
    codeAny (model P w) callerA (.call (.ref fa) ⟨[.ref a], []⟩) (fun r s' => r = .ok (.ret (.bool true)) ∧ OldK s1.heap s'.heap ∧ s'.os = s1.os ∧ AllBare s'.gens) s1 := by
  have rv := vals_ints hi
  have lenV := hi.length
  have core : ∀ H : Hp, (∀ b u, H b = some u → b = a ∧ K.lookup a = none ∧ ∃ o ys, u = .frz o (.lst ys)) → SqL K H a (zs.map V.int) → HOk P w H s1.heap →
      codeAny (model P w) callerA (.call (.ref fa) ⟨[.ref a], []⟩) (fun r s' => r = .ok (.ret (.bool true)) ∧ OldK s1.heap s'.heap ∧ s'.os = s1.os ∧ AllBare s'.gens) s1 := by
    intro H one sq hok
    have keepD : ∀ {b : Addr} {o : Obj} {es : Array DictEntry} {n : Nat}, s1.heap.get? b = some o → o.data = .dict es n → H b = none := fun {b o es n} e dt => by
      cases q : H b with
      | none => rfl
      | some u =>
        obtain ⟨rfl, _⟩ := one b u q
        rw [ha] at e; cases e
        cases (show Data.seq vs.toArray _ = Data.dict es n from dt)
    have nsB : ∀ {b : Addr} {m : Str → Option Value}, s1.heap.Ns b m → (hidT s1.heap H).Ns b m := fun {b m} ⟨o, es, n, e, dt, r⟩ => ⟨o, es, n, hidT_get e (keepD e dt), dt, r⟩
    have kB : K.In (hidT s1.heap H) := fun b o e => hidT_get (KX b o e) (by
      cases q : H b with
      | none => rfl
      | some u =>
        obtain ⟨rfl, z, _⟩ := one b u q
        rw [z] at e; cases e)
    obtain ⟨mc, l1, l2⟩ := hL
    have e0 : Env0 P w K mg (hidT s1.heap H) callerA [] s1 H := ⟨rfl, ⟨kB, nsB hG, ⟨mb, nsB hB, hBB⟩, ⟨mc, nsB l1, l2⟩⟩, fun b o e => of_hidT e, Nat.le_of_eq (hidT_size _ _), trivial, (fun b hb => by cases hb), hok, .of_eq hg⟩
    obtain ⟨ρ, eF⟩ := hT
    have sp : spF K cl 1 F [.ref a] H (fun v _ => v = .bl true) (fun _ _ _ => False) := by
      refine ⟨rfl, H, [], [.dat (.scr zs)], Le.refl _, Ows.cons (R := []) (.dat (.scr sq)) .nil, List.nodup_nil, (fun b hb => by cases hb), ?_⟩
      rw [eF]
      intro S' H' R' v Rv _ _ _ ow _ _
      cases ow with
      | dat r => cases r; rfl
    refine codeAny_mono ((hF _ kB (nsB hG)).run callerA [] s1 H ⟨[.ref a], []⟩ [.ref a] [.ref a] _ _ hr rfl e0 (hb s1 (.ref a)) (.cons rfl .nil) sp) fun r s' h => ?_
    match r, h with
    | .error e, h =>
      obtain ⟨_, _, _, _, _, _, _, _, _, _, _, _, z⟩ := (show L2.CX P w [] H s1 (fun _ _ _ => False) e s' from h)
      exact z.elim
    | .ok (.ret u), ⟨v, H', os, bare, un, hok', r', q⟩ =>
      obtain rfl : v = .bl true := q
      obtain rfl : u = Value.bool true := r'
      refine ⟨rfl, OldK.of_keep fun b o e => ?_, os, bare⟩
      cases q : H b with
      | none => exact un.keep b o e q (fun z => by cases z) (by simp)
      | some u =>
        obtain ⟨_, _, ob, ys, rfl⟩ := one b u q
        obtain ⟨e1, _⟩ := hok b _ q
        obtain ⟨e2, _⟩ := hok' b _ (un.frzs b ob _ q)
        rw [e] at e1; cases e1
        exact e2
  cases hk : K.lookup a with
  | some o =>
    have e := KX a o hk
    rw [ha] at e
    cases e
    exact core (fun _ => none) (fun b u z => by cases z) (.inr ⟨_, vs.toArray, _, hk, rfl, rfl, rfl, by rw [List.size_toArray, lenV]; exact hl, by simpa using rv⟩) (fun b u z => by cases z)
  | none =>
    refine core (fun b => if b = a then some (.frz { cls := .type "list", data := .seq vs.toArray } (.lst (zs.map V.int))) else none) (fun b u z => ?_) (.inl (.inr ⟨{ cls := .type "list", data := .seq vs.toArray }, if_pos rfl⟩)) (fun b u z => ?_)
    · by_cases e : b = a
      · rw [if_pos e] at z; cases z
        exact ⟨e, hk, _, _, rfl⟩
      · rw [if_neg e] at z; cases z
    · dsimp only at z
      by_cases e : b = a
      · rw [if_pos e] at z; cases z
        subst e
        exact ⟨ha, by rw [List.length_map]; exact hl, vs, _, rv, ha⟩
      · rw [if_neg e] at z; cases z
end PL

end
-- text PL16
section
set_option linter.all false
set_option maxRecDepth 100000
set_option maxHeartbeats 4000000
namespace PL
open PySem PySem.Spec PyProof.Rows L2

/-! ### from the head to the law -/
theorem walkG {l : PySem.W.OpenLaw} {n k : Nat} {q : Program} {loose : List Str} {XP : (Str → Option Value) → Heap → Prop} {YP : World → Heap → Prop} {d : DefRec} {x : Str} (hn : l.most = some n) (hz : n ≤ sizeLine) (hdf : d.params.defaults = []) (hr : Room k callerA)
    (F : ∀ (w : World) (mg : Str → Option Value) (fa : Addr) (h : Heap), YP w h → h.Ns mainGlobals mg → mg d.name = some (.ref fa) → ∃ (K : PySem.W.Frag) (cl : Str → Option Addr) (fd : FuncData) (Fn : List O → Rs O), K.In h ∧ (∀ (s : Shared) (u : Value), BindsTo s fd ⟨[u], []⟩ [(x, u)]) ∧
      (∀ zs : List Int, zs.length ≤ n → (∀ z ∈ zs, Builtin.Int.intBits z ≤ 1048576) → ∃ ρ, Fn [.dat (.scr zs)] = .ok (.dat (.bl true)) ρ) ∧ ∀ base : Heap, K.In base → base.Ns mainGlobals mg → FnG l.prog w K mg base k fa fd [x] (spF K cl 1 Fn)) :
    PySem.W.WalkO q loose XP YP l.row.toRowW d [] (fun f vs => PySem.call f vs) := by
  refine Att.attach_callB hn hdf fun w s0 s1 mg mb fa o pm cd doc a vs zs G Y _ _ _ hmg hobj hints hlen hbits hg => ?_
  obtain ⟨K, cl, fd, Fn, KX, hb, hT, hF⟩ := F w mg fa _ Y G.T.g hmg
  exact lawG KX G.T.g G.T.b G.T.builtins G.T.nolimit hg hobj hints (Nat.le_trans hlen hz) hr hF hb (hT zs hlen hbits)

/-! ### a def as its callers know it -/
theorem cn_of {X : Cx} {p : Pm} {W : WX} {d : Df} (bx : BodyX X d.k d.N d.sc W) (hK : X.K = p.K) (hM : Ms X.base) (nd : d.N.Nodup) (nk : okN d = true) (hb : d.blk = false) (gk : okG d.sc d.gl = true) (kd : d.sc.kind = .function) (io : ∀ q ∈ p.io, d.io.contains q.1 = true) (mf : ∀ x ∈ bltns, X.mg x = none) (eP : X.prog = p.P) (eW : X.w = p.w) (eM : X.mg = p.mg) (eB : X.base = p.base) : Cn X p W d :=
  ⟨⟨hK, hM, by have := bx.r.un; omega, bx.g, bx.c, by rw [bx.n]; exact nd⟩, bx.n, bx.s, bx.r, bx.t, bx.po, by rw [hb]; exact bx.f, fun _ => bx.k, fun _ => bx.l, nk, gk, kd, io, mf, eP, eW, eM, eB⟩
/-- what stands at the bottom of all bodies -/
structure Bs (K : PySem.W.Frag) (mg : Str → Option Value) (base : Heap) : Prop where
  m : Ms base
  f : ∀ x ∈ bltns, mg x = none
section
variable {P : Program} {w : World} {K : PySem.W.Frag} {cl : Str → Option Addr} {mg : Str → Option Value} {base : Heap} {x qual : Str} {st : Stmt} {f : Addr} {fd : FuncData} {dvs : List V} {kws : List (Str × V)} {d : Df} {ps : List Str} {g : M Fl}
/-- .. its promise -/
theorem fn_mk (F : L2.FunD K x qual (defArgs st) (defBody st) (defScope st) dvs kws f fd) (hsc : d.sc = defScope st) (Sc : FnScope d.N ps d.sc) (nk : okN d = true) (gk : okG d.sc d.gl = true) (hb : d.blk = false) (B : Bs K mg base)
    (hbody : ∀ (X : Cx) (p : Pm) (W : WX), p.P = P → p.w = w → p.K = K → p.cl = cl → p.mg = mg → p.base = base → Cn X p W d → PSs X (defBody st) (tDS p W g)) :
    FnG P w K mg base (d.k + 1) f fd ps (spF K cl ps.length (bodyF d.N.length ps.length d.io g)) := by
  obtain ⟨oc, od, dV, kV, doc, pm, an, cdv, ct, osl, e1, lk, hcd, _, _⟩ := F.ex
  have F2 : PL.FunD K x qual st f dV fd := ⟨⟨oc, od, kV, doc, pm, an, cdv, ct, osl, e1, lk, hcd⟩, F.kp⟩
  rw [hsc] at Sc
  refine fnG_of (N := d.N) (io := d.io) F2 Sc fun X W io' h1 h2 h3 h4 h5 bx hio => ?_
  rw [← hsc] at bx
  exact hbody X ⟨K, cl, io', P, w, mg, base⟩ W rfl rfl rfl rfl rfl rfl (cn_of bx h3 (by rw [h5]; exact B.m) Sc.nd nk hb gk (by rw [hsc]; exact Sc.kind) hio (by rw [h4]; exact B.f) h1 h2 h4 h5)
theorem entN {t : Ent} {k : Nat} (F : L2.FunD K x qual (defArgs st) (defBody st) (defScope st) [] kws f fd) (hm : mg t.name = some (.ref f)) (hd : t.dfl = []) (G : FnG P w K mg base k f fd t.ps (spF K cl t.ps.length t.F))
    (h : ∀ (kV doc pm : Value) (an : Option Addr) (cdv ct : Value) (us : List Value), us.length = t.ps.length → bindArgs (PySem.W.fnOf x qual (defArgs st) (defBody st) (defScope st) .none kV doc pm an cdv ct) ⟨us, []⟩ = pure (t.ps.zip us)) : EntOk P w K cl mg base k t := by
  refine ⟨f, fd, [], [], hm, F.kp, G, .nil, fun S => by rw [hd]; exact .nil, fun s us _ l1 l2 => ?_⟩
  have := F.bindsA h s us (by simp at l2; omega)
  simpa using this
theorem entD {t : Ent} {k : Nat} (F : L2.FunD K x qual (defArgs st) (defBody st) (defScope st) dvs kws f fd) (hm : mg t.name = some (.ref f)) (hne : dvs ≠ []) (hd : ∀ S, Reps K cl S dvs t.dfl) (G : FnG P w K mg base k f fd t.ps (spF K cl t.ps.length t.F))
    (h : ∀ (T : Addr) (kV doc pm : Value) (an : Option Addr) (cdv ct : Value) (us its : List Value), its.length = dvs.length → us.length ≤ t.ps.length → t.ps.length ≤ us.length + its.length →
      ∃ r, bindArgs (PySem.W.fnOf x qual (defArgs st) (defBody st) (defScope st) (.ref T) kV doc pm an cdv ct) ⟨us, []⟩ = seqItems? (.ref T) >>= r ∧ r (some its.toArray) = pure (t.ps.zip (us ++ its.drop (us.length + its.length - t.ps.length)))) : EntOk P w K cl mg base k t := by
  have ex := F.ex
  obtain ⟨oc, od, dV, kV, doc, pm, an, cdv, ct, osl, e1, lk, hcd, hD, hK⟩ := ex
  rcases hD with ⟨z, _⟩ | ⟨_, T, o, its, m, rfl, lT, oT, rT⟩
  · exact absurd z hne
  · refine ⟨f, fd, dvs, its, hm, F.kp, G, rT, hd, fun s us X l1 l2 => ?_⟩
    obtain ⟨r, b1, b2⟩ := h T kV doc pm an cdv ct us its rT.length.symm l1 l2
    subst e1
    refine BindsTo.of_looks fun M => ?_
    rw [b1]
    exact looks_items X lT oT (.of_pure b2)
end

/-! ### within try -/
section
variable {X : Cx} {p : Pm} {W : WX} {d : Df}
theorem Cn.tr (c : Cn X p W d) {W' : WX} {pn : List (Addr × Obj)} {xe : Value → Shared → Prop} (tk : Takes (X.tr pn xe) W') (po : PassesOwn (model X.prog X.w) X.A X.env xe) : Cn (X.tr pn xe) p W' d :=
  ⟨⟨c.o.K, c.o.M, c.o.u, c.o.g, c.o.c, c.o.N⟩, c.n, c.s, c.r, tk, po, c.fn, c.st, c.fr, c.nk, c.gk, c.kd, c.io, c.mf, c.eP, c.eW, c.eM, c.eB⟩
/-- except X: return [text] -/
theorem Cn.hBare (c : Cn X p W d) {xs : List Str} (xq : Xs p.K p.mg xs) (hcl : p.cl = clOf p.K xs) {x t : Str} {j : Nat} {p1 p2 p3 np hp : Pos} {hs : List ExceptHandler} {hd : List Hdl} {l : List Cls1} (i : Nat) (hi : d.gl[i]? = some x) (hx : xIn xs x = true) (r : ClsOk X hs l) (r' : HsOk X p hd l) :
    ∃ k, ClsOk X (.ExceptHandler (some (.Name x np)) none [.Return (some (.List [.Constant (.str t) j p1] p2)) p3] hp :: hs) (k :: l) ∧ HsOk X p (⟨x, none, gTxt t⟩ :: hd) (k :: l) :=
  ⟨_, .bare (c := .ref (He.ga p.K x)) ⟨(c.gl hi).1, (c.gl hi).2.1, .inl (by rw [c.eM]; exact xq.g x (xIn_mem hx))⟩ (fun a oe cls dd pn _ _ => su_txt (p := p) (i := none)) r, .cons (k := ⟨x, none, gTxt t⟩) (by rw [hcl]; exact cl_of (xIn_mem hx)) (xIn_x hx) (fun _ z => nomatch z) r'⟩
/-- except X as e: return [text, e.field] -/
theorem Cn.hNamed (c : Cn X p W d) {xs : List Str} (xq : Xs p.K p.mg xs) (hcl : p.cl = clOf p.K xs) {x n fl t : Str} {j : Nat} {p1 p2 p3 p4 p5 np hp : Pos} {hs : List ExceptHandler} {hd : List Hdl} {l : List Cls1} (i : Nat) (hi : d.gl[i]? = some x) (hx : xIn xs x = true) (s : Nat) (hs' : d.N[s]? = some n) (hn : d.sc.names.lookup n = some .local)
    (hio : d.io.contains s = false) (hf : fldN fl = true) (hu : d.us.contains s = true) (r : ClsOk X hs l) (r' : HsOk X p hd l) :
    ∃ k, ClsOk X (.ExceptHandler (some (.Name x np)) (some n) [.Return (some (.List [.Constant (.str t) j p1, .Attribute (.Name n p4) fl p5] p2)) p3] hp :: hs) (k :: l) ∧ HsOk X p (⟨x, some s, gTxtF t fl⟩ :: hd) (k :: l) := by
  have hn' : X.env.kindOf n = some .local := by
    show X.env.scope.names.lookup n = _
    rw [c.s]; exact hn
  have xk : XcK p.K p.cl := by rw [hcl]; exact xq.k
  exact ⟨_, .named (c := .ref (He.ga p.K x)) ⟨(c.gl hi).1, (c.gl hi).2.1, .inl (by rw [c.eM]; exact xq.g x (xIn_mem hx))⟩ (c.nx hs') hn' (fun a oe cls dd pn hz hfl => su_txtF c.o.K xk (c.nx hs') hn' hf (c.nameK hs' hu).1 (c.nameK hs' hu).2 hz hfl) r,
    .cons (k := ⟨x, some s, gTxtF t fl⟩) (by rw [hcl]; exact cl_of (xIn_mem hx)) (xIn_x hx) (fun i z => by cases z; exact c.pin hio) r'⟩
theorem Cn.try (c : Cn X p W d) {xs : List Str} (xq : Xs p.K p.mg xs) (hcl : p.cl = clOf p.K xs) {body : List Stmt} {h0 : ExceptHandler} {hs : List ExceptHandler} {l : List Cls1} {pos : Pos} {fb : M Fl} {hd : List Hdl} (hb : ∀ (W' : WX) (pn : List (Addr × Obj)) (xe : Value → Shared → Prop), Cn (X.tr pn xe) p W' d → PSs (X.tr pn xe) body (tDS p W' fb))
    (hh : ClsOk X (h0 :: hs) l ∧ HsOk X p hd l) (hbk : d.blk = false := by rfl) : PS X (.Try body (h0 :: hs) [] [] pos) (tDS p W (mTry fb hd)) :=
  ds_try c.o (by rw [hcl]; exact xq.k) (c.st hbk) (c.fr hbk) c.t (fun W' pn xe tk po => hb W' pn xe (c.tr tk po)) hh.1 hh.2
/-- raise X(e) from the head's facts -/
theorem xm_of {P : Program} {w : World} {K : PySem.W.Frag} {mg : Str → Option Value} {base : Heap} {xs : List Str} {x f : Str} {fI : Addr} {fd : FuncData} (xq : Xs K mg xs) (hx : xIn xs x = true) (hI : PySem.W.findIn K (.ref (He.ga K x)) "__init__" = some (some (.ref fI))) (ht : PySem.W.typeIn K (.ref fI) = some (.type "function"))
    (F : FnOk P w K mg base CX0 1 fI fd ["self", f] (spXI (He.ga K x) f)) (hb : Binds K fd ["self", f] []) : XmOk P w K (clOf K xs) mg base 1 x f :=
  ⟨_, fI, fd, _, cl_of (xIn_mem hx), xIn_x hx, xq.o x hx, hI, ht, F, hb, xq.g x (xIn_mem hx)⟩
end

/-! ### slot[i] = e on a list that nobody else holds -/
def setAt (i : Nat) (d : D) (y : D) : M Fl := fun ρ => match ρ[i]? with
  | some (some (.own xs)) => match y with
    | .int k => match ixN xs.length k with
      | some j => .ok .nx (ρ.set i (some (.own (xs.set j (.dat d)))))
      | none => .bad
    | _ => .bad
  | _ => .bad
def mSetIx (i : Nat) (fe fi : M D) : M Fl := fe.bnd fun d => fun ρ => match ρ[i]? with
  | some (some _) => (fi.bnd fun y => setAt i d y) ρ
  | _ => .bad
theorem Ows.setD {K : PySem.W.Frag} {cl : Str → Option Addr} {S H : Hp} {u : V} {d : D} (r : Rep K cl S u d) : ∀ {v : List V} {o : List O} {R : List Addr} (j : Nat), Ows K cl S H v o R → j < o.length → ∃ R', Ows K cl S H (v.set j u) (o.set j (.dat d)) R' ∧ List.Sublist R' R
  | _, _, _, _, .nil, h => by simp at h
  | _, _, _, 0, .cons a b, _ => ⟨_, Ows.cons (R := []) (.dat r) b, List.sublist_append_right _ _⟩
  | _, _, _, j + 1, .cons a b, h => by
    obtain ⟨R', q, s⟩ := Ows.setD r j b (by simpa using h)
    exact ⟨_, .cons a q, List.Sublist.append (List.Sublist.refl _) s⟩
theorem ixN_lt {n j : Nat} {k : Int} (h : ixN n k = some j) : j < n := by
  unfold ixN at h
  repeat' split at h
  all_goals first | (cases h; omega) | (cases h; done) | (simp at h; omega)
section
variable {X : Cx} {p : Pm} {W : WX} {d : Df}
theorem Cn.setIx (c : Cn X p W d) {x : Str} {b e : Expr} {p1 p2 pos : Pos} {fe fi : M D} (i : Nat) (h : d.N[i]? = some x) (he : PE X e (tD p W fe)) (hb : PE X b (tD p W fi))
    (ha : ∀ v, assign (.Subscript (.Name x p1) b p2) X.env v = (do
      let ov ← holding [v] (eval (.Name x p1) X.env)
      let iv ← holding [v, ov] (eval b X.env)
      standAt p2
      holding [v, ov, iv] (setItem ov iv v)
      release [v, ov, iv] []) := by intro _; rfl) (hs : swapsWithSole [.Subscript (.Name x p1) b p2] e pos.line X.env = pure false := by rfl) (hw : swappedStores [.Subscript (.Name x p1) b p2] e X.env = pure none := by rfl)
    (h1 : (assignEach [.Subscript (.Name x p1) b p2] X.env).map (·.2) = [assign (.Subscript (.Name x p1) b p2) X.env] := by rfl) (hu : d.us.contains i = true := by rfl) : PS X (.Assign [.Subscript (.Name x p1) b p2] e pos) (tDS p W (mSetIx i fe fi)) :=
  PS.imp (ps_asg he (pg_sub (pe_var (c.nx h) (c.vis h hu) (c.nameK h hu).1 (c.nameK h hu).2) hb set_list ha) hs hw h1) fun Dn σ H ⟨ρ, S, R, w, q⟩ => by
    refine ⟨ρ, S, R, w, ((isS (σ := σ)).bE q).mono fun u0 H1 ⟨du, ρ1, S1, R1, r1, t1, w1, q1⟩ => ?_⟩
    split at q1
    · rename_i o0 e0
      obtain ⟨v0, _, _, _, _, hv0, _, _⟩ := w1.sl.at e0
      refine ⟨v0, hv0, ρ1, S1, R1, w1, ((isS (σ := σ)).bE q1).mono fun y H2 ⟨dy, ρ2, S2, R2, r2, t2, w2, q2⟩ => ?_⟩
      unfold setAt at q2
      split at q2
      · rename_i xs e2
        split at q2
        · rename_i k
          split at q2
          · rename_i j ej
            obtain ⟨v1, A1, Ai, A2, eR, hv1, ow, hs1⟩ := w2.sl.at e2
            rw [hv0] at hv1
            cases hv1
            cases ow with
            | @own a vs os Rr ea rs =>
              subst eR
              cases r2
              refine ⟨a, vs, k, j, rfl, rfl, ea, by rw [Ows.length rs]; exact ej, ?_⟩
              obtain ⟨R', rs', sub⟩ := rs.setD (r1.up t2.s) j (ixN_lt ej)
              obtain ⟨n1, n2, n3⟩ := List.nodup_append.mp w2.nd
              obtain ⟨n4, n5, n6⟩ := List.nodup_append.mp n2
              obtain ⟨n7, n8⟩ := List.nodup_cons.mp n4
              have na : ∀ b ∈ A1 ++ A2, b ≠ a := fun b hb z => by
                subst z
                rcases List.mem_append.mp hb with y | y
                · exact n3 b y b (by simp) rfl
                · exact n6 b (by simp) b y rfl
              have kp : ∀ b u, b ≠ a → H2 b = some u → upd H2 a (.lst (vs.set j u0)) b = some u := fun b u hb z => by rw [upd_ne hb]; exact z
              have sn : S2 a = none := w2.ap a (by simp)
              have l2 : Le S2 (upd H2 a (.lst (vs.set j u0))) := fun b u z => kp b u (fun y => by rw [y, sn] at z; cases z) (w2.le b u z)
              have rs2 : Ows p.K p.cl S2 (upd H2 a (.lst (vs.set j u0))) (vs.set j u0) (xs.set j (.dat du)) R' := rs'.up (Le.refl _) fun b hb u z => kp b u (fun y => n7 (by rw [← y]; exact sub.subset hb)) z
              have sl := hs1 S2 (upd H2 a (.lst (vs.set j u0))) (.ref a) (.own (xs.set j (.dat du))) (a :: R') (Le.refl _) (fun b hb u z => kp b u (na b hb) z) (.own upd_same rs2)
              rw [set_self hv0] at sl
              have sb : List.Sublist (A1 ++ ((a :: R') ++ A2)) (A1 ++ ((a :: Rr) ++ A2)) := List.Sublist.append (List.Sublist.refl _) (List.Sublist.append (sub.cons₂ a) (List.Sublist.refl _))
              refine q2 σ S2 _ _ ⟨Le.refl _, fun b _ z => .inl z, fun b u z hb => kp b u (fun y => hb (by rw [y]; simp)) z, fun b hb => .inl (sb.subset hb), fun b z => ?_⟩ ⟨l2, sl, w2.nd.sublist sb, fun b hb => w2.ap b (sb.subset hb), w2.io⟩
              by_cases y : b = a
              · rw [y, upd_same] at z; cases z
              · rw [upd_ne y] at z; exact z
          · exact q2.elim
        · exact q2.elim
      · exact q2.elim
    · exact q1.elim
end
end PL

end
-- text PL17
section
set_option linter.all false
set_option maxRecDepth 100000
set_option maxHeartbeats 4000000
namespace PL
open PySem PySem.Spec PyProof.Rows L2
section
variable {X : Cx} {p : Pm} {W : WX} {d : Df}
/-! ### list(range(a, b)), list(range(b)) -/
def lrg : D → D → Option O
  | .int i, .int j => if -(2 ^ 62) ≤ i ∧ i < 2 ^ 62 ∧ -(2 ^ 62) ≤ j ∧ j < 2 ^ 62 ∧ (j - i).toNat ≤ 2 ^ 24 then some (.own ((rngL i (j - i).toNat).map .dat)) else none
  | _, _ => none
def mLRg2 (fa fb : M D) : M O := fa.bnd fun x => fb.bnd fun y => lift (lrg x y)
def mLRg1 (fb : M D) : M O := fb.bnd fun y => lift (lrg (.int 0) y)
theorem reps_rg {K : PySem.W.Frag} {cl : Str → Option Addr} {S : Hp} (i j : Int) : Reps K cl S (rgV i j) (rngL i (j - i).toNat) := by
  unfold rgV rngL
  generalize List.range (j - i).toNat = l
  induction l with
  | nil => exact .nil
  | cons a l ih => exact .cons (.int _) ih
theorem Cn.lrg2 (c : Cn X p W d) {a b : Expr} {p1 p2 p3 p4 : Pos} {fa fb : M D} (j1 j2 : Nat) (h1 : d.gl[j1]? = some ("list" : Str)) (h2 : d.gl[j2]? = some ("range" : Str)) (ha : PE X a (tD p W fa)) (hb : PE X b (tD p W fb)) (na : starEach [a, b] X.env = (false, eval a X.env) :: starEach [b] X.env := by rfl)
    (nb : starEach [b] X.env = (false, eval b X.env) :: starEach [] X.env := by rfl) (hp : (backTo p2 (starEach [b] X.env)).any (·.1) = false := by rfl) : PE X (.Call (.Name "list" p3) [.Call (.Name "range" p1) [a, b] [] p2] [] p4) (tDO p W (mLRg2 fa fb)) :=
  PE.imp (pe_listRg c.o.c (c.gl h1).1 (c.mf _ mem_list) (prg_2 (c.gl h2).1 (c.mf _ mem_range) ha hb na nb hp)) fun σ H Q ⟨ρ, S, R, w, h⟩ => by
    refine ⟨ρ, S, R, w, (isO.bE h).mono fun x H1 ⟨dx, ρ1, S1, R1, r1, t1, w1, q1⟩ => ⟨ρ1, S1, R1, w1, (isO.bE q1).mono fun y H2 ⟨dy, ρ2, S2, R2, r2, t2, w2, q2⟩ => ?_⟩⟩
    unfold lrg at q2
    split at q2
    · split at q2
      · rename_i hz
        cases r1; cases r2
        exact ⟨_, _, rfl, rfl, hz, fun q hq => PoO.new w2 q2 hq (reps_rg _ _).ows⟩
      · exact q2.elim
    · exact q2.elim
theorem Cn.lrg1 (c : Cn X p W d) {b : Expr} {p1 p2 p3 p4 : Pos} {fb : M D} (j1 j2 : Nat) (h1 : d.gl[j1]? = some ("list" : Str)) (h2 : d.gl[j2]? = some ("range" : Str)) (hb : PE X b (tD p W fb)) (nb : starEach [b] X.env = (false, eval b X.env) :: starEach [] X.env := by rfl) :
    PE X (.Call (.Name "list" p3) [.Call (.Name "range" p1) [b] [] p2] [] p4) (tDO p W (mLRg1 fb)) :=
  PE.imp (pe_listRg c.o.c (c.gl h1).1 (c.mf _ mem_list) (prg_1 (c.gl h2).1 (c.mf _ mem_range) hb nb)) fun σ H Q ⟨ρ, S, R, w, h⟩ => by
    refine ⟨ρ, S, R, w, (isO.bE h).mono fun y H2 ⟨dy, ρ2, S2, R2, r2, t2, w2, q2⟩ => ?_⟩
    cases dy with
    | int n =>
      unfold lrg at q2
      dsimp only at q2
      split at q2
      · rename_i hz
        cases r2
        exact ⟨_, rfl, hz, fun q hq => PoO.new w2 q2 hq (reps_rg _ _).ows⟩
      · exact q2.elim
    | _ => exact q2.elim

/-! ### a, b = x, y -/
def mPar (i j : Nat) (f : M (List D)) : M Fl := f.bnd fun ds ρ => match ds with
  | [x, y] => if i < ρ.length ∧ j < ρ.length then .ok .nx ((ρ.set i (some (.dat x))).set j (some (.dat y))) else .bad
  | _ => .bad
def isStar : Expr → Bool
  | .Starred .. => true
  | _ => false
theorem swap2 {env : Env} {x y : Str} {a b : Expr} {px py pt pt2 : Pos} {kt k2 : Nat} (hk : env.scope.kind = .function) (hx : env.kindOf x = some .local) (hy : env.kindOf y = some .local) (hl : py.line = px.line) (hxy : (y == x) = false)
    (ha : isStar a = false) (hb0 : isStar b = false) (h2 : [a, b].all (foldedForSure 8) = false) (h3 : [a, b].all (constantsAlone 8) = false) :
    swappedStores [.Tuple [.Name x px, .Name y py] kt pt] (.Tuple [a, b] k2 pt2) env = pure (some [x, y]) := by
  have hb : env.blockKind = .function := by unfold Env.blockKind; rw [hk]; rfl
  have e2 : [x, y].eraseDups = [x, y] := by
    simp [List.eraseDups_cons, hxy]
  have st : ([a, b].any fun | .Starred .. => true | _ => false) = false := by
    simp only [List.any_cons, List.any_nil, Bool.or_false, Bool.or_eq_false_iff]
    constructor
    · cases a <;> first | rfl | cases ha
    · cases b <;> first | rfl | cases hb0
  have fm : (List.filterMap (fun (z : Expr) => match z with | .Name id pos => if (env.kindOf id == some .local && pos.line == px.line) = true then some id else none | _ => none) [.Name x px, .Name y py]) = [x, y] := by
    have b1 : (env.kindOf x == some .local && px.line == px.line) = true := by rw [hx]; simp
    have b2 : (env.kindOf y == some .local && py.line == px.line) = true := by rw [hy, hl]; simp
    simp only [List.filterMap_cons, List.filterMap_nil, b1, b2, if_true]
  unfold swappedStores
  show (do
    if (!(2 == 2 || 2 == 3) || 2 != 2 || env.blockKind != .function) = true then return none
    if ([a, b].any fun | .Starred .. => true | _ => false) = true then return none
    let names := [Expr.Name x px, Expr.Name y py].filterMap fun
      | .Name id pos => if env.kindOf id == some .local && pos.line == px.line then some id else none
      | _ => none
    if (names.length != 2 || names.eraseDups.length != names.length) = true then return none
    if [a, b].all (foldedForSure 8) = true then return none
    if [a, b].all (constantsAlone 8) = true then unsupported "assign.tuple-of-constant-expressions:order-of-the-stores"
    return some names : Sem (Option (List Str))) = _
  rw [h2, h3, st, hb, fm]
  dsimp only
  rw [e2]
  rfl
theorem Cn.par (c : Cn X p W d) {x y : Str} {a b : Expr} {f : M (List D)} {px py pt pt2 pos : Pos} {kt k2 : Nat} (i j : Nat) (hi : d.N[i]? = some x) (hj : d.N[j]? = some y) (hij : i ≠ j) (hx : d.sc.names.lookup x = some .local) (hy : d.sc.names.lookup y = some .local) (hpi : d.io.contains i = false) (hpj : d.io.contains j = false)
    (ha : PA X [a, b] (tDA p W f)) (hl : py.line = px.line) (h0 : isStar a = false) (h1 : isStar b = false) (h2 : [a, b].all (foldedForSure 8) = false) (h3 : [a, b].all (constantsAlone 8) = false) (hs : swapsWithSole [.Tuple [.Name x px, .Name y py] kt pt] (.Tuple [a, b] k2 pt2) pos.line X.env = pure false := by rfl) :
    PS X (.Assign [.Tuple [.Name x px, .Name y py] kt pt] (.Tuple [a, b] k2 pt2) pos) (tDS p W (mPar i j f)) := by
  have hx' : X.env.scope.names.lookup x = some .local := by rw [c.s]; exact hx
  have hy' : X.env.scope.names.lookup y = some .local := by rw [c.s]; exact hy
  have hxy : (y == x) = false := by
    cases z : (y == x) with
    | false => rfl
    | true =>
      exfalso
      have e := eq_of_beq z
      subst e
      have nd := c.o.N
      rw [c.n] at nd
      exact hij ((List.getElem?_inj (List.getElem?_eq_some_iff.mp hi).1 nd).mp (hi.trans hj.symm))
  refine PS.imp (ps_par c.o.c c.o.N (c.nx hi) (c.nx hj) hij hx' hy' ha (swap2 (by rw [c.s]; exact c.kd) hx' hy' hl hxy h0 h1 h2 h3) hs) fun Dn σ H ⟨ρ, S, R, w, q⟩ => ?_
  refine ⟨ρ, S, R, w, ((isS (σ := σ)).bA q).mono fun vs H1 ⟨ds, ρ1, S1, R1, r1, t1, w1, q1⟩ => ?_⟩
  split at q1
  · obtain ⟨v, u, rfl, rv, ru⟩ := reps2 r1
    split at q1
    · rename_i hz
      obtain ⟨R2, w2, s2⟩ := w1.put (Rv := []) (.dat rv) (by simpa using w1.nd) (fun _ z => nomatch z) (c.pin hpi) hz.1
      obtain ⟨R3, w3, s3⟩ := w2.put (Rv := []) (.dat ru) (by simpa using w2.nd) (fun _ z => nomatch z) (c.pin hpj) (by simpa using hz.2)
      exact ⟨v, u, rfl, q1 _ S1 H1 R3 (Stp.refl.less fun b hb => by simpa using s2 b (by simpa using s3 b hb)) w3⟩
    · exact q1.elim
  · exact q1.elim

/-! ### names of the module that hold data -/
def Cst (K : PySem.W.Frag) (cl : Str → Option Addr) (mg : Str → Option Value) (x : Str) (e : D) : Prop := ∃ v u, mg x = some u ∧ RelV v u ∧ ∀ S, Rep K cl S v e
theorem Cn.cst (c : Cn X p W d) {x : Str} {e : D} {pos : Pos} (h : Cst p.K p.cl p.mg x e) (j : Nat) (hj : d.gl[j]? = some x) : PE X (.Name x pos) (tD p W (M.ret e)) := by
  obtain ⟨v, u, hm, r, hr⟩ := h
  exact de_glob (c.gl hj).1 (by rw [c.eM]; exact hm) r hr (c.gl hj).2.1
theorem cst_tupI {K : PySem.W.Frag} {cl : Str → Option Addr} {h : Heap} {mg : Str → Option Value} {x : Str} {is : List Int} (Y : K.In h) (G : h.Ns mainGlobals mg) (e : PySem.W.nsIn K mainGlobals x = some (some (.ref (He.ga K x)))) (t : He.tupB K x (is.map He.Dv.int) = true) : Cst K cl mg x (.tup (is.map D.int)) := by
  refine ⟨.ref (He.ga K x), .ref (He.ga K x), PySem.W.mg_of Y G e, rfl, fun S => .tup (vs := is.map V.int) (.inr ?_) ?_⟩
  · rcases He.tupB_ok t (fun _ => none) with z | z
    · rcases z with z | ⟨_, z⟩ <;> cases z
    · obtain ⟨o, its, n, a1, a2, a3, a4, a5⟩ := z
      refine ⟨o, its, n, a1, a2, a3, a4, ?_⟩
      have : (is.map He.Dv.int).map (He.Dv.v K) = is.map V.int := by rw [List.map_map]; rfl
      rw [← this]; exact a5
  · induction is with
    | nil => exact .nil
    | cons a l ih =>
      refine .cons (.int a) ?_
      clear ih t
      induction l with
      | nil => exact .nil
      | cons b l ih => exact .cons (.int b) ih

/-! ### {}, {k: v} -/
theorem PoE.new {σ : L2.St} {S H : Hp} {R : List Addr} {ρ : Rho} {Q : VK} {e : D} {o : HO} {q : Addr} (w : Wd p S H σ ρ R) (h : PoE p W σ S H R Q (.ok e ρ)) (hq : H q = none) (r : Rep p.K p.cl (upd S q o) (.ref q) e) : Q (.ref q) (upd H q o) := by
  have g := Grow.new (o := o) w.le hq
  exact h _ _ R _ (g.wd w).2 (g.wd w).1 r
theorem e_dic0 {pos : Pos} : PE X (.Dict [] [] pos) (tD p W (M.ret (.dic []))) := PE.imp pe_dnewK fun σ H Q ⟨ρ, S, R, w, h⟩ q hq => PoE.new w h hq (.dicK upd_same .nil)
theorem e_dic1 {k : Str} {v : Int} {j1 j2 : Nat} {p1 p2 pos : Pos} : PE X (.Dict [some (.Constant (.str k) j1 p1)] [.Constant (.int v) j2 p2] pos) (tD p W (M.ret (.dic [(.str k, .int v)]))) :=
  PE.imp (pe_disp (pps_cons pe_str pe_int pps_nil) rfl rfl (by simp) (by simp)) fun σ H Q ⟨ρ, S, R, w, h⟩ q hq => by
    refine ⟨upd_same, [(.inr k, .int v)], rfl, by simp, ?_⟩
    have e : upd (upd H q (.dK [])) q (.dK (mergeK [] [(.inr k, .int v)])) = upd H q (.dK [(.inr k, .int v)]) := by
      funext b
      by_cases hb : b = q
      · subst hb; rw [upd_same, upd_same]; rfl
      · rw [upd_ne hb, upd_ne hb, upd_ne hb]
    rw [e]
    exact PoE.new w h hq (.dicK upd_same (.cons (.str k) (.int v) .nil))
end
end PL

end
-- text PL18
section
set_option linter.all false
set_option maxRecDepth 100000
set_option maxHeartbeats 4000000
namespace PL
open PySem PySem.Spec PyProof.Rows L2
/-- the statements of a class -/
def clsB : Stmt → List Stmt
  | .ClassDef (body := b) .. => b
  | _ => []
section
variable {X : Cx} {p : Pm} {W : WX} {d : Df}
theorem e_asD {e : Expr} {f : M O} (h : PE X e (tDO p W f)) : PE X e (tD p W (asD f)) := toD h
theorem e_asO {e : Expr} {f : M D} (h : PE X e (tD p W f)) : PE X e (tDO p W (asO f)) := toO h
/-! clauses by their data -/
def clsOf (p : Pm) (h : Hdl) : Cls1 := ⟨.ref (He.ga p.K h.h), h.i, tSu p h.g h.i⟩
structure HOk (X : Cx) (p : Pm) (hs : List ExceptHandler) (hd : List Hdl) : Prop where
  a : ClsOk X hs (hd.map (clsOf p))
  b : HsOk X p hd (hd.map (clsOf p))
theorem h_nil : HOk X p [] [] := ⟨.nil, .nil⟩
theorem Cn.kBare (c : Cn X p W d) {xs : List Str} (xq : Xs p.K p.mg xs) (hcl : p.cl = clOf p.K xs) {x t : Str} {j : Nat} {p1 p2 p3 np hp : Pos} {hs : List ExceptHandler} {hd : List Hdl} (i : Nat) (hi : d.gl[i]? = some x) (hx : xIn xs x = true) (r : HOk X p hs hd) :
    HOk X p (.ExceptHandler (some (.Name x np)) none [.Return (some (.List [.Constant (.str t) j p1] p2)) p3] hp :: hs) (⟨x, none, gTxt t⟩ :: hd) :=
  ⟨.bare (c := .ref (He.ga p.K x)) (ts := tSu p (gTxt t) none) ⟨(c.gl hi).1, (c.gl hi).2.1, .inl (by rw [c.eM]; exact xq.g x (xIn_mem hx))⟩ (fun a oe cls dd pn _ _ => su_txt (p := p) (i := none)) r.a, .cons (k := ⟨x, none, gTxt t⟩) (by rw [hcl]; exact cl_of (xIn_mem hx)) (xIn_x hx) (fun _ z => nomatch z) r.b⟩
theorem Cn.kNamed (c : Cn X p W d) {xs : List Str} (xq : Xs p.K p.mg xs) (hcl : p.cl = clOf p.K xs) {x n fl t : Str} {j : Nat} {p1 p2 p3 p4 p5 np hp : Pos} {hs : List ExceptHandler} {hd : List Hdl} (i : Nat) (hi : d.gl[i]? = some x) (hx : xIn xs x = true) (s : Nat) (hs' : d.N[s]? = some n) (hn : d.sc.names.lookup n = some .local)
    (hio : d.io.contains s = false) (hf : fldN fl = true) (r : HOk X p hs hd) (hu : d.us.contains s = true := by rfl) :
    HOk X p (.ExceptHandler (some (.Name x np)) (some n) [.Return (some (.List [.Constant (.str t) j p1, .Attribute (.Name n p4) fl p5] p2)) p3] hp :: hs) (⟨x, some s, gTxtF t fl⟩ :: hd) := by
  have hn' : X.env.kindOf n = some .local := by
    show X.env.scope.names.lookup n = _
    rw [c.s]; exact hn
  have xk : XcK p.K p.cl := by rw [hcl]; exact xq.k
  exact ⟨.named (c := .ref (He.ga p.K x)) (ts := tSu p (gTxtF t fl) (some s)) ⟨(c.gl hi).1, (c.gl hi).2.1, .inl (by rw [c.eM]; exact xq.g x (xIn_mem hx))⟩ (c.nx hs') hn' (fun a oe cls dd pn hz hfl => su_txtF c.o.K xk (c.nx hs') hn' hf (c.nameK hs' hu).1 (c.nameK hs' hu).2 hz hfl) r.a,
    .cons (k := ⟨x, some s, gTxtF t fl⟩) (by rw [hcl]; exact cl_of (xIn_mem hx)) (xIn_x hx) (fun i z => by cases z; exact c.pin hio) r.b⟩
theorem Cn.tryH (c : Cn X p W d) {xs : List Str} (xq : Xs p.K p.mg xs) (hcl : p.cl = clOf p.K xs) {body : List Stmt} {h0 : ExceptHandler} {hs : List ExceptHandler} {pos : Pos} {fb : M Fl} {hd : List Hdl} (hb : ∀ (W' : WX) (pn : List (Addr × Obj)) (xe : Value → Shared → Prop), Cn (X.tr pn xe) p W' d → PSs (X.tr pn xe) body (tDS p W' fb))
    (hh : HOk X p (h0 :: hs) hd) (hbk : d.blk = false := by rfl) : PS X (.Try body (h0 :: hs) [] [] pos) (tDS p W (mTry fb hd)) := c.try xq hcl hb ⟨hh.a, hh.b⟩ hbk
end
end PL

end
-- text PL19
section
set_option linter.all false
set_option maxRecDepth 100000
set_option maxHeartbeats 4000000
namespace PL
open PySem PySem.Spec L2

/-! ### the plain side: what an outcome must be -/
def wpG {α : Type} (r : Rs α) (Q : α → Rho → Prop) (E : Ex → Rho → Prop) : Prop := match r with
  | .bad => False
  | .ok a ρ => Q a ρ
  | .ex x ρ => E x ρ
/-- kept shut, so that no unifier runs the program -/
structure wp {α : Type} (r : Rs α) (Q : α → Rho → Prop) (E : Ex → Rho → Prop) : Prop where
  go : wpG r Q E
section
variable {α β : Type} {Q : α → Rho → Prop} {E : Ex → Rho → Prop} {ρ : Rho}
theorem wp_mono {r : Rs α} {Q' : α → Rho → Prop} {E' : Ex → Rho → Prop} (h : wp r Q E) (k : ∀ a ρ, Q a ρ → Q' a ρ) (k' : ∀ x ρ, E x ρ → E' x ρ) : wp r Q' E' := by
  cases r with
  | bad => exact ⟨h.go⟩
  | ok a ρ => exact ⟨k _ _ h.go⟩
  | ex x ρ => exact ⟨k' _ _ h.go⟩
theorem wp_eq {r : Rs α} {a : α} (h : r = .ok a ρ) (q : Q a ρ) : wp r Q E := by rw [h]; exact ⟨q⟩
theorem wp_ex {r : Rs α} {x : Ex} (h : r = .ex x ρ) (q : E x ρ) : wp r Q E := by rw [h]; exact ⟨q⟩
theorem w_bnd {f : M β} {g : β → M α} (h : wp (f ρ) (fun b ρ' => wp (g b ρ') Q E) E) : wp (M.bnd f g ρ) Q E := by
  unfold M.bnd
  revert h
  cases f ρ with
  | bad => exact fun h => ⟨h.go⟩
  | ok a ρ' => exact fun h => h.go
  | ex x ρ' => exact fun h => ⟨h.go⟩
theorem w_ret {a : α} (h : Q a ρ) : wp (M.ret a ρ) Q E := ⟨h⟩
theorem w_lift {a : α} (h : Q a ρ) : wp (lift (some a) ρ) Q E := ⟨h⟩
end
section
variable {Q : D → Rho → Prop} {QB : Bool → Rho → Prop} {QO : O → Rho → Prop} {QF : Fl → Rho → Prop} {QA : List D → Rho → Prop} {QX : List Ar → Rho → Prop} {E : Ex → Rho → Prop} {ρ : Rho} {f g fa fb : M D} {t u : M Bool} {fs gs : M Fl} {fo : M O} {fA : M (List D)} {fX : M (List Ar)} {α : Type}
/-! statements -/
def thenW (k : Rho → Prop) (Q : Fl → Rho → Prop) : Fl → Rho → Prop
  | .nx, ρ => k ρ
  | fl, ρ => Q fl ρ
theorem w_seq (h : wp (fs ρ) (thenW (fun ρ' => wp (gs ρ') QF E) QF) E) : wp (mSeq fs gs ρ) QF E := by
  refine w_bnd (wp_mono h (fun fl ρ' k => ?_) fun _ _ k => k)
  cases fl <;> first | exact ⟨k⟩ | exact k
theorem w_nx (h : QF .nx ρ) : wp (mNx ρ) QF E := ⟨h⟩
theorem w_if {α : Type} {QQ : α → Rho → Prop} {a b : M α} (h : wp (t ρ) (fun c ρ' => (c = true → wp (a ρ') QQ E) ∧ (c = false → wp (b ρ') QQ E)) E) : wp (mIf t a b ρ) QQ E := by
  refine w_bnd (wp_mono h (fun c ρ' k => ?_) fun _ _ k => k)
  cases c with
  | true => exact k.1 rfl
  | false => exact k.2 rfl
theorem w_set {i : Nat} (h : wp (fo ρ) (fun o ρ' => i < ρ'.length ∧ QF .nx (ρ'.set i (some o))) E) : wp (mSet i fo ρ) QF E := by
  refine w_bnd (wp_mono h (fun o ρ' k => ?_) fun _ _ k => k)
  show wp (if i < ρ'.length then _ else _) _ _
  rw [if_pos k.1]
  exact ⟨k.2⟩
theorem w_retS (h : wp (fo ρ) (fun o ρ' => QF (.rt o) ρ') E) : wp (mRet fo ρ) QF E := w_bnd (wp_mono h (fun _ _ k => ⟨k⟩) fun _ _ k => k)
theorem w_exS (h : wp (fo ρ) (fun _ ρ' => QF .nx ρ') E) : wp (mEx fo ρ) QF E := w_bnd (wp_mono h (fun _ _ k => ⟨k⟩) fun _ _ k => k)
theorem w_raise {x fl : Str} (h : wp (f ρ) (fun d ρ' => E ⟨x, some (fl, d)⟩ ρ') E) : wp (mRaise x fl f ρ) QF E := w_bnd (wp_mono h (fun _ _ k => ⟨k⟩) fun _ _ k => k)
theorem w_par {i j : Nat} (h : wp (fA ρ) (fun ds ρ' => ∃ x y, ds = [x, y] ∧ (i < ρ'.length ∧ j < ρ'.length) ∧ QF .nx ((ρ'.set i (some (.dat x))).set j (some (.dat y)))) E) : wp (mPar i j fA ρ) QF E := by
  refine w_bnd (wp_mono h (fun ds ρ' k => ?_) fun _ _ k => k)
  obtain ⟨x, y, rfl, hl, q⟩ := k
  show wp (if i < ρ'.length ∧ j < ρ'.length then _ else _) _ _
  rw [if_pos hl]
  exact ⟨q⟩
theorem w_setIx {i : Nat} {fi : M D} (h : wp (f ρ) (fun d ρ' => (∃ o, ρ'[i]? = some (some o)) ∧ wp (fi ρ') (fun y ρ'' => ∃ xs k j, ρ''[i]? = some (some (.own xs)) ∧ y = .int k ∧ ixN xs.length k = some j ∧ QF .nx (ρ''.set i (some (.own (xs.set j (.dat d)))))) E) E) : wp (mSetIx i f fi ρ) QF E := by
  refine w_bnd (wp_mono h (fun d ρ' k => ?_) fun _ _ k => k)
  obtain ⟨⟨o, e0⟩, k⟩ := k
  show wp (match ρ'[i]? with | some (some _) => _ | _ => _) _ _
  rw [e0]
  refine w_bnd (wp_mono k (fun y ρ'' k => ?_) fun _ _ k => k)
  obtain ⟨xs, kk, j, e1, rfl, e2, q⟩ := k
  unfold setAt
  rw [e1]
  dsimp only
  rw [e2]
  exact ⟨q⟩
/-! tests -/
theorem w_tst (h : wp (f ρ) (fun x ρ' => ∃ b, x = .bl b ∧ QB b ρ') E) : wp (mTst f ρ) QB E := by
  refine w_bnd (wp_mono h (fun x ρ' k => ?_) fun _ _ k => k)
  obtain ⟨b, rfl, q⟩ := k
  exact ⟨q⟩
theorem w_tru (h : wp (f ρ) (fun x ρ' => ∃ b, truD x = some b ∧ QB b ρ') E) : wp (mTru f ρ) QB E := by
  refine w_bnd (wp_mono h (fun x ρ' k => ?_) fun _ _ k => k)
  obtain ⟨b, e, q⟩ := k
  rw [e]
  exact ⟨q⟩
theorem w_not (h : wp (t ρ) (fun b ρ' => QB (!b) ρ') E) : wp (mNot t ρ) QB E := w_bnd (wp_mono h (fun _ _ k => ⟨k⟩) fun _ _ k => k)
theorem w_and (h : wp (t ρ) (fun b ρ' => (b = true → wp (u ρ') QB E) ∧ (b = false → QB false ρ')) E) : wp (mAnd t u ρ) QB E := by
  refine w_bnd (wp_mono h (fun b ρ' k => ?_) fun _ _ k => k)
  cases b with
  | true => exact k.1 rfl
  | false => first | exact ⟨k.2 rfl⟩ | exact k.2 rfl
theorem w_or (h : wp (t ρ) (fun b ρ' => (b = true → QB true ρ') ∧ (b = false → wp (u ρ') QB E)) E) : wp (mOr t u ρ) QB E := by
  refine w_bnd (wp_mono h (fun b ρ' k => ?_) fun _ _ k => k)
  cases b with
  | true => first | exact ⟨k.1 rfl⟩ | exact k.1 rfl
  | false => exact k.2 rfl
/-! expressions -/
theorem w_asD (h : wp (fo ρ) (fun o ρ' => Q (fz o) ρ') E) : wp (asD fo ρ) Q E := w_bnd (wp_mono h (fun _ _ k => ⟨k⟩) fun _ _ k => k)
theorem w_asO (h : wp (f ρ) (fun d ρ' => QO (.dat d) ρ') E) : wp (asO f ρ) QO E := w_bnd (wp_mono h (fun _ _ k => ⟨k⟩) fun _ _ k => k)
theorem w_bin {op : Operator} (h : wp (fa ρ) (fun x ρ' => wp (fb ρ') (fun y ρ'' => wp (lift (binD op x y) ρ'') Q E) E) E) : wp (mBin op fa fb ρ) Q E := w_bnd (wp_mono h (fun _ _ k => w_bnd k) fun _ _ k => k)
theorem w_cmp {op : CmpOp} (h : wp (fa ρ) (fun x ρ' => wp (fb ρ') (fun y ρ'' => wp (lift (cmpD op x y) ρ'') Q E) E) E) : wp (mCmp op fa fb ρ) Q E := w_bnd (wp_mono h (fun _ _ k => w_bnd k) fun _ _ k => k)
theorem w_ix (h : wp (fa ρ) (fun x ρ' => wp (fb ρ') (fun y ρ'' => wp (lift (ixD x y) ρ'') Q E) E) E) : wp (mIx fa fb ρ) Q E := w_bnd (wp_mono h (fun _ _ k => w_bnd k) fun _ _ k => k)
theorem w_neg (h : wp (fa ρ) (fun x ρ' => wp (lift (negD x) ρ') Q E) E) : wp (mNeg fa ρ) Q E := w_bnd h
theorem w_cb {G : List D → Option D} (h : wp (fA ρ) (fun x ρ' => wp (lift (G x) ρ') Q E) E) : wp (mCB G fA ρ) Q E := w_bnd h
theorem w_andV (h : wp (f ρ) (fun x ρ' => ∃ b, truD x = some b ∧ (b = true → wp (g ρ') Q E) ∧ (b = false → Q x ρ')) E) : wp (mAndV f g ρ) Q E := by
  refine w_bnd (wp_mono h (fun x ρ' k => ?_) fun _ _ k => k)
  obtain ⟨b, e, k⟩ := k
  refine w_bnd ?_
  rw [e]
  cases b with
  | true => first | exact ⟨k.1 rfl⟩ | exact k.1 rfl
  | false => exact ⟨⟨k.2 rfl⟩⟩
theorem w_orV (h : wp (f ρ) (fun x ρ' => ∃ b, truD x = some b ∧ (b = true → Q x ρ') ∧ (b = false → wp (g ρ') Q E)) E) : wp (mOrV f g ρ) Q E := by
  refine w_bnd (wp_mono h (fun x ρ' k => ?_) fun _ _ k => k)
  obtain ⟨b, e, k⟩ := k
  refine w_bnd ?_
  rw [e]
  cases b with
  | true => exact ⟨⟨k.1 rfl⟩⟩
  | false => first | exact ⟨k.2 rfl⟩ | exact k.2 rfl
theorem w_notV (h : wp (f ρ) (fun x ρ' => ∃ b, truD x = some b ∧ Q (.bl (!b)) ρ') E) : wp (mNotV f ρ) Q E := by
  refine w_bnd (wp_mono h (fun x ρ' k => ?_) fun _ _ k => k)
  obtain ⟨b, e, k⟩ := k
  refine w_bnd ?_
  rw [e]
  exact ⟨⟨k⟩⟩
theorem w_nil (h : QA [] ρ) : wp (mNil ρ) QA E := ⟨h⟩
theorem w_cons (h : wp (f ρ) (fun x ρ' => wp (fA ρ') (fun xs ρ'' => QA (x :: xs) ρ'') E) E) : wp (mCons f fA ρ) QA E := w_bnd (wp_mono h (fun _ _ k => w_bnd (wp_mono k (fun _ _ k => ⟨k⟩) fun _ _ k => k)) fun _ _ k => k)
theorem w_lst (h : wp (fA ρ) (fun xs ρ' => xs.length ≤ big ∧ QO (.own (xs.map .dat)) ρ') E) : wp (mLst fA ρ) QO E := by
  refine w_bnd (wp_mono h (fun xs ρ' k => ?_) fun _ _ k => k)
  unfold szD
  rw [if_pos k.1]
  exact ⟨k.2⟩
theorem w_tup (h : wp (fA ρ) (fun xs ρ' => xs.length ≤ big ∧ Q (.tup xs) ρ') E) : wp (mTup fA ρ) Q E := by
  refine w_bnd (wp_mono h (fun xs ρ' k => ?_) fun _ _ k => k)
  unfold szD
  rw [if_pos k.1]
  exact ⟨k.2⟩
theorem w_var {i : Nat} {d : D} (e : ρ[i]? = some (some (.dat d))) (h : Q d ρ) : wp (mVar i ρ) Q E := by
  unfold mVar
  rw [e]
  exact ⟨h⟩
theorem w_varO {i : Nat} {xs : List O} (e : ρ[i]? = some (some (.own xs))) (h : Q (.lst (fzs xs)) (ρ.set i (some (.dat (.lst (fzs xs)))))) : wp (mVar i ρ) Q E := by
  unfold mVar
  rw [e]
  exact ⟨h⟩
theorem w_own {i : Nat} {xs : List O} (h : ∃ o, ρ[i]? = some (some o)) (k : wp (fb ρ) (fun y ρ' => wp (ownAt i y ρ') Q E) E) : wp (mOwnIx i fb ρ) Q E := by
  obtain ⟨o, e⟩ := h
  unfold mOwnIx
  rw [e]
  exact w_bnd k
theorem w_ownAt {i : Nat} {xs : List O} {k : Int} {d : D} (e : ρ[i]? = some (some (.own xs))) (e2 : L2.atI xs k = some (.dat d)) (h : Q d ρ) : wp (ownAt i (.int k) ρ) Q E := by
  unfold ownAt
  rw [e]
  dsimp only
  rw [e2]
  exact ⟨h⟩
theorem w_ownAtD {i : Nat} {x y : D} (e : ρ[i]? = some (some (.dat x))) (h : wp (lift (ixD x y) ρ) Q E) : wp (ownAt i y ρ) Q E := by
  unfold ownAt
  rw [e]
  exact h
/-! arguments, calls -/
theorem w_xnil (h : QX [] ρ) : wp (xNil ρ) QX E := ⟨h⟩
theorem w_xcons (h : wp (f ρ) (fun x ρ' => wp (fX ρ') (fun xs ρ'' => QX (.d x :: xs) ρ'') E) E) : wp (xCons f fX ρ) QX E := w_bnd (wp_mono h (fun _ _ k => w_bnd (wp_mono k (fun _ _ k => ⟨k⟩) fun _ _ k => k)) fun _ _ k => k)
theorem w_xslotD {i : Nat} {d : D} (e : ρ[i]? = some (some (.dat d))) (h : wp (fX ρ) (fun xs ρ'' => QX (.d d :: xs) ρ'') E) : wp (xSlot i fX ρ) QX E := by
  unfold xSlot
  rw [e]
  exact w_bnd (wp_mono h (fun _ _ k => ⟨k⟩) fun _ _ k => k)
theorem w_xslotO {i : Nat} {xs : List O} (e : ρ[i]? = some (some (.own xs))) (h : wp (fX ρ) (fun xs ρ'' => QX (.s i :: xs) ρ'') E) : wp (xSlot i fX ρ) QX E := by
  unfold xSlot
  rw [e]
  exact w_bnd (wp_mono h (fun _ _ k => ⟨k⟩) fun _ _ k => k)
end
/-- a def's outcome on these arguments -/
def Call (t : Ent) (os : List O) (Q : O → Rho → Prop) (E : Ex → Rho → Prop) : Prop := wp (t.F os) Q E
def asAr (ds : List D) : List Ar := ds.map .d
theorem objs_d {ρ : Rho} : ∀ ds : List D, objs ρ (asAr ds) = some (ds.map .dat)
  | [] => rfl
  | d :: ds => by
    show (objs ρ (asAr ds)).map _ = _
    rw [objs_d ds]; rfl
theorem backs_d {ρ : Rho} : ∀ (ds : List D) (ρ' : Rho), ds.length ≤ ρ'.length → backs ρ (asAr ds) ρ' = some ρ
  | [], ρ', _ => by cases ρ' <;> rfl
  | d :: ds, [], h => by simp at h
  | d :: ds, x :: ρ', h => by
    show backs ρ (asAr ds) ρ' = _
    exact backs_d ds ρ' (by simpa using h)
theorem slots_d : ∀ ds : List D, slots (asAr ds) = []
  | [] => rfl
  | d :: ds => slots_d ds
section
variable {QO : O → Rho → Prop} {E : Ex → Rho → Prop} {ρ : Rho} {fX : M (List Ar)} {t : Ent}
/-- a call on data -/
theorem w_callD (h : wp (fX ρ) (fun as ρ' => ∃ ds, as = asAr ds ∧ (ds.length ≤ t.ps.length ∧ t.ps.length ≤ ds.length + t.dfl.length) ∧ Call t ((ds ++ t.dfl.drop (ds.length + t.dfl.length - t.ps.length)).map .dat) (fun o ρ'' => ds.length ≤ ρ''.length ∧ QO o ρ') (fun x ρ'' => ds.length ≤ ρ''.length ∧ E x ρ')) E) : wp (mCall t fX ρ) QO E := by
  refine w_bnd (wp_mono h (fun as ρ' k => ?_) fun _ _ k => k)
  obtain ⟨ds, rfl, hl, k⟩ := k
  have e1 : (asAr ds).length = ds.length := by simp [asAr]
  have e2 : objs ρ' (asAr ds ++ (t.dfl.drop ((asAr ds).length + t.dfl.length - t.ps.length)).map .d) = some ((ds ++ t.dfl.drop (ds.length + t.dfl.length - t.ps.length)).map .dat) := by
    rw [e1, ← objs_d (ρ := ρ')]
    simp [asAr]
  show wp (if _ then _ else _) _ _
  rw [if_pos ⟨by rw [e1]; exact hl.1, by rw [e1]; exact hl.2, by rw [slots_d]; rfl⟩, e2]
  unfold Call at k
  dsimp only
  revert k
  cases t.F ((ds ++ t.dfl.drop (ds.length + t.dfl.length - t.ps.length)).map .dat) with
  | bad => exact fun k => k.go.elim
  | ok o ρ'' =>
    rintro ⟨k⟩
    dsimp only
    rw [backs_d ds ρ'' k.1]
    exact ⟨k.2⟩
  | ex x ρ'' =>
    rintro ⟨k⟩
    dsimp only
    rw [backs_d ds ρ'' k.1]
    exact ⟨k.2⟩
/-- .. on an owned list and data -/
theorem w_callO {i : Nat} (h : wp (fX ρ) (fun as ρ' => ∃ ds xs, as = .s i :: asAr ds ∧ ρ'[i]? = some (some (.own xs)) ∧ ds.length + 1 = t.ps.length ∧ t.dfl = [] ∧ Call t (.own xs :: ds.map .dat) (fun o ρ'' => ∃ o' r, ρ'' = some o' :: r ∧ ds.length ≤ r.length ∧ QO o (ρ'.set i (some o'))) (fun x ρ'' => ∃ o' r, ρ'' = some o' :: r ∧ ds.length ≤ r.length ∧ E x (ρ'.set i (some o')))) E) : wp (mCall t fX ρ) QO E := by
  refine w_bnd (wp_mono h (fun as ρ' k => ?_) fun _ _ k => k)
  obtain ⟨ds, xs, rfl, e, hl, hd, k⟩ := k
  have e1 : (asAr ds).length = ds.length := by simp [asAr]
  have e2 : objs ρ' (.s i :: asAr ds ++ (t.dfl.drop ((Ar.s i :: asAr ds).length + t.dfl.length - t.ps.length)).map .d) = some (.own xs :: ds.map .dat) := by
    rw [hd]
    simp only [List.drop_nil, List.map_nil, List.append_nil]
    show (match ρ'[i]? with | some (some o) => (objs ρ' (asAr ds)).map (o :: ·) | _ => none) = _
    rw [e, objs_d]; rfl
  show wp (if _ then _ else _) _ _
  rw [if_pos ⟨by simp [e1]; omega, by simp [e1]; omega, by show ndB (i :: slots (asAr ds)) = true; rw [slots_d]; rfl⟩, e2]
  unfold Call at k
  dsimp only
  revert k
  cases t.F (.own xs :: ds.map .dat) with
  | bad => exact fun k => k.go.elim
  | ok o ρ'' =>
    rintro ⟨⟨o', r, rfl, hr, k⟩⟩
    dsimp only
    have : backs ρ' (.s i :: asAr ds) (some o' :: r) = some (ρ'.set i (some o')) := by
      simp only [backs, e]
      exact backs_d ds r hr
    rw [this]
    exact ⟨k⟩
  | ex x ρ'' =>
    rintro ⟨⟨o', r, rfl, hr, k⟩⟩
    dsimp only
    have : backs ρ' (.s i :: asAr ds) (some o' :: r) = some (ρ'.set i (some o')) := by
      simp only [backs, e]
      exact backs_d ds r hr
    rw [this]
    exact ⟨k⟩
end
/-- a body's outcome as the call's -/
theorem call_body {N n : Nat} {io : List Nat} {g : M Fl} {os : List O} {Q : O → Rho → Prop} {E : Ex → Rho → Prop} (hl : os.length = n) (hi : okIn io 0 os = true)
    (h : wp (g (os.map some ++ List.replicate (N - n) none)) (fun fl ρ => okB os ρ = true ∧ ((fl = .nx ∧ Q (.dat .non) ρ) ∨ ∃ o, fl = .rt o ∧ Q o ρ)) (fun x ρ => okB os ρ = true ∧ E x ρ)) : wp (bodyF N n io g os) Q E := by
  unfold bodyF
  rw [if_pos ⟨hl, hi⟩]
  revert h
  cases g (os.map some ++ List.replicate (N - n) none) with
  | bad => exact fun h => h.go.elim
  | ok fl ρ =>
    rintro ⟨⟨h1, h2⟩⟩
    rcases h2 with ⟨rfl, q⟩ | ⟨o, rfl, q⟩
    · unfold fin; dsimp only; rw [if_pos h1]; exact ⟨q⟩
    · unfold fin; dsimp only; rw [if_pos h1]; exact ⟨q⟩
  | ex x ρ =>
    rintro ⟨⟨h1, h2⟩⟩
    unfold fin; dsimp only; rw [if_pos h1]; exact ⟨h2⟩
end PL

end
-- text PL20
section
set_option linter.all false
set_option maxRecDepth 100000
set_option maxHeartbeats 4000000
namespace PL
open PySem PySem.Spec L2
section
variable {Q : D → Rho → Prop} {QF : Fl → Rho → Prop} {QB : Bool → Rho → Prop} {E : Ex → Rho → Prop} {ρ : Rho} {a b : Int} {k : Rho → Prop} {o : O}
theorem fz_dat {d : D} : fz (.dat d) = d := rfl
theorem fzs_dats : ∀ ds : List D, fzs (ds.map .dat) = ds
  | [] => rfl
  | d :: ds => by
    show fz (.dat d) :: fzs (ds.map .dat) = _
    rw [fzs_dats ds]; rfl
theorem fz_own {ds : List D} : fz (.own (ds.map .dat)) = .lst ds := by
  show D.lst (fzs (ds.map .dat)) = _
  rw [fzs_dats]
theorem w_lrg2 {fa fb : M D} {QO : O → Rho → Prop} (h : wp (fa ρ) (fun x ρ' => wp (fb ρ') (fun y ρ'' => wp (lift (lrg x y) ρ'') QO E) E) E) : wp (mLRg2 fa fb ρ) QO E := w_bnd (wp_mono h (fun _ _ k => w_bnd k) fun _ _ k => k)
theorem w_lrg1 {fb : M D} {QO : O → Rho → Prop} (h : wp (fb ρ) (fun y ρ'' => wp (lift (lrg (.int 0) y) ρ'') QO E) E) : wp (mLRg1 fb ρ) QO E := w_bnd h
theorem l_lrg {QO : O → Rho → Prop} (c : -(2 ^ 62) ≤ a ∧ a < 2 ^ 62 ∧ -(2 ^ 62) ≤ b ∧ b < 2 ^ 62 ∧ (b - a).toNat ≤ 2 ^ 24) (h : QO (.own ((rngL a (b - a).toNat).map .dat)) ρ) : wp (lift (lrg (.int a) (.int b)) ρ) QO E := by
  unfold lrg
  dsimp only
  rw [if_pos c]
  exact ⟨h⟩
theorem t_nx (h : k ρ) : thenW k QF .nx ρ := h
theorem t_rt (h : QF (.rt o) ρ) : thenW k QF (.rt o) ρ := h
theorem l_add (h : Q (.int (a + b)) ρ) : wp (lift (binD .Add (.int a) (.int b)) ρ) Q E := ⟨h⟩
theorem l_sub (h : Q (.int (a - b)) ρ) : wp (lift (binD .Sub (.int a) (.int b)) ρ) Q E := ⟨h⟩
theorem l_mul (c : (-(2 ^ 63) < a ∧ a < 2 ^ 63) ∨ (-(2 ^ 63) < b ∧ b < 2 ^ 63)) (h : Q (.int (a * b)) ρ) : wp (lift (binD .Mult (.int a) (.int b)) ρ) Q E := by
  show wp (lift (if a.natAbs < 2 ^ 64 ∨ b.natAbs < 2 ^ 64 ∨ (a.natAbs < 2 ^ 200 ∧ b.natAbs < 2 ^ 200) then some (D.int (a * b)) else none) ρ) Q E
  rw [if_pos (by omega)]
  exact ⟨h⟩
theorem l_mulW (c : (-(10 ^ 59) < a ∧ a < 10 ^ 59) ∧ (-(10 ^ 59) < b ∧ b < 10 ^ 59)) (h : Q (.int (a * b)) ρ) : wp (lift (binD .Mult (.int a) (.int b)) ρ) Q E := by
  show wp (lift (if a.natAbs < 2 ^ 64 ∨ b.natAbs < 2 ^ 64 ∨ (a.natAbs < 2 ^ 200 ∧ b.natAbs < 2 ^ 200) then some (D.int (a * b)) else none) ρ) Q E
  have h1 : a.natAbs < 2 ^ 200 := by omega
  have h2 : b.natAbs < 2 ^ 200 := by omega
  rw [if_pos (.inr (.inr ⟨h1, h2⟩))]
  exact ⟨h⟩
theorem l_mod (c : 0 < b) (h : Q (.int (a % b)) ρ) : wp (lift (binD .Mod (.int a) (.int b)) ρ) Q E := by
  show wp (lift (if 0 < b then some (D.int (a % b)) else none) ρ) Q E
  rw [if_pos c]
  exact ⟨h⟩
theorem l_div (c : 0 < b ∧ b < 2 ^ 200) (h : Q (.int (a / b)) ρ) : wp (lift (binD .FloorDiv (.int a) (.int b)) ρ) Q E := by
  show wp (lift (if 0 < b ∧ b < 2 ^ 200 then some (D.int (a / b)) else none) ρ) Q E
  rw [if_pos c]
  exact ⟨h⟩
theorem l_pow (c : (0 ≤ b ∧ b ≤ 1000000) ∧ -(2 ^ 63) < a ∧ a < 2 ^ 63) (h : Q (.int (a ^ b.toNat)) ρ) : wp (lift (binD .Pow (.int a) (.int b)) ρ) Q E := by
  show wp (lift (if 0 ≤ b ∧ b ≤ 1000000 ∧ a.natAbs < 2 ^ 64 then some (D.int (a ^ b.toNat)) else none) ρ) Q E
  rw [if_pos (by omega)]
  exact ⟨h⟩
theorem l_neg (h : Q (.int (-a)) ρ) : wp (lift (negD (.int a)) ρ) Q E := ⟨h⟩
theorem l_lt (h : Q (.bl (decide (a < b))) ρ) : wp (lift (cmpD .Lt (.int a) (.int b)) ρ) Q E := ⟨h⟩
theorem l_le (h : Q (.bl (decide (a ≤ b))) ρ) : wp (lift (cmpD .LtE (.int a) (.int b)) ρ) Q E := ⟨h⟩
theorem l_gt (h : Q (.bl (decide (b < a))) ρ) : wp (lift (cmpD .Gt (.int a) (.int b)) ρ) Q E := ⟨h⟩
theorem l_ge (h : Q (.bl (decide (b ≤ a))) ρ) : wp (lift (cmpD .GtE (.int a) (.int b)) ρ) Q E := ⟨h⟩
theorem l_eqI (h : Q (.bl (a == b)) ρ) : wp (lift (cmpD .Eq (.int a) (.int b)) ρ) Q E := ⟨h⟩
theorem l_neI (h : Q (.bl (!(a == b))) ρ) : wp (lift (cmpD .NotEq (.int a) (.int b)) ρ) Q E := ⟨h⟩
theorem l_eqS {x y : Str} (h : Q (.bl (x == y)) ρ) : wp (lift (cmpD .Eq (.str x) (.str y)) ρ) Q E := ⟨h⟩
theorem l_neS {x y : Str} (h : Q (.bl (!(x == y))) ρ) : wp (lift (cmpD .NotEq (.str x) (.str y)) ρ) Q E := ⟨h⟩
theorem l_eqB {x y : Bool} (h : Q (.bl (x == y)) ρ) : wp (lift (cmpD .Eq (.bl x) (.bl y)) ρ) Q E := ⟨h⟩
theorem l_neB {x y : Bool} (h : Q (.bl (!(x == y))) ρ) : wp (lift (cmpD .NotEq (.bl x) (.bl y)) ρ) Q E := ⟨h⟩
theorem l_int (h : Q (.int a) ρ) : wp (lift (intD [.int a]) ρ) Q E := ⟨h⟩
theorem l_max (h : Q (.int (if b > a then b else a)) ρ) : wp (lift (maxD [.int a, .int b]) ρ) Q E := ⟨h⟩
theorem l_min (h : Q (.int (if b < a then b else a)) ρ) : wp (lift (minD [.int a, .int b]) ρ) Q E := ⟨h⟩
end
section
variable {Q : D → Rho → Prop} {E : Ex → Rho → Prop} {ρ : Rho} {f f' : M D} {fs : List (M D)} {op op' : CmpOp} {ops : List CmpOp} {a : D}
theorem w_ch (h : wp (f ρ) (fun x ρ' => wp (mChain x ops fs ρ') Q E) E) : wp (mCh f ops fs ρ) Q E := w_bnd h
theorem w_chain1 (h : wp (f ρ) (fun y ρ' => wp (lift (cmpD op a y) ρ') Q E) E) : wp (mChain a [op] [f] ρ) Q E := w_bnd h
theorem w_chain2 (h : wp (f ρ) (fun y ρ' => wp (lift (cmpD op a y) ρ') (fun c ρ'' => ∃ b, truD c = some b ∧ (b = true → wp (mChain y (op' :: ops) (f' :: fs) ρ'') Q E) ∧ (b = false → Q c ρ'')) E) E) : wp (mChain a (op :: op' :: ops) (f :: f' :: fs) ρ) Q E := by
  refine w_bnd (wp_mono h (fun y ρ' k => ?_) fun _ _ k => k)
  refine w_bnd (wp_mono k (fun c ρ'' k => ?_) fun _ _ k => k)
  obtain ⟨b, e, k⟩ := k
  refine w_bnd ?_
  rw [e]
  cases b with
  | true => exact ⟨k.1 rfl⟩
  | false => exact ⟨⟨k.2 rfl⟩⟩
end
theorem w_cut {fs gs : M Fl} {ρ : Rho} {QF : Fl → Rho → Prop} {E : Ex → Rho → Prop} (A : Rho → Prop) (h : wp (fs ρ) (thenW A QF) E) (k : ∀ ρ', A ρ' → wp (gs ρ') QF E) : wp (mSeq fs gs ρ) QF E :=
  w_seq (wp_mono h (fun fl ρ' q => by cases fl <;> first | exact k _ q | exact q) fun _ _ q => q)
theorem c_t {c : Bool} {A B : Prop} (e : c = true) (h : A) : (c = true → A) ∧ (c = false → B) := ⟨fun _ => h, fun z => (by rw [e] at z; cases z)⟩
theorem c_f {c : Bool} {A B : Prop} (e : c = false) (h : B) : (c = true → A) ∧ (c = false → B) := ⟨fun z => (by rw [e] at z; cases z), fun _ => h⟩
/-! the shapes of side goals -/
theorem s_ex {α : Type} {P Q : α → Prop} {a : α} (h : P a) (k : Q a) : ∃ a, P a ∧ Q a := ⟨a, h, k⟩
theorem s_lt {i : Nat} {l : List (Option O)} {Q : Prop} (h : Nat.ble (i + 1) l.length = true) (k : Q) : i < l.length ∧ Q := ⟨Nat.le_of_ble_eq_true h, k⟩
theorem s_le {n : Nat} {l : List D} {Q : Prop} (h : Nat.ble l.length n = true) (k : Q) : l.length ≤ n ∧ Q := ⟨Nat.le_of_ble_eq_true h, k⟩
theorem s_par {ds : List D} {l : List (Option O)} {i j : Nat} {x y : D} {Q : D → D → Prop} (h : ds = [x, y]) (h1 : Nat.ble (i + 1) l.length = true) (h2 : Nat.ble (j + 1) l.length = true) (k : Q x y) : ∃ x y, ds = [x, y] ∧ (i < l.length ∧ j < l.length) ∧ Q x y := ⟨x, y, h, ⟨Nat.le_of_ble_eq_true h1, Nat.le_of_ble_eq_true h2⟩, k⟩
theorem s_has {l : List (Option O)} {i : Nat} {o : O} {Q : Prop} (h : l[i]? = some (some o)) (k : Q) : (∃ o, l[i]? = some (some o)) ∧ Q := ⟨⟨o, h⟩, k⟩
theorem s_six {l : List (Option O)} {i : Nat} {y : D} {xs : List O} {k : Int} {j : Nat} {Q : List O → Int → Nat → Prop} (h1 : l[i]? = some (some (.own xs))) (h2 : y = .int k) (h3 : ixN xs.length k = some j) (q : Q xs k j) : ∃ xs k j, l[i]? = some (some (.own xs)) ∧ y = .int k ∧ ixN xs.length k = some j ∧ Q xs k j := ⟨xs, k, j, h1, h2, h3, q⟩
/-! ### loops -/
def turnW (k : Rho → Prop) (Q : Fl → Rho → Prop) : Fl → Rho → Prop
  | .nx, ρ => k ρ
  | .ct, ρ => k ρ
  | .bk, ρ => Q .nx ρ
  | .rt o, ρ => Q (.rt o) ρ
section
variable {QF : Fl → Rho → Prop} {E : Ex → Rho → Prop} {gt : Tgt} {fb : M Fl}
theorem u_nx {k : Rho → Prop} {ρ : Rho} (h : k ρ) : turnW k QF .nx ρ := h
theorem u_rt {k : Rho → Prop} {ρ : Rho} {o : O} (h : QF (.rt o) ρ) : turnW k QF (.rt o) ρ := h
theorem w_forL : ∀ (ds : List D) (I : Nat → Rho → Prop) {ρ : Rho}, I 0 ρ → (∀ i d ρ, ds[i]? = some d → I i ρ → ∃ ρ', gt d ρ = some ρ' ∧ wp (fb ρ') (turnW (I (i + 1)) QF) E) → (∀ ρ, I ds.length ρ → QF .nx ρ) → wp (forL gt fb ds ρ) QF E
  | [], I, ρ, h0, _, hf => ⟨hf ρ h0⟩
  | d :: ds, I, ρ, h0, hs, hf => by
    obtain ⟨ρ', e, h⟩ := hs 0 d ρ rfl h0
    show wp (match gt d ρ with | some ρ' => fb.bnd (turnEnd (forL gt fb ds)) ρ' | none => .bad) QF E
    rw [e]
    refine w_bnd (wp_mono h (fun fl ρ2 k => ?_) fun _ _ k => k)
    have go : I 1 ρ2 → wp (forL gt fb ds ρ2) QF E := fun k => w_forL ds (fun i => I (i + 1)) k (fun i d ρ e k => hs (i + 1) d ρ (by simpa using e) k) fun ρ k => hf ρ k
    cases fl with
    | nx => exact go k
    | ct => exact go k
    | bk => exact ⟨k⟩
    | rt o => exact ⟨k⟩
theorem w_for {fi : M (List D)} {ρ : Rho} (h : wp (fi ρ) (fun ds ρ' => wp (forL gt fb ds ρ') QF E) E) : wp (mFor fi gt fb ρ) QF E := w_bnd h
theorem w_items {f : M D} {QA : List D → Rho → Prop} {ρ : Rho} (h : wp (f ρ) (fun x ρ' => ∃ ds, itemsD x = some ds ∧ QA ds ρ') E) : wp (mItems f ρ) QA E := by
  refine w_bnd (wp_mono h (fun x ρ' k => ?_) fun _ _ k => k)
  obtain ⟨ds, e, q⟩ := k
  rw [e]; exact ⟨q⟩
theorem w_rng1 {f : M (List D)} {QA : List D → Rho → Prop} {ρ : Rho} (h : wp (f ρ) (fun x ρ' => ∃ j, x = [.int j] ∧ (-(2 ^ 62) ≤ j ∧ j < 2 ^ 62) ∧ QA (rngL 0 j.toNat) ρ') E) : wp (mRng1 f ρ) QA E := by
  refine w_bnd (wp_mono h (fun x ρ' k => ?_) fun _ _ k => k)
  obtain ⟨j, rfl, hz, q⟩ := k
  show wp (lift (if -(2 ^ 62) ≤ j ∧ j < 2 ^ 62 then some (rngL 0 j.toNat) else none) ρ') QA E
  rw [if_pos hz]; exact ⟨q⟩
theorem w_rng2 {f : M (List D)} {QA : List D → Rho → Prop} {ρ : Rho} (h : wp (f ρ) (fun x ρ' => ∃ i j, x = [.int i, .int j] ∧ (-(2 ^ 62) ≤ i ∧ i < 2 ^ 62 ∧ -(2 ^ 62) ≤ j ∧ j < 2 ^ 62) ∧ QA (rngL i (j - i).toNat) ρ') E) : wp (mRng2 f ρ) QA E := by
  refine w_bnd (wp_mono h (fun x ρ' k => ?_) fun _ _ k => k)
  obtain ⟨i, j, rfl, hz, q⟩ := k
  show wp (lift (if -(2 ^ 62) ≤ i ∧ i < 2 ^ 62 ∧ -(2 ^ 62) ≤ j ∧ j < 2 ^ 62 then some (rngL i (j - i).toNat) else none) ρ') QA E
  rw [if_pos hz]; exact ⟨q⟩
theorem rngL_get {lo : Int} {n i : Nat} {d : D} (h : (rngL lo n)[i]? = some d) : d = .int (lo + i) ∧ i < n := by
  unfold rngL at h
  rw [List.getElem?_map] at h
  cases e : (List.range n)[i]? with
  | none => rw [e] at h; cases h
  | some j =>
    rw [e] at h
    obtain ⟨h1, h2⟩ := List.getElem?_eq_some_iff.mp e
    rw [List.getElem_range] at h2
    subst h2
    cases h
    exact ⟨rfl, by simpa using h1⟩
theorem rngL_len {lo : Int} {n : Nat} : (rngL lo n).length = n := by simp [rngL]
end
/-! ### an item by a number within the list -/
theorem atI_in {α : Type} {xs : List α} {k : Int} (h0 : 0 ≤ k) (h1 : k < xs.length) : ∃ x, x ∈ xs ∧ L2.atI xs k = some x := by
  have hk : k.toNat < xs.length := by omega
  refine ⟨xs[k.toNat], List.getElem_mem hk, ?_⟩
  unfold L2.atI ixN
  rw [if_pos h0, if_pos h1]
  simp [hk]

/-! ### the draws of the laws -/
def bx (a b n : Int) : List O := [.dat (.int a), .dat (.int b), .dat (.int n)]
def Bx (xs : List O) (n : Int) : Prop := ∃ a b i, xs = bx a b i ∧ 0 ≤ a ∧ 0 ≤ b ∧ b < 2147483648 ∧ 0 ≤ i ∧ i ≤ n
theorem Bx.up {xs : List O} {n m : Int} (h : Bx xs n) (l : n ≤ m) : Bx xs m := by
  obtain ⟨a, b, i, e, h1, h2, h3, h4, h5⟩ := h
  exact ⟨a, b, i, e, h1, h2, h3, h4, by omega⟩
def gTake (c1 c2 c3 : Int) : M Fl := (mSeq (mIf (mTst (mCmp .Gt (mOwnIx 0 (M.ret (.int 0))) (M.ret (.int 0)))) (mSeq (mSet 2 (asO (mBin .Mod (mCB intD (mCons (mOwnIx 0 (M.ret (.int 0))) mNil)) (mVar 1))))
  (mSeq (mSetIx 0 (mBin .FloorDiv (mOwnIx 0 (M.ret (.int 0))) (mVar 1)) (M.ret (.int 0)))
  (mSeq (mRet (asO (mVar 2)))
  mNx))) mNx)
  (mSeq (mSetIx 0 (mBin .Add (mOwnIx 0 (M.ret (.int 2))) (M.ret (.int 1))) (M.ret (.int 2)))
  (mSeq (mSet 3 (asO (mBin .Mod (mBin .Pow (mCB intD (mCons (mBin .Add (mBin .Add (mOwnIx 0 (M.ret (.int 1))) (mBin .Mult (M.ret (.int c1)) (mOwnIx 0 (M.ret (.int 2))))) (M.ret (.int c2))) mNil)) (M.ret (.int 5))) (M.ret (.int 2147483647)))))
  (mSeq (mSet 3 (asO (mBin .Mod (mBin .Pow (mCB intD (mCons (mBin .Add (mVar 3) (mBin .Mult (M.ret (.int c3)) (mOwnIx 0 (M.ret (.int 2))))) mNil)) (M.ret (.int 3))) (M.ret (.int 2147483587)))))
  (mSeq (mRet (asO (mBin .Mod (mCB intD (mCons (mBin .FloorDiv (mVar 3) (M.ret (.int 16))) mNil)) (mVar 1))))
  mNx)))))
theorem take_ok {t : Ent} {c1 c2 c3 : Int} (ht : t.F = bodyF 4 2 [0, 1] (gTake c1 c2 c3)) (hc : (0 ≤ c1 ∧ c1 ≤ 100000) ∧ (0 ≤ c2 ∧ c2 ≤ 100000) ∧ 0 ≤ c3 ∧ c3 ≤ 1000000) {xs : List O} {n m : Int} (hb : Bx xs n) (hn : n ≤ 100000) (hm : 0 < m ∧ m < 2 ^ 200) {Q : O → Rho → Prop} {E : Ex → Rho → Prop}
    (k : ∀ r xs' ρ', 0 ≤ r → r < m → Bx xs' (n + 1) → 1 ≤ ρ'.length → Q (.dat (.int r)) (some (.own xs') :: ρ')) : Call t [.own xs, .dat (.int m)] Q E := by
  obtain ⟨a, b, i, rfl, ha, hb0, hb1, hi0, hi1⟩ := hb
  have hm0 := hm.1
  have p1 : 0 ≤ c1 * (i + 1) ∧ c1 * (i + 1) ≤ 100000 * 100001 := ⟨Int.mul_nonneg hc.1.1 (by omega), Int.mul_le_mul hc.1.2 (by omega) (by omega) (by omega)⟩
  have p3 : 0 ≤ c3 * (i + 1) ∧ c3 * (i + 1) ≤ 1000000 * 100001 := ⟨Int.mul_nonneg hc.2.2.1 (by omega), Int.mul_le_mul hc.2.2.2 (by omega) (by omega) (by omega)⟩
  unfold Call
  rw [ht]
  (refine call_body ?_ ?_ ?_; rfl; rfl)
  show wp (gTake c1 c2 c3 [some (.own (bx a b i)), some (.dat (.int m)), none, none]) _ _
  unfold gTake
  repeat (first | with_reducible refine w_seq ?_ | with_reducible refine w_nx ?_ | with_reducible refine w_if ?_ | with_reducible refine w_set ?_ | with_reducible refine w_retS ?_ | with_reducible refine w_exS ?_ | with_reducible refine w_raise ?_ | with_reducible refine w_par ?_ | with_reducible refine w_setIx ?_ | with_reducible refine w_tst ?_ | with_reducible refine w_tru ?_ | with_reducible refine w_not ?_ | with_reducible refine w_and ?_ | with_reducible refine w_or ?_ | with_reducible refine w_asD ?_ | with_reducible refine w_asO ?_ | with_reducible refine w_bin ?_ | with_reducible refine w_cmp ?_ | with_reducible refine w_ix ?_ | with_reducible refine w_neg ?_ | with_reducible refine w_cb ?_ | with_reducible refine w_andV ?_ | with_reducible refine w_orV ?_ | with_reducible refine w_notV ?_ | with_reducible refine w_nil ?_ | with_reducible refine w_cons ?_ | with_reducible refine w_lst ?_ | with_reducible refine w_tup ?_ | with_reducible refine w_xnil ?_ | with_reducible refine w_xcons ?_ | with_reducible refine w_for ?_ | with_reducible refine w_lrg1 ?_ | with_reducible refine w_lrg2 ?_ | with_reducible refine w_ch ?_ | with_reducible refine w_chain1 ?_ | with_reducible refine w_chain2 ?_ | with_reducible refine w_items ?_ | with_reducible refine w_rng1 ?_ | with_reducible refine w_rng2 ?_ | with_reducible refine w_ret ?_ | with_reducible refine t_nx ?_ | with_reducible refine t_rt ?_ | with_reducible refine u_nx ?_ | with_reducible refine u_rt ?_ | with_reducible refine l_add ?_ | with_reducible refine l_sub ?_ | with_reducible refine l_neg ?_ | with_reducible refine l_lt ?_ | with_reducible refine l_le ?_ | with_reducible refine l_gt ?_ | with_reducible refine l_ge ?_ | with_reducible refine l_eqI ?_ | with_reducible refine l_neI ?_ | with_reducible refine l_eqS ?_ | with_reducible refine l_neS ?_ | with_reducible refine l_eqB ?_ | with_reducible refine l_neB ?_ | with_reducible refine l_int ?_ | with_reducible refine l_max ?_ | with_reducible refine l_min ?_ | ((with_reducible apply w_var); rfl) | ((with_reducible apply w_varO); rfl) | ((with_reducible refine w_own (xs := []) ?_ ?_); exact ⟨_, rfl⟩) | ((with_reducible apply w_ownAt); rfl; rfl) | ((with_reducible apply w_ownAtD); rfl) | ((with_reducible apply w_xslotD); rfl) | ((with_reducible apply w_xslotO); rfl) | ((with_reducible refine l_mod ?_ ?_); (first | assumption | omega | exact ⟨by omega, by decide⟩)) | ((with_reducible refine l_div ?_ ?_); (first | assumption | omega | exact ⟨by omega, by decide⟩)) | ((with_reducible refine l_pow ?_ ?_); (first | assumption | omega | exact ⟨by omega, by decide⟩)) | ((with_reducible refine l_lrg ?_ ?_); (first | assumption | omega | exact ⟨by omega, by omega, by omega, by omega, by omega⟩)) | ((with_reducible refine l_mul ?_ ?_); (first | assumption | omega | exact ⟨by omega, by decide⟩)) | ((with_reducible apply c_t); rfl) | ((with_reducible apply c_f); rfl) | ((with_reducible apply s_lt); rfl) | ((with_reducible apply s_le); rfl) | ((with_reducible apply s_par); rfl; rfl; rfl) | ((with_reducible apply s_has); rfl) | ((with_reducible apply s_six); rfl; rfl; rfl) | ((with_reducible apply s_ex); rfl) | (rw [fz_dat]) | (rw [fz_own]) | ((with_reducible apply l_some); rfl))
  refine ⟨fun hc => ?_, fun hc => ?_⟩
  · repeat (first | with_reducible refine w_seq ?_ | with_reducible refine w_nx ?_ | with_reducible refine w_if ?_ | with_reducible refine w_set ?_ | with_reducible refine w_retS ?_ | with_reducible refine w_exS ?_ | with_reducible refine w_raise ?_ | with_reducible refine w_par ?_ | with_reducible refine w_setIx ?_ | with_reducible refine w_tst ?_ | with_reducible refine w_tru ?_ | with_reducible refine w_not ?_ | with_reducible refine w_and ?_ | with_reducible refine w_or ?_ | with_reducible refine w_asD ?_ | with_reducible refine w_asO ?_ | with_reducible refine w_bin ?_ | with_reducible refine w_cmp ?_ | with_reducible refine w_ix ?_ | with_reducible refine w_neg ?_ | with_reducible refine w_cb ?_ | with_reducible refine w_andV ?_ | with_reducible refine w_orV ?_ | with_reducible refine w_notV ?_ | with_reducible refine w_nil ?_ | with_reducible refine w_cons ?_ | with_reducible refine w_lst ?_ | with_reducible refine w_tup ?_ | with_reducible refine w_xnil ?_ | with_reducible refine w_xcons ?_ | with_reducible refine w_for ?_ | with_reducible refine w_lrg1 ?_ | with_reducible refine w_lrg2 ?_ | with_reducible refine w_ch ?_ | with_reducible refine w_chain1 ?_ | with_reducible refine w_chain2 ?_ | with_reducible refine w_items ?_ | with_reducible refine w_rng1 ?_ | with_reducible refine w_rng2 ?_ | with_reducible refine w_ret ?_ | with_reducible refine t_nx ?_ | with_reducible refine t_rt ?_ | with_reducible refine u_nx ?_ | with_reducible refine u_rt ?_ | with_reducible refine l_add ?_ | with_reducible refine l_sub ?_ | with_reducible refine l_neg ?_ | with_reducible refine l_lt ?_ | with_reducible refine l_le ?_ | with_reducible refine l_gt ?_ | with_reducible refine l_ge ?_ | with_reducible refine l_eqI ?_ | with_reducible refine l_neI ?_ | with_reducible refine l_eqS ?_ | with_reducible refine l_neS ?_ | with_reducible refine l_eqB ?_ | with_reducible refine l_neB ?_ | with_reducible refine l_int ?_ | with_reducible refine l_max ?_ | with_reducible refine l_min ?_ | ((with_reducible apply w_var); rfl) | ((with_reducible apply w_varO); rfl) | ((with_reducible refine w_own (xs := []) ?_ ?_); exact ⟨_, rfl⟩) | ((with_reducible apply w_ownAt); rfl; rfl) | ((with_reducible apply w_ownAtD); rfl) | ((with_reducible apply w_xslotD); rfl) | ((with_reducible apply w_xslotO); rfl) | ((with_reducible refine l_mod ?_ ?_); (first | assumption | omega | exact ⟨by omega, by decide⟩)) | ((with_reducible refine l_div ?_ ?_); (first | assumption | omega | exact ⟨by omega, by decide⟩)) | ((with_reducible refine l_pow ?_ ?_); (first | assumption | omega | exact ⟨by omega, by decide⟩)) | ((with_reducible refine l_lrg ?_ ?_); (first | assumption | omega | exact ⟨by omega, by omega, by omega, by omega, by omega⟩)) | ((with_reducible refine l_mul ?_ ?_); (first | assumption | omega | exact ⟨by omega, by decide⟩)) | ((with_reducible apply c_t); rfl) | ((with_reducible apply c_f); rfl) | ((with_reducible apply s_lt); rfl) | ((with_reducible apply s_le); rfl) | ((with_reducible apply s_par); rfl; rfl; rfl) | ((with_reducible apply s_has); rfl) | ((with_reducible apply s_six); rfl; rfl; rfl) | ((with_reducible apply s_ex); rfl) | (rw [fz_dat]) | (rw [fz_own]) | ((with_reducible apply l_some); rfl))
    exact ⟨rfl, .inr ⟨_, rfl, k _ _ _ (Int.emod_nonneg _ (by omega)) (Int.emod_lt_of_pos _ hm.1) ⟨a / m, b, i, rfl, Int.ediv_nonneg ha (by omega), hb0, hb1, hi0, by omega⟩ (by simp)⟩⟩
  · repeat (first | with_reducible refine w_seq ?_ | with_reducible refine w_nx ?_ | with_reducible refine w_if ?_ | with_reducible refine w_set ?_ | with_reducible refine w_retS ?_ | with_reducible refine w_exS ?_ | with_reducible refine w_raise ?_ | with_reducible refine w_par ?_ | with_reducible refine w_setIx ?_ | with_reducible refine w_tst ?_ | with_reducible refine w_tru ?_ | with_reducible refine w_not ?_ | with_reducible refine w_and ?_ | with_reducible refine w_or ?_ | with_reducible refine w_asD ?_ | with_reducible refine w_asO ?_ | with_reducible refine w_bin ?_ | with_reducible refine w_cmp ?_ | with_reducible refine w_ix ?_ | with_reducible refine w_neg ?_ | with_reducible refine w_cb ?_ | with_reducible refine w_andV ?_ | with_reducible refine w_orV ?_ | with_reducible refine w_notV ?_ | with_reducible refine w_nil ?_ | with_reducible refine w_cons ?_ | with_reducible refine w_lst ?_ | with_reducible refine w_tup ?_ | with_reducible refine w_xnil ?_ | with_reducible refine w_xcons ?_ | with_reducible refine w_for ?_ | with_reducible refine w_lrg1 ?_ | with_reducible refine w_lrg2 ?_ | with_reducible refine w_ch ?_ | with_reducible refine w_chain1 ?_ | with_reducible refine w_chain2 ?_ | with_reducible refine w_items ?_ | with_reducible refine w_rng1 ?_ | with_reducible refine w_rng2 ?_ | with_reducible refine w_ret ?_ | with_reducible refine t_nx ?_ | with_reducible refine t_rt ?_ | with_reducible refine u_nx ?_ | with_reducible refine u_rt ?_ | with_reducible refine l_add ?_ | with_reducible refine l_sub ?_ | with_reducible refine l_neg ?_ | with_reducible refine l_lt ?_ | with_reducible refine l_le ?_ | with_reducible refine l_gt ?_ | with_reducible refine l_ge ?_ | with_reducible refine l_eqI ?_ | with_reducible refine l_neI ?_ | with_reducible refine l_eqS ?_ | with_reducible refine l_neS ?_ | with_reducible refine l_eqB ?_ | with_reducible refine l_neB ?_ | with_reducible refine l_int ?_ | with_reducible refine l_max ?_ | with_reducible refine l_min ?_ | ((with_reducible apply w_var); rfl) | ((with_reducible apply w_varO); rfl) | ((with_reducible refine w_own (xs := []) ?_ ?_); exact ⟨_, rfl⟩) | ((with_reducible apply w_ownAt); rfl; rfl) | ((with_reducible apply w_ownAtD); rfl) | ((with_reducible apply w_xslotD); rfl) | ((with_reducible apply w_xslotO); rfl) | ((with_reducible refine l_mod ?_ ?_); (first | assumption | omega | exact ⟨by omega, by decide⟩)) | ((with_reducible refine l_div ?_ ?_); (first | assumption | omega | exact ⟨by omega, by decide⟩)) | ((with_reducible refine l_pow ?_ ?_); (first | assumption | omega | exact ⟨by omega, by decide⟩)) | ((with_reducible refine l_lrg ?_ ?_); (first | assumption | omega | exact ⟨by omega, by omega, by omega, by omega, by omega⟩)) | ((with_reducible refine l_mul ?_ ?_); (first | assumption | omega | exact ⟨by omega, by decide⟩)) | ((with_reducible apply c_t); rfl) | ((with_reducible apply c_f); rfl) | ((with_reducible apply s_lt); rfl) | ((with_reducible apply s_le); rfl) | ((with_reducible apply s_par); rfl; rfl; rfl) | ((with_reducible apply s_has); rfl) | ((with_reducible apply s_six); rfl; rfl; rfl) | ((with_reducible apply s_ex); rfl) | (rw [fz_dat]) | (rw [fz_own]) | ((with_reducible apply l_some); rfl))
    exact ⟨rfl, .inr ⟨_, rfl, k _ _ _ (Int.emod_nonneg _ (by omega)) (Int.emod_lt_of_pos _ hm.1) ⟨a, b, i + 1, rfl, ha, hb0, hb1, by omega, by omega⟩ (by simp)⟩⟩
theorem w_take {t : Ent} {c1 c2 c3 : Int} (ht : t.F = bodyF 4 2 [0, 1] (gTake c1 c2 c3)) (hps : t.ps.length = 2) (hdf : t.dfl = []) (hc : (0 ≤ c1 ∧ c1 ≤ 100000) ∧ (0 ≤ c2 ∧ c2 ≤ 100000) ∧ 0 ≤ c3 ∧ c3 ≤ 1000000) {i : Nat} {xs : List O} {n : Int} {fm : M D} {ρ : Rho} {QO : O → Rho → Prop} {E : Ex → Rho → Prop} (e : ρ[i]? = some (some (.own xs))) (hb : Bx xs n) (hn : n ≤ 100000)
    (h : wp (fm ρ) (fun y ρ' => ∃ m, y = .int m ∧ ρ'[i]? = some (some (.own xs)) ∧ (0 < m ∧ m < 2 ^ 200) ∧ ∀ r xs', 0 ≤ r → r < m → Bx xs' (n + 1) → QO (.dat (.int r)) (ρ'.set i (some (.own xs')))) E) : wp (mCall t (xSlot i (xCons fm xNil)) ρ) QO E := by
  refine w_callO (i := i) (w_xslotO e (w_xcons (wp_mono h (fun y ρ' k => ?_) fun _ _ k => k)))
  obtain ⟨m, rfl, e', hm, k⟩ := k
  refine w_xnil ⟨[.int m], xs, rfl, e', by rw [hps]; rfl, hdf, take_ok ht hc hb hn hm fun r xs' ρ2 h0 h1 hb' hl => ⟨_, _, rfl, hl, k r xs' h0 h1 hb'⟩⟩
/-- the outcome as an equation -/
theorem wp_get {α : Type} {r : Rs α} {Q : α → Rho → Prop} (h : wp r Q (fun _ _ => False)) : ∃ a ρ, r = .ok a ρ ∧ Q a ρ := by
  cases r with
  | bad => exact h.go.elim
  | ok a ρ => exact ⟨a, ρ, rfl, h.go⟩
  | ex x ρ => exact h.go.elim
theorem wp_getX {α : Type} {r : Rs α} {E : Ex → Rho → Prop} (h : wp r (fun _ _ => False) E) : ∃ a ρ, r = .ex a ρ ∧ E a ρ := by
  cases r with
  | bad => exact h.go.elim
  | ok a ρ => exact h.go.elim
  | ex x ρ => exact ⟨x, ρ, rfl, h.go⟩
theorem l_some {α : Type} {o : Option α} {d : α} {Q : α → Rho → Prop} {E : Ex → Rho → Prop} {ρ : Rho} (e : o = some d) (h : Q d ρ) : wp (lift o ρ) Q E := by rw [e]; exact ⟨h⟩
/-! ### texts of lists -/
theorem repr_ti {t : Str} {i : Int} (ht : (PySem.reprText t).length ≤ 1000) (hi : -(10 ^ 40) < i ∧ i < 10 ^ 40) : ∃ s, reprD (.lst [.str t, .int i]) = some (.str s) := by
  have h1 : i.natAbs < 10 ^ 40 := by omega
  have h2 : i.natAbs.log2 < 1920 := by
    by_cases h0 : i.natAbs = 0
    · rw [h0]; decide
    · exact (Nat.log2_lt h0).mpr (Nat.lt_of_lt_of_le h1 (Nat.le_trans (by decide : 10 ^ 40 ≤ 2 ^ 200) (Nat.pow_le_pow_right (by decide) (by decide))))
  have h3 := PySem.int_text_length_le10 (k := 40) (by decide) h1
  refine ⟨(PyData.list [.str t, .int i]).shown, ?_⟩
  show (if (PyData.list [.str t, .int i]).showable = true ∧ (PyData.list [.str t, .int i]).depth ≤ 40 ∧ (PyData.list [.str t, .int i]).shown.length ≤ big then some (D.str (PyData.list [.str t, .int i]).shown) else none) = some (D.str (PyData.list [.str t, .int i]).shown)
  refine if_pos ⟨?_, ?_, ?_⟩
  · show (true && (decide (i.natAbs.log2 < 1920) && true)) = true
    rw [decide_eq_true h2]; rfl
  · exact Nat.le_of_ble_eq_true rfl
  · show (((("[" : Str) ++ ("" : String) ++ PySem.reprText t) ++ (", " : String) ++ Str.ofString (toString i)) ++ ("]" : Str)).length ≤ big
    have e0 : ("[" : Str).length = 1 := rfl
    have e1 : (Str.ofString "").length = 0 := rfl
    have e2 : (Str.ofString ", ").length = 2 := rfl
    have e3 : ("]" : Str).length = 1 := rfl
    have e4 : (Str.ofString (toString i)).length ≤ 41 := by rw [PySem.ofString_length]; exact h3
    simp only [PySem.strLen_append, e0, e1, e2, e3]
    unfold big
    omega
theorem w_try {fb : M Fl} {hs : List Hdl} {ρ : Rho} {QF : Fl → Rho → Prop} {E : Ex → Rho → Prop} (h : wp (fb ρ) QF (fun x ρ' => wp (handle hs x ρ') QF E)) : wp (mTry fb hs ρ) QF E := by
  unfold mTry
  revert h
  cases fb ρ with
  | bad => exact fun h => h.go.elim
  | ok fl ρ' => exact fun h => ⟨h.go⟩
  | ex x ρ' => exact fun h => h.go
end PL

end
-- text PL21
section
set_option linter.all false
set_option maxRecDepth 100000
set_option maxHeartbeats 4000000
namespace PL
open PySem PySem.Spec PyProof.Rows L2

/-! ### blocks: the inside of a comprehension -/
def Df.into (d : Df) (scope : Scope) (gl : List Str) (us : List Nat) (k : Nat) : Df := ⟨d.N, gl, relS scope d.sc, k, d.io, us, true, scope⟩
section
variable {X : Cx} {p : Pm} {W : WX} {d : Df}
theorem Cn.inside (c : Cn X p W d) {scope : Scope} {gl : List Str} {us : List Nat} {k : Nat} (hk : k ≤ d.k) (nk : okN (d.into scope gl us k) = true) (gk : okG (relS scope d.sc) gl = true) (kd : scope.kind = .function) (s : Shared) (H : Hp) (C : Addr) (cl : List (Str × Addr)) (fp : List Addr) :
    Cn (X.blk s H scope (compEnvC scope cl C X.env) fp) p noW (d.into scope gl us k) where
  o := ⟨c.o.K, c.o.M, c.o.u, c.o.g, c.o.c, c.o.N⟩
  n := c.n
  s := by
    show relS scope X.env.scope = relS scope d.sc
    rw [c.s]
  r := c.r.mono hk
  t := fun u s' ⟨_, _, _, _, _, _, _, _, _, _, _, _, _, _, _, _, w⟩ => w.elim
  po := PassesOwn.never
  fn := rfl
  st := fun z => by cases z
  fr := fun z => by cases z
  nk := nk
  gk := gk
  kd := kd
  io := c.io
  mf := c.mf
  eP := c.eP
  eW := c.eW
  eM := c.eM
  eB := c.eB
/-! targets -/
def tgB (d : Df) (x : Str) : Bool := if d.blk then (match d.sc.names.lookup x with
  | some .local => true
  | some .cell => d.bs.names.lookup x == some .cell
  | _ => false) else true
theorem Cn.tg (c : Cn X p W d) {i : Nat} {x : Str} (h : d.N[i]? = some x) (hu : d.us.contains i = true) (ht : tgB d x = true) : Loc X.env.scope x ∧ (X.fn x = true ∨ X.env.scope.names.lookup x = some .local) := by
  cases hb : d.blk with
  | false => exact ⟨c.loc h hu hb, .inl (c.fnT hb x)⟩
  | true =>
    unfold tgB at ht
    rw [hb, if_pos rfl] at ht
    rw [c.fn, hb, if_pos rfl, c.s]
    split at ht
    · rename_i e
      exact ⟨.inl e, .inr e⟩
    · rename_i e
      exact ⟨.inr e, .inl ht⟩
    · cases ht
theorem Cn.bname {x : Str} {pos : Pos} (c : Cn X p W d) (i : Nat) (h : d.N[i]? = some x) (hi : d.io.contains i = false) (hu : d.us.contains i = true := by rfl) (ht : tgB d x = true := by decide +kernel) : PG X (.Name x pos) (tDG p [i] (gSet i)) :=
  dg_name c.o (c.nx h) (c.tg h hu ht).1 (c.pin hi) (c.tg h hu ht).2
theorem Cn.nat {x : Str} {pos : Pos} {es : List Expr} {is : List Nat} (c : Cn X p W d) (i : Nat) (h : d.N[i]? = some x) (hi : d.io.contains i = false) (r : NamesAt X p es is) (hu : d.us.contains i = true := by rfl) (ht : tgB d x = true := by decide +kernel) : NamesAt X p (.Name x pos :: es) (i :: is) :=
  .cons (c.nx h) (c.tg h hu ht).1 (c.pin hi) (c.tg h hu ht).2 r
theorem Cn.gtup {es : List Expr} {is : List Nat} {k : Nat} {pos : Pos} (c : Cn X p W d) (h : NamesAt X p es is) : PG X (.Tuple es k pos) (tDG p is (gTupD is)) := dg_tup c.o h
/-! tests of a clause -/
theorem ts_nil : PTs X [] (tDT p noW (M.ret true)) := ⟨fun pins s σ H Q I ⟨ρ, S, R, w, h⟩ => pts_nil.run pins s σ H Q I (h S H R Stp.refl w)⟩
theorem ts_one {e : Expr} {f : M Bool} (h : PT X e (tDT p noW f)) : PTs X [e] (tDT p noW f) := pts_one h
/-! the rule -/
def blkB (N : List Str) (sc scope : Scope) (own : List (Str × Nat)) : Bool := decide (scope.kind = .function) && (scope.names.all (fun y => decide (scope.names.lookup y.1 = some y.2)) && (own.all (fun q => decide (N[q.2]? = some q.1)) &&
  (scope.names.all (fun y => !(y.2 == .free) || (decide (sc.names.lookup y.1 = some .cell) || decide (sc.names.lookup y.1 = some .free))) && scope.names.all (fun y => !(y.2 == .local || y.2 == .cell) || ((own.map (·.1)).contains y.1 || !N.contains y.1)))))
theorem blkB_ok {N : List Str} {sc scope : Scope} {own : List (Str × Nat)} (h : blkB N sc scope own = true) : BlkOk N sc scope own := by
  unfold blkB at h
  simp only [Bool.and_eq_true, decide_eq_true_eq, List.all_eq_true] at h
  obtain ⟨h1, h2, h3, h4, h5⟩ := h
  refine ⟨h1, h2, h3, fun y hy e => ?_, fun y hy e => ?_⟩
  · have q := h4 y hy
    rw [e] at q
    simp only [beq_self_eq_true, Bool.not_true, Bool.false_or, Bool.or_eq_true, decide_eq_true_eq] at q
    exact q
  · have q := h5 y hy
    have b : (y.2 == .local || y.2 == .cell) = true := by rcases e with z | z <;> rw [z] <;> rfl
    rw [b] at q
    simp only [Bool.not_true, Bool.false_or, Bool.or_eq_true, List.contains_iff_mem, Bool.not_eq_true', ← Bool.not_eq_true] at q
    exact q
theorem Cn.lc (c : Cn X p W d) {elt tg iter : Expr} {ifs : List Expr} {scope : Scope} {pos : Pos} {fi : M (List D)} {gt : Tgt} {ft : M Bool} {fe : M O} {ts : List Nat} (own : List (Str × Nat)) (gl : List Str) (us : List Nat) (k : Nat)
    (hi : PI X tg iter (tDI p W fi)) (hg : ∀ X' : Cx, Cn X' p noW (d.into scope gl us k) → PG X' tg (tDG p ts gt)) (ht : ∀ X' : Cx, Cn X' p noW (d.into scope gl us k) → PTs X' ifs (tDT p noW ft))
    (he : ∀ X' : Cx, Cn X' p noW (d.into scope gl us k) → PE X' elt (tDO p noW fe)) (ok : blkB d.N d.sc scope own = true := by decide +kernel) (nk : okN (d.into scope gl us k) = true := by decide +kernel) (gk : okG (relS scope d.sc) gl = true := by decide +kernel)
    (hts : ∀ i ∈ ts, i ∈ own.map (·.2) := by decide) (hv : (own.map (·.2)).all (fun i => !d.io.contains i) = true := by rfl) (hk : k ≤ d.k := by decide) (hs : ∀ x, foldedSetIterable iter X.env x = pure x := by intro _; rfl) :
    PE X (.ListComp elt [⟨tg, iter, ifs, 0⟩] scope pos) (tDO p W (mLc (own.map (·.2)) fi gt ft fe)) := by
  have kd : scope.kind = .function := (blkB_ok ok).kind
  have ok2 : BlkOk X.N X.env.scope scope own := by rw [c.n, c.s]; exact blkB_ok ok
  have hv2 : ∀ q ∈ p.io, q.1 ∉ own.map (·.2) := fun q hq z => by
    have a := List.all_eq_true.mp hv q.1 z
    rw [c.io q hq] at a
    cases a
  exact PE.imp (pe_lc c.o.c c.o.N hi ok2 (fun s H C cl fp => hg _ (c.inside hk nk gk kd s H C cl fp)) (fun s H C cl fp => ht _ (c.inside hk nk gk kd s H C cl fp)) (fun s H C cl fp => he _ (c.inside hk nk gk kd s H C cl fp)) hs) fun σ H Q h => lc_imp hts hv2 h
theorem Cn.setLc (c : Cn X p W d) {y : Str} {py spos : Pos} {elt tg iter : Expr} {ifs : List Expr} {scope : Scope} {pos : Pos} {fi : M (List D)} {gt : Tgt} {ft : M Bool} {fe : M O} {ts : List Nat} (i : Nat) (hy : d.N[i]? = some y) (hio : d.io.contains i = false) (hyl : d.sc.names.lookup y = some .local) (own : List (Str × Nat)) (gl : List Str) (us : List Nat) (k : Nat)
    (hi : PI X tg iter (tDI p W fi)) (hg : ∀ X' : Cx, Cn X' p noW (d.into scope gl us k) → PG X' tg (tDG p ts gt)) (ht : ∀ X' : Cx, Cn X' p noW (d.into scope gl us k) → PTs X' ifs (tDT p noW ft))
    (he : ∀ X' : Cx, Cn X' p noW (d.into scope gl us k) → PE X' elt (tDO p noW fe)) (hsw : swapsWith (.ListComp elt [⟨tg, iter, ifs, 0⟩] scope pos) (some (.Name y py)) spos.line X.env = pure true) (ok : blkB d.N d.sc scope own = true := by decide +kernel) (nk : okN (d.into scope gl us k) = true := by decide +kernel) (gk : okG (relS scope d.sc) gl = true := by decide +kernel)
    (hts : ∀ i ∈ ts, i ∈ own.map (·.2) := by decide) (hv : (own.map (·.2)).all (fun i => !d.io.contains i) = true := by rfl) (hk : k ≤ d.k := by decide) (hs : ∀ x, foldedSetIterable iter X.env x = pure x := by intro _; rfl) :
    PS X (.Assign [.Name y py] (.ListComp elt [⟨tg, iter, ifs, 0⟩] scope pos) spos) (tDS p W (mSet i (mLc (own.map (·.2)) fi gt ft fe))) := by
  have kd : scope.kind = .function := (blkB_ok ok).kind
  have ok2 : BlkOk X.N X.env.scope scope own := by rw [c.n, c.s]; exact blkB_ok ok
  have hv2 : ∀ q ∈ p.io, q.1 ∉ own.map (·.2) := fun q hq z => by
    have a := List.all_eq_true.mp hv q.1 z
    rw [c.io q hq] at a
    cases a
  exact PS.imp (ps_setLc c.o.c c.o.N (c.nx hy) (by rw [c.s]; exact hyl) hsw hi ok2 (fun s H C cl fp => hg _ (c.inside hk nk gk kd s H C cl fp)) (fun s H C cl fp => ht _ (c.inside hk nk gk kd s H C cl fp)) (fun s H C cl fp => he _ (c.inside hk nk gk kd s H C cl fp)) hs) fun D σ H h => lc_imp hts hv2 (tSet_imp (c.pin hio) h)
end
end PL

end
-- text PL22
section
set_option linter.all false
set_option maxRecDepth 100000
set_option maxHeartbeats 4000000
namespace PL
open PySem PySem.Spec PyProof.Rows L2

/-! ### what can be walked over: a list, a tuple, a text -/
inductive Kd where
  | li | tu | tx
/-- v holds the items xs -/
def Ct (k : Kd) (K : PySem.W.Frag) (H : Hp) (v : V) (xs : List V) : Prop := match k with
  | .li => ∃ a, v = .ref a ∧ SqL K H a xs
  | .tu => ∃ a, v = .ref a ∧ SqT K H a xs
  | .tx => ∃ z : Str, v = .str z ∧ xs = z.cps.toList.map fun c => V.str ⟨#[c]⟩
/-- an iterator at its i-th turn -/
def ItS (k : Kd) (h : Heap) (it : Addr) (u : Value) (i : Nat) : Prop := match k with
  | .li => ∃ l, u = .ref l ∧ h.IsListIter it l i
  | .tu => ∃ l, u = .ref l ∧ h.IsTupleIter it l i
  | .tx => ∃ z t, u = .str z t ∧ h.IsStrIter it (strIterType z) z t i
theorem ItS.at {k : Kd} {h h' : Heap} {it : Addr} {u : Value} {i : Nat} (x : ItS k h it u i) (e : ∀ o, h.get? it = some o → h'.get? it = some o) : ItS k h' it u i := by
  cases k with
  | li => obtain ⟨l, rfl, q⟩ := x; exact ⟨l, rfl, q.at e⟩
  | tu => obtain ⟨l, rfl, q⟩ := x; exact ⟨l, rfl, q.at e⟩
  | tx => obtain ⟨z, t, rfl, o, ho, r⟩ := x; exact ⟨z, t, rfl, o, e _ ho, r⟩
theorem ItS.obj {k : Kd} {h : Heap} {it : Addr} {u : Value} {i : Nat} (x : ItS k h it u i) : ∃ o, h.get? it = some o ∧ ∀ v, o.data ≠ .cell v := by
  cases k with
  | li => obtain ⟨l, rfl, o, ho, _, hd⟩ := x; exact ⟨o, ho, fun v q => by rw [hd] at q; cases q⟩
  | tu => obtain ⟨l, rfl, o, ho, _, hd⟩ := x; exact ⟨o, ho, fun v q => by rw [hd] at q; cases q⟩
  | tx => obtain ⟨z, t, rfl, o, ho, _, hd⟩ := x; exact ⟨o, ho, fun v q => by rw [hd] at q; cases q⟩
section
variable {X : Cx} {pins : List (Addr × Obj)} {σ : L2.St} {H : Hp} {s : Shared}
theorem Ct.inj {k : Kd} {v : V} {xs ys : List V} (I : L2.Inv X pins σ H s) (a : Ct k X.K H v xs) (b : Ct k X.K H v ys) : xs = ys := by
  cases k with
  | li => obtain ⟨c, rfl, q⟩ := a; obtain ⟨c', e, q'⟩ := b; cases e; exact I.list_inj q q'
  | tu => obtain ⟨c, rfl, q⟩ := a; obtain ⟨c', e, q'⟩ := b; cases e; exact I.tuple_inj q q'
  | tx => obtain ⟨c, rfl, q⟩ := a; obtain ⟨c', e, q'⟩ := b; cases e; rw [q, q']
theorem vals_at {vs : List V} {us : List Value} (r : Vals vs us) : ∀ {j : Nat} {w : Value}, us[j]? = some w → ∃ x, vs[j]? = some x ∧ RelV x w := by
  induction r with
  | nil => intro j w e; simp at e
  | cons a b ih =>
    intro j w e
    cases j with
    | zero => simp at e; subst e; exact ⟨_, rfl, a⟩
    | succ j => simp at e; obtain ⟨x, h1, h2⟩ := ih e; exact ⟨x, by simpa using h1, h2⟩
/-- .. its draws -/
theorem Ct.draws {k : Kd} {v : V} {u : Value} {xs : List V} {it : Addr} {A : Around} (I : L2.Inv X pins σ H s) (ct : Ct k X.K H v xs) (rv : RelV v u) (hh : A.handled = none) (hne : ∀ l, u = .ref l → l ≠ it) :
    ∃ (fp : List Addr) (P : Nat → Value → Prop) (St : Nat → Heap → Prop), Draws X.prog X.w A it fp xs.length P St ∧ (∀ i, ItS k s.heap it u i → St i s.heap) ∧ it ∈ fp ∧ (∀ j h', St j h' → ItS k h' it u j) ∧ (∀ j w, P j w → ∃ x, xs[j]? = some x ∧ RelV x w) ∧ ∀ b ∈ fp, b = it ∨ u = .ref b := by
  cases k with
  | li =>
    obtain ⟨a, rfl, q⟩ := ct
    cases rv
    obtain ⟨its, r, pl, _⟩ := I.list q
    have D := Draws.list (prog := X.prog) (w := X.w) hh it a (hne a rfl) its.toArray
    have e : its.toArray.size = xs.length := by rw [List.size_toArray]; exact r.length.symm
    rw [e] at D
    exact ⟨_, _, _, D, fun i ⟨l, el, y⟩ => by cases el; exact ⟨y, pl.isList⟩, by simp, fun j h' y => ⟨a, rfl, y.1⟩, fun j w y => vals_at r (by simpa using y), fun b hb => by
      simp at hb
      rcases hb with z | z
      · exact .inl z
      · exact .inr (by rw [z])⟩
  | tu =>
    obtain ⟨a, rfl, q⟩ := ct
    cases rv
    obtain ⟨its, r, pl, _⟩ := I.tuple q
    have D := Draws.tuple (prog := X.prog) (w := X.w) hh it a (hne a rfl) its.toArray
    have e : its.toArray.size = xs.length := by rw [List.size_toArray]; exact r.length.symm
    rw [e] at D
    exact ⟨_, _, _, D, fun i ⟨l, el, y⟩ => by cases el; exact ⟨y, pl⟩, by simp, fun j h' y => ⟨a, rfl, y.1⟩, fun j w y => vals_at r (by simpa using y), fun b hb => by
      simp at hb
      rcases hb with z | z
      · exact .inl z
      · exact .inr (by rw [z])⟩
  | tx =>
    obtain ⟨z, rfl, q⟩ := ct
    obtain ⟨t, rfl⟩ := rv
    have D := Draws.text (prog := X.prog) (w := X.w) hh it z t
    have e : z.cps.size = xs.length := by rw [q]; simp
    rw [e] at D
    refine ⟨_, _, _, D, fun i ⟨z', t', el, y⟩ => by cases el; exact y, by simp, fun j h' y => ⟨z, t, rfl, y⟩, fun j w ⟨c, tt, y1, y2⟩ => ⟨.str ⟨#[c]⟩, ?_, ⟨tt, y2⟩⟩, fun b hb => .inl (by simpa using hb)⟩
    rw [q, List.getElem?_map]
    have : z.cps.toList[j]? = some c := by simpa using y1
    rw [this]; rfl
end
/-- the items of both, in new pairs -/
def ItZ (k1 k2 : Kd) (K : PySem.W.Frag) (v1 v2 : V) : It :=
  ⟨fun i H => ∃ (xs ys : List V), Ct k1 K H v1 xs ∧ Ct k2 K H v2 ys ∧ i < xs.length ∧ i < ys.length,
    fun i H v H' => ∃ T x y, v = .ref T ∧ H T = none ∧ H' = upd H T (.tup [x, y]) ∧ (∀ xs, Ct k1 K H v1 xs → xs[i]? = some x) ∧ ∀ ys, Ct k2 K H v2 ys → ys[i]? = some y,
    fun i H => ∃ xs ys : List V, Ct k1 K H v1 xs ∧ Ct k2 K H v2 ys ∧ i ≤ xs.length ∧ i ≤ ys.length ∧ (i = xs.length ∨ i = ys.length)⟩
/-- the parts of a zip lie apart -/
structure Zap (z TI TO i1 i2 : Addr) (u1 u2 : Value) : Prop where
  a : TI ≠ z ∧ TO ≠ z ∧ TI ≠ TO ∧ TI ≠ i1 ∧ TI ≠ i2 ∧ TO ≠ i1 ∧ TO ≠ i2 ∧ z ≠ i1 ∧ z ≠ i2 ∧ i1 ≠ i2
  b : ∀ l, u1 = .ref l → l ≠ z ∧ l ≠ TO ∧ l ≠ i1 ∧ l ≠ i2
  c : ∀ l, u2 = .ref l → l ≠ z ∧ l ≠ TO ∧ l ≠ i1 ∧ l ≠ i2
theorem Zap.sep {z TI TO i1 i2 : Addr} {u1 u2 : Value} (D : Zap z TI TO i1 i2 u1 u2) {fp1 fp2 : List Addr} (m1 : i1 ∈ fp1) (m2 : i2 ∈ fp2) (f1 : ∀ b ∈ fp1, b = i1 ∨ u1 = .ref b) (f2 : ∀ b ∈ fp2, b = i2 ∨ u2 = .ref b) : ZipSep2 z TI TO i1 i2 fp1 fp2 := by
  obtain ⟨a1, a2, a3, a4, a5, a6, a7, a8, a9, a10⟩ := D.a
  refine ⟨a1, a2, a3, a4, m1, fun h => ?_, fun h => ?_, a5, m2, fun h => ?_, fun h => ?_, fun h => ?_, fun h => ?_⟩
  · rcases f1 _ h with e | e
    · exact a8 e
    · exact (D.b _ e).1 rfl
  · rcases f1 _ h with e | e
    · exact a6 e
    · exact (D.b _ e).2.1 rfl
  · rcases f2 _ h with e | e
    · exact a9 e
    · exact (D.c _ e).1 rfl
  · rcases f2 _ h with e | e
    · exact a7 e
    · exact (D.c _ e).2.1 rfl
  · rcases f2 _ h with e | e
    · exact a10 e
    · exact (D.c _ e).2.2.1 rfl
  · rcases f1 _ h with e | e
    · exact a10 e.symm
    · exact (D.b _ e).2.2.2 rfl
theorem turnZ {P : Program} {w : World} {K : PySem.W.Frag} {elts : List Expr} {kk : Nat} {tpos : Pos} {k1 k2 : Kd} {v1 v2 : V} {u1 u2 : Value} {z TI TO i1 i2 : Addr} (r1 : RelV v1 u1) (r2 : RelV v2 u2) (D : Zap z TI TO i1 i2 u1 u2) :
    Turn P w K (.Tuple elts kk tpos) (ItZ k1 k2 K v1 v2) [z, TI, TO, i1, i2] z (fun i h => IsZip h z TI TO .none ∧ IsTupOf2 h TI (.ref i1) (.ref i2) ∧ (∃ x y, IsTupOf2 h TO x y) ∧ ItS k1 h i1 u1 i ∧ ItS k2 h i2 u2 i) where
  mem := by simp
  obj := fun i h ⟨hz, hTI, ⟨x, y, hTO⟩, s1, s2⟩ c hc => by
    have hc' : c = z ∨ c = TI ∨ c = TO ∨ c = i1 ∨ c = i2 := by simpa using hc
    rcases hc' with rfl | rfl | rfl | rfl | rfl
    · exact ⟨_, hz, fun _ q => nomatch q⟩
    · exact ⟨_, hTI, fun _ q => nomatch q⟩
    · exact ⟨_, hTO, fun _ q => nomatch q⟩
    · exact s1.obj
    · exact s2.obj
  keep := fun i h h' ⟨hz, hTI, ⟨x, y, hTO⟩, s1, s2⟩ kp =>
    ⟨kp z (by simp) _ hz, kp TI (by simp) _ hTI, ⟨x, y, kp TO (by simp) _ hTO⟩, s1.at fun o e => kp i1 (by simp) o e, s2.at fun o e => kp i2 (by simp) o e⟩
  item := by
    intro X hP hw hK hc i pins s σ H E I hf ⟨hz, hTI, ⟨a1, a2, hTO⟩, s1, s2⟩ ⟨xs, ys, c1, c2, l1, l2⟩
    subst hP hw hK
    have hh : X.A.in1.handled = none := I.ok.hd hc
    obtain ⟨d1, d2, d3, d4, d5, d6, d7, d8, d9, d10⟩ := D.a
    obtain ⟨fp1, P1, St1, D1, b1, m1, g1, y1, f1⟩ := c1.draws (it := i1) I r1 hh fun l e => (D.b l e).2.2.1
    obtain ⟨fp2, P2, St2, D2, b2, m2, g2, y2, f2⟩ := c2.draws (it := i2) I r2 hh fun l e => (D.c l e).2.2.2
    have zl : z < s.heap.objs.size := Heap.lt_size hz
    refine wpAny_pyNext_zipD2_item (D.sep m1 m2 f1 f2) D1 D2 hz hTI hTO (b1 i s1) (b2 i s2) l1 l2 fun w1 w2 h' tk p1 p2 qz qTO t1 t2 qT qs qk => ?_
    obtain ⟨x, ex, rx⟩ := y1 i w1 p1
    obtain ⟨y, ey, ry⟩ := y2 i w2 p2
    refine ⟨_, rfl, wpAny_letOwnedTupleGo_zip (s := { s with heap := h', toks := tk }) qz fun h'' z'' sb => ?_⟩
    have T2 : h''.get? s.heap.objs.size = some { cls := .type "tuple", data := .seq #[w1, w2] } := (sb.2 _ (Nat.ne_of_gt zl)).trans qT
    have fresh : ObjOk X.prog X.w (upd H s.heap.objs.size (.tup [x, y])) h'' s.heap.objs.size (.tup [x, y]) := ⟨by show 2 ≤ sizeLine; decide, [w1, w2], .cons rx (.cons ry .nil), ⟨_, T2, rfl, _, rfl⟩⟩
    have I1 : L2.Inv X pins σ (upd H s.heap.objs.size (.tup [x, y])) { s with heap := h'', toks := tk } :=
      I.turnedNew (t' := tk) (ch := [z, TI, TO, i1, i2]) (fun c o hb e => by
        simp only [List.mem_cons, List.not_mem_nil, or_false, not_or] at hb
        exact (sb.2 c hb.1).trans (qk c o hb.1 hb.2.2.1 hb.2.2.2.1 hb.2.2.2.2 e)) hf (Nat.le_refl _) fresh
    refine ⟨.ref s.heap.objs.size, _, I1, rfl, ⟨_, x, y, rfl, I.hok.fresh (Nat.le_refl _), rfl, fun l hl => by rw [Ct.inj I hl c1]; exact ex, fun l hl => by rw [Ct.inj I hl c2]; exact ey⟩, ⟨z'', ?_, ⟨w1, w2, ?_⟩, ?_, ?_⟩, fun c hcm => ?_⟩
    · exact (sb.2 _ d1).trans (qk _ _ d1 d3 d4 d5 hTI)
    · exact (sb.2 _ d2).trans qTO
    · exact (g1 _ _ t1).at fun o e => (sb.2 _ d8.symm).trans e
    · exact (g2 _ _ t2).at fun o e => (sb.2 _ d9.symm).trans e
    · have lt : c < s.heap.objs.size := by
        have hc' : c = z ∨ c = TI ∨ c = TO ∨ c = i1 ∨ c = i2 := by simpa using hcm
        rcases hc' with rfl | rfl | rfl | rfl | rfl
        · exact zl
        · exact Heap.lt_size hTI
        · exact Heap.lt_size hTO
        · obtain ⟨_, e, _⟩ := s1.obj; exact Heap.lt_size e
        · obtain ⟨_, e, _⟩ := s2.obj; exact Heap.lt_size e
      rw [upd_ne (Nat.ne_of_lt lt)]
      exact (hf c hcm).1
  done := by
    intro X hP hw hK hc i pins s σ H E I hf ⟨hz, hTI, ⟨a1, a2, hTO⟩, s1, s2⟩ ⟨xs, ys, c1, c2, l1, l2, le⟩
    subst hP hw hK
    have hh : X.A.in1.handled = none := I.ok.hd hc
    obtain ⟨fp1, P1, St1, D1, b1, m1, g1, y1, f1⟩ := c1.draws (it := i1) I r1 hh fun l e => (D.b l e).2.2.1
    obtain ⟨fp2, P2, St2, D2, b2, m2, g2, y2, f2⟩ := c2.draws (it := i2) I r2 hh fun l e => (D.c l e).2.2.2
    refine wpAny_pyNext_zipD2_end (D.sep m1 m2 f1 f2) D1 D2 hz hTI hTO (b1 i s1) (b2 i s2) l1 l2 le fun h' tk qk => ⟨rfl, I.turnedL (t' := tk) (ch := [z, TI, TO, i1, i2]) (fun c o hb e => ?_) hf⟩
    simp only [List.mem_cons, List.not_mem_nil, or_false, not_or] at hb
    exact qk c o hb.1 hb.2.2.1 hb.2.2.2.1 hb.2.2.2.2 e
  self := fun A i s Q E st h => wpAny_pyIter_zip st.1 h
end PL

end
-- text PL23
section
set_option linter.all false
set_option maxRecDepth 100000
set_option maxHeartbeats 4000000
namespace PL
open PySem PySem.Spec PyProof.Rows L2
section
variable {X : Cx} {pins : List (Addr × Obj)} {σ : L2.St} {H : Hp} {s : Shared}
theorem Ct.begins {k : Kd} {v : V} {u : Value} {xs : List V} (I : L2.Inv X pins σ H s) (ct : Ct k X.K H v xs) (rv : RelV v u) :
    ∃ (o : Obj) (Hh : Heap → Prop), Begins u o Hh ∧ Hh s.heap ∧ (∀ h' it, h'.get? it = some o → ItS k h' it u 0) ∧ ∀ l, u = .ref l → l < s.heap.objs.size := by
  cases k with
  | li =>
    obtain ⟨a, rfl, q⟩ := ct
    cases rv
    obtain ⟨its, r, pl, _⟩ := I.list q
    exact ⟨_, _, begins_list a its.toArray, pl.isList, fun h' it e => ⟨a, rfl, _, e, rfl, rfl⟩, fun l e => by cases e; exact pl.lt⟩
  | tu =>
    obtain ⟨a, rfl, q⟩ := ct
    cases rv
    obtain ⟨its, r, pl, _⟩ := I.tuple q
    obtain ⟨o1, ho1, _⟩ := id pl
    exact ⟨_, _, begins_tuple a its.toArray, pl, fun h' it e => ⟨a, rfl, _, e, rfl, rfl⟩, fun l e => by cases e; exact Heap.lt_size ho1⟩
  | tx =>
    obtain ⟨z, rfl, q⟩ := ct
    obtain ⟨t, rfl⟩ := rv
    exact ⟨_, _, begins_text z t, trivial, fun h' it e => ⟨z, t, rfl, _, e, rfl, rfl⟩, fun l e => by cases e⟩
end
section
variable {X : Cx} {p : Pm} {W : WX} {d : Df}
def iZipD (K : PySem.W.Frag) (ta : TA) : TI := fun σ H R => ta σ H fun vs H1 => ∃ v1 v2 k1 k2 xs ys, vs = [v1, v2] ∧ Ct k1 K H1 v1 xs ∧ Ct k2 K H1 v2 ys ∧ R (ItZ k1 k2 K v1 v2) H1
theorem pi_zipD {e e2 : Expr} {ta : TA} {q pos tpos : Pos} {elts : List Expr} {kk : Nat} (hg : Gl X "zip") (hm : X.mg "zip" = none) (ha : PA X [e, e2] ta)
    (hs : starEach [e, e2] X.env = (false, eval e X.env) :: starEach [e2] X.env) (hpl : (backTo pos (starEach [e2] X.env)).any (·.1) = false) :
    PI X (.Tuple elts kk tpos) (.Call (.Name "zip" q) [e, e2] [] pos) (iZipD X.K ta) := by
  refine ⟨fun pins s σ H R I h => ?_⟩
  refine Call_ (ld_blt I hg hm PyProof.Rows.boot_zip (PyProof.Rows.callWith_type1 (thn (ha.run pos pins s σ H _ I h) fun us s1 ⟨vs, H1, I1, rr, v1, v2, k1, k2, xs, ys, ev, c1, c2, qR⟩ => ?_) hs hpl))
  subst ev
  obtain ⟨u1, u2, rfl, r1, r2⟩ := vals2 rr
  obtain ⟨o1, h1, B1, n1, t1, l1⟩ := c1.begins I1 r1
  obtain ⟨o2, h2, B2, n2, t2, l2⟩ := c2.begins I1 r2
  refine zip_begins2 B1 B2 n1 n2 fun h' hz hTI hTO g1 g2 hsz hk => wpAny_pyIter_zip hz ?_
  have I2 : L2.Inv X pins σ H1 { s1 with heap := h' } := I1.kept (t' := s1.toks) hk
  generalize hn : s1.heap.objs.size = n at *
  have ge : ∀ c ∈ [n + 4, n + 2, n + 3, n, n + 1], n ≤ c := by
    intro c hc
    simp only [List.mem_cons, List.not_mem_nil, or_false] at hc
    omega
  have ap : ∀ {l : Addr}, l < n → l ≠ n + 4 ∧ l ≠ n + 3 ∧ l ≠ n ∧ l ≠ n + 1 := fun {l} hl => by
    refine ⟨?_, ?_, ?_, ?_⟩ <;> (intro z; rw [z] at hl; first | exact absurd hl (Nat.not_lt.mpr (Nat.le_add_right _ _)) | exact absurd hl (Nat.lt_irrefl _))
  refine ⟨n + 4, [n + 4, n + 2, n + 3, n, n + 1], _, _, H1, rfl, I2, turnZ r1 r2 ⟨?_, fun l e => ap (l1 l e), fun l e => ap (l2 l e)⟩, ⟨hz, hTI, ⟨_, _, hTO⟩, t1 _ _ g1, t2 _ _ g2⟩, fun c hc => ?_, qR⟩
  · refine ⟨?_, ?_, ?_, ?_, ?_, ?_, ?_, ?_, ?_, ?_⟩ <;> (intro z; simp at z)
  · have hle := ge c hc
    rw [← hn] at hle
    exact I1.fpOk hle (I1.hok.fresh hle)
/-! on data -/
def seqD : D → Option (List D)
  | .lst ds => some ds
  | .tup ds => some ds
  | .str z => some (z.cps.toList.map chr1)
  | .scr ns => some (ns.map D.int)
  | _ => none
theorem reps_chr {K : PySem.W.Frag} {cl : Str → Option Addr} {S : Hp} : ∀ l : List Nat, Reps K cl S (l.map fun c => V.str ⟨#[c]⟩) (l.map chr1)
  | [] => .nil
  | _ :: l => .cons (.str _) (reps_chr l)
theorem reps_ints {K : PySem.W.Frag} {cl : Str → Option Addr} {S : Hp} : ∀ l : List Int, Reps K cl S (l.map V.int) (l.map D.int)
  | [] => .nil
  | _ :: l => .cons (.int _) (reps_ints l)
theorem seq_ct (hK : X.K = p.K) {S : Hp} {v : V} {x : D} {ds : List D} (r : Rep p.K p.cl S v x) (h : seqD x = some ds) : ∃ k vs, (∀ H', Le S H' → Ct k X.K H' v vs) ∧ Reps p.K p.cl S vs ds := by
  cases r with
  | lst e q => cases h; exact ⟨.li, _, fun H' le => ⟨_, rfl, SqL.of (le _ _ e)⟩, q⟩
  | tup e q => cases h; exact ⟨.tu, _, fun H' le => ⟨_, rfl, by rw [hK]; exact le.sqT e⟩, q⟩
  | str z => cases h; exact ⟨.tx, _, fun H' le => ⟨z, rfl, rfl⟩, reps_chr _⟩
  | scr e => cases h; exact ⟨.li, _, fun H' le => ⟨_, rfl, by rw [hK]; exact le.sqL e⟩, reps_ints _⟩
  | _ => cases h
def pairD (a b : D) : D := .tup [a, b]
def zipD : List D → Option (List D)
  | [x, y] => match seqD x, seqD y with
    | some a, some b => some (List.zipWith pairD a b)
    | _, _ => none
  | _ => none
def mZip (f : M (List D)) : M (List D) := f.bnd fun xs => lift (zipD xs)
theorem it_zip {S : Hp} {k1 k2 : Kd} {v1 v2 : V} {vs1 vs2 : List V} {a b : List D} (c1 : ∀ H', Le S H' → Ct k1 X.K H' v1 vs1) (c2 : ∀ H', Le S H' → Ct k2 X.K H' v2 vs2) (r1 : Reps p.K p.cl S vs1 a) (r2 : Reps p.K p.cl S vs2 b) : ItOk p S (ItZ k1 k2 X.K v1 v2) (List.zipWith pairD a b) := by
  intro S' H' le1 le2
  have e1 := r1.length
  have e2 := r2.length
  refine ⟨fun i d hd => ?_, ?_⟩
  · rw [List.getElem?_zipWith] at hd
    cases ha : a[i]? with
    | none => rw [ha] at hd; simp at hd
    | some da =>
      cases hb : b[i]? with
      | none => rw [ha, hb] at hd; simp at hd
      | some db =>
        rw [ha, hb] at hd
        simp at hd
        subst hd
        have la := (List.getElem?_eq_some_iff.mp ha).1
        have lb := (List.getElem?_eq_some_iff.mp hb).1
        refine ⟨⟨vs1, vs2, c1 H' (le1.trans le2), c2 H' (le1.trans le2), by omega, by omega⟩, ?_⟩
        rintro x H'' ⟨T, y1, y2, rfl, hT, rfl, q1, q2⟩
        obtain ⟨w1, g1, rr1⟩ := r1.get ha
        obtain ⟨w2, g2, rr2⟩ := r2.get hb
        have z1 := q1 _ (c1 H' (le1.trans le2))
        have z2 := q2 _ (c2 H' (le1.trans le2))
        rw [g1] at z1; cases z1
        rw [g2] at z2; cases z2
        have gr := Grow.new (o := .tup [y1, y2]) le2 hT
        exact ⟨_, gr, .tup (.inl upd_same) (.cons ((rr1.up le1).up gr.s) (.cons ((rr2.up le1).up gr.s) .nil))⟩
  · refine ⟨vs1, vs2, c1 H' (le1.trans le2), c2 H' (le1.trans le2), ?_, ?_, ?_⟩ <;> rw [List.length_zipWith] <;> omega
theorem Cn.zip (c : Cn X p W d) {e e2 : Expr} {f : M (List D)} {q pos tpos : Pos} {elts : List Expr} {kk : Nat} (j : Nat) (hj : d.gl[j]? = some ("zip" : Str)) (ha : PA X [e, e2] (tDA p W f)) (hs : starEach [e, e2] X.env = (false, eval e X.env) :: starEach [e2] X.env := by rfl)
    (hpl : (backTo pos (starEach [e2] X.env)).any (·.1) = false := by rfl) : PI X (.Tuple elts kk tpos) (.Call (.Name "zip" q) [e, e2] [] pos) (tDI p W (mZip f)) :=
  PI.imp (pi_zipD (c.gl hj).1 (c.mf _ mem_zip) ha hs hpl) fun σ H R ⟨ρ, S, R0, w, h⟩ => by
    refine ⟨ρ, S, R0, w, (isI.bA h).mono fun vs H1 ⟨ds, ρ1, S1, R1, r1, t1, w1, h1⟩ => ?_⟩
    cases ez : zipD ds with
    | none => rw [ez] at h1; exact h1.elim
    | some l =>
      rw [ez] at h1
      unfold zipD at ez
      split at ez
      · split at ez
        · rename_i x y a b ea eb
          cases ez
          obtain ⟨v1, v2, rfl, ra, rb⟩ := reps2 r1
          obtain ⟨k1, vs1, c1, q1⟩ := seq_ct (X := X) c.o.K ra ea
          obtain ⟨k2, vs2, c2, q2⟩ := seq_ct (X := X) c.o.K rb eb
          exact ⟨v1, v2, k1, k2, vs1, vs2, rfl, c1 H1 w1.le, c2 H1 w1.le, h1 S1 H1 R1 _ Stp.refl w1 (it_zip c1 c2 q1 q2)⟩
        · cases ez
      · cases ez
end
end PL

end
-- text PL24
section
set_option linter.all false
set_option maxRecDepth 100000
set_option maxHeartbeats 4000000
namespace PL
open PySem PySem.Spec PyProof.Rows L2
section
variable {X : Cx} {p : Pm} {W : WX} {d : Df}
/-- an owned list gets other contents -/
theorem Wd.mut {S H : Hp} {σ : L2.St} {ρ : Rho} {R : List Addr} (w : Wd p S H σ ρ R) {i : Nat} {xs : List O} (e : ρ[i]? = some (some (.own xs))) :
    ∃ a vs Rr, σ[i]? = some (some (.ref a)) ∧ H a = some (.lst vs) ∧ Ows p.K p.cl S H vs xs Rr ∧ ∀ (vs' : List V) (ys : List O) (R' : List Addr), Ows p.K p.cl S H vs' ys R' → List.Sublist R' Rr →
      ∃ R2, Wd p S (L2.upd H a (.lst vs')) σ (ρ.set i (some (.own ys))) R2 ∧ Stp R H S R2 (L2.upd H a (.lst vs')) S := by
  obtain ⟨v1, A1, Ai, A2, eR, hv1, ow, hs1⟩ := w.sl.at e
  cases ow with
  | @own a vs os Rr ea rs =>
    subst eR
    refine ⟨a, vs, Rr, hv1, ea, rs, fun vs' ys R' rs' sub => ?_⟩
    obtain ⟨n1, n2, n3⟩ := List.nodup_append.mp w.nd
    obtain ⟨n4, n5, n6⟩ := List.nodup_append.mp n2
    obtain ⟨n7, n8⟩ := List.nodup_cons.mp n4
    have na : ∀ b ∈ A1 ++ A2, b ≠ a := fun b hb z => by
      subst z
      rcases List.mem_append.mp hb with y | y
      · exact n3 b y b (by simp) rfl
      · exact n6 b (by simp) b y rfl
    have kp : ∀ b u, b ≠ a → H b = some u → L2.upd H a (.lst vs') b = some u := fun b u hb z => by rw [upd_ne hb]; exact z
    have sn : S a = none := w.ap a (by simp)
    have l2 : Le S (L2.upd H a (.lst vs')) := fun b u z => kp b u (fun y => by rw [y, sn] at z; cases z) (w.le b u z)
    have rs2 : Ows p.K p.cl S (L2.upd H a (.lst vs')) vs' ys R' := rs'.up (Le.refl _) fun b hb u z => kp b u (fun y => n7 (by rw [← y]; exact sub.subset hb)) z
    have sl := hs1 S (L2.upd H a (.lst vs')) (.ref a) (.own ys) (a :: R') (Le.refl _) (fun b hb u z => kp b u (na b hb) z) (.own upd_same rs2)
    rw [set_self hv1] at sl
    have sb : List.Sublist (A1 ++ ((a :: R') ++ A2)) (A1 ++ ((a :: Rr) ++ A2)) := List.Sublist.append (List.Sublist.refl _) (List.Sublist.append (sub.cons₂ a) (List.Sublist.refl _))
    refine ⟨_, ⟨l2, sl, w.nd.sublist sb, fun b hb => w.ap b (sb.subset hb), w.io⟩, ⟨Le.refl _, fun b _ z => .inl z, fun b u z hb => kp b u (fun y => hb (by rw [y]; simp)) z, fun b hb => .inl (sb.subset hb), fun b z => ?_⟩⟩
    by_cases y : b = a
    · rw [y, upd_same] at z; cases z
    · rw [upd_ne y] at z; exact z
theorem Ows.erase {K : PySem.W.Frag} {cl : Str → Option Addr} {S H : Hp} : ∀ {v : List V} {o : List O} {R : List Addr} (j : Nat), Ows K cl S H v o R → ∃ R', Ows K cl S H (v.eraseIdx j) (o.eraseIdx j) R' ∧ List.Sublist R' R
  | _, _, _, _, .nil => ⟨[], .nil, List.Sublist.refl _⟩
  | _, _, _, 0, .cons a b => ⟨_, b, List.sublist_append_right _ _⟩
  | _, _, _, j + 1, .cons a b => by
    obtain ⟨R', q, s⟩ := Ows.erase j b
    exact ⟨_, .cons a q, List.Sublist.append (List.Sublist.refl _) s⟩
/-! ### methods of an owned list that a slot holds -/
def mMet (i : Nat) (eff : List O → List D → Option (D × List O)) (fA : M (List D)) : M D := fun ρ => match ρ[i]? with
  | some (some (.own _)) => (fA.bnd fun ds ρ' => match ρ'[i]? with
    | some (some (.own xs)) => match eff xs ds with
      | some (r, ys) => .ok r (ρ'.set i (some (.own ys)))
      | none => .bad
    | _ => .bad) ρ
  | _ => .bad
def effApp (xs : List O) : List D → Option (D × List O)
  | [x] => if xs.length < big then some (.non, xs ++ [.dat x]) else none
  | _ => none
def effPop (xs : List O) : List D → Option (D × List O)
  | [.int k] => if -(2 ^ 63) ≤ k ∧ k < 2 ^ 63 then match seqIndex? k xs.length with
      | some j => match xs[j]? with
        | some (.dat x) => some (x, xs.eraseIdx j)
        | _ => none
      | none => none
    else none
  | _ => none
theorem met_imp {i : Nat} {x : Str} {fA : M (List D)} {eff : List O → List D → Option (D × List O)} {r : V → List V → Hp → VK → Prop} {te : TE} (hv : te = tVar i)
    (hr : ∀ {S H : Hp} {σ : L2.St} {ρ : Rho} {R : List Addr} {a : Addr} {vs us : List V} {xs : List O} {ds : List D} {y : D} {ys : List O} {Rr : List Addr} {Q : VK}, Wd p S H σ ρ R → H a = some (.lst vs) → Ows p.K p.cl S H vs xs Rr → Reps p.K p.cl S us ds → eff xs ds = some (y, ys) →
      (∀ v vs' R', Rep p.K p.cl S v y → Ows p.K p.cl S H vs' ys R' → List.Sublist R' Rr → Q v (L2.upd H a (.lst vs'))) → r (.ref a) us H Q) {σ : L2.St} {H : Hp} {Q : VK} (h : tD p W (mMet i eff fA) σ H Q) : tBM X.K "list" r te (tDA p W fA) σ H Q := by
  obtain ⟨ρ, S, R, w, h⟩ := h
  unfold mMet at h
  split at h
  · rename_i xs0 e0
    obtain ⟨a, vs, Rr, hσ, ea, rs, mu⟩ := w.mut e0
    subst hv
    refine ⟨.ref a, hσ, .inl ⟨rfl, vs, SqL.of ea⟩, ρ, S, R, w, (isE.bA h).mono fun us H1 ⟨ds, ρ1, S1, R1, r1, t1, w1, h1⟩ => ?_⟩
    split at h1
    · rename_i xs e1
      obtain ⟨a', vs', Rr', hσ', ea', rs', mu'⟩ := w1.mut e1
      rw [hσ] at hσ'
      cases hσ'
      cases ef : eff xs ds with
      | none => rw [ef] at h1; exact h1.elim
      | some yy =>
        obtain ⟨y, ys⟩ := yy
        rw [ef] at h1
        refine hr w1 ea' rs' r1 ef fun v vs2 R2 rv os2 sub => ?_
        obtain ⟨R3, w3, t3⟩ := mu' vs2 ys R2 os2 sub
        exact h1 S1 _ R3 v t3 w3 rv
    · exact h1.elim
  · exact h.elim
theorem Cn.app (c : Cn X p W d) {x : Str} {e : Expr} {fA : M (List D)} {p1 p2 pos : Pos} (i : Nat) (h : d.N[i]? = some x) (ha : PA X [e] (tDA p W fA)) (hu : d.us.contains i = true := by rfl)
    (hbase : attributeBase (.Name x p1) "append" X.env (eval (.Name x p1) X.env) = eval (.Name x p1) X.env := by rfl)
    (hfew : ((backTo pos (starEach [e] X.env)).all (fun x => !x.1) && (backToKw pos (keywordEach [] X.env)).all (fun x => x.1.isSome) && decide ([e].length + ([] : List Keyword).length + (if ([] : List Keyword).isEmpty then 0 else 1) < 30)) = true := by rfl)
    (hline : (p2.endLine == pos.line) = true := by rfl) (hs : starEach [e] X.env = (false, eval e X.env) :: starEach [] X.env := by rfl) : PE X (.Call (.Attribute (.Name x p1) "append" p2) [e] [] pos) (tD p W (mMet i effApp fA)) :=
  PE.imp (pe_bm PySem.F.plainAttrs_list PySem.F.slot_list_append PySem.F.type_list_append mt_append (pe_var (c.nx h) (c.vis h hu) (c.nameK h hu).1 (c.nameK h hu).2) ha hbase hfew hline hs rfl) fun σ H Q q => met_imp (x := x) rfl (fun w ea rs rr ef k => by
    unfold effApp at ef
    split at ef
    · split at ef
      · rename_i hz
        cases ef
        obtain ⟨v, rfl, rv⟩ := reps1 rr
        refine ⟨_, _, v, rfl, rfl, ea, by rw [rs.length, ← big_eq]; exact hz, k .non _ _ .non (rs.app (.cons (.dat rv) .nil)) (by simp)⟩
      · cases ef
    · cases ef) q
theorem Cn.popAt (c : Cn X p W d) {x : Str} {e : Expr} {fA : M (List D)} {p1 p2 pos : Pos} (i : Nat) (h : d.N[i]? = some x) (ha : PA X [e] (tDA p W fA)) (hu : d.us.contains i = true := by rfl)
    (hbase : attributeBase (.Name x p1) "pop" X.env (eval (.Name x p1) X.env) = eval (.Name x p1) X.env := by rfl)
    (hfew : ((backTo pos (starEach [e] X.env)).all (fun x => !x.1) && (backToKw pos (keywordEach [] X.env)).all (fun x => x.1.isSome) && decide ([e].length + ([] : List Keyword).length + (if ([] : List Keyword).isEmpty then 0 else 1) < 30)) = true := by rfl)
    (hline : (p2.endLine == pos.line) = true := by rfl) (hs : starEach [e] X.env = (false, eval e X.env) :: starEach [] X.env := by rfl) : PE X (.Call (.Attribute (.Name x p1) "pop" p2) [e] [] pos) (tD p W (mMet i effPop fA)) :=
  PE.imp (pe_bm PySem.F.plainAttrs_list PySem.F.slot_list_pop PySem.F.type_list_pop mt_popAt (pe_var (c.nx h) (c.vis h hu) (c.nameK h hu).1 (c.nameK h hu).2) ha hbase hfew hline hs rfl) fun σ H Q q => met_imp (x := x) rfl (fun w ea rs rr ef k => by
    unfold effPop at ef
    split at ef
    · split at ef
      · rename_i hz
        split at ef
        · rename_i j ej
          split at ef
          · rename_i y ey
            cases ef
            obtain ⟨v, rfl, rv⟩ := reps1 rr
            cases rv
            obtain ⟨u, eu, ru⟩ := rs.get ey
            obtain ⟨R', q1, q2⟩ := rs.erase j
            exact ⟨_, _, _, j, u, rfl, rfl, ea, hz.1, hz.2, by rw [rs.length]; exact ej, eu, k u _ _ ru q1 q2⟩
          · cases ef
        · cases ef
      · cases ef
    · cases ef) q
/-! ### list(e): a new list -/
def listO : List D → Option O
  | [.lst xs] => some (.own (xs.map .dat))
  | [.tup xs] => some (.own (xs.map .dat))
  | _ => none
def mListO (fA : M (List D)) : M O := fA.bnd fun xs => lift (listO xs)
theorem Cn.listO (c : Cn X p W d) {e : Expr} {fA : M (List D)} {q pos : Pos} (j : Nat) (hj : d.gl[j]? = some ("list" : Str)) (ha : PA X [e] (tDA p W fA)) (he : starEach [e] X.env = (false, eval e X.env) :: starEach [] X.env := by rfl) : PE X (.Call (.Name "list" q) [e] [] pos) (tDO p W (mListO fA)) :=
  PE.imp (pe_callTy call_list_of (c.gl hj).1 (c.mf _ mem_list) bb_list ha (c.gl hj).2.2 (c.gl hj).2.1 he rfl) fun σ H Q ⟨ρ, S, R, w, h⟩ => by
    refine ⟨ρ, S, R, w, (isO.bA h).mono fun us H1 ⟨ds, ρ1, S1, R1, r1, t1, w1, h1⟩ => ?_⟩
    unfold PL.listO at h1
    split at h1
    · obtain ⟨v, rfl, rv⟩ := reps1 r1
      cases rv with
      | lst ea ra => exact ⟨_, _, rfl, .inl (SqL.of (w1.le _ _ ea)), fun l hl => PoO.new w1 h1 hl ra.ows⟩
    · obtain ⟨v, rfl, rv⟩ := reps1 r1
      cases rv with
      | tup ea ra => exact ⟨_, _, rfl, .inr (by rw [c.o.K]; exact w1.le.sqT ea), fun l hl => PoO.new w1 h1 hl ra.ows⟩
    · exact h1.elim
/-! ### slices -/
def cutD (ds : List D) (lo hi : Option Int) : List D := (ds.drop (HT.sIx ds.length 0 lo)).take (HT.sIx ds.length ds.length hi - HT.sIx ds.length 0 lo)
def sliceD : D → Option Int → Option Int → Option D
  | .lst ds, lo, hi => some (.lst (cutD ds lo hi))
  | .tup ds, lo, hi => some (.tup (cutD ds lo hi))
  | .str z, lo, hi => if z.length ≤ big then some (.str (cutS z lo hi)) else none
  | _, _, _ => none
theorem Reps.drop {K : PySem.W.Frag} {cl : Str → Option Addr} {S : Hp} : ∀ {v : List V} {ds : List D} (n : Nat), Reps K cl S v ds → Reps K cl S (v.drop n) (ds.drop n)
  | _, _, 0, r => by simpa using r
  | _, _, _ + 1, .nil => .nil
  | _, _, n + 1, .cons _ b => by simpa using Reps.drop n b
theorem Reps.take {K : PySem.W.Frag} {cl : Str → Option Addr} {S : Hp} : ∀ {v : List V} {ds : List D} (n : Nat), Reps K cl S v ds → Reps K cl S (v.take n) (ds.take n)
  | _, _, 0, r => by simpa using Reps.nil
  | _, _, _ + 1, .nil => .nil
  | _, _, n + 1, .cons a b => by simpa using Reps.cons a (Reps.take n b)
theorem Reps.cut {K : PySem.W.Frag} {cl : Str → Option Addr} {S : Hp} {v : List V} {ds : List D} (r : Reps K cl S v ds) (lo hi : Option Int) : Reps K cl S (cutV v lo hi) (cutD ds lo hi) := by
  unfold cutV cutD
  rw [r.length]
  exact (r.drop _).take _
def rSlD (p : Pm) : V → Option Int → Option Int → Hp → VK → Prop := fun x lo hi H Q => ∃ S dx, Le S H ∧ Rep p.K p.cl S x dx ∧ OutD p S H Q (sliceD dx lo hi)
theorem sl_D (hK : X.K = p.K) : SlR X (rSlD p) := by
  intro pins s σ H x v vl vu lo hi sl Q I rx hs pl pu h
  obtain ⟨S, dx, le, r, h⟩ := h
  cases r with
  | lst ea ra => exact sl_list pins s σ H _ v vl vu lo hi sl Q I rx hs pl pu ⟨_, _, rfl, SqL.of (le _ _ ea), fun q hq => h.newL le (ra.cut lo hi) hq⟩
  | tup ea ra =>
    refine sl_tupA pins s σ H _ v vl vu lo hi sl Q I rx hs pl pu ⟨_, _, rfl, by rw [hK]; exact le.sqT ea, fun z => ?_, fun _ q hq => h.newT le (ra.cut lo hi) hq⟩
    rename_i vs ds
    have e : cutD ds lo hi = ds := by
      unfold cutD
      rw [ra.length] at z
      rw [z.1, z.2]
      simp
    have h' : OutD p S H Q (some (.tup (cutD ds lo hi))) := h
    rw [e] at h'
    exact h'.leaf le (.tup ea ra)
  | str z =>
    have h' : OutD p S H Q (if z.length ≤ big then some (.str (cutS z lo hi)) else none) := h
    split at h'
    · rename_i hz
      exact sl_str pins s σ H _ v vl vu lo hi sl Q I rx hs pl pu ⟨_, rfl, by rw [← big_eq]; exact hz, h'.leaf le (.str _)⟩
    · exact h'.elim
  | _ => exact h.elim
/-- a bound -/
def TOd (p : Pm) (W : WX) (f : M (Option Int)) : TO := fun σ H Q => ∃ ρ S R, Wd p S H σ ρ R ∧ (match f ρ with
  | .bad => False
  | .ok o ρ' => ∀ S' H' R', Stp R H S R' H' S' → Wd p S' H' σ ρ' R' → Q o H'
  | .ex x ρ' => ∀ S' H' R' C dd, Stp R H S R' H' S' → Wd p S' H' σ ρ' R' → XR p S' x C dd → W (.ref C) dd σ H')
def mNoB : M (Option Int) := M.ret none
def mB (f : M D) : M (Option Int) := f.bnd fun x => match x with
  | .int i => M.ret (some i)
  | _ => M.bad
def mSl (fe : M D) (fl fh : M (Option Int)) : M D := fe.bnd fun x => fl.bnd fun l => fh.bnd fun h => lift (sliceD x l h)
theorem b_no : PO X none (TOd p W mNoB) := ⟨fun pins s σ H Q I ⟨ρ, S, R, w, h⟩ => po_none.run pins s σ H Q I (h S H R Stp.refl w)⟩
theorem b_some {e : Expr} {f : M D} (he : PE X e (tD p W f)) : PO X (some e) (TOd p W (mB f)) := by
  refine ⟨fun pins s σ H Q I ⟨ρ, S, R, w, h⟩ => (po_some he).run pins s σ H Q I ⟨ρ, S, R, w, ?_⟩⟩
  unfold mB M.bnd at h
  revert h
  cases f ρ with
  | bad => exact fun h => h
  | ex x ρ' => exact fun h => h
  | ok x ρ' =>
    intro h S' H' R' v t w' r
    cases x with
    | int i => cases r; exact ⟨i, rfl, h S' H' R' t w'⟩
    | _ => exact h.elim
theorem TOd.mono {f : M (Option Int)} {σ : L2.St} {H : Hp} {Q Q' : Option Int → Hp → Prop} (h : TOd p W f σ H Q) (k : ∀ o H1, Q o H1 → Q' o H1) : TOd p W f σ H Q' := by
  obtain ⟨ρ, S, R, w, h⟩ := h
  refine ⟨ρ, S, R, w, ?_⟩
  revert h
  cases f ρ with
  | bad => exact fun z => z
  | ex x ρ' => exact fun z => z
  | ok o ρ' => exact fun z S' H' R' t w' => k _ _ (z S' H' R' t w')
theorem PoB {σ : L2.St} {S H : Hp} {R : List Addr} {f : M (Option Int)} {ρ : Rho} {g : Option Int → M D} {Q : VK} (w : Wd p S H σ ρ R) (h : PoE p W σ S H R Q ((f ρ).bnd g)) :
    TOd p W f σ H (fun o H1 => ∃ ρ1 S1 R1, Stp R H S R1 H1 S1 ∧ Wd p S1 H1 σ ρ1 R1 ∧ PoE p W σ S1 H1 R1 Q (g o ρ1)) := by
  refine ⟨ρ, S, R, w, ?_⟩
  revert h
  cases f ρ with
  | bad => exact fun h => h
  | ex x ρ' => exact fun h => h
  | ok o ρ' => exact fun h S' H' R' t w' => ⟨ρ', S', R', t, w', PoE.up t h⟩
theorem Cn.sl (c : Cn X p W d) {e : Expr} {lo hi : Option Expr} {fe : M D} {fl fh : M (Option Int)} {p2 pos : Pos} (he : PE X e (tD p W fe)) (hl : PO X lo (TOd p W fl)) (hh : PO X hi (TOd p W fh)) : PE X (.Subscript e (.Slice lo hi none p2) pos) (tD p W (mSl fe fl fh)) :=
  PE.imp (pe_slice (sl_D c.o.K) he hl hh) fun σ H Q ⟨ρ, S, R, w, h⟩ => by
    refine ⟨ρ, S, R, w, (isE.bE h).mono fun v H1 ⟨x, ρ1, S1, R1, r1, t1, w1, h1⟩ => ?_⟩
    exact (PoB w1 h1).mono fun l H2 ⟨ρ2, S2, R2, t2, w2, h2⟩ => (PoB w2 h2).mono fun u H3 ⟨ρ3, S3, R3, t3, w3, h3⟩ => ⟨S3, x, w3.le, (r1.up t2.s).up t3.s, OutD.of w3 h3⟩
end
end PL

end
-- text PL25
section
set_option linter.all false
set_option maxRecDepth 100000
set_option maxHeartbeats 4000000
namespace PL
open PySem PySem.Spec PyProof.Rows L2
section
variable {X : Cx} {p : Pm} {W : WX} {d : Df}
/-! ### a, b = e by the way of a tuple -/
def mAsgT (is : List Nat) (f : M D) : M Fl := f.bnd fun x ρ => match gTupD is x ρ with
  | some ρ' => .ok .nx ρ'
  | none => .bad
theorem Cn.asgT (c : Cn X p W d) {es : List Expr} {is : List Nat} {e : Expr} {f : M D} {k : Nat} {pt pos : Pos} (h : NamesAt X p es is) (he : PE X e (tD p W f)) (hw : swappedStores [.Tuple es k pt] e X.env = pure none)
    (hs : swapsWithSole [.Tuple es k pt] e pos.line X.env = pure false := by rfl) (h1 : (assignEach [.Tuple es k pt] X.env).map (·.2) = [assign (.Tuple es k pt) X.env] := by rfl) : PS X (.Assign [.Tuple es k pt] e pos) (tDS p W (mAsgT is f)) :=
  PS.imp (ps_asg he (dg_tup c.o h) hs hw h1) fun D σ H ⟨ρ, S, R, w, q⟩ => by
    refine ⟨ρ, S, R, w, ((isS (σ := σ)).bE q).mono fun v H1 ⟨x, ρ1, S1, R1, r1, t1, w1, q1⟩ => ⟨ρ1, S1, R1, x, w1, r1, ?_⟩⟩
    revert q1
    cases gTupD is x ρ1 with
    | none => exact fun z => z
    | some ρ2 => exact fun z σ' S' H' R' _ t w' => z σ' S' H' R' t w'
/-- where a name is no plain local the stores are not swapped -/
theorem swap2N {env : Env} {x y : Str} {a b : Expr} {px py pt pt2 : Pos} {kt k2 : Nat} (hk : env.scope.kind = .function) (hn : ¬ (env.kindOf x = some .local ∧ env.kindOf y = some .local)) (ha : isStar a = false) (hb0 : isStar b = false) :
    swappedStores [.Tuple [.Name x px, .Name y py] kt pt] (.Tuple [a, b] k2 pt2) env = pure none := by
  have hb : env.blockKind = .function := by unfold Env.blockKind; rw [hk]; rfl
  have st : ([a, b].any fun | .Starred .. => true | _ => false) = false := by
    simp only [List.any_cons, List.any_nil, Bool.or_false, Bool.or_eq_false_iff]
    constructor
    · cases a <;> first | rfl | cases ha
    · cases b <;> first | rfl | cases hb0
  have fm : (List.filterMap (fun (z : Expr) => match z with | .Name id pos => if (env.kindOf id == some .local && pos.line == px.line) = true then some id else none | _ => none) [.Name x px, .Name y py]).length ≠ 2 := by
    intro h
    apply hn
    simp only [List.filterMap_cons, List.filterMap_nil] at h
    by_cases h1 : (env.kindOf x == some .local && px.line == px.line) = true <;> by_cases h2 : (env.kindOf y == some .local && py.line == px.line) = true
    · simp only [Bool.and_eq_true, beq_iff_eq] at h1 h2
      exact ⟨h1.1, h2.1⟩
    all_goals
      first | rw [if_pos h1] at h | rw [if_neg h1] at h
      first | rw [if_pos h2] at h | rw [if_neg h2] at h
      simp at h
  unfold swappedStores
  show (do
    if (!(2 == 2 || 2 == 3) || 2 != 2 || env.blockKind != .function) = true then return none
    if ([a, b].any fun | .Starred .. => true | _ => false) = true then return none
    let names := [Expr.Name x px, Expr.Name y py].filterMap fun
      | .Name id pos => if env.kindOf id == some .local && pos.line == px.line then some id else none
      | _ => none
    if (names.length != 2 || names.eraseDups.length != names.length) = true then return none
    if [a, b].all (foldedForSure 8) = true then return none
    if [a, b].all (constantsAlone 8) = true then unsupported "assign.tuple-of-constant-expressions:order-of-the-stores"
    return some names : Sem (Option (List Str))) = _
  rw [st, hb]
  have f2 : ∀ l : List Str, l.length ≠ 2 → (l.length != 2 || l.eraseDups.length != l.length) = true := fun l h => by simp [h]
  have := f2 _ fm
  dsimp only
  rw [if_neg (by decide), if_neg (by decide), if_pos this]
theorem swap3N {env : Env} {x y z : Str} {a b e : Expr} {px py pz pt pt2 : Pos} {kt k2 : Nat} (hk : env.scope.kind = .function) (hn : ¬ (env.kindOf x = some .local ∧ env.kindOf y = some .local ∧ env.kindOf z = some .local)) (ha : isStar a = false) (hb0 : isStar b = false) (he0 : isStar e = false) :
    swappedStores [.Tuple [.Name x px, .Name y py, .Name z pz] kt pt] (.Tuple [a, b, e] k2 pt2) env = pure none := by
  have hb : env.blockKind = .function := by unfold Env.blockKind; rw [hk]; rfl
  have st : ([a, b, e].any fun | .Starred .. => true | _ => false) = false := by
    simp only [List.any_cons, List.any_nil, Bool.or_false, Bool.or_eq_false_iff]
    refine ⟨?_, ?_, ?_⟩
    · cases a <;> first | rfl | cases ha
    · cases b <;> first | rfl | cases hb0
    · cases e <;> first | rfl | cases he0
  have fm : (List.filterMap (fun (z : Expr) => match z with | .Name id pos => if (env.kindOf id == some .local && pos.line == px.line) = true then some id else none | _ => none) [.Name x px, .Name y py, .Name z pz]).length ≠ 3 := by
    intro h
    apply hn
    simp only [List.filterMap_cons, List.filterMap_nil] at h
    by_cases h1 : (env.kindOf x == some .local && px.line == px.line) = true <;> by_cases h2 : (env.kindOf y == some .local && py.line == px.line) = true <;> by_cases h3 : (env.kindOf z == some .local && pz.line == px.line) = true
    · simp only [Bool.and_eq_true, beq_iff_eq] at h1 h2 h3
      exact ⟨h1.1, h2.1, h3.1⟩
    all_goals
      first | rw [if_pos h1] at h | rw [if_neg h1] at h
      first | rw [if_pos h2] at h | rw [if_neg h2] at h
      first | rw [if_pos h3] at h | rw [if_neg h3] at h
      simp at h
  unfold swappedStores
  show (do
    if (!(3 == 2 || 3 == 3) || 3 != 3 || env.blockKind != .function) = true then return none
    if ([a, b, e].any fun | .Starred .. => true | _ => false) = true then return none
    let names := [Expr.Name x px, Expr.Name y py, Expr.Name z pz].filterMap fun
      | .Name id pos => if env.kindOf id == some .local && pos.line == px.line then some id else none
      | _ => none
    if (names.length != 3 || names.eraseDups.length != names.length) = true then return none
    if [a, b, e].all (foldedForSure 8) = true then return none
    if [a, b, e].all (constantsAlone 8) = true then unsupported "assign.tuple-of-constant-expressions:order-of-the-stores"
    return some names : Sem (Option (List Str))) = _
  rw [st, hb]
  have f2 : ∀ l : List Str, l.length ≠ 3 → (l.length != 3 || l.eraseDups.length != l.length) = true := fun l h => by simp [h]
  have := f2 _ fm
  dsimp only
  rw [if_neg (by decide), if_neg (by decide), if_pos this]
theorem Cn.asg2N (c : Cn X p W d) {x y : Str} {a b : Expr} {f : M (List D)} {px py pt pt2 pos : Pos} {kt k2 : Nat} {is : List Nat} (h : NamesAt X p [.Name x px, .Name y py] is) (ha : PA X [a, b] (tDA p W f)) (h0 : isStar a = false) (h1 : isStar b = false)
    (hn : (decide (d.sc.names.lookup x = some .local) && decide (d.sc.names.lookup y = some .local)) = false) (hs : swapsWithSole [.Tuple [.Name x px, .Name y py] kt pt] (.Tuple [a, b] k2 pt2) pos.line X.env = pure false := by rfl) :
    PS X (.Assign [.Tuple [.Name x px, .Name y py] kt pt] (.Tuple [a, b] k2 pt2) pos) (tDS p W (mAsgT is (mTup f))) :=
  c.asgT h (de_tup ha) (swap2N (by rw [c.s]; exact c.kd) (fun ⟨z1, z2⟩ => by
    replace z1 : X.env.scope.names.lookup x = some .local := z1
    replace z2 : X.env.scope.names.lookup y = some .local := z2
    rw [c.s] at z1 z2
    rw [decide_eq_true z1, decide_eq_true z2] at hn
    cases hn) h0 h1) hs
theorem Cn.asg3N (c : Cn X p W d) {x y z : Str} {a b e : Expr} {f : M (List D)} {px py pz pt pt2 pos : Pos} {kt k2 : Nat} {is : List Nat} (h : NamesAt X p [.Name x px, .Name y py, .Name z pz] is) (ha : PA X [a, b, e] (tDA p W f)) (h0 : isStar a = false) (h1 : isStar b = false) (h2 : isStar e = false)
    (hn : (decide (d.sc.names.lookup x = some .local) && (decide (d.sc.names.lookup y = some .local) && decide (d.sc.names.lookup z = some .local))) = false) (hs : swapsWithSole [.Tuple [.Name x px, .Name y py, .Name z pz] kt pt] (.Tuple [a, b, e] k2 pt2) pos.line X.env = pure false := by rfl) :
    PS X (.Assign [.Tuple [.Name x px, .Name y py, .Name z pz] kt pt] (.Tuple [a, b, e] k2 pt2) pos) (tDS p W (mAsgT is (mTup f))) :=
  c.asgT h (de_tup ha) (swap3N (by rw [c.s]; exact c.kd) (fun ⟨z1, z2, z3⟩ => by
    replace z1 : X.env.scope.names.lookup x = some .local := z1
    replace z2 : X.env.scope.names.lookup y = some .local := z2
    replace z3 : X.env.scope.names.lookup z = some .local := z3
    rw [c.s] at z1 z2 z3
    rw [decide_eq_true z1, decide_eq_true z2, decide_eq_true z3] at hn
    cases hn) h0 h1 h2) hs
/-! name = [..]: may the store come first -/
theorem Cn.swT (c : Cn X p W d) {y : Str} {py pos : Pos} {l : Nat} {elt : Expr} {gs : List Comprehension} {scope : Scope} (hy : d.sc.names.lookup y = some .local) (hl : (py.line == pos.line) = true) (hn : (scope.names.any fun (n, k) => n == y && (k == .local || k == .cell)) = false) :
    swapsWith (.ListComp elt gs scope pos) (some (.Name y py)) l X.env = pure true := by
  have h1 : X.env.blockKind = .function := by unfold Env.blockKind; rw [c.s, c.kd]; rfl
  have h2 : X.env.kindOf y = some .local := by show X.env.scope.names.lookup y = _; rw [c.s]; exact hy
  show (pure (X.env.blockKind == .function && X.env.kindOf y == some .local && py.line == pos.line && !(scope.names.any fun (n, k) => n == y && (k == .local || k == .cell))) : Sem Bool) = _
  rw [h1, h2, hl, hn]
  rfl
theorem Cn.swF (c : Cn X p W d) {y : Str} {py pos : Pos} {l : Nat} {elt : Expr} {gs : List Comprehension} {scope : Scope} (hy : (d.sc.names.lookup y == some .local) = false) :
    swapsWith (.ListComp elt gs scope pos) (some (.Name y py)) l X.env = pure false := by
  have h2 : (X.env.kindOf y == some .local) = false := by show (X.env.scope.names.lookup y == some .local) = _; rw [c.s]; exact hy
  show (pure (X.env.blockKind == .function && X.env.kindOf y == some .local && py.line == pos.line && !(scope.names.any fun (n, k) => n == y && (k == .local || k == .cell))) : Sem Bool) = _
  rw [h2]
  simp
/-! ### len(x) of a slot, which stays as it is -/
def mLenS (i : Nat) : M D := fun ρ => match ρ[i]? with
  | some (some (.own xs)) => .ok (.int xs.length) ρ
  | some (some (.dat x)) => lift (lenD [x]) ρ
  | _ => .bad
theorem call_lenS (hK : X.K = p.K) : CallR X (.builtin "len") (fun xs H Q => (∃ a ys, xs = [.ref a] ∧ SqL X.K H a ys ∧ Q (.int ys.length) H) ∨ rDs p lenD xs H Q) := by
  intro pins s σ H xs us Q I r h
  rcases h with ⟨a, ys, rfl, hq, q⟩ | h
  · exact call_len_seq pins s σ H _ us Q I r ⟨_, _, rfl, .inl hq, q⟩
  · exact call_lenDD hK pins s σ H _ us Q I r h
theorem Cn.lenS (c : Cn X p W d) {x : Str} {q pos p1 : Pos} (j i : Nat) (hj : d.gl[j]? = some ("len" : Str)) (h : d.N[i]? = some x) (hu : d.us.contains i = true := by rfl) (he : starEach [.Name x p1] X.env = (false, eval (.Name x p1) X.env) :: starEach [] X.env := by rfl) :
    PE X (.Call (.Name "len" q) [.Name x p1] [] pos) (tD p W (mLenS i)) :=
  PE.imp (pe_callB (call_lenS (p := p) c.o.K) (c.gl hj).1 (c.mf _ mem_len) bb_len (pa_cons (pe_var (c.nx h) (c.vis h hu) (c.nameK h hu).1 (c.nameK h hu).2) pa_nil) (c.gl hj).2.2 (c.gl hj).2.1 he rfl) fun σ H Q ⟨ρ, S, R, w, g⟩ => by
    unfold mLenS at g
    split at g
    · rename_i xs e0
      obtain ⟨a, vs, Rr, hσ, ea, rs, mu⟩ := w.mut e0
      exact ⟨.ref a, hσ, .inl ⟨a, vs, rfl, SqL.of ea, by rw [rs.length]; exact g S H R _ Stp.refl w (.int _)⟩⟩
    · rename_i y e0
      obtain ⟨v, hv, rv⟩ := w.get e0
      exact ⟨v, hv, .inr ⟨S, [y], w.le, .cons rv .nil, OutD.of w g⟩⟩
    · exact g.elim
end
end PL

end
-- text PL26
section
set_option linter.all false
set_option maxRecDepth 100000
set_option maxHeartbeats 4000000
namespace PL
open PySem PySem.Spec L2
def noE : Ex → Rho → Prop := fun _ _ => False
section
variable {Q : D → Rho → Prop} {QF : Fl → Rho → Prop} {QB : Bool → Rho → Prop} {QO : O → Rho → Prop} {QA : List D → Rho → Prop} {E : Ex → Rho → Prop} {ρ : Rho} {fA : M (List D)} {f fe0 : M D}
/-! ### the newer steps -/
theorem w_zip (h : wp (fA ρ) (fun xs ρ' => ∃ l, zipD xs = some l ∧ QA l ρ') E) : wp (mZip fA ρ) QA E := by
  refine w_bnd (wp_mono h (fun x ρ' k => ?_) fun _ _ k => k)
  obtain ⟨l, e, q⟩ := k
  rw [e]; exact ⟨q⟩
theorem w_listO (h : wp (fA ρ) (fun xs ρ' => ∃ o, listO xs = some o ∧ QO o ρ') E) : wp (mListO fA ρ) QO E := by
  refine w_bnd (wp_mono h (fun x ρ' k => ?_) fun _ _ k => k)
  obtain ⟨l, e, q⟩ := k
  rw [e]; exact ⟨q⟩
theorem w_asgT {is : List Nat} (h : wp (f ρ) (fun x ρ' => ∃ ρ2, gTupD is x ρ' = some ρ2 ∧ QF .nx ρ2) E) : wp (mAsgT is f ρ) QF E := by
  refine w_bnd (wp_mono h (fun x ρ' k => ?_) fun _ _ k => k)
  obtain ⟨l, e, q⟩ := k
  show wp (match gTupD is x ρ' with | some ρ' => .ok .nx ρ' | none => .bad) QF E
  rw [e]; exact ⟨q⟩
theorem w_sl {fl fh : M (Option Int)} (h : wp (f ρ) (fun x ρ1 => wp (fl ρ1) (fun l ρ2 => wp (fh ρ2) (fun u ρ3 => wp (lift (sliceD x l u) ρ3) Q E) E) E) E) : wp (mSl f fl fh ρ) Q E :=
  w_bnd (wp_mono h (fun _ _ k => w_bnd (wp_mono k (fun _ _ k => w_bnd k) fun _ _ k => k)) fun _ _ k => k)
theorem w_nob {QI : Option Int → Rho → Prop} (h : QI none ρ) : wp (mNoB ρ) QI E := ⟨h⟩
theorem w_b {QI : Option Int → Rho → Prop} (h : wp (f ρ) (fun x ρ' => ∃ i, x = .int i ∧ QI (some i) ρ') E) : wp (mB f ρ) QI E := by
  refine w_bnd (wp_mono h (fun x ρ' k => ?_) fun _ _ k => k)
  obtain ⟨i, rfl, q⟩ := k
  exact ⟨q⟩
theorem w_lenO {i : Nat} {xs : List O} (e : ρ[i]? = some (some (.own xs))) (h : Q (.int xs.length) ρ) : wp (mLenS i ρ) Q E := by
  unfold mLenS
  rw [e]
  exact ⟨h⟩
theorem w_lenD {i : Nat} {x : D} (e : ρ[i]? = some (some (.dat x))) (h : wp (lift (lenD [x]) ρ) Q E) : wp (mLenS i ρ) Q E := by
  unfold mLenS
  rw [e]
  exact h
theorem w_met {i : Nat} {eff : List O → List D → Option (D × List O)} {xs : List O} (e : ρ[i]? = some (some (.own xs))) (h : wp (fA ρ) (fun ds ρ' => ∃ xs y ys, ρ'[i]? = some (some (.own xs)) ∧ eff xs ds = some (y, ys) ∧ Q y (ρ'.set i (some (.own ys)))) E) : wp (mMet i eff fA ρ) Q E := by
  unfold mMet
  rw [e]
  refine w_bnd (wp_mono h (fun ds ρ' k => ?_) fun _ _ k => k)
  obtain ⟨xs, y, ys, e1, e2, q⟩ := k
  rw [e1]
  dsimp only
  rw [e2]
  exact ⟨q⟩
/-! ### comprehensions -/
theorem w_lc {vs : List Nat} {fi : M (List D)} {gt : Tgt} {ft : M Bool} {fe : M O} (h : wp (fi ρ) (fun ds ρ1 => plainAt ρ1 vs = true ∧ wp (lcL vs gt ft fe ds [] (wipeR ρ1 vs)) (fun os ρ' => QO (.own os) (PL.unwipe ρ1 vs ρ')) noE) E) : wp (mLc vs fi gt ft fe ρ) QO E := by
  refine w_bnd (wp_mono h (fun ds ρ1 k => ?_) fun _ _ k => k)
  obtain ⟨hp, k⟩ := k
  show wp (if plainAt ρ1 vs then match lcL vs gt ft fe ds [] (wipeR ρ1 vs) with
    | .ok os ρ' => .ok (.own os) (unwipe ρ1 vs ρ')
    | _ => .bad
    else .bad) QO E
  rw [if_pos hp]
  revert k
  cases lcL vs gt ft fe ds [] (wipeR ρ1 vs) with
  | bad => exact fun k => k.go.elim
  | ex x ρ' => exact fun k => k.go.elim
  | ok os ρ' => exact fun k => ⟨k.go⟩
variable {vs : List Nat} {gt : Tgt} {ft : M Bool} {fe : M O} {QL : List O → Rho → Prop}
theorem w_lcL : ∀ (ds : List D) (I : Nat → List O → Rho → Prop) {acc : List O} {ρ : Rho}, I 0 acc ρ →
    (∀ i d acc ρ, ds[i]? = some d → I i acc ρ → ∃ ρ1, gt d ρ = some ρ1 ∧ wp (ft ρ1) (fun b ρ2 => (b = true → wp (fe ρ2) (fun o ρ3 => acc.length < big ∧ I (i + 1) (acc ++ [o]) (wipeR ρ3 vs)) noE) ∧ (b = false → I (i + 1) acc (wipeR ρ2 vs))) noE) →
    (∀ acc ρ, I ds.length acc ρ → QL acc ρ) → wp (lcL vs gt ft fe ds acc ρ) QL E
  | [], I, acc, ρ, h0, _, hf => ⟨hf _ _ h0⟩
  | d :: ds, I, acc, ρ, h0, hs, hf => by
    obtain ⟨ρ1, e, h⟩ := hs 0 d acc ρ rfl h0
    have go : ∀ acc ρ, I 1 acc ρ → wp (lcL vs gt ft fe ds acc ρ) QL E := fun acc ρ k => w_lcL ds (fun i => I (i + 1)) k (fun i d acc ρ e k => hs (i + 1) d acc ρ (by simpa using e) k) fun acc ρ k => hf acc ρ k
    unfold lcL
    rw [e]
    dsimp only
    revert h
    cases ft ρ1 with
    | bad => exact fun h => h.go.elim
    | ex x ρ' => exact fun h => h.go.elim
    | ok b ρ2 =>
      rintro ⟨h1, h2⟩
      cases b with
      | false => exact go _ _ (h2 rfl)
      | true =>
        have h3 := h1 rfl
        dsimp only
        revert h3
        cases fe ρ2 with
        | bad => exact fun h => h.go.elim
        | ex x ρ' => exact fun h => h.go.elim
        | ok o ρ3 =>
          rintro ⟨h4, h5⟩
          dsimp only
          rw [if_pos h4]
          exact go _ _ h5
/-- a pure one, over what stands for the xs -/
theorem w_lcX {α : Type} {ρ0 : Rho} (xs : List α) (G : α → D) (T : α → Bool) (F : α → O) (hb : xs.length ≤ big) (h : ∀ x ∈ xs, ∃ ρ1, gt (G x) ρ0 = some ρ1 ∧ wp (ft ρ1) (fun b ρ2 => b = T x ∧ (b = true → wp (fe ρ2) (fun o ρ3 => o = F x ∧ wipeR ρ3 vs = ρ0) noE) ∧ (b = false → wipeR ρ2 vs = ρ0)) noE)
    (k : QL ((xs.filter T).map F) ρ0) : wp (lcL vs gt ft fe (xs.map G) [] ρ0) QL E := by
  refine w_lcL (xs.map G) (fun i acc ρ => ρ = ρ0 ∧ i ≤ xs.length ∧ acc = ((xs.take i).filter T).map F) ⟨rfl, Nat.zero_le _, by simp⟩ ?_ ?_
  · rintro i d acc ρ hi ⟨rfl, hl, rfl⟩
    rw [List.getElem?_map] at hi
    cases hx : xs[i]? with
    | none => rw [hx] at hi; cases hi
    | some x =>
      rw [hx] at hi
      cases hi
      have il := (List.getElem?_eq_some_iff.mp hx).1
      have ht : xs.take (i + 1) = xs.take i ++ [x] := by
        rw [List.take_succ, hx]; rfl
      obtain ⟨ρ1, e, hw⟩ := h x (List.mem_of_getElem? hx)
      refine ⟨ρ1, e, wp_mono hw (fun b ρ2 ⟨eb, h1, h2⟩ => ⟨fun hb1 => wp_mono (h1 hb1) (fun o ρ3 ⟨eo, ew⟩ => ⟨?_, ew, il, ?_⟩) fun _ _ z => z, fun hb1 => ⟨h2 hb1, il, ?_⟩⟩) fun _ _ z => z⟩
      · rw [List.length_map]
        have := List.length_filter_le T (xs.take i)
        rw [List.length_take] at this
        omega
      · rw [ht, List.filter_append, List.map_append, eo]
        rw [hb1] at eb
        simp [← eb]
      · rw [ht, List.filter_append]
        rw [hb1] at eb
        simp [← eb]
  · rintro acc ρ ⟨rfl, _, rfl⟩
    rw [List.length_map, List.take_length]
    exact k
theorem w_lcM {α : Type} {ρ0 : Rho} (xs : List α) (G : α → D) (F : α → O) (hb : xs.length ≤ big) (h : ∀ x ∈ xs, ∃ ρ1, gt (G x) ρ0 = some ρ1 ∧ wp (fe ρ1) (fun o ρ3 => o = F x ∧ wipeR ρ3 vs = ρ0) noE) (k : QL (xs.map F) ρ0) : wp (lcL vs gt (M.ret true) fe (xs.map G) [] ρ0) QL E := by
  refine w_lcX xs G (fun _ => true) F hb (fun d hd => ?_) (by rw [List.filter_eq_self.mpr fun _ _ => rfl]; exact k)
  obtain ⟨ρ1, e, hw⟩ := h d hd
  exact ⟨ρ1, e, w_ret ⟨rfl, fun _ => hw, fun z => by cases z⟩⟩
theorem s_pl {ρ : Rho} {vs : List Nat} {P : Prop} (h : plainAt ρ vs = true) (k : P) : plainAt ρ vs = true ∧ P := ⟨h, k⟩
theorem s_rb {j : Int} {P : Prop} (h : -(2 ^ 62) ≤ j ∧ j < 2 ^ 62) (k : P) : (-(2 ^ 62) ≤ j ∧ j < 2 ^ 62) ∧ P := ⟨h, k⟩
theorem rngL_map {lo : Int} {n : Nat} : rngL lo n = (List.range n).map fun (i : Nat) => D.int (lo + i) := rfl
end
/-! ### data of ints and truths -/
theorem inz_map : ∀ ns : List Int, inz (ns.map .int) = some ns
  | [] => rfl
  | n :: ns => by
    show (inz (ns.map .int)).map (n :: ·) = _
    rw [inz_map ns]; rfl
theorem sum_map (ns : List Int) : sumD [.lst (ns.map .int)] = some (.int ns.sum) := by
  show (inz (ns.map .int)).map (fun bs => D.int bs.sum) = _
  rw [inz_map]; rfl
theorem bls_map : ∀ ns : List Bool, bls (ns.map .bl) = some ns
  | [] => rfl
  | n :: ns => by
    show (bls (ns.map .bl)).map (n :: ·) = _
    rw [bls_map ns]; rfl
theorem all_map (ns : List Bool) : allD [.lst (ns.map .bl)] = some (.bl (ns.all id)) := by
  show (bls (ns.map .bl)).map (fun bs => D.bl (bs.all id)) = _
  rw [bls_map]; rfl
end PL

end
-- text PL27
section
set_option linter.all false
set_option maxRecDepth 100000
set_option maxHeartbeats 4000000
namespace PL
open PySem PySem.Spec PyProof.Rows L2
section
variable {X : Cx} {p : Pm} {W : WX} {d : Df}
/-! ### a look that leaves all as it is: all slots as data while it lasts -/
def frzO (o : Option O) : Option O := o.map fun o => .dat (fz o)
def frzR (ρ : Rho) : Rho := ρ.map frzO
theorem Sl.frz {K : PySem.W.Frag} {cl : Str → Option Addr} {S S' H : Hp} : ∀ {σ : L2.St} {ρ : Rho} {R : List Addr}, Sl K cl S H σ ρ R → Le S S' → (∀ a ∈ R, ∀ u, H a = some u → S' a = some u) → Sl K cl S' H σ (frzR ρ) []
  | _, _, _, .nil, _, _ => .nil
  | _, _, _, .non r, h, k => .non (Sl.frz r h k)
  | _, _, _, .has a b, h, k => Sl.has (R := []) (.dat (a.ice h fun c hc => k c (List.mem_append_left _ hc))) (Sl.frz b h fun c hc => k c (List.mem_append_right _ hc))
theorem Wd.frz {S H : Hp} {σ : L2.St} {ρ : Rho} {R : List Addr} (w : Wd p S H σ ρ R) : Wd p (ice S H R) H σ (frzR ρ) [] :=
  ⟨fun b u e => (by
      by_cases hb : b ∈ R
      · rw [ice_of hb] at e; exact e
      · rw [ice_not hb] at e; exact w.le b u e), w.sl.frz (ice_le w.ap) (fun a ha u e => by rw [ice_of ha]; exact e), List.nodup_nil, (fun _ z => nomatch z), w.io⟩
theorem Stp.wide {R R' T : List Addr} {H H' S S' : Hp} (t : Stp R H S R' H' S') : Stp (R ++ T) H S (R' ++ T) H' S' :=
  ⟨t.s, fun b h1 h2 => (t.n b h1 h2).imp id (List.mem_append_left _), fun b o e h => t.k b o e fun z => h (List.mem_append_left _ z), fun b hb => by
    rcases List.mem_append.mp hb with z | z
    · exact (t.r b z).imp (List.mem_append_left _) id
    · exact .inl (List.mem_append_right _ z), t.t⟩
/-- behind it -/
theorem Wd.back {S H H' S1 S' : Hp} {σ : L2.St} {ρ : Rho} {R R' : List Addr} (w : Wd p S H σ ρ R) (t : Stp [] H S1 R' H' S') : Wd p S H' σ ρ R ∧ Stp R H S R H' S := by
  have le : Le H H' := fun b o e => t.k b o e (by simp)
  exact ⟨⟨w.le.trans le, w.sl.up (Le.refl _) fun a _ u e => le a u e, w.nd, w.ap, w.io⟩, ⟨Le.refl _, fun _ _ h => .inl h, fun b o e _ => le b o e, fun b h => .inl h, fun b h => t.t b h⟩⟩
def mBorT (f : M Bool) : M Bool := fun ρ => match f (frzR ρ) with
  | .ok b _ => .ok b ρ
  | _ => .bad
def mBor (f : M D) : M D := fun ρ => match f (frzR ρ) with
  | .ok x _ => if flatX x then .ok x ρ else .bad
  | _ => .bad
theorem t_bor {e : Expr} {f : M Bool} (h : PT X e (tDT p W f)) : PT X e (tDT p W (mBorT f)) := PT.imp h fun σ H Q ⟨ρ, S, R, w, q⟩ => by
  refine ⟨frzR ρ, ice S H R, [], w.frz, ?_⟩
  unfold mBorT at q
  revert q
  cases f (frzR ρ) with
  | bad => exact fun z => z.elim
  | ex x ρ' => exact fun z => z.elim
  | ok b ρ' => exact fun z S' H' R' t _ => z S H' R (w.back t).2 (w.back t).1
theorem flat_up {S S' : Hp} {v : V} {x : D} (r : Rep p.K p.cl S v x) (h : flatX x = true) : Rep p.K p.cl S' v x := by
  cases r with
  | non => exact .non
  | bl b => exact .bl b
  | int i => exact .int i
  | str z => exact .str z
  | _ => cases h
theorem e_bor {e : Expr} {f : M D} (h : PE X e (tD p W f)) : PE X e (tD p W (mBor f)) := PE.imp h fun σ H Q ⟨ρ, S, R, w, q⟩ => by
  refine ⟨frzR ρ, ice S H R, [], w.frz, ?_⟩
  unfold mBor at q
  revert q
  cases f (frzR ρ) with
  | bad => exact fun z => z.elim
  | ex x ρ' => exact fun z => z.elim
  | ok b ρ' =>
    dsimp only
    split
    · rename_i hf
      exact fun z S' H' R' v t _ r => z S H' R v (w.back t).2 (w.back t).1 (flat_up r hf)
    · exact fun z => z.elim
/-! ### a, b = x, y where new lists stay owned -/
def mParO (i j : Nat) (fa fb : M O) : M Fl := fa.bnd fun o1 => fb.bnd fun o2 ρ => if i < ρ.length ∧ j < ρ.length then .ok .nx ((ρ.set i (some o1)).set j (some o2)) else .bad
theorem Cn.parO (c : Cn X p W d) {x y : Str} {a b : Expr} {fa fb : M O} {px py pt pt2 pos : Pos} {kt k2 : Nat} (i j : Nat) (hi : d.N[i]? = some x) (hj : d.N[j]? = some y) (hij : i ≠ j) (hx : d.sc.names.lookup x = some .local) (hy : d.sc.names.lookup y = some .local) (hpi : d.io.contains i = false) (hpj : d.io.contains j = false)
    (ha : PE X a (tDO p W fa)) (hb : PE X b (tDO p W fb)) (hl : py.line = px.line) (h0 : isStar a = false) (h1 : isStar b = false) (h2 : [a, b].all (foldedForSure 8) = false) (h3 : [a, b].all (constantsAlone 8) = false) (hs : swapsWithSole [.Tuple [.Name x px, .Name y py] kt pt] (.Tuple [a, b] k2 pt2) pos.line X.env = pure false := by rfl)
    (hs1 : starEach [a, b] X.env = (false, eval a X.env) :: starEach [b] X.env := by rfl) (hs2 : starEach [b] X.env = (false, eval b X.env) :: starEach [] X.env := by rfl) :
    PS X (.Assign [.Tuple [.Name x px, .Name y py] kt pt] (.Tuple [a, b] k2 pt2) pos) (tDS p W (mParO i j fa fb)) := by
  have hx' : X.env.scope.names.lookup x = some .local := by rw [c.s]; exact hx
  have hy' : X.env.scope.names.lookup y = some .local := by rw [c.s]; exact hy
  have hxy : (y == x) = false := by
    cases z : (y == x) with
    | false => rfl
    | true =>
      exfalso
      have e := eq_of_beq z
      subst e
      have nd := c.o.N
      rw [c.n] at nd
      exact hij ((List.getElem?_inj (List.getElem?_eq_some_iff.mp hi).1 nd).mp (hi.trans hj.symm))
  refine PS.imp (ps_par c.o.c c.o.N (c.nx hi) (c.nx hj) hij hx' hy' (pa_cons ha (pa_cons hb pa_nil hs2) hs1) (swap2 (by rw [c.s]; exact c.kd) hx' hy' hl hxy h0 h1 h2 h3) hs) fun Dn σ H ⟨ρ, S, R, w, q⟩ => ?_
  refine ⟨ρ, S, R, w, ((isS (σ := σ)).bO q).mono fun v H1 ⟨o1, ρ1, S1, R1, Rv, ow1, t1, w1, n1, a1, q1⟩ => ?_⟩
  have d1 : ∀ b ∈ Rv, b ∉ R1 := fun b hb z => (List.nodup_append.mp n1).2.2 b z b hb rfl
  refine ⟨ρ1, S1, R1, w1, ?_⟩
  replace q1 : PoS p W S1 H1 (R1 ++ Rv) Dn ((fb ρ1).bnd fun o2 ρ => if i < ρ.length ∧ j < ρ.length then .ok .nx ((ρ.set i (some o1)).set j (some o2)) else .bad) := q1
  revert q1
  cases fb ρ1 with
  | bad => exact fun z => z
  | ex x ρ2 => exact fun z S' H' R' C dd t w' xr => z σ S' H' R' C dd (t.wide.less fun b hb => List.mem_append_left _ hb) w' xr
  | ok o2 ρ2 =>
    intro q2 S2 H2 R2 u Ru t2 w2 ow2 n2 a2
    replace q2 : PoS p W S1 H1 (R1 ++ Rv) Dn (if i < ρ2.length ∧ j < ρ2.length then .ok .nx ((ρ2.set i (some o1)).set j (some o2)) else .bad) := q2
    have th := ow1.there
    have ow1' : Ow p.K p.cl S2 H2 v o1 Rv := ow1.up t2.s fun b hb z e => t2.k b z e (d1 b hb)
    have dj : ∀ b ∈ Rv, b ∉ R2 ++ Ru := fun b hb z => by
      rcases t2.r b z with y | y
      · exact d1 b hb y
      · exact th b hb y
    have a1' : ∀ b ∈ Rv, S2 b = none := fun b hb => by
      cases e : S2 b with
      | none => rfl
      | some o =>
        rcases t2.n b (th b hb) (by rw [e]; simp) with y | y
        · rw [a1 b hb] at y; exact absurd rfl y
        · exact absurd y (d1 b hb)
    have nv : Rv.Nodup := (List.nodup_append.mp n1).2.1
    split at q2
    · rename_i hz
      have nA : (R2 ++ Rv).Nodup := List.nodup_append.mpr ⟨w2.nd, nv, fun x hx y hy e => by subst e; exact dj x hy (List.mem_append_left _ hx)⟩
      obtain ⟨R3, w3, s3⟩ := w2.put ow1' nA a1' (c.pin hpi) hz.1
      have nB : (R3 ++ Ru).Nodup := List.nodup_append.mpr ⟨w3.nd, (List.nodup_append.mp n2).2.1, fun x hx y hy e => by
        subst e
        rcases List.mem_append.mp (s3 x hx) with z | z
        · exact (List.nodup_append.mp n2).2.2 x z x hy rfl
        · exact dj x z (List.mem_append_right _ hy)⟩
      obtain ⟨R4, w4, s4⟩ := w3.put ow2 nB a2 (c.pin hpj) (by simpa using hz.2)
      refine ⟨v, u, rfl, q2 _ S2 H2 R4 (t2.wide.less fun b hb => ?_) w4⟩
      rcases List.mem_append.mp (s4 b hb) with z | z
      · rcases List.mem_append.mp (s3 b z) with y | y
        · simp [y]
        · simp [y]
      · simp [z]
    · exact q2.elim
end
end PL

end
-- text PL28
section
set_option linter.all false
set_option maxRecDepth 100000
set_option maxHeartbeats 4000000
namespace PL
open PySem PySem.Spec L2
section
variable {Q : D → Rho → Prop} {QF : Fl → Rho → Prop} {QB : Bool → Rho → Prop} {E : Ex → Rho → Prop} {ρ : Rho} {f : M D} {t : M Bool} {fa fb : M O}
theorem w_borT (h : wp (t (frzR ρ)) (fun b _ => QB b ρ) noE) : wp (mBorT t ρ) QB E := by
  unfold mBorT
  revert h
  cases t (frzR ρ) with
  | bad => exact fun h => h.go.elim
  | ex x ρ' => exact fun h => h.go.elim
  | ok b ρ' => exact fun h => ⟨h.go⟩
theorem w_bor (h : wp (f (frzR ρ)) (fun x _ => flatX x = true ∧ Q x ρ) noE) : wp (mBor f ρ) Q E := by
  unfold mBor
  revert h
  cases f (frzR ρ) with
  | bad => exact fun h => h.go.elim
  | ex x ρ' => exact fun h => h.go.elim
  | ok b ρ' =>
    rintro ⟨h1, h2⟩
    dsimp only
    rw [if_pos h1]
    exact ⟨h2⟩
theorem s_fl {x : D} {P : Prop} (h : flatX x = true) (k : P) : flatX x = true ∧ P := ⟨h, k⟩
theorem w_parO {i j : Nat} (h : wp (fa ρ) (fun o1 ρ1 => wp (fb ρ1) (fun o2 ρ2 => (i < ρ2.length ∧ j < ρ2.length) ∧ QF .nx ((ρ2.set i (some o1)).set j (some o2))) E) E) : wp (mParO i j fa fb ρ) QF E := by
  refine w_bnd (wp_mono h (fun o1 ρ1 k => w_bnd (wp_mono k (fun o2 ρ2 k => ?_) fun _ _ k => k)) fun _ _ k => k)
  show wp (if i < ρ2.length ∧ j < ρ2.length then _ else _) _ _
  rw [if_pos k.1]
  exact ⟨k.2⟩
theorem s_lt2 {i j : Nat} {l : List (Option O)} {P : Prop} (h1 : Nat.ble (i + 1) l.length = true) (h2 : Nat.ble (j + 1) l.length = true) (k : P) : (i < l.length ∧ j < l.length) ∧ P := ⟨⟨Nat.le_of_ble_eq_true h1, Nat.le_of_ble_eq_true h2⟩, k⟩
end
/-! ### kinds of data -/
def okD : D → Bool
  | .ty _ => false
  | .scr _ => false
  | .obj .. => false
  | .kls .. => false
  | _ => true
def isInt : D → Bool
  | .int _ => true
  | _ => false
def lob : D → D → Bool
  | .int a, .int v => decide (a ≤ v)
  | _, _ => true
def hib : D → D → Bool
  | .int a, .int v => decide (v ≤ a)
  | _, _ => true
def bnd : D → Bool
  | .non => true
  | .int _ => true
  | _ => false
def prs : List D := [.int 2, .int 3, .int 5, .int 7, .int 11, .int 13]
def isPr : D → Bool
  | .int i => anyE (.int i) prs
  | _ => false
theorem pr_of {q : Int} (h : isPr (.int q) = true) : q = 2 ∨ q = 3 ∨ q = 5 ∨ q = 7 ∨ q = 11 ∨ q = 13 := by
  simp [isPr, prs, anyE, flatE] at h
  omega
/-- a list or a tuple -/
def seqOf : D → Option (List D)
  | .lst ds => some ds
  | .tup ds => some ds
  | _ => none
def isSq (d : D) : Bool := (seqOf d).isSome
theorem isi_sq {d : D} (h : okD d = true) : isiD [d, .tup [.ty "list", .ty "tuple"]] = some (.bl (isSq d)) := by
  cases d <;> first | rfl | cases h | (rename_i b; cases b <;> rfl)
def its (d : D) : List D := (seqOf d).getD []
def vecB (d : D) : Bool := isSq d && (its d).all isInt
def okV (d : D) : Bool := okD d && ((its d).all okD && decide ((its d).length ≤ 1000))
def rowB (w : Int) (d : D) : Bool := vecB d && ((its d).length : Int) == w
def matB (d : D) (h w : Int) : Bool := isSq d && (((its d).length : Int) == h && (its d).all (rowB w))
def okM (d : D) : Bool := okD d && ((its d).all okV && decide ((its d).length ≤ 1000))
/-! ### vectors and matrices of ints -/
def sqD (t : Bool) (ds : List D) : D := if t then .tup ds else .lst ds
def vD (t : Bool) (v : List Int) : D := sqD t (v.map .int)
def rwD (r : Bool × List Int) : D := vD r.1 r.2
def mD (t : Bool) (m : List (Bool × List Int)) : D := sqD t (m.map rwD)
theorem seq_sq {t : Bool} {ds : List D} : seqOf (sqD t ds) = some ds := by cases t <;> rfl
theorem its_sq {t : Bool} {ds : List D} : its (sqD t ds) = ds := by cases t <;> rfl
theorem okD_sq {t : Bool} {ds : List D} : okD (sqD t ds) = true := by cases t <;> rfl
theorem isSq_sq {t : Bool} {ds : List D} : isSq (sqD t ds) = true := by cases t <;> rfl
theorem vec_vD {t : Bool} {v : List Int} : vecB (vD t v) = true := by
  unfold vecB vD
  rw [isSq_sq, its_sq]
  simp [isInt]
theorem okV_vD {t : Bool} {v : List Int} (h : v.length ≤ 1000) : okV (vD t v) = true := by
  unfold okV vD
  rw [okD_sq, its_sq]
  simp [okD, h]
theorem row_vD {t : Bool} {v : List Int} {w : Nat} (h : v.length = w) : rowB w (vD t v) = true := by
  unfold rowB
  rw [vec_vD]
  unfold vD
  rw [its_sq]
  simp [h]
theorem mat_mD {t : Bool} {m : List (Bool × List Int)} {h w : Nat} (hh : m.length = h) (hw : ∀ r ∈ m, r.2.length = w) : matB (mD t m) h w = true := by
  unfold matB mD
  rw [isSq_sq, its_sq]
  simp only [List.length_map, hh, beq_self_eq_true, Bool.true_and, List.all_map, List.all_eq_true]
  intro r hr
  exact row_vD (hw r hr)
theorem okM_mD {t : Bool} {m : List (Bool × List Int)} {w : Nat} (hh : m.length ≤ 1000) (hw : ∀ r ∈ m, r.2.length = w) (h1 : w ≤ 1000) : okM (mD t m) = true := by
  unfold okM mD
  rw [okD_sq, its_sq]
  simp only [List.length_map, Bool.true_and, Bool.and_eq_true, decide_eq_true_eq, hh, and_true, List.all_map, List.all_eq_true]
  intro r hr
  exact okV_vD (by rw [hw r hr]; exact h1)
/-- the led vector -/
def dotC (v : List Int) (m : List (List Int)) (j : Nat) : Int := (List.zipWith (fun a r => a * List.getD r j 0) v m).sum
def leadV (p : Int) (v : List Int) (m : List (List Int)) (w : Nat) : List Int := (List.range w).map fun j => dotC v m j % p
theorem zip_rows (v : List Int) (m : List (Bool × List Int)) : List.zipWith pairD (v.map .int) (m.map rwD) = (List.zip v m).map fun q => D.tup [.int q.1, rwD q.2] := by
  induction v generalizing m with
  | nil => simp
  | cons a v ih =>
    cases m with
    | nil => simp
    | cons r m => simp [ih, pairD]
theorem zip_sum (v : List Int) (m : List (Bool × List Int)) (j : Nat) : ((List.zip v m).map fun q => q.1 * List.getD q.2.2 j 0).sum = dotC v (m.map (·.2)) j := by
  unfold dotC
  induction v generalizing m with
  | nil => simp
  | cons a v ih =>
    cases m with
    | nil => simp
    | cons r m => simp only [List.zip_cons_cons, List.map_cons, List.zipWith_cons_cons, List.sum_cons, ih]
theorem at_int {r : List Int} {j : Nat} (h : j < r.length) : L2.atI (r.map D.int) (j : Int) = some (.int (r.getD j 0)) := by
  unfold L2.atI ixN
  rw [if_pos (by omega), if_pos (by simpa using h)]
  simp [h]
theorem ix_vD {t : Bool} {r : List Int} {j : Nat} (h : j < r.length) : ixD (vD t r) (.int j) = some (.int (r.getD j 0)) := by
  cases t <;> exact at_int h
section
variable {E : Ex → Rho → Prop} {vs : List Nat} {gt : Tgt} {fe : M O} {QL : List O → Rho → Prop} {ρ0 : Rho} {α : Type}
theorem w_lcD (xs : List α) (G f : α → D) (hb : xs.length ≤ big) (h : ∀ x ∈ xs, ∃ ρ1, gt (G x) ρ0 = some ρ1 ∧ wp (fe ρ1) (fun o ρ3 => o = .dat (f x) ∧ wipeR ρ3 vs = ρ0) noE) (k : QL ((xs.map f).map .dat) ρ0) : wp (lcL vs gt (M.ret true) fe (xs.map G) [] ρ0) QL E :=
  w_lcM xs G (fun x => .dat (f x)) hb h (by rw [List.map_map] at k; exact k)
theorem w_lcI (ds : List D) (f : D → D) (hb : ds.length ≤ big) (h : ∀ x ∈ ds, ∃ ρ1, gt x ρ0 = some ρ1 ∧ wp (fe ρ1) (fun o ρ3 => o = .dat (f x) ∧ wipeR ρ3 vs = ρ0) noE) (k : QL ((ds.map f).map .dat) ρ0) : wp (lcL vs gt (M.ret true) fe ds [] ρ0) QL E := by
  have := w_lcD (E := E) (vs := vs) (gt := gt) (fe := fe) (QL := QL) (ρ0 := ρ0) ds (fun d => d) f hb h k
  rwa [List.map_id'] at this
end
theorem all_of {α : Type} (xs : List α) (g : α → Bool) : allD [.lst (xs.map fun d => D.bl (g d))] = some (.bl (xs.all g)) := by
  have := all_map (xs.map g)
  rw [List.map_map] at this
  rw [List.all_map] at this
  exact this
theorem sum_of {α : Type} (xs : List α) (g : α → Int) : sumD [.lst (xs.map fun d => D.int (g d))] = some (.int (xs.map g).sum) := by
  have := sum_map (xs.map g)
  rw [List.map_map] at this
  exact this
theorem sq_of {d : D} (h : isSq d = true) : ∃ t, d = sqD t (its d) := by
  cases d with
  | lst ds => exact ⟨false, rfl⟩
  | tup ds => exact ⟨true, rfl⟩
  | _ => cases h
theorem items_sq {t : Bool} {ds : List D} : itemsD (sqD t ds) = some ds := by cases t <;> rfl
theorem len_sq {t : Bool} {ds : List D} : lenD [sqD t ds] = some (.int ds.length) := by cases t <;> rfl
theorem seqD_sq {t : Bool} {ds : List D} : seqD (sqD t ds) = some ds := by cases t <;> rfl
theorem tup_sq {t : Bool} {ds : List D} : tupD [sqD t ds] = some (.tup ds) := by cases t <;> rfl
end PL

end
-- text PL29
section
set_option linter.all false
set_option maxRecDepth 100000
set_option maxHeartbeats 4000000
namespace PL
open PySem PySem.Spec L2
def gTakeN (c1 c2 c3 : Int) : M Fl := (mSeq (mIf (mBorT (mTst (mCmp .Gt (mOwnIx 0 (M.ret (.int 0))) (M.ret (.int 0))))) (mSeq (mSet 2 (asO (mBin .Mod (mCB intD (mCons (mOwnIx 0 (M.ret (.int 0))) mNil)) (mVar 1))))
  (mSeq (mSetIx 0 (mBin .FloorDiv (mOwnIx 0 (M.ret (.int 0))) (mVar 1)) (M.ret (.int 0)))
  (mSeq (mRet (asO (mVar 2)))
  mNx))) mNx)
  (mSeq (mSetIx 0 (mBin .Add (mOwnIx 0 (M.ret (.int 2))) (M.ret (.int 1))) (M.ret (.int 2)))
  (mSeq (mSet 3 (asO (mBin .Mod (mBin .Pow (mCB intD (mCons (mBin .Add (mBin .Add (mOwnIx 0 (M.ret (.int 1))) (mBin .Mult (M.ret (.int c1)) (mOwnIx 0 (M.ret (.int 2))))) (M.ret (.int c2))) mNil)) (M.ret (.int 5))) (M.ret (.int 2147483647)))))
  (mSeq (mSet 3 (asO (mBin .Mod (mBin .Pow (mCB intD (mCons (mBin .Add (mVar 3) (mBin .Mult (M.ret (.int c3)) (mOwnIx 0 (M.ret (.int 2))))) mNil)) (M.ret (.int 3))) (M.ret (.int 2147483587)))))
  (mSeq (mRet (asO (mBin .Mod (mCB intD (mCons (mBin .FloorDiv (mVar 3) (M.ret (.int 16))) mNil)) (mVar 1))))
  mNx)))))
theorem takeN_ok {t : Ent} {c1 c2 c3 : Int} (ht : t.F = bodyF 4 2 [0] (gTakeN c1 c2 c3)) (hc : (0 ≤ c1 ∧ c1 ≤ 100000) ∧ (0 ≤ c2 ∧ c2 ≤ 100000) ∧ 0 ≤ c3 ∧ c3 ≤ 1000000) {xs : List O} {n m : Int} (hb : Bx xs n) (hn : n ≤ 100000) (hm : 0 < m ∧ m < 2 ^ 200) {Q : O → Rho → Prop} {E : Ex → Rho → Prop}
    (k : ∀ r xs' ρ', 0 ≤ r → r < m → Bx xs' (n + 1) → 1 ≤ ρ'.length → Q (.dat (.int r)) (some (.own xs') :: ρ')) : Call t [.own xs, .dat (.int m)] Q E := by
  obtain ⟨a, b, i, rfl, ha, hb0, hb1, hi0, hi1⟩ := hb
  have hm0 := hm.1
  have p1 : 0 ≤ c1 * (i + 1) ∧ c1 * (i + 1) ≤ 100000 * 100001 := ⟨Int.mul_nonneg hc.1.1 (by omega), Int.mul_le_mul hc.1.2 (by omega) (by omega) (by omega)⟩
  have p3 : 0 ≤ c3 * (i + 1) ∧ c3 * (i + 1) ≤ 1000000 * 100001 := ⟨Int.mul_nonneg hc.2.2.1 (by omega), Int.mul_le_mul hc.2.2.2 (by omega) (by omega) (by omega)⟩
  unfold Call
  rw [ht]
  (refine call_body ?_ ?_ ?_; rfl; rfl)
  show wp (gTakeN c1 c2 c3 [some (.own (bx a b i)), some (.dat (.int m)), none, none]) _ _
  unfold gTakeN
  repeat (first | with_reducible refine w_seq ?_ | with_reducible refine w_nx ?_ | with_reducible refine w_if ?_ | with_reducible refine w_set ?_ | with_reducible refine w_retS ?_ | with_reducible refine w_exS ?_ | with_reducible refine w_raise ?_ | with_reducible refine w_par ?_ | with_reducible refine w_setIx ?_ | with_reducible refine w_tst ?_ | with_reducible refine w_tru ?_ | with_reducible refine w_not ?_ | with_reducible refine w_and ?_ | with_reducible refine w_or ?_ | with_reducible refine w_asD ?_ | with_reducible refine w_asO ?_ | with_reducible refine w_bin ?_ | with_reducible refine w_cmp ?_ | with_reducible refine w_ix ?_ | with_reducible refine w_neg ?_ | with_reducible refine w_cb ?_ | with_reducible refine w_andV ?_ | with_reducible refine w_orV ?_ | with_reducible refine w_notV ?_ | with_reducible refine w_nil ?_ | with_reducible refine w_cons ?_ | with_reducible refine w_lst ?_ | with_reducible refine w_tup ?_ | with_reducible refine w_xnil ?_ | with_reducible refine w_xcons ?_ | with_reducible refine w_for ?_ | with_reducible refine w_borT ?_ | with_reducible refine w_bor ?_ | with_reducible refine w_parO ?_ | with_reducible refine w_zip ?_ | with_reducible refine w_listO ?_ | with_reducible refine w_asgT ?_ | with_reducible refine w_sl ?_ | with_reducible refine w_nob ?_ | with_reducible refine w_b ?_ | with_reducible refine w_lc ?_ | with_reducible refine w_lrg1 ?_ | with_reducible refine w_lrg2 ?_ | with_reducible refine w_ch ?_ | with_reducible refine w_chain1 ?_ | with_reducible refine w_chain2 ?_ | with_reducible refine w_items ?_ | with_reducible refine w_rng1 ?_ | with_reducible refine w_rng2 ?_ | with_reducible refine w_ret ?_ | with_reducible refine t_nx ?_ | with_reducible refine t_rt ?_ | with_reducible refine u_nx ?_ | with_reducible refine u_rt ?_ | with_reducible refine l_add ?_ | with_reducible refine l_sub ?_ | with_reducible refine l_neg ?_ | with_reducible refine l_lt ?_ | with_reducible refine l_le ?_ | with_reducible refine l_gt ?_ | with_reducible refine l_ge ?_ | with_reducible refine l_eqI ?_ | with_reducible refine l_neI ?_ | with_reducible refine l_eqS ?_ | with_reducible refine l_neS ?_ | with_reducible refine l_eqB ?_ | with_reducible refine l_neB ?_ | with_reducible refine l_int ?_ | with_reducible refine l_max ?_ | with_reducible refine l_min ?_ | ((with_reducible apply w_var); rfl) | ((with_reducible apply w_varO); rfl) | ((with_reducible refine w_own (xs := []) ?_ ?_); exact ⟨_, rfl⟩) | ((with_reducible apply w_ownAt); rfl; rfl) | ((with_reducible apply w_ownAtD); rfl) | ((with_reducible apply w_xslotD); rfl) | ((with_reducible apply w_xslotO); rfl) | ((with_reducible refine l_mod ?_ ?_); (first | assumption | omega | exact ⟨by omega, by decide⟩)) | ((with_reducible refine l_div ?_ ?_); (first | assumption | omega | exact ⟨by omega, by decide⟩)) | ((with_reducible refine l_pow ?_ ?_); (first | assumption | omega | exact ⟨by omega, by decide⟩)) | ((with_reducible refine l_lrg ?_ ?_); (first | assumption | omega | exact ⟨by omega, by omega, by omega, by omega, by omega⟩)) | ((with_reducible refine l_mul ?_ ?_); (first | assumption | omega | exact ⟨by omega, by decide⟩)) | ((with_reducible apply c_t); rfl) | ((with_reducible apply c_f); rfl) | ((with_reducible apply s_lt); rfl) | ((with_reducible apply s_le); rfl) | ((with_reducible apply s_par); rfl; rfl; rfl) | ((with_reducible apply s_has); rfl) | ((with_reducible apply s_six); rfl; rfl; rfl) | ((with_reducible apply s_fl); rfl) | ((with_reducible apply s_lt2); rfl; rfl) | ((with_reducible apply s_pl); rfl) | ((with_reducible refine s_rb ?_ ?_); omega) | ((with_reducible apply w_lenO); rfl) | ((with_reducible apply w_lenD); rfl) | ((with_reducible apply s_ex); rfl) | (rw [fz_dat]) | (rw [fz_own]) | ((with_reducible apply l_some); rfl))
  refine ⟨fun hc => ?_, fun hc => ?_⟩
  · repeat (first | with_reducible refine w_seq ?_ | with_reducible refine w_nx ?_ | with_reducible refine w_if ?_ | with_reducible refine w_set ?_ | with_reducible refine w_retS ?_ | with_reducible refine w_exS ?_ | with_reducible refine w_raise ?_ | with_reducible refine w_par ?_ | with_reducible refine w_setIx ?_ | with_reducible refine w_tst ?_ | with_reducible refine w_tru ?_ | with_reducible refine w_not ?_ | with_reducible refine w_and ?_ | with_reducible refine w_or ?_ | with_reducible refine w_asD ?_ | with_reducible refine w_asO ?_ | with_reducible refine w_bin ?_ | with_reducible refine w_cmp ?_ | with_reducible refine w_ix ?_ | with_reducible refine w_neg ?_ | with_reducible refine w_cb ?_ | with_reducible refine w_andV ?_ | with_reducible refine w_orV ?_ | with_reducible refine w_notV ?_ | with_reducible refine w_nil ?_ | with_reducible refine w_cons ?_ | with_reducible refine w_lst ?_ | with_reducible refine w_tup ?_ | with_reducible refine w_xnil ?_ | with_reducible refine w_xcons ?_ | with_reducible refine w_for ?_ | with_reducible refine w_borT ?_ | with_reducible refine w_bor ?_ | with_reducible refine w_parO ?_ | with_reducible refine w_zip ?_ | with_reducible refine w_listO ?_ | with_reducible refine w_asgT ?_ | with_reducible refine w_sl ?_ | with_reducible refine w_nob ?_ | with_reducible refine w_b ?_ | with_reducible refine w_lc ?_ | with_reducible refine w_lrg1 ?_ | with_reducible refine w_lrg2 ?_ | with_reducible refine w_ch ?_ | with_reducible refine w_chain1 ?_ | with_reducible refine w_chain2 ?_ | with_reducible refine w_items ?_ | with_reducible refine w_rng1 ?_ | with_reducible refine w_rng2 ?_ | with_reducible refine w_ret ?_ | with_reducible refine t_nx ?_ | with_reducible refine t_rt ?_ | with_reducible refine u_nx ?_ | with_reducible refine u_rt ?_ | with_reducible refine l_add ?_ | with_reducible refine l_sub ?_ | with_reducible refine l_neg ?_ | with_reducible refine l_lt ?_ | with_reducible refine l_le ?_ | with_reducible refine l_gt ?_ | with_reducible refine l_ge ?_ | with_reducible refine l_eqI ?_ | with_reducible refine l_neI ?_ | with_reducible refine l_eqS ?_ | with_reducible refine l_neS ?_ | with_reducible refine l_eqB ?_ | with_reducible refine l_neB ?_ | with_reducible refine l_int ?_ | with_reducible refine l_max ?_ | with_reducible refine l_min ?_ | ((with_reducible apply w_var); rfl) | ((with_reducible apply w_varO); rfl) | ((with_reducible refine w_own (xs := []) ?_ ?_); exact ⟨_, rfl⟩) | ((with_reducible apply w_ownAt); rfl; rfl) | ((with_reducible apply w_ownAtD); rfl) | ((with_reducible apply w_xslotD); rfl) | ((with_reducible apply w_xslotO); rfl) | ((with_reducible refine l_mod ?_ ?_); (first | assumption | omega | exact ⟨by omega, by decide⟩)) | ((with_reducible refine l_div ?_ ?_); (first | assumption | omega | exact ⟨by omega, by decide⟩)) | ((with_reducible refine l_pow ?_ ?_); (first | assumption | omega | exact ⟨by omega, by decide⟩)) | ((with_reducible refine l_lrg ?_ ?_); (first | assumption | omega | exact ⟨by omega, by omega, by omega, by omega, by omega⟩)) | ((with_reducible refine l_mul ?_ ?_); (first | assumption | omega | exact ⟨by omega, by decide⟩)) | ((with_reducible apply c_t); rfl) | ((with_reducible apply c_f); rfl) | ((with_reducible apply s_lt); rfl) | ((with_reducible apply s_le); rfl) | ((with_reducible apply s_par); rfl; rfl; rfl) | ((with_reducible apply s_has); rfl) | ((with_reducible apply s_six); rfl; rfl; rfl) | ((with_reducible apply s_fl); rfl) | ((with_reducible apply s_lt2); rfl; rfl) | ((with_reducible apply s_pl); rfl) | ((with_reducible refine s_rb ?_ ?_); omega) | ((with_reducible apply w_lenO); rfl) | ((with_reducible apply w_lenD); rfl) | ((with_reducible apply s_ex); rfl) | (rw [fz_dat]) | (rw [fz_own]) | ((with_reducible apply l_some); rfl))
    exact ⟨rfl, .inr ⟨_, rfl, k _ _ _ (Int.emod_nonneg _ (by omega)) (Int.emod_lt_of_pos _ hm.1) ⟨a / m, b, i, rfl, Int.ediv_nonneg ha (by omega), hb0, hb1, hi0, by omega⟩ (by simp)⟩⟩
  · repeat (first | with_reducible refine w_seq ?_ | with_reducible refine w_nx ?_ | with_reducible refine w_if ?_ | with_reducible refine w_set ?_ | with_reducible refine w_retS ?_ | with_reducible refine w_exS ?_ | with_reducible refine w_raise ?_ | with_reducible refine w_par ?_ | with_reducible refine w_setIx ?_ | with_reducible refine w_tst ?_ | with_reducible refine w_tru ?_ | with_reducible refine w_not ?_ | with_reducible refine w_and ?_ | with_reducible refine w_or ?_ | with_reducible refine w_asD ?_ | with_reducible refine w_asO ?_ | with_reducible refine w_bin ?_ | with_reducible refine w_cmp ?_ | with_reducible refine w_ix ?_ | with_reducible refine w_neg ?_ | with_reducible refine w_cb ?_ | with_reducible refine w_andV ?_ | with_reducible refine w_orV ?_ | with_reducible refine w_notV ?_ | with_reducible refine w_nil ?_ | with_reducible refine w_cons ?_ | with_reducible refine w_lst ?_ | with_reducible refine w_tup ?_ | with_reducible refine w_xnil ?_ | with_reducible refine w_xcons ?_ | with_reducible refine w_for ?_ | with_reducible refine w_borT ?_ | with_reducible refine w_bor ?_ | with_reducible refine w_parO ?_ | with_reducible refine w_zip ?_ | with_reducible refine w_listO ?_ | with_reducible refine w_asgT ?_ | with_reducible refine w_sl ?_ | with_reducible refine w_nob ?_ | with_reducible refine w_b ?_ | with_reducible refine w_lc ?_ | with_reducible refine w_lrg1 ?_ | with_reducible refine w_lrg2 ?_ | with_reducible refine w_ch ?_ | with_reducible refine w_chain1 ?_ | with_reducible refine w_chain2 ?_ | with_reducible refine w_items ?_ | with_reducible refine w_rng1 ?_ | with_reducible refine w_rng2 ?_ | with_reducible refine w_ret ?_ | with_reducible refine t_nx ?_ | with_reducible refine t_rt ?_ | with_reducible refine u_nx ?_ | with_reducible refine u_rt ?_ | with_reducible refine l_add ?_ | with_reducible refine l_sub ?_ | with_reducible refine l_neg ?_ | with_reducible refine l_lt ?_ | with_reducible refine l_le ?_ | with_reducible refine l_gt ?_ | with_reducible refine l_ge ?_ | with_reducible refine l_eqI ?_ | with_reducible refine l_neI ?_ | with_reducible refine l_eqS ?_ | with_reducible refine l_neS ?_ | with_reducible refine l_eqB ?_ | with_reducible refine l_neB ?_ | with_reducible refine l_int ?_ | with_reducible refine l_max ?_ | with_reducible refine l_min ?_ | ((with_reducible apply w_var); rfl) | ((with_reducible apply w_varO); rfl) | ((with_reducible refine w_own (xs := []) ?_ ?_); exact ⟨_, rfl⟩) | ((with_reducible apply w_ownAt); rfl; rfl) | ((with_reducible apply w_ownAtD); rfl) | ((with_reducible apply w_xslotD); rfl) | ((with_reducible apply w_xslotO); rfl) | ((with_reducible refine l_mod ?_ ?_); (first | assumption | omega | exact ⟨by omega, by decide⟩)) | ((with_reducible refine l_div ?_ ?_); (first | assumption | omega | exact ⟨by omega, by decide⟩)) | ((with_reducible refine l_pow ?_ ?_); (first | assumption | omega | exact ⟨by omega, by decide⟩)) | ((with_reducible refine l_lrg ?_ ?_); (first | assumption | omega | exact ⟨by omega, by omega, by omega, by omega, by omega⟩)) | ((with_reducible refine l_mul ?_ ?_); (first | assumption | omega | exact ⟨by omega, by decide⟩)) | ((with_reducible apply c_t); rfl) | ((with_reducible apply c_f); rfl) | ((with_reducible apply s_lt); rfl) | ((with_reducible apply s_le); rfl) | ((with_reducible apply s_par); rfl; rfl; rfl) | ((with_reducible apply s_has); rfl) | ((with_reducible apply s_six); rfl; rfl; rfl) | ((with_reducible apply s_fl); rfl) | ((with_reducible apply s_lt2); rfl; rfl) | ((with_reducible apply s_pl); rfl) | ((with_reducible refine s_rb ?_ ?_); omega) | ((with_reducible apply w_lenO); rfl) | ((with_reducible apply w_lenD); rfl) | ((with_reducible apply s_ex); rfl) | (rw [fz_dat]) | (rw [fz_own]) | ((with_reducible apply l_some); rfl))
    exact ⟨rfl, .inr ⟨_, rfl, k _ _ _ (Int.emod_nonneg _ (by omega)) (Int.emod_lt_of_pos _ hm.1) ⟨a, b, i + 1, rfl, ha, hb0, hb1, by omega, by omega⟩ (by simp)⟩⟩
theorem w_takeN {t : Ent} {c1 c2 c3 : Int} (ht : t.F = bodyF 4 2 [0] (gTakeN c1 c2 c3)) (hps : t.ps.length = 2) (hdf : t.dfl = []) (hc : (0 ≤ c1 ∧ c1 ≤ 100000) ∧ (0 ≤ c2 ∧ c2 ≤ 100000) ∧ 0 ≤ c3 ∧ c3 ≤ 1000000) {i : Nat} {xs : List O} {n : Int} {fm : M D} {ρ : Rho} {QO : O → Rho → Prop} {E : Ex → Rho → Prop} (e : ρ[i]? = some (some (.own xs))) (hb : Bx xs n) (hn : n ≤ 100000)
    (h : wp (fm ρ) (fun y ρ' => ∃ m, y = .int m ∧ ρ'[i]? = some (some (.own xs)) ∧ (0 < m ∧ m < 2 ^ 200) ∧ ∀ r xs', 0 ≤ r → r < m → Bx xs' (n + 1) → QO (.dat (.int r)) (ρ'.set i (some (.own xs')))) E) : wp (mCall t (xSlot i (xCons fm xNil)) ρ) QO E := by
  refine w_callO (i := i) (w_xslotO e (w_xcons (wp_mono h (fun y ρ' k => ?_) fun _ _ k => k)))
  obtain ⟨m, rfl, e', hm, k⟩ := k
  refine w_xnil ⟨[.int m], xs, rfl, e', by rw [hps]; rfl, hdf, takeN_ok ht hc hb hn hm fun r xs' ρ2 h0 h1 hb' hl => ⟨_, _, rfl, hl, k r xs' h0 h1 hb'⟩⟩

theorem w_ownMem {i : Nat} {ds : List D} {k : Int} {P : D → Prop} {ρ : Rho} {Q : D → Rho → Prop} {E : Ex → Rho → Prop} (e : ρ[i]? = some (some (.own (ds.map .dat)))) (h0 : 0 ≤ k) (h1 : k < ds.length) (hall : ∀ d ∈ ds, P d) (h : ∀ d, P d → Q d ρ) : wp (ownAt i (.int k) ρ) Q E := by
  obtain ⟨x, hx, e2⟩ := atI_in (xs := ds.map O.dat) h0 (by simpa using h1)
  obtain ⟨d, hd, rfl⟩ := List.mem_map.mp hx
  exact w_ownAt e e2 (h d (hall d hd))
theorem l_ixMem {ds : List D} {k : Int} {P : D → Prop} {ρ : Rho} {Q : D → Rho → Prop} {E : Ex → Rho → Prop} (h0 : 0 ≤ k) (h1 : k < ds.length) (hall : ∀ d ∈ ds, P d) (h : ∀ d, P d → Q d ρ) : wp (lift (ixD (.lst ds) (.int k)) ρ) Q E := by
  obtain ⟨x, hx, e2⟩ := atI_in (xs := ds) h0 h1
  exact l_some e2 (h x (hall x hx))
end PL

end
-- text PL30
section
set_option linter.all false
set_option maxRecDepth 100000
set_option maxHeartbeats 4000000
namespace PL
open PySem PySem.Spec L2
/-! ### texts of data: how long they are -/
mutual
def wt : D → Nat
  | .non => 4
  | .bl _ => 5
  | .int _ => 41
  | .str x => (reprText x).length
  | .lst xs => 2 + wts xs
  | .tup xs => 3 + wts xs
  | .dic kvs => 2 + wtk kvs
  | _ => 0
def wts : List D → Nat
  | [] => 0
  | x :: xs => wt x + 2 + wts xs
def wtk : List (D × D) → Nat
  | [] => 0
  | (a, b) :: r => wt a + 2 + wt b + 2 + wtk r
end
mutual
def dp : D → Nat
  | .lst xs => dps xs + 1
  | .tup xs => dps xs + 1
  | .dic kvs => dpk kvs + 1
  | _ => 0
def dps : List D → Nat
  | [] => 0
  | x :: xs => max (dp x) (dps xs)
def dpk : List (D × D) → Nat
  | [] => 0
  | (a, b) :: r => max (max (dp a) (dp b)) (dpk r)
end
mutual
def okR : D → Bool
  | .non => true
  | .bl _ => true
  | .int i => decide (i.natAbs < 10 ^ 40)
  | .str _ => true
  | .lst xs => okRs xs
  | .tup xs => okRs xs
  | .dic kvs => okRk kvs
  | _ => false
def okRs : List D → Bool
  | [] => true
  | x :: xs => okR x && okRs xs
def okRk : List (D × D) → Bool
  | [] => true
  | (a, b) :: r => okR a && (okR b && okRk r)
end
def pil : List Str → Nat
  | [] => 0
  | t :: r => t.length + 2 + pil r
theorem from_le : ∀ (ts : List Str) (k : Nat) (acc : Str), (textFrom k acc ts).length ≤ acc.length + pil ts
  | [], k, acc => Nat.le_refl _
  | t :: r, k, acc => by
    have h := from_le r (k + 1) (acc ++ (if k > 0 then ", " else "" : String) ++ t)
    have e : (acc ++ (if k > 0 then ", " else "" : String) ++ t).length ≤ acc.length + 2 + t.length := by
      rw [strLen_append, strLen_append]
      split
      · show acc.length + 2 + t.length ≤ _; omega
      · show acc.length + 0 + t.length ≤ _; omega
    show (textFrom (k + 1) (acc ++ (if k > 0 then ", " else "" : String) ++ t) r).length ≤ acc.length + (t.length + 2 + pil r)
    omega
theorem lt_le (ts : List Str) : (listText ts).length ≤ 2 + pil ts := by
  have h := from_le ts 0 "["
  unfold listText
  rw [strLen_append]
  have e1 : (("[" : String) : Str).length = 1 := rfl
  have e2 : (("]" : String) : Str).length = 1 := rfl
  have e3 : ("]" : Str).length = 1 := rfl
  omega
theorem join_le : ∀ ts : List Str, (Str.join ", " ts).length ≤ pil ts
  | [] => Nat.zero_le _
  | [x] => by show x.length ≤ x.length + 2 + 0; omega
  | x :: y :: r => by
    have ih := join_le (y :: r)
    show (x ++ ", " ++ Str.join ", " (y :: r)).length ≤ x.length + 2 + pil (y :: r)
    have e2 : ((", " : String) : Str).length = 2 := rfl
    rw [strLen_append, strLen_append, e2]
    omega
theorem tt_le (ts : List Str) : (tupleText ts).length ≤ 3 + pil ts := by
  have h := join_le ts
  unfold tupleText
  rw [strLen_append, strLen_append]
  have e1 : ("(" : Str).length = 1 := rfl
  split
  · have e2 : ((",)" : String) : Str).length = 2 := rfl
    omega
  · have e2 : ((")" : String) : Str).length = 1 := rfl
    omega
theorem dt_le (ts : List Str) : (dictText ts).length ≤ 2 + pil ts := by
  have h := join_le ts
  unfold dictText
  rw [strLen_append, strLen_append]
  have e1 : ("{" : Str).length = 1 := rfl
  have e2 : (("}" : String) : Str).length = 1 := rfl
  have e3 : ("}" : Str).length = 1 := rfl
  omega
theorem int_le {i : Int} (h : i.natAbs < 10 ^ 40) : (PyData.shown (.int i)).length ≤ 41 ∧ i.natAbs.log2 < 1920 := by
  have h3 := PySem.int_text_length_le10 (k := 40) (by decide) h
  refine ⟨?_, ?_⟩
  · show (Str.ofString (toString i)).length ≤ 41
    rw [PySem.ofString_length]; exact h3
  · by_cases h0 : i.natAbs = 0
    · rw [h0]; decide
    · exact (Nat.log2_lt h0).mpr (Nat.lt_of_lt_of_le h (Nat.le_trans (by decide : 10 ^ 40 ≤ 2 ^ 200) (Nat.pow_le_pow_right (by decide) (by decide))))
mutual
theorem py_ok : ∀ d : D, okR d = true → ∃ q, py d = some q ∧ q.showable = true ∧ q.shown.length ≤ wt d ∧ q.depth ≤ dp d
  | .non, _ => ⟨.none, rfl, rfl, Nat.le_refl 4, Nat.le_refl _⟩
  | .bl b, _ => ⟨.bool b, rfl, rfl, by cases b <;> decide, Nat.le_refl _⟩
  | .int i, h => ⟨.int i, rfl, decide_eq_true (int_le (of_decide_eq_true h)).2, (int_le (of_decide_eq_true h)).1, Nat.le_refl _⟩
  | .str x, _ => ⟨.str x, rfl, rfl, Nat.le_refl _, Nat.le_refl _⟩
  | .lst xs, h => by
    obtain ⟨q, e, h1, h2, h3⟩ := pys_ok xs h
    refine ⟨.list q, by show (pys xs).map PyData.list = _; rw [e]; rfl, h1, ?_, Nat.succ_le_succ h3⟩
    show (listText (PyData.shownAll q)).length ≤ 2 + wts xs
    have := lt_le (PyData.shownAll q)
    omega
  | .tup xs, h => by
    obtain ⟨q, e, h1, h2, h3⟩ := pys_ok xs h
    refine ⟨.tuple q, by show (pys xs).map PyData.tuple = _; rw [e]; rfl, h1, ?_, Nat.succ_le_succ h3⟩
    show (tupleText (PyData.shownAll q)).length ≤ 3 + wts xs
    have := tt_le (PyData.shownAll q)
    omega
  | .dic kvs, h => by
    obtain ⟨q, e, h1, h2, h3⟩ := pyk_ok kvs h
    refine ⟨.dict q, by show (pyk kvs).map PyData.dict = _; rw [e]; rfl, h1, ?_, Nat.succ_le_succ h3⟩
    show (dictText (PyData.shownKv q)).length ≤ 2 + wtk kvs
    have := dt_le (PyData.shownKv q)
    omega
theorem pys_ok : ∀ ds : List D, okRs ds = true → ∃ q, pys ds = some q ∧ PyData.showableAll q = true ∧ pil (PyData.shownAll q) ≤ wts ds ∧ PyData.depthAll q ≤ dps ds
  | [], _ => ⟨[], rfl, rfl, Nat.le_refl _, Nat.le_refl _⟩
  | x :: xs, h => by
    unfold okRs at h
    rw [Bool.and_eq_true] at h
    obtain ⟨q, e, h1, h2, h3⟩ := py_ok x h.1
    obtain ⟨qs, es, k1, k2, k3⟩ := pys_ok xs h.2
    refine ⟨q :: qs, by unfold pys; rw [e, es], by show (q.showable && PyData.showableAll qs) = true; rw [h1, k1]; rfl, ?_, ?_⟩
    · show q.shown.length + 2 + pil (PyData.shownAll qs) ≤ wt x + 2 + wts xs
      omega
    · show max q.depth (PyData.depthAll qs) ≤ max (dp x) (dps xs)
      omega
theorem pyk_ok : ∀ ds : List (D × D), okRk ds = true → ∃ q, pyk ds = some q ∧ PyData.showableKv q = true ∧ pil (PyData.shownKv q) ≤ wtk ds ∧ PyData.depthKv q ≤ dpk ds
  | [], _ => ⟨[], rfl, rfl, Nat.le_refl _, Nat.le_refl _⟩
  | (a, b) :: xs, h => by
    unfold okRk at h
    rw [Bool.and_eq_true, Bool.and_eq_true] at h
    obtain ⟨q, e, h1, h2, h3⟩ := py_ok a h.1
    obtain ⟨r, f, i1, i2, i3⟩ := py_ok b h.2.1
    obtain ⟨qs, es, k1, k2, k3⟩ := pyk_ok xs h.2.2
    refine ⟨(q, r) :: qs, by unfold pyk; rw [e, f, es], by show (q.showable && r.showable && PyData.showableKv qs) = true; rw [h1, i1, k1]; rfl, ?_, ?_⟩
    · show (q.shown ++ ": " ++ r.shown).length + 2 + pil (PyData.shownKv qs) ≤ wt a + 2 + wt b + 2 + wtk xs
      rw [strLen_append, strLen_append]
      have e2 : ((": " : String) : Str).length = 2 := rfl
      omega
    · show max (max q.depth r.depth) (PyData.depthKv qs) ≤ max (max (dp a) (dp b)) (dpk xs)
      omega
end
theorem repr_ok {d : D} (h : okR d = true) (hw : wt d ≤ 1000000) (hd : dp d ≤ 40) : ∃ s, reprD d = some (.str s) := by
  obtain ⟨q, e, h1, h2, h3⟩ := py_ok d h
  refine ⟨q.shown, ?_⟩
  unfold reprD
  rw [e]
  dsimp only
  rw [if_pos ⟨h1, Nat.le_trans h3 hd, Nat.le_trans h2 (Nat.le_trans hw (by decide))⟩]
theorem okRs_map {α : Type} {f : α → D} : ∀ {xs : List α}, (∀ x ∈ xs, okR (f x) = true) → okRs (xs.map f) = true
  | [], _ => rfl
  | x :: xs, h => by
    show (okR (f x) && okRs (xs.map f)) = true
    rw [h x List.mem_cons_self, okRs_map fun y hy => h y (List.mem_cons_of_mem _ hy)]; rfl
theorem wts_map {α : Type} {f : α → D} {n : Nat} : ∀ {xs : List α}, (∀ x ∈ xs, wt (f x) ≤ n) → wts (xs.map f) ≤ xs.length * (n + 2)
  | [], _ => by simp [wts]
  | x :: xs, h => by
    have h1 := h x List.mem_cons_self
    have h2 := wts_map (f := f) (n := n) (xs := xs) fun y hy => h y (List.mem_cons_of_mem _ hy)
    show wt (f x) + 2 + wts (xs.map f) ≤ (xs.length + 1) * (n + 2)
    rw [Nat.add_mul]
    omega
theorem dps_map {α : Type} {f : α → D} {n : Nat} : ∀ {xs : List α}, (∀ x ∈ xs, dp (f x) ≤ n) → dps (xs.map f) ≤ n
  | [], _ => Nat.zero_le _
  | x :: xs, h => by
    have h1 := h x List.mem_cons_self
    have h2 := dps_map (f := f) (n := n) (xs := xs) fun y hy => h y (List.mem_cons_of_mem _ hy)
    show max (dp (f x)) (dps (xs.map f)) ≤ n
    omega
end PL

end
-- text PL31
section
set_option linter.all false
set_option maxRecDepth 100000
set_option maxHeartbeats 4000000
namespace PL
open PySem PySem.Spec L2
/-! ### what equals itself -/
mutual
def okE : D → Bool
  | .non => true
  | .bl _ => true
  | .int _ => true
  | .str x => (PyData.str x).canLay0
  | .lst xs => okEs xs
  | .tup xs => okEs xs
  | _ => false
def okEs : List D → Bool
  | [] => true
  | x :: xs => okE x && okEs xs
end
mutual
theorem pe_ok : ∀ d : D, okE d = true → ∃ q, py d = some q ∧ q.canLay0 = true ∧ q.depth ≤ dp d ∧ PyData.eqv q q = true
  | .non, _ => ⟨.none, rfl, rfl, Nat.le_refl _, rfl⟩
  | .bl b, _ => ⟨.bool b, rfl, rfl, Nat.le_refl _, by cases b <;> rfl⟩
  | .int i, _ => ⟨.int i, rfl, rfl, Nat.le_refl _, by show (i == i) = true; simp⟩
  | .str x, h => ⟨.str x, rfl, h, Nat.le_refl _, by show (x == x) = true; simp⟩
  | .lst xs, h => by
    obtain ⟨q, e, h1, h2, h3⟩ := pes_ok xs h
    exact ⟨.list q, by show (pys xs).map PyData.list = _; rw [e]; rfl, h1, Nat.succ_le_succ h2, h3⟩
  | .tup xs, h => by
    obtain ⟨q, e, h1, h2, h3⟩ := pes_ok xs h
    exact ⟨.tuple q, by show (pys xs).map PyData.tuple = _; rw [e]; rfl, h1, Nat.succ_le_succ h2, h3⟩
theorem pes_ok : ∀ ds : List D, okEs ds = true → ∃ q, pys ds = some q ∧ PyData.canLayAll0 q = true ∧ PyData.depthAll q ≤ dps ds ∧ PyData.eqvAll q q = true
  | [], _ => ⟨[], rfl, rfl, Nat.le_refl _, rfl⟩
  | x :: xs, h => by
    unfold okEs at h
    rw [Bool.and_eq_true] at h
    obtain ⟨q, e, h1, h2, h3⟩ := pe_ok x h.1
    obtain ⟨qs, es, k1, k2, k3⟩ := pes_ok xs h.2
    refine ⟨q :: qs, by unfold pys; rw [e, es], by show (q.canLay0 && PyData.canLayAll0 qs) = true; rw [h1, k1]; rfl, ?_, by show (PyData.eqv q q && PyData.eqvAll qs qs) = true; rw [h3, k3]; rfl⟩
    show max q.depth (PyData.depthAll qs) ≤ max (dp x) (dps xs)
    omega
end
theorem eqG_self {d : D} (h : okE d = true) (hd : dp d ≤ 64) : eqG d d = some (.bl true) := by
  obtain ⟨q, e, h1, h2, h3⟩ := pe_ok d h
  unfold eqG
  rw [e]
  dsimp only
  have hs : SeqAt.shaped q = true := by
    unfold SeqAt.shaped
    rw [h1, decide_eq_true (Nat.le_trans h2 hd)]
    rfl
  rw [hs, h3]
  rfl
theorem eqD_self {d : D} (h : okE d = true) (hd : dp d ≤ 64) : eqD d d = some (.bl true) := by
  unfold eqD
  split
  · simp
  · exact eqG_self h hd
theorem eq_self {d : D} (h : okE d = true) (hd : dp d ≤ 64) : cmpD .Eq d d = some (.bl true) := by
  show eqE d d = _
  unfold eqE
  split
  · rw [if_pos rfl]
    exact eqD_self h hd
  · exact eqD_self h hd
theorem ne_self {d : D} (h : okE d = true) (hd : dp d ≤ 64) : cmpD .NotEq d d = some (.bl false) := by
  show notO (eqD d d) = _
  have : eqD d d = some (.bl true) := eqD_self h hd
  rw [this]; rfl
theorem okEs_map {α : Type} {f : α → D} : ∀ {xs : List α}, (∀ x ∈ xs, okE (f x) = true) → okEs (xs.map f) = true
  | [], _ => rfl
  | x :: xs, h => by
    show (okE (f x) && okEs (xs.map f)) = true
    rw [h x List.mem_cons_self, okEs_map fun y hy => h y (List.mem_cons_of_mem _ hy)]; rfl
end PL

end
-- text PL32
section
set_option linter.all false
set_option maxRecDepth 100000
set_option maxHeartbeats 4000000
namespace PL
open PySem PySem.Spec PyProof.Rows L2
/-- a slot is looked away from -/
theorem Sl.hole {K : PySem.W.Frag} {cl : Str → Option Addr} {S H : Hp} : ∀ {σ : L2.St} {ρ : Rho} {R : List Addr}, Sl K cl S H σ ρ R → ∀ {i : Nat} {o : O}, ρ[i]? = some (some o) →
    ∃ v R1 Ri R2, R = R1 ++ (Ri ++ R2) ∧ σ[i]? = some (some v) ∧ Ow K cl S H v o Ri ∧ Sl K cl S H σ (ρ.set i none) (R1 ++ R2)
  | _, _, _, .nil, _, _, q => by simp at q
  | _, _, _, .non r, 0, _, q => by simp at q
  | _, _, _, .non r, i + 1, o, q => by
    obtain ⟨v, R1, Ri, R2, e, hv, hw, hs⟩ := Sl.hole r (i := i) (o := o) (by simpa using q)
    exact ⟨v, R1, Ri, R2, e, by simpa using hv, hw, .non hs⟩
  | _, _, _, @Sl.has _ _ _ _ v o σ ρ R R' a b, 0, o', q => by
    simp at q; subst q
    exact ⟨v, [], R, R', by simp, rfl, a, by simpa using Sl.non b⟩
  | _, _, _, @Sl.has _ _ _ _ v o σ ρ R R' a b, i + 1, o', q => by
    obtain ⟨w, R1, Ri, R2, e, hv, hw, hs⟩ := Sl.hole b (i := i) (o := o') (by simpa using q)
    refine ⟨w, R ++ R1, Ri, R2, by rw [e, List.append_assoc], by simpa using hv, hw, ?_⟩
    simpa [List.append_assoc] using Sl.has a hs
/-- an item of an owned list within an owned list -/
theorem Ows.set2 {K : PySem.W.Frag} {cl : Str → Option Addr} {S H : Hp} : ∀ {vs : List V} {xs : List O} {R : List Addr}, Ows K cl S H vs xs R → ∀ {j : Nat} {ys : List O}, xs[j]? = some (.own ys) → R.Nodup →
    ∃ b ws, vs[j]? = some (.ref b) ∧ H b = some (.lst ws) ∧ b ∈ R ∧ ws.length = ys.length ∧ ∀ (l : Nat) (u : V) (x : D), l < ys.length → Rep K cl S u x →
      ∃ R', Ows K cl S (L2.upd H b (.lst (ws.set l u))) vs (xs.set j (.own (ys.set l (.dat x)))) R' ∧ List.Sublist R' R
  | _, _, _, .nil, _, _, q, _ => by simp at q
  | _, _, _, @Ows.cons _ _ _ _ v o vs os R R' a r, 0, ys, q, nd => by
    simp at q; subst q
    cases a with
    | @own b ws _ Rb eb rs =>
      refine ⟨b, ws, rfl, eb, by simp, rs.length, fun l u x hl ru => ?_⟩
      obtain ⟨n1, n2, n3⟩ := List.nodup_append.mp nd
      obtain ⟨n4, n5⟩ := List.nodup_cons.mp n1
      obtain ⟨Rc, rc, sc⟩ := rs.setD ru l hl
      have kp : ∀ c z, c ≠ b → H c = some z → L2.upd H b (.lst (ws.set l u)) c = some z := fun c z hc e => by rw [upd_ne hc]; exact e
      refine ⟨(b :: Rc) ++ R', .cons (.own upd_same (rc.up (Le.refl _) fun c hc z e => kp c z (fun y => n4 (by rw [← y]; exact sc.subset hc)) e)) (r.up (Le.refl _) fun c hc z e => kp c z (fun y => n3 b (by simp) c hc y.symm) e), ?_⟩
      exact List.Sublist.append (sc.cons₂ b) (List.Sublist.refl _)
  | _, _, _, @Ows.cons _ _ _ _ v o vs os R R' a r, j + 1, ys, q, nd => by
    obtain ⟨n1, n2, n3⟩ := List.nodup_append.mp nd
    obtain ⟨b, ws, h1, h2, h3, h4, h5⟩ := Ows.set2 r (j := j) (ys := ys) (by simpa using q) n2
    refine ⟨b, ws, by simpa using h1, h2, List.mem_append_right _ h3, h4, fun l u x hl ru => ?_⟩
    obtain ⟨R2, o2, s2⟩ := h5 l u x hl ru
    refine ⟨R ++ R2, .cons (a.up (Le.refl _) fun c hc z e => ?_) o2, List.Sublist.append (List.Sublist.refl _) s2⟩
    rw [upd_ne (fun y => n3 c hc b h3 y)]
    exact e
section
variable {X : Cx} {p : Pm} {W : WX} {d : Df}
/-! ### x[a][b] = e -/
def mSetIx2 (i : Nat) (fe fa fb : M D) : M Fl := fe.bnd fun x => fun ρ => match ρ[i]? with
  | some (some _) => (fa.bnd fun ya => fun ρ1 => match ρ1[i]?, ya with
    | some (some (.own xs)), .int k => match ixN xs.length k with
      | some j => match xs[j]? with
        | some (.own ys) => (fb.bnd fun yb => fun ρ2 => match yb with
          | .int l => match ixN ys.length l with
            | some m => if i < ρ2.length then .ok .nx (ρ2.set i (some (.own (xs.set j (.own (ys.set m (.dat x))))))) else .bad
            | none => .bad
          | _ => .bad) (ρ1.set i none)
        | _ => .bad
      | none => .bad
    | _, _ => .bad) ρ
  | _ => .bad
theorem Cn.setIx2 (c : Cn X p W d) {x : Str} {a b e : Expr} {p1 p2 p3 pos : Pos} {fe fa fb : M D} (i : Nat) (h : d.N[i]? = some x) (hio : d.io.contains i = false) (he : PE X e (tD p W fe)) (ha0 : PE X a (tD p W fa)) (hb : PE X b (tD p W fb)) (hpl : PlainIx a)
    (ha : ∀ v, assign (.Subscript (.Subscript (.Name x p1) a p2) b p3) X.env v = (do
      let ov ← holding [v] (eval (.Subscript (.Name x p1) a p2) X.env)
      let iv ← holding [v, ov] (eval b X.env)
      standAt p3
      holding [v, ov, iv] (setItem ov iv v)
      release [v, ov, iv] []) := by intro _; rfl) (hs : swapsWithSole [.Subscript (.Subscript (.Name x p1) a p2) b p3] e pos.line X.env = pure false := by rfl) (hw : swappedStores [.Subscript (.Subscript (.Name x p1) a p2) b p3] e X.env = pure none := by rfl)
    (h1 : (assignEach [.Subscript (.Subscript (.Name x p1) a p2) b p3] X.env).map (·.2) = [assign (.Subscript (.Subscript (.Name x p1) a p2) b p3) X.env] := by rfl) (hu : d.us.contains i = true := by rfl) : PS X (.Assign [.Subscript (.Subscript (.Name x p1) a p2) b p3] e pos) (tDS p W (mSetIx2 i fe fa fb)) :=
  PS.imp (ps_asg he (pg_sub (pe_ix (ix_list (X := X)) (pe_var (c.nx h) (c.vis h hu) (c.nameK h hu).1 (c.nameK h hu).2) ha0 hpl) hb set_list ha) hs hw h1) fun Dn σ H ⟨ρ, S, R, w, q⟩ => by
    refine ⟨ρ, S, R, w, ((isS (σ := σ)).bE q).mono fun u0 H1 ⟨du, ρ1, S1, R1, r1, t1, w1, q1⟩ => ?_⟩
    split at q1
    · rename_i o0 e0
      obtain ⟨v0, _, _, _, _, hv0, _, _⟩ := w1.sl.at e0
      refine ⟨v0, hv0, ρ1, S1, R1, w1, ((isS (σ := σ)).bE q1).mono fun y H2 ⟨dy, ρ2, S2, R2, r2, t2, w2, q2⟩ => ?_⟩
      split at q2
      · rename_i xs k e2
        split at q2
        · rename_i j ej
          split at q2
          · rename_i ys ey
            obtain ⟨v1, A1, Ai, A2, eR, hv1, ow, hole⟩ := w2.sl.hole e2
            rw [hv0] at hv1
            cases hv1
            cases ow with
            | @own aa vs os Rr ea rs =>
              subst eR
              cases r2
              obtain ⟨n1, n2, n3⟩ := List.nodup_append.mp w2.nd
              obtain ⟨n4, n5, n6⟩ := List.nodup_append.mp n2
              obtain ⟨n7, n8⟩ := List.nodup_cons.mp n4
              obtain ⟨bb, ws, hb1, hb2, hb3, hb4, hb5⟩ := rs.set2 ey n8
              refine ⟨aa, vs, k, .ref bb, rfl, rfl, SqL.of ea, by unfold L2.atI; rw [rs.length, ej]; exact hb1, ?_⟩
              -- the list is held while the second index is asked for
              have nh : (A1 ++ A2).Nodup := List.nodup_append.mpr ⟨n1, n5, fun x hx y hy e => n3 x hx y (List.mem_append_right _ hy) e⟩
              have wh : Wd p S2 H2 σ (ρ2.set i none) (A1 ++ A2) := ⟨w2.le, hole, nh, fun b hb => w2.ap b (by rcases List.mem_append.mp hb with z | z <;> simp [z]), w2.io⟩
              have dj : ∀ b ∈ aa :: Rr, b ∉ A1 ++ A2 := fun b hb z => by
                rcases List.mem_append.mp z with y | y
                · exact n3 b y b (List.mem_append_left _ hb) rfl
                · exact n6 b hb b y rfl
              have th : ∀ b ∈ aa :: Rr, H2 b ≠ none := (Ow.own ea rs).there
              have q3 : PoS p W S2 H2 (A1 ++ (aa :: Rr ++ A2)) Dn ((fb (ρ2.set i none)).bnd fun yb => fun ρ2 => match yb with
                | .int l => match ixN ys.length l with
                  | some m => if i < ρ2.length then .ok .nx (ρ2.set i (some (.own (xs.set j (.own (ys.set m (.dat du))))))) else .bad
                  | none => .bad
                | _ => .bad) := q2
              refine ⟨ρ2.set i none, S2, A1 ++ A2, wh, ?_⟩
              have wd : ∀ {R' : List Addr} {H' S' : Hp}, Stp (A1 ++ A2) H2 S2 R' H' S' → Stp (A1 ++ (aa :: Rr ++ A2)) H2 S2 (R' ++ (aa :: Rr)) H' S' := fun {R' H' S'} t =>
                ⟨t.s, fun b h1 h2 => (t.n b h1 h2).imp id fun z => by rcases List.mem_append.mp z with y | y <;> simp [y], fun b o e hb => t.k b o e fun z => hb (by rcases List.mem_append.mp z with y | y <;> simp [y]), fun b hb => by
                  rcases List.mem_append.mp hb with z | z
                  · exact (t.r b z).imp (fun y => by rcases List.mem_append.mp y with y | y <;> simp [y]) id
                  · exact .inl (by simp only [List.mem_append]; exact .inr (.inl z)), t.t⟩
              revert q3
              cases fb (ρ2.set i none) with
              | bad => exact fun z => z
              | ex xx ρ3 => exact fun z S' H' R' C dd t w' xr => z σ S' H' R' C dd ((wd t).less fun b hb => List.mem_append_left _ hb) w' xr
              | ok yb ρ3 =>
                intro q3 S3 H3 R3 vb t3 w3 r3
                replace q3 : PoS p W S2 H2 (A1 ++ (aa :: Rr ++ A2)) Dn ((fun yb => fun ρ2 => match yb with
                  | .int l => match ixN ys.length l with
                    | some m => if i < ρ2.length then .ok .nx (ρ2.set i (some (.own (xs.set j (.own (ys.set m (.dat du))))))) else .bad
                    | none => .bad
                  | _ => .bad : D → M Fl) yb ρ3) := q3
                dsimp only at q3
                split at q3
                · rename_i l
                  split at q3
                  · rename_i m em
                    split at q3
                    · rename_i hl
                      cases r3
                      have keep : ∀ b ∈ aa :: Rr, ∀ z, H2 b = some z → H3 b = some z := fun b hb z e => t3.k b z e (dj b hb)
                      have sn : ∀ b ∈ aa :: Rr, S3 b = none := fun b hb => by
                        cases e : S3 b with
                        | none => rfl
                        | some o =>
                          rcases t3.n b (th b hb) (by rw [e]; simp) with y | y
                          · have : S2 b = none := w2.ap b (by simp only [List.mem_append]; exact .inr (.inl hb))
                            exact absurd this y
                          · exact absurd y (dj b hb)
                      have d3 : ∀ b ∈ aa :: Rr, b ∉ R3 := fun b hb z => by
                        rcases t3.r b z with y | y
                        · exact dj b hb y
                        · exact th b hb y
                      have rs3 : Ows p.K p.cl S3 H3 vs xs Rr := rs.up t3.s fun b hb z e => keep b (List.mem_cons_of_mem _ hb) z e
                      obtain ⟨bb', ws', hc1, hc2, hc3, hc4, hc5⟩ := rs3.set2 ey n8
                      rw [hb1] at hc1
                      cases hc1
                      refine ⟨bb, ws', l, m, rfl, rfl, hc2, by rw [hc4]; exact em, ?_⟩
                      obtain ⟨R', o5, s5⟩ := hc5 m u0 du (ixN_lt em) ((r1.up t2.s).up t3.s)
                      have nab : aa ≠ bb := fun z => n7 (by rw [z]; exact hc3)
                      have ea3 : H3 aa = some (.lst vs) := keep aa List.mem_cons_self _ ea
                      have kp : ∀ b z, b ≠ bb → H3 b = some z → L2.upd H3 bb (.lst (ws'.set m u0)) b = some z := fun b z hb e => by rw [upd_ne hb]; exact e
                      have sbb : S3 bb = none := sn bb (List.mem_cons_of_mem _ hc3)
                      have w4 : Wd p S3 (L2.upd H3 bb (.lst (ws'.set m u0))) σ ρ3 R3 := w3.upd (d3 bb (List.mem_cons_of_mem _ hc3)) sbb
                      have ow4 : Ow p.K p.cl S3 (L2.upd H3 bb (.lst (ws'.set m u0))) (.ref aa) (.own (xs.set j (.own (ys.set m (.dat du))))) (aa :: R') := .own (kp aa _ nab ea3) o5
                      have nd4 : (R3 ++ (aa :: R')).Nodup := List.nodup_append.mpr ⟨w3.nd, List.nodup_cons.mpr ⟨fun z => n7 (s5.subset z), n8.sublist s5⟩, fun x hx y hy e => by
                        subst e
                        refine d3 x ?_ hx
                        rcases List.mem_cons.mp hy with z | z
                        · rw [z]; exact List.mem_cons_self
                        · exact List.mem_cons_of_mem _ (s5.subset z)⟩
                      obtain ⟨R5, w5, s6⟩ := w4.put ow4 nd4 (fun b hb => by
                        rcases List.mem_cons.mp hb with z | z
                        · exact sn b (by rw [z]; exact List.mem_cons_self)
                        · exact sn b (List.mem_cons_of_mem _ (s5.subset z))) (c.pin hio) hl
                      rw [set_self hv0] at w5
                      have t5 := wd t3
                      refine q3 σ S3 _ R5 ⟨t5.s, t5.n, fun b o e hb => ?_, fun b hb => ?_, fun b hb => ?_⟩ w5
                      · refine kp b o (fun z => hb ?_) (t5.k b o e hb)
                        rw [z]
                        simp only [List.mem_append, List.mem_cons]
                        exact .inr (.inl (.inr hc3))
                      · refine t5.r b ?_
                        rcases List.mem_append.mp (s6 b hb) with z | z
                        · exact List.mem_append_left _ z
                        · refine List.mem_append_right _ ?_
                          rcases List.mem_cons.mp z with y | y
                          · rw [y]; exact List.mem_cons_self
                          · exact List.mem_cons_of_mem _ (s5.subset y)
                      · refine t5.t b ?_
                        by_cases y : b = bb
                        · rw [y, upd_same] at hb; cases hb
                        · rw [upd_ne y] at hb; exact hb
                    · exact q3.elim
                  · exact q3.elim
                · exact q3.elim
          · exact q2.elim
        · exact q2.elim
      · exact q2.elim
    · exact q1.elim
end
end PL

end
-- text PL33
section
set_option linter.all false
set_option maxRecDepth 100000
set_option maxHeartbeats 4000000
namespace PL
open PySem PySem.Spec PyProof.Rows L2
/-! ### enumerate over what can be walked -/
def ItE (k : Kd) (K : PySem.W.Frag) (v : V) : It :=
  ⟨fun i H => ∃ xs : List V, Ct k K H v xs ∧ i < xs.length,
    fun i H u H' => ∃ T x, u = .ref T ∧ H T = none ∧ H' = upd H T (.tup [.int (i : Nat), x]) ∧ ∀ xs, Ct k K H v xs → xs[i]? = some x,
    fun i H => ∃ xs : List V, Ct k K H v xs ∧ i = xs.length⟩
theorem turnE {P : Program} {w : World} {K : PySem.W.Frag} {elts : List Expr} {kk : Nat} {tpos : Pos} {k : Kd} {v : V} {u : Value} {e it : Addr} (r : RelV v u) (hei : e ≠ it) (hu : ∀ l, u = .ref l → l ≠ e ∧ l ≠ it) :
    Turn P w K (.Tuple elts kk tpos) (ItE k K v) [e, it] e (fun i h => (∃ old, IsEnum h e it ((i : Nat) : Int) old) ∧ ItS k h it u i) where
  mem := by simp
  obj := fun i h ⟨⟨old, he⟩, s1⟩ c hc => by
    have hc' : c = e ∨ c = it := by simpa using hc
    rcases hc' with rfl | rfl
    · exact ⟨_, he, fun _ q => nomatch q⟩
    · exact s1.obj
  keep := fun i h h' ⟨⟨old, he⟩, s1⟩ kp => ⟨⟨old, kp e (by simp) _ he⟩, s1.at fun o q => kp it (by simp) o q⟩
  item := by
    intro X hP hw hK hc i pins s σ H E I hf ⟨⟨old, he⟩, s1⟩ ⟨xs, c1, l1⟩
    subst hP hw hK
    have hh : X.A.in1.handled = none := I.ok.hd hc
    obtain ⟨fp, P1, St1, D1, b1, m1, g1, y1, f1⟩ := c1.draws (it := it) I r hh fun l z => (hu l z).2
    have el : e < s.heap.objs.size := Heap.lt_size he
    have nf : e ∉ fp := fun z => by
      rcases f1 _ z with q | q
      · exact hei q
      · exact (hu _ q).1 rfl
    refine wpAny_pyNext_enum_itemC D1 he (b1 i s1) l1 hei nf fun w1 h' tk p1 ho t1 qT qs qk => ?_
    obtain ⟨x, ex, rx⟩ := y1 i w1 p1
    refine ⟨_, rfl, wpAny_letOwnedTupleGo_enum (s := { s with heap := h', toks := tk + 1 }) ho fun h'' z'' sb => ?_⟩
    have T2 : h''.get? s.heap.objs.size = some { cls := .type "tuple", data := .seq #[.int i tk, w1] } := (sb.2 _ (Nat.ne_of_gt el)).trans qT
    have fresh : ObjOk X.prog X.w (upd H s.heap.objs.size (.tup [.int (i : Nat), x])) h'' s.heap.objs.size (.tup [.int (i : Nat), x]) := ⟨by show 2 ≤ sizeLine; decide, [.int i tk, w1], .cons ⟨_, rfl⟩ (.cons rx .nil), ⟨_, T2, rfl, _, rfl⟩⟩
    have I1 : L2.Inv X pins σ (upd H s.heap.objs.size (.tup [.int (i : Nat), x])) { s with heap := h'', toks := tk + 1 } :=
      I.turnedNew (t' := tk + 1) (ch := [e, it]) (fun c o hb q => by
        simp only [List.mem_cons, List.not_mem_nil, or_false, not_or] at hb
        exact (sb.2 c hb.1).trans (qk c o hb.1 hb.2 q)) hf (Nat.le_refl _) fresh
    refine ⟨.ref s.heap.objs.size, _, I1, rfl, ⟨_, x, rfl, I.hok.fresh (Nat.le_refl _), rfl, fun l hl => by rw [Ct.inj I hl c1]; exact ex⟩, ⟨⟨w1, ?_⟩, ?_⟩, fun c hcm => ?_⟩
    · have e1 : ((i + 1 : Nat) : Int) = (i : Int) + 1 := by omega
      rw [e1]; exact z''
    · exact (g1 _ _ t1).at fun o q => (sb.2 _ hei.symm).trans q
    · have lt : c < s.heap.objs.size := by
        have hc' : c = e ∨ c = it := by simpa using hcm
        rcases hc' with rfl | rfl
        · exact el
        · obtain ⟨_, q, _⟩ := s1.obj; exact Heap.lt_size q
      rw [upd_ne (Nat.ne_of_lt lt)]
      exact (hf c hcm).1
  done := by
    intro X hP hw hK hc i pins s σ H E I hf ⟨⟨old, he⟩, s1⟩ ⟨xs, c1, l1⟩
    subst hP hw hK
    have hh : X.A.in1.handled = none := I.ok.hd hc
    obtain ⟨fp, P1, St1, D1, b1, m1, g1, y1, f1⟩ := c1.draws (it := it) I r hh fun l z => (hu l z).2
    subst l1
    refine wpAny_pyNext_enum_endD D1 he (b1 _ s1) fun h' qk => ⟨rfl, I.turnedL (t' := s.toks) (ch := [e, it]) (fun c o hb q => qk c o (fun z => hb (by simp [z])) q) hf⟩
  self := fun A i s Q E ⟨⟨old, he⟩, _⟩ h => wpAny_pyIter_enum he h
section
variable {X : Cx} {p : Pm} {W : WX} {d : Df}
def notTu : Kd → Prop
  | .tu => False
  | _ => True
def iEnumD (K : PySem.W.Frag) (ta : TA) : TI := fun σ H R => ta σ H fun vs H1 => ∃ v k xs, vs = [v] ∧ notTu k ∧ Ct k K H1 v xs ∧ R (ItE k K v) H1
theorem pi_enumD {e : Expr} {ta : TA} {q pos tpos : Pos} {elts : List Expr} {kk : Nat} (hg : Gl X "enumerate") (hm : X.mg "enumerate" = none) (ha : PA X [e] ta) (hs : starEach [e] X.env = [(false, eval e X.env)]) :
    PI X (.Tuple elts kk tpos) (.Call (.Name "enumerate" q) [e] [] pos) (iEnumD X.K ta) := by
  refine ⟨fun pins s σ H R I h => ?_⟩
  refine Call_ (ld_blt I hg hm boot_enumerate (PyProof.Rows.callWith_type1 (thn (ha.run pos pins s σ H _ I h) fun us s1 ⟨vs, H1, I1, rr, v, k, xs, ev, nk, c1, qR⟩ => ?_) hs rfl))
  subst ev
  obtain ⟨u, rfl, r1⟩ := vals1 rr
  have fin : ∀ h', IsEnum h' (s1.heap.objs.size + 1) s1.heap.objs.size 0 .none → ItS k h' s1.heap.objs.size u 0 → (∀ b o, s1.heap.get? b = some o → h'.get? b = some o) → (∀ l, u = .ref l → l < s1.heap.objs.size) →
      wpAny (model X.prog X.w) X.A (pyIter (.ref (s1.heap.objs.size + 1))) (PIE X pins σ (.Tuple elts kk tpos) R) X.xe { s1 with heap := h' } := fun h' he hi hk lt => by
    refine wpAny_pyIter_enum he ?_
    have I2 : L2.Inv X pins σ H1 { s1 with heap := h' } := I1.kept (t' := s1.toks) hk
    refine ⟨_, [s1.heap.objs.size + 1, s1.heap.objs.size], _, _, H1, rfl, I2, turnE r1 (by simp) (fun l z => ?_), ⟨⟨_, he⟩, hi⟩, fun c hc => ?_, qR⟩
    · have := lt l z
      constructor
      · intro y; rw [y] at this; exact absurd this (Nat.not_lt.mpr (Nat.le_add_right _ _))
      · intro y; rw [y] at this; exact absurd this (Nat.lt_irrefl _)
    · have hle : s1.heap.objs.size ≤ c := by
        have hc' : c = s1.heap.objs.size + 1 ∨ c = s1.heap.objs.size := by simpa using hc
        rcases hc' with z | z
        · rw [z]; exact Nat.le_add_right _ _
        · rw [z]; exact Nat.le_refl _
      exact I1.fpOk hle (I1.hok.fresh hle)
  cases k with
  | li =>
    obtain ⟨a, rfl, qa⟩ := c1
    cases r1
    obtain ⟨its, rv, pl, _⟩ := I1.list qa
    exact call_enumerate_list pl.isList fun h' he hi _ hk => fin h' he ⟨a, rfl, hi⟩ hk fun l z => by cases z; exact pl.lt
  | tu => exact nk.elim
  | tx =>
    obtain ⟨z, rfl, qa⟩ := c1
    obtain ⟨t, rfl⟩ := r1
    exact call_enumerate_str fun h' he hi _ hk => fin h' he ⟨z, t, rfl, hi⟩ hk fun l y => by cases y
/-! on data -/
def enuL (ds : List D) : List D := (List.range ds.length).zipWith (fun i x => D.tup [.int (i : Nat), x]) ds
def enumD : List D → Option (List D)
  | [.lst ds] => some (enuL ds)
  | [.str z] => some (enuL (z.cps.toList.map chr1))
  | [.scr ns] => some (enuL (ns.map D.int))
  | _ => none
def mEnum (f : M (List D)) : M (List D) := f.bnd fun xs => lift (enumD xs)
theorem enuL_len {ds : List D} : (enuL ds).length = ds.length := by simp [enuL]
theorem it_enum {S : Hp} {k : Kd} {v : V} {vs : List V} {ds : List D} (c1 : ∀ H', Le S H' → Ct k X.K H' v vs) (r1 : Reps p.K p.cl S vs ds) : ItOk p S (ItE k X.K v) (enuL ds) := by
  intro S' H' le1 le2
  have e1 := r1.length
  refine ⟨fun i x hx => ?_, ⟨vs, c1 H' (le1.trans le2), by rw [enuL_len, e1]⟩⟩
  have il := (List.getElem?_eq_some_iff.mp hx).1
  rw [enuL_len] at il
  have hd : ds[i]? = some ds[i] := List.getElem?_eq_getElem il
  have ex : x = D.tup [.int (i : Nat), ds[i]] := by
    unfold enuL at hx
    rw [List.getElem?_zipWith, hd, List.getElem?_range il] at hx
    simpa using hx.symm
  subst ex
  refine ⟨⟨vs, c1 H' (le1.trans le2), by omega⟩, ?_⟩
  rintro y H'' ⟨T, z, rfl, hT, rfl, q1⟩
  obtain ⟨w1, g1, rr1⟩ := r1.get hd
  have z1 := q1 _ (c1 H' (le1.trans le2))
  rw [g1] at z1
  cases z1
  have gr := Grow.new (o := .tup [.int (i : Nat), z]) le2 hT
  exact ⟨_, gr, .tup (.inl upd_same) (.cons (.int _) (.cons ((rr1.up le1).up gr.s) .nil))⟩
theorem Cn.enum (c : Cn X p W d) {e : Expr} {f : M (List D)} {q pos tpos : Pos} {elts : List Expr} {kk : Nat} (j : Nat) (hj : d.gl[j]? = some ("enumerate" : Str)) (ha : PA X [e] (tDA p W f)) (hs : starEach [e] X.env = [(false, eval e X.env)] := by rfl) :
    PI X (.Tuple elts kk tpos) (.Call (.Name "enumerate" q) [e] [] pos) (tDI p W (mEnum f)) :=
  PI.imp (pi_enumD (c.gl hj).1 (c.mf _ mem_enum) ha hs) fun σ H R ⟨ρ, S, R0, w, h⟩ => by
    refine ⟨ρ, S, R0, w, (isI.bA h).mono fun vs H1 ⟨ds, ρ1, S1, R1, r1, t1, w1, h1⟩ => ?_⟩
    unfold enumD at h1
    split at h1
    · obtain ⟨v, rfl, rv⟩ := reps1 r1
      obtain ⟨k, vs, c1, q1⟩ := seq_ct (X := X) c.o.K rv rfl
      cases rv with
      | lst ea ra => exact ⟨_, .li, _, rfl, trivial, ⟨_, rfl, SqL.of (w1.le _ _ ea)⟩, h1 S1 H1 R1 _ Stp.refl w1 (it_enum (fun H' le => ⟨_, rfl, SqL.of (le _ _ ea)⟩) ra)⟩
    · obtain ⟨v, rfl, rv⟩ := reps1 r1
      cases rv with
      | str => exact ⟨_, .tx, _, rfl, trivial, ⟨_, rfl, rfl⟩, h1 S1 H1 R1 _ Stp.refl w1 (it_enum (fun H2 le => ⟨_, rfl, rfl⟩) (reps_chr _))⟩
    · obtain ⟨v, rfl, rv⟩ := reps1 r1
      cases rv with
      | scr ea => exact ⟨_, .li, _, rfl, trivial, ⟨_, rfl, by rw [c.o.K]; exact w1.le.sqL ea⟩, h1 S1 H1 R1 _ Stp.refl w1 (it_enum (fun H' le => ⟨_, rfl, by rw [c.o.K]; exact le.sqL ea⟩) (reps_ints _))⟩
    · exact h1.elim
end
end PL

end
-- text PL34
section
set_option linter.all false
set_option maxRecDepth 100000
set_option maxHeartbeats 4000000
namespace PL
open PySem PySem.Spec PyProof.Rows L2
/-! ### instances: fields -/
section
variable {K : PySem.W.Frag} {cl : Str → Option Addr} {S : Hp}
theorem RepF.look {f : Str} : ∀ {vs : List (Str × V)} {fs : List (Str × D)}, RepF K cl S vs fs → ∀ {d : D}, fs.lookup f = some d → ∃ v, vs.lookup f = some v ∧ Rep K cl S v d
  | _, _, .nil, _, h => by cases h
  | _, _, @RepF.cons _ _ _ g v e vs ds a b, d, h => by
    by_cases hg : (f == g) = true
    · rw [List.lookup_cons, hg] at h ⊢
      cases h
      exact ⟨v, rfl, a⟩
    · have hf : (f == g) = false := by simpa using hg
      rw [List.lookup_cons, hf] at h ⊢
      exact RepF.look b h
theorem RepF.out {f : Str} : ∀ {vs : List (Str × V)} {fs : List (Str × D)}, RepF K cl S vs fs → fs.lookup f = none → vs.lookup f = none
  | _, _, .nil, _ => rfl
  | _, _, @RepF.cons _ _ _ g v e vs ds a b, h => by
    by_cases hg : (f == g) = true
    · rw [List.lookup_cons, hg] at h
      cases h
    · have hf : (f == g) = false := by simpa using hg
      rw [List.lookup_cons, hf] at h ⊢
      exact RepF.out b h
end
/-- the program's classes, each with its fields -/
abbrev KT := List (Str × List Str)
def KlOk (K : PySem.W.Frag) (cl : Str → Option Addr) (kt : KT) : Prop := ∀ c fl, kt.lookup c = some fl → ∃ C, cl c = some C ∧ Cls K C ∧ ∀ f ∈ fl, NoAttr K C f
def hasF (kt : KT) (c f : Str) : Bool := match kt.lookup c with
  | some fl => fl.contains f
  | none => false
theorem hasF_ok {K : PySem.W.Frag} {cl : Str → Option Addr} {kt : KT} {c f : Str} (k : KlOk K cl kt) (h : hasF kt c f = true) {C : Addr} (hc : cl c = some C) : Cls K C ∧ NoAttr K C f := by
  unfold hasF at h
  split at h
  · rename_i fl e
    obtain ⟨C', h1, h2, h3⟩ := k c fl e
    rw [hc] at h1
    cases h1
    exact ⟨h2, h3 f (by simpa using h)⟩
  · cases h
def fldD (kt : KT) (f : Str) : D → Option D
  | .obj c fs => if hasF kt c f then fs.lookup f else none
  | _ => none
def mFld (kt : KT) (f : Str) (fa : M D) : M D := fa.bnd fun x => lift (fldD kt f x)
section
variable {X : Cx} {p : Pm} {W : WX} {d : Df}
theorem Cn.fld (c : Cn X p W d) {kt : KT} (kl : KlOk p.K p.cl kt) {e : Expr} {f : Str} {pos : Pos} {fa : M D} (he : PE X e (tD p W fa)) (hb : attributeBase e f X.env (eval e X.env) = eval e X.env := by rfl) :
    PE X (.Attribute e f pos) (tD p W (mFld kt f fa)) :=
  PE.imp (pe_fld he hb) fun σ H Q ⟨ρ, S, R, w, h⟩ => by
    refine ⟨ρ, S, R, w, (isE.bE h).mono fun v H1 ⟨x, ρ1, S1, R1, r1, t1, w1, h1⟩ => ?_⟩
    cases r1 with
    | obj hc e1 e2 rf =>
      rename_i a dx C cc vfs fs _
      replace h1 : PoE p W σ S1 H1 R1 Q (lift (if hasF kt cc f then fs.lookup f else none) ρ1) := h1
      split at h1
      · rename_i hf
        obtain ⟨k1, k2⟩ := hasF_ok kl hf hc
        cases el : fs.lookup f with
        | none => rw [el] at h1; exact h1.elim
        | some y =>
          rw [el] at h1
          obtain ⟨u, hu, ru⟩ := rf.look el
          exact ⟨a, C, dx, vfs, u, rfl, w1.le _ _ e1, by rw [c.o.K]; exact k1, by rw [c.o.K]; exact k2, hu, h1 S1 H1 R1 u Stp.refl w1 ru⟩
      · exact h1.elim
    | _ => exact h1.elim
end
/-! ### an owned instance in a slot: a field stored, a field read -/
def putO (c f : Str) (o : O) (ns : List Str) (xs : List O) : O := match ns.idxOf? f with
  | some j => .ob c ns (xs.set j o)
  | none => .ob c (ns ++ [f]) (xs ++ [o])
theorem putF_none {f : Str} {v : V} : ∀ {ns : List Str} {vs : List V}, ns.length = vs.length → ns.idxOf? f = none → putF f v (ns.zip vs) = (ns ++ [f]).zip (vs ++ [v])
  | [], [], _, _ => rfl
  | [], _ :: _, h, _ => by simp at h
  | _ :: _, [], h, _ => by simp at h
  | n :: ns, x :: vs, h, e => by
    rw [List.idxOf?_cons] at e
    by_cases hn : (n == f) = true
    · rw [if_pos hn] at e; cases e
    · rw [if_neg hn] at e
      have e' : ns.idxOf? f = none := by simpa using e
      have ne : ¬ n = f := fun z => hn (by simp [z])
      show (if n = f then _ else (n, x) :: putF f v (ns.zip vs)) = _
      rw [if_neg ne, putF_none (by simpa using h) e']
      rfl
theorem putF_some {f : Str} {v : V} : ∀ {ns : List Str} {vs : List V} {j : Nat}, ns.length = vs.length → ns.idxOf? f = some j → putF f v (ns.zip vs) = ns.zip (vs.set j v) ∧ j < vs.length
  | [], [], _, _, e => by simp at e
  | [], _ :: _, _, h, _ => by simp at h
  | _ :: _, [], _, h, _ => by simp at h
  | n :: ns, x :: vs, j, h, e => by
    rw [List.idxOf?_cons] at e
    by_cases hn : (n == f) = true
    · rw [if_pos hn] at e
      cases e
      have en : n = f := by simpa using hn
      refine ⟨?_, by simp⟩
      show (if n = f then (n, v) :: ns.zip vs else _) = _
      rw [if_pos en]
      rfl
    · rw [if_neg hn] at e
      rw [Option.map_eq_some_iff] at e
      obtain ⟨i, e1, rfl⟩ := e
      have ne : ¬ n = f := fun z => hn (by simp [z])
      obtain ⟨h1, h2⟩ := putF_some (v := v) (by simpa using h) e1
      refine ⟨?_, by simpa using h2⟩
      show (if n = f then _ else (n, x) :: putF f v (ns.zip vs)) = _
      rw [if_neg ne, h1]
      rfl
section
variable {K : PySem.W.Frag} {cl : Str → Option Addr} {S H : Hp}
theorem Ows.put {v : V} {o : O} {Rv : List Addr} (ow : Ow K cl S H v o Rv) : ∀ {vs : List V} {os : List O} {R : List Addr} {j : Nat}, Ows K cl S H vs os R → j < vs.length → ∃ R2 Rx, (R2 ++ Rx).Perm (R ++ Rv) ∧ Ows K cl S H (vs.set j v) (os.set j o) R2
  | _, _, _, _, .nil, h => by simp at h
  | _, _, _, 0, @Ows.cons _ _ _ _ _ _ _ _ R R' a b, _ => by
    refine ⟨Rv ++ R', R, ?_, .cons ow b⟩
    rw [List.append_assoc]
    have h1 : (Rv ++ (R' ++ R)).Perm (Rv ++ (R ++ R')) := List.Perm.append_left Rv List.perm_append_comm
    exact h1.trans List.perm_append_comm
  | _, _, _, j + 1, @Ows.cons _ _ _ _ _ _ _ _ R R' a b, h => by
    obtain ⟨R2, Rx, hp, hs⟩ := Ows.put ow (j := j) b (by simpa using h)
    refine ⟨R ++ R2, Rx, ?_, .cons a hs⟩
    rw [List.append_assoc, List.append_assoc]
    exact List.Perm.append_left R hp
end
def mSetFld (kt : KT) (i : Nat) (f : Str) (fe : M O) : M Fl := fe.bnd fun o ρ => match ρ[i]? with
  | some (some (.ob c ns xs)) => if hasF kt c f ∧ ns.length < 1000 then .ok .nx (ρ.set i (some (putO c f o ns xs))) else .bad
  | _ => .bad
section
variable {p : Pm} {S H : Hp} {σ : L2.St} {ρ : Rho} {R : List Addr}
/-- the object of a slot is stored to -/
theorem Wd.putFld {i : Nat} {c f : Str} {ns : List Str} {xs : List O} {v : V} {o : O} {Rv : List Addr} (w : Wd p S H σ ρ R) (e : ρ[i]? = some (some (.ob c ns xs))) (ow : Ow p.K p.cl S H v o Rv) (nd : (R ++ Rv).Nodup) (ap : ∀ a ∈ Rv, S a = none) :
    ∃ a C dx vs, σ[i]? = some (some (.ref a)) ∧ p.cl c = some C ∧ H a = some (.ins C dx (ns.zip vs)) ∧ ns.length = vs.length ∧
      ∃ R2, Wd p S (L2.upd H a (.ins C dx (putF f v (ns.zip vs)))) σ (ρ.set i (some (putO c f o ns xs))) R2 ∧ Stp (R ++ Rv) H S R2 (L2.upd H a (.ins C dx (putF f v (ns.zip vs)))) S := by
  obtain ⟨u, Ri, R0, hv, ho, hp, hs⟩ := w.sl.out e
  cases ho with
  | ob hc e1 e2 hl rs =>
    rename_i a dx C vs Rf
    obtain ⟨n1, n2, n3⟩ := List.nodup_append.mp nd
    have ndp : ((a :: dx :: Rf) ++ R0).Nodup := hp.nodup_iff.mpr n1
    have inR : ∀ b, b ∈ (a :: dx :: Rf) ++ R0 ↔ b ∈ R := fun b => hp.mem_iff
    obtain ⟨m1, m2, m3⟩ := List.nodup_append.mp ndp
    obtain ⟨m4, m5⟩ := List.nodup_cons.mp m1
    obtain ⟨m6, m7⟩ := List.nodup_cons.mp m5
    have aR : a ∈ R := (inR a).mp (by simp)
    have sa : S a = none := w.ap a aR
    have kp : ∀ b u, b ≠ a → H b = some u → L2.upd H a (.ins C dx (putF f v (ns.zip vs))) b = some u := fun b u hb q => by rw [upd_ne hb]; exact q
    have na : ∀ b ∈ R0, b ≠ a := fun b hb z => m3 a (by simp) b hb z.symm
    have nf : ∀ b ∈ Rf, b ≠ a := fun b hb z => m4 (by rw [← z]; exact List.mem_cons_of_mem _ hb)
    have nv : ∀ b ∈ Rv, b ≠ a := fun b hb z => n3 a aR b hb z.symm
    have nd0 : dx ≠ a := fun z => m4 (by rw [z]; exact List.mem_cons_self)
    have le1 : Le S (L2.upd H a (.ins C dx (putF f v (ns.zip vs)))) := fun b u q => kp b u (fun z => by rw [z, sa] at q; cases q) (w.le b u q)
    have rs1 := rs.up (S' := S) (H' := L2.upd H a (.ins C dx (putF f v (ns.zip vs)))) (Le.refl _) fun b hb u q => kp b u (nf b hb) q
    have ow1 := ow.up (S' := S) (H' := L2.upd H a (.ins C dx (putF f v (ns.zip vs)))) (Le.refl _) fun b hb u q => kp b u (nv b hb) q
    have hs1 := hs.up (S' := S) (H' := L2.upd H a (.ins C dx (putF f v (ns.zip vs)))) (Le.refl _) fun b hb u q => kp b u (na b hb) q
    have hlt : i < ρ.length := (List.getElem?_eq_some_iff.mp e).1
    have new : ∃ R3 Rx, (R3 ++ Rx).Perm (Rf ++ Rv) ∧ Ow p.K p.cl S (L2.upd H a (.ins C dx (putF f v (ns.zip vs)))) (.ref a) (putO c f o ns xs) (a :: dx :: R3) := by
      unfold putO
      cases ej : ns.idxOf? f with
      | none =>
        have rv : Ows p.K p.cl S (L2.upd H a (.ins C dx (putF f v (ns.zip vs)))) [v] [o] Rv := by simpa using Ows.cons ow1 .nil
        refine ⟨Rf ++ Rv, [], by simp, .ob (vs := vs ++ [v]) hc ?_ (kp _ _ nd0 e2) (by simp [hl]) (rs1.app rv)⟩
        rw [upd_same, putF_none hl ej]
      | some j =>
        obtain ⟨q1, q2⟩ := putF_some (v := v) hl ej
        obtain ⟨R3, Rx, q3, q4⟩ := rs1.put ow1 q2
        refine ⟨R3, Rx, q3, .ob hc ?_ (kp _ _ nd0 e2) (by simp [hl]) q4⟩
        rw [upd_same, q1]
    obtain ⟨R3, Rx, q3, q4⟩ := new
    obtain ⟨R4, q5, q6⟩ := hs1.into (i := i) (by simp [hlt]) hv q4
    rw [List.set_set] at q6
    have in4 : ∀ b, b ∈ R4 ↔ b ∈ (a :: dx :: R3) ++ R0 := fun b => q5.mem_iff
    have in3 : ∀ b ∈ R3, b ∈ Rf ∨ b ∈ Rv := fun b hb => List.mem_append.mp (q3.mem_iff.mp (List.mem_append_left _ hb))
    have old : ∀ b ∈ R4, b ∈ R ∨ b ∈ Rv := fun b hb => by
      rcases List.mem_append.mp ((in4 b).mp hb) with z | z
      · rcases List.mem_cons.mp z with y | y
        · exact .inl (by rw [y]; exact aR)
        · rcases List.mem_cons.mp y with y | y
          · exact .inl ((inR b).mp (by rw [y]; simp))
          · rcases in3 b y with x | x
            · exact .inl ((inR b).mp (by simp [x]))
            · exact .inr x
      · exact .inl ((inR b).mp (by simp [z]))
    have ndfv : (Rf ++ Rv).Nodup := List.nodup_append.mpr ⟨m7, n2, fun b hb b' hb' z => n3 b ((inR b).mp (by simp [hb])) b' hb' z⟩
    have nd3 : R3.Nodup := (List.nodup_append.mp (q3.nodup_iff.mpr ndfv)).1
    have nd4 : R4.Nodup := q5.nodup_iff.mpr (List.nodup_append.mpr ⟨List.nodup_cons.mpr ⟨fun z => by
        rcases List.mem_cons.mp z with y | y
        · exact nd0 y.symm
        · rcases in3 a y with x | x
          · exact nf a x rfl
          · exact nv a x rfl, List.nodup_cons.mpr ⟨fun z => by
        rcases in3 dx z with x | x
        · exact m6 x
        · exact n3 dx ((inR dx).mp (by simp)) dx x rfl, nd3⟩⟩, m2, fun b hb b' hb' z => by
      subst z
      rcases List.mem_cons.mp hb with y | y
      · exact na b hb' y
      · rcases List.mem_cons.mp y with y | y
        · exact m3 dx (by simp) b hb' y.symm
        · rcases in3 b y with x | x
          · exact m3 b (by simp [x]) b hb' rfl
          · exact n3 b ((inR b).mp (by simp [hb'])) b x rfl⟩)
    refine ⟨a, C, dx, vs, hv, hc, e1, hl, R4, ⟨le1, q6, nd4, fun b hb => ?_, w.io⟩, ⟨Le.refl _, fun b _ z => .inl z, fun b u q hb => kp b u (fun z => hb (by rw [z]; exact List.mem_append_left _ aR)) q, fun b hb => ?_, fun b z => ?_⟩⟩
    · rcases old b hb with z | z
      · exact w.ap b z
      · exact ap b z
    · rcases old b hb with z | z
      · exact .inl (List.mem_append_left _ z)
      · exact .inl (List.mem_append_right _ z)
    · by_cases hb : b = a
      · rw [hb, upd_same] at z; cases z
      · rw [upd_ne hb] at z; exact z
end
section
variable {X : Cx} {p : Pm} {W : WX} {d : Df}
theorem Cn.setFld (c : Cn X p W d) {kt : KT} (kl : KlOk p.K p.cl kt) {x f : Str} {e : Expr} {p1 p2 pos : Pos} {fe : M O} (i : Nat) (h : d.N[i]? = some x) (he : PE X e (tDO p W fe)) (hu : d.us.contains i = true := by rfl)
    (hs : swapsWith e (some (.Attribute (.Name x p1) f p2)) pos.line X.env = pure false := by rfl) : PS X (.Assign [.Attribute (.Name x p1) f p2] e pos) (tDS p W (mSetFld kt i f fe)) :=
  PS.imp (ps_fld (pe_var (c.nx h) (c.vis h hu) (c.nameK h hu).1 (c.nameK h hu).2) he hs) fun D σ H ⟨ρ, S, R, w, h⟩ => by
    refine ⟨ρ, S, R, w, (isS.bO h).mono fun v H1 ⟨o, ρ1, S1, R1, Rv, ow, t1, w1, nd, ap, h1⟩ => ?_⟩
    split at h1
    · rename_i cc ns xs eo
      split at h1
      · rename_i hf
        obtain ⟨a, C, dx, vs, hv, hc, ea, hl, R2, w2, t2⟩ := w1.putFld (f := f) eo ow nd ap
        obtain ⟨k1, k2⟩ := hasF_ok kl hf.1 hc
        refine ⟨.ref a, hv, a, C, dx, ns.zip vs, rfl, ea, by rw [c.o.K]; exact k1, by rw [c.o.K]; exact k2, by simp; omega, ?_⟩
        exact h1 σ S1 _ R2 t2 w2
      · exact h1.elim
    · exact h1.elim
end
end PL

end
-- text PL35
section
set_option linter.all false
set_option maxRecDepth 100000
set_option maxHeartbeats 4000000
namespace PL
open PySem PySem.Spec PyProof.Rows L2
/-! ### methods -/
/-- a method of a class: its def keeps the promise of t -/
structure MtOk (P : Program) (w : World) (K : PySem.W.Frag) (cl : Str → Option Addr) (mg : Str → Option Value) (base : Heap) (k : Nat) (c m : Str) (t : Ent) : Prop where
  ex : ∃ C f, cl c = some C ∧ Cls K C ∧ Meth K C m f ∧ FnE P w K cl mg base k f t
abbrev MT := List (Str × Ent)
def MtsOk (P : Program) (w : World) (K : PySem.W.Frag) (cl : Str → Option Addr) (mg : Str → Option Value) (base : Heap) (k : Nat) (m : Str) (mt : MT) : Prop := ∀ c t, mt.lookup c = some t → MtOk P w K cl mg base k c m t
theorem MtOk.mono {P : Program} {w : World} {K : PySem.W.Frag} {cl : Str → Option Addr} {mg : Str → Option Value} {base : Heap} {j k : Nat} {c m : Str} {t : Ent} (h : MtOk P w K cl mg base j c m t) (l : j ≤ k) : MtOk P w K cl mg base k c m t := by
  obtain ⟨C, f, a, b, d, e⟩ := h.ex
  exact ⟨C, f, a, b, d, e.mono l⟩
theorem mts_nil {P : Program} {w : World} {K : PySem.W.Frag} {cl : Str → Option Addr} {mg : Str → Option Value} {base : Heap} {k : Nat} {m : Str} : MtsOk P w K cl mg base k m [] := fun c t h => by cases h
theorem mts_cons {P : Program} {w : World} {K : PySem.W.Frag} {cl : Str → Option Addr} {mg : Str → Option Value} {base : Heap} {k : Nat} {m c : Str} {t : Ent} {mt : MT} (h : MtOk P w K cl mg base k c m t) (r : MtsOk P w K cl mg base k m mt) : MtsOk P w K cl mg base k m ((c, t) :: mt) := fun c' t' e => by
  rw [List.lookup_cons] at e
  split at e
  · rename_i hc
    have : c' = c := by simpa using hc
    cases e
    rw [this]; exact h
  · exact r c' t' e
def methX (mt : MT) (m : Str) (fa : M (List Ar)) : D → M O
  | .obj c fs => match mt.lookup c with
    | some t => if (fs.lookup m).isNone then fa.bnd fun as => callF t (.d (.obj c fs) :: as) else M.bad
    | none => M.bad
  | _ => M.bad
def mMeth (mt : MT) (m : Str) (fo : M D) (fa : M (List Ar)) : M O := fo.bnd (methX mt m fa)
def mMethS (mt : MT) (m : Str) (i : Nat) (fa : M (List Ar)) : M O := fun ρ => match ρ[i]? with
  | some (some (.ob c ns xs)) => match mt.lookup c with
    | some t => if ns.contains m then .bad else (fa.bnd fun as => callF t (.s i :: as)) ρ
    | none => .bad
  | some (some (.dat x)) => methX mt m fa x ρ
  | _ => .bad
theorem methX_at {mt : MT} {m : Str} {fa : M (List Ar)} {p : Pm} {W : WX} {σ : L2.St} {S H : Hp} {R : List Addr} {Q : VK} {ρ : Rho} {x : D} (h : PoO p W σ S H R Q (methX mt m fa x ρ)) :
    ∃ c fs t, x = .obj c fs ∧ mt.lookup c = some t ∧ fs.lookup m = none ∧ PoO p W σ S H R Q ((fa.bnd fun as => callF t (.d (.obj c fs) :: as)) ρ) := by
  cases x with
  | obj c fs =>
    unfold methX at h
    cases e : mt.lookup c with
    | none => simp only [e] at h; exact h.elim
    | some t =>
      simp only [e] at h
      by_cases hn : (fs.lookup m).isNone = true
      · rw [if_pos hn] at h
        exact ⟨c, fs, t, rfl, e, by simpa using hn, h⟩
      · rw [if_neg hn] at h; exact h.elim
  | _ => exact h.elim
section
variable {X : Cx} {p : Pm} {W : WX} {d : Df}
theorem Cn.fe (c : Cn X p W d) {k : Nat} {f : Addr} {t : Ent} (ok : FnE p.P p.w p.K p.cl p.mg p.base k f t) (hk : k ≤ d.k) : FnE X.prog X.w p.K p.cl X.mg X.base d.k f t := by
  rw [c.eP, c.eW, c.eM, c.eB]; exact ok.mono hk
theorem Cn.meth (c : Cn X p W d) {k : Nat} {mt : MT} {m : Str} {o e : Expr} {es : List Expr} {fo : M D} {fa : M (List Ar)} {apos pos : Pos} {pl : Sem Bool} (ok : MtsOk p.P p.w p.K p.cl p.mg p.base k m mt) (hk : k ≤ d.k) (he : PE X o (tD p W fo)) (ha : PA X (e :: es) (tDX p W fa))
    (hst : starEach (e :: es) X.env = (false, eval e X.env) :: starEach es X.env := by rfl) (hpl : (backTo pos (starEach es X.env)).any (·.1) = false := by rfl)
    (ht : eval (.Call (.Attribute o m apos) (e :: es) [] pos) X.env = (do
      let ov ← eval o X.env
      standAt apos.atName
      let (f, first) ← holding [ov] (getMethod ov m pl)
      callWith pos f first (backTo pos (starEach (e :: es) X.env)) (backToKw pos (keywordEach [] X.env))) := by rfl) :
    PE X (.Call (.Attribute o m apos) (e :: es) [] pos) (tDO p W (mMeth mt m fo fa)) := by
  refine ⟨fun pins s σ H Q I ⟨ρ, S, R, w, h⟩ => ?_⟩
  refine PySem.W.methodCall_KW (pl := pl) (thn (he.run pins s σ H _ I ⟨ρ, S, R, w, isO.bE h⟩) fun u s1 ⟨v, H1, I1, rv, x, ρ1, S1, R1, r1, t1, w1, h1⟩ => ?_) ht
  obtain ⟨cc, fs, t, rfl, et, hnn, h1⟩ := methX_at h1
  cases r1 with
        | obj hc e1 e2 rf =>
          rename_i a dx C vfs
          obtain ⟨C', f, k1, k2, k3, FE⟩ := (ok cc t et).ex
          rw [hc] at k1
          cases k1
          rw [← c.o.K] at k2 k3
          obtain rfl : u = Value.ref a := rv
          refine getmeth_ok I1 (w1.le _ _ e1) k2 k3 (rf.out hnn) ?_
          refine PySem.W.callWith_K (first := [.ref a]) (h₀ := X.base) I.ok.mod.kin k3.kp (thn (ha.run pos pins s1 σ H1 _ I1 ⟨ρ1, S1, R1, w1, isO.bX h1⟩) fun us s2 ⟨vs, H2, I2, rv2, as, ρ2, S2, R2, ra, t2, w2, h2⟩ => ⟨I2.kIn, ?_⟩) hst hpl
          exact run_E (us := .ref a :: us) (vs := .ref a :: vs) (c.fe FE hk) c.o.K c.r c.o.g c.t I2 (.cons rfl rv2) w2 (.d (Rep.up t2.s (.obj hc e1 e2 rf)) ra) h2
theorem Cn.meth0 (c : Cn X p W d) {k : Nat} {mt : MT} {m : Str} {o : Expr} {fo : M D} {apos pos : Pos} {pl : Sem Bool} (ok : MtsOk p.P p.w p.K p.cl p.mg p.base k m mt) (hk : k ≤ d.k) (he : PE X o (tD p W fo))
    (ht : eval (.Call (.Attribute o m apos) [] [] pos) X.env = (do
      let ov ← eval o X.env
      standAt apos.atName
      let (f, first) ← holding [ov] (getMethod ov m pl)
      callWith pos f first (backTo pos (starEach [] X.env)) (backToKw pos (keywordEach [] X.env))) := by rfl) :
    PE X (.Call (.Attribute o m apos) [] [] pos) (tDO p W (mMeth mt m fo xNil)) := by
  refine ⟨fun pins s σ H Q I ⟨ρ, S, R, w, h⟩ => ?_⟩
  refine PySem.W.methodCall_KW (pl := pl) (thn (he.run pins s σ H _ I ⟨ρ, S, R, w, isO.bE h⟩) fun u s1 ⟨v, H1, I1, rv, x, ρ1, S1, R1, r1, t1, w1, h1⟩ => ?_) ht
  obtain ⟨cc, fs, t, rfl, et, hnn, h1⟩ := methX_at h1
  cases r1 with
        | obj hc e1 e2 rf =>
          rename_i a dx C vfs
          obtain ⟨C', f, k1, k2, k3, FE⟩ := (ok cc t et).ex
          rw [hc] at k1
          cases k1
          rw [← c.o.K] at k2 k3
          obtain rfl : u = Value.ref a := rv
          refine getmeth_ok I1 (w1.le _ _ e1) k2 k3 (rf.out hnn) ?_
          refine PySem.W.callWith_K0 (first := [.ref a]) I1.kIn k3.kp ?_
          exact run_E (us := [.ref a]) (vs := [.ref a]) (c.fe FE hk) c.o.K c.r c.o.g c.t I1 (.cons rfl .nil) w1 (.d (.obj hc e1 e2 rf) .nil) h1
theorem zip_out {m : Str} : ∀ {ns : List Str} {vs : List V}, ns.contains m = false → (ns.zip vs).lookup m = none
  | [], _, _ => rfl
  | _ :: _, [], _ => rfl
  | n :: ns, v :: vs, h => by
    simp only [List.contains_cons, Bool.or_eq_false_iff] at h
    show List.lookup m ((n, v) :: ns.zip vs) = none
    rw [List.lookup_cons, h.1]
    exact zip_out h.2
/-- a method of the object in a slot -/
theorem Cn.methS (c : Cn X p W d) {k : Nat} {mt : MT} {x m : Str} {e : Expr} {es : List Expr} {fa : M (List Ar)} {p1 apos pos : Pos} {pl : Sem Bool} (ok : MtsOk p.P p.w p.K p.cl p.mg p.base k m mt) (hk : k ≤ d.k) (i : Nat) (hi : d.N[i]? = some x) (ha : PA X (e :: es) (tDX p W fa)) (hu : d.us.contains i = true := by rfl)
    (hst : starEach (e :: es) X.env = (false, eval e X.env) :: starEach es X.env := by rfl) (hpl : (backTo pos (starEach es X.env)).any (·.1) = false := by rfl)
    (ht : eval (.Call (.Attribute (.Name x p1) m apos) (e :: es) [] pos) X.env = (do
      let ov ← eval (.Name x p1) X.env
      standAt apos.atName
      let (f, first) ← holding [ov] (getMethod ov m pl)
      callWith pos f first (backTo pos (starEach (e :: es) X.env)) (backToKw pos (keywordEach [] X.env))) := by rfl) :
    PE X (.Call (.Attribute (.Name x p1) m apos) (e :: es) [] pos) (tDO p W (mMethS mt m i fa)) := by
  refine ⟨fun pins s σ H Q I ⟨ρ, S, R, w, h⟩ => ?_⟩
  unfold mMethS at h
  split at h
  · rename_i cc ns xs eo
    split at h
    · rename_i t et
      split at h
      · exact h.elim
      · rename_i hn
        obtain ⟨v, Ri, R0, hv, ho, hp, hs⟩ := w.sl.out eo
        cases ho with
        | ob hc e1 e2 hl rs =>
          rename_i a dx C vs Rf
          obtain ⟨C', f, k1, k2, k3, FE⟩ := (ok cc t et).ex
          rw [hc] at k1
          cases k1
          rw [← c.o.K] at k2 k3
          refine PySem.W.methodCall_KW (pl := pl) (thn ((pe_var (c.nx hi) (c.vis hi hu) (c.nameK hi hu).1 (c.nameK hi hu).2).run pins s σ H (fun v' H' => v' = .ref a ∧ H' = H) I ⟨_, hv, rfl, rfl⟩) fun u s1 ⟨v', H1, I1, rv, ev, eH⟩ => ?_) ht
          subst ev eH
          obtain rfl : u = Value.ref a := rv
          refine getmeth_ok I1 e1 k2 k3 (zip_out (by simpa using hn)) ?_
          refine PySem.W.callWith_K (first := [.ref a]) (h₀ := X.base) I.ok.mod.kin k3.kp (thn (ha.run pos pins s1 σ H1 _ I1 ⟨ρ, S, R, w, isO.bX h⟩) fun us s2 ⟨vs2, H2, I2, rv2, as, ρ2, S2, R2, ra, t2, w2, h2⟩ => ⟨I2.kIn, ?_⟩) hst hpl
          exact run_E (us := .ref a :: us) (vs := .ref a :: vs2) (c.fe FE hk) c.o.K c.r c.o.g c.t I2 (.cons rfl rv2) w2 (.s hv ra) h2
    · exact h.elim
  · rename_i x eo
    obtain ⟨v, hv, rv0⟩ := w.get eo
    have hx : PE X (.Name _ p1) _ := pe_var (pos := p1) (c.nx hi) (c.vis hi hu) (c.nameK hi hu).1 (c.nameK hi hu).2
    refine PySem.W.methodCall_KW (pl := pl) (thn (hx.run pins s σ H (fun v' H' => v' = v ∧ H' = H) I ⟨_, hv, rfl, rfl⟩) fun u s1 ⟨v', H1, I1, rv, ev, eH⟩ => ?_) ht
    subst ev eH
    obtain ⟨cc, fs, t, rfl, et, hnn, h⟩ := methX_at h
    cases rv0 with
          | obj hc e1 e2 rf =>
            rename_i a dx C vfs _
            obtain ⟨C', f, k1, k2, k3, FE⟩ := (ok cc t et).ex
            rw [hc] at k1
            cases k1
            rw [← c.o.K] at k2 k3
            obtain rfl : u = Value.ref a := rv
            refine getmeth_ok I1 (w.le _ _ e1) k2 k3 (rf.out hnn) ?_
            refine PySem.W.callWith_K (first := [.ref a]) (h₀ := X.base) I.ok.mod.kin k3.kp (thn (ha.run pos pins s1 σ H1 _ I1 ⟨ρ, S, R, w, isO.bX h⟩) fun us s2 ⟨vs, H2, I2, rv2, as, ρ2, S2, R2, ra, t2, w2, h2⟩ => ⟨I2.kIn, ?_⟩) hst hpl
            exact run_E (us := .ref a :: us) (vs := .ref a :: vs) (c.fe FE hk) c.o.K c.r c.o.g c.t I2 (.cons rfl rv2) w2 (.d (Rep.up t2.s (.obj hc e1 e2 rf)) ra) h2
  · exact h.elim
theorem Cn.methS0 (c : Cn X p W d) {k : Nat} {mt : MT} {x m : Str} {p1 apos pos : Pos} {pl : Sem Bool} (ok : MtsOk p.P p.w p.K p.cl p.mg p.base k m mt) (hk : k ≤ d.k) (i : Nat) (hi : d.N[i]? = some x) (hu : d.us.contains i = true := by rfl)
    (ht : eval (.Call (.Attribute (.Name x p1) m apos) [] [] pos) X.env = (do
      let ov ← eval (.Name x p1) X.env
      standAt apos.atName
      let (f, first) ← holding [ov] (getMethod ov m pl)
      callWith pos f first (backTo pos (starEach [] X.env)) (backToKw pos (keywordEach [] X.env))) := by rfl) :
    PE X (.Call (.Attribute (.Name x p1) m apos) [] [] pos) (tDO p W (mMethS mt m i xNil)) := by
  refine ⟨fun pins s σ H Q I ⟨ρ, S, R, w, h⟩ => ?_⟩
  unfold mMethS at h
  split at h
  · rename_i cc ns xs eo
    split at h
    · rename_i t et
      split at h
      · exact h.elim
      · rename_i hn
        obtain ⟨v, Ri, R0, hv, ho, hp, hs⟩ := w.sl.out eo
        cases ho with
        | ob hc e1 e2 hl rs =>
          rename_i a dx C vs Rf
          obtain ⟨C', f, k1, k2, k3, FE⟩ := (ok cc t et).ex
          rw [hc] at k1
          cases k1
          rw [← c.o.K] at k2 k3
          refine PySem.W.methodCall_KW (pl := pl) (thn ((pe_var (c.nx hi) (c.vis hi hu) (c.nameK hi hu).1 (c.nameK hi hu).2).run pins s σ H (fun v' H' => v' = .ref a ∧ H' = H) I ⟨_, hv, rfl, rfl⟩) fun u s1 ⟨v', H1, I1, rv, ev, eH⟩ => ?_) ht
          subst ev eH
          obtain rfl : u = Value.ref a := rv
          refine getmeth_ok I1 e1 k2 k3 (zip_out (by simpa using hn)) ?_
          refine PySem.W.callWith_K0 (first := [.ref a]) I1.kIn k3.kp ?_
          exact run_E (us := [.ref a]) (vs := [.ref a]) (c.fe FE hk) c.o.K c.r c.o.g c.t I1 (.cons rfl .nil) w (.s hv .nil) h
    · exact h.elim
  · rename_i x eo
    obtain ⟨v, hv, rv0⟩ := w.get eo
    have hx : PE X (.Name _ p1) _ := pe_var (pos := p1) (c.nx hi) (c.vis hi hu) (c.nameK hi hu).1 (c.nameK hi hu).2
    refine PySem.W.methodCall_KW (pl := pl) (thn (hx.run pins s σ H (fun v' H' => v' = v ∧ H' = H) I ⟨_, hv, rfl, rfl⟩) fun u s1 ⟨v', H1, I1, rv, ev, eH⟩ => ?_) ht
    subst ev eH
    obtain ⟨cc, fs, t, rfl, et, hnn, h⟩ := methX_at h
    cases rv0 with
          | obj hc e1 e2 rf =>
            rename_i a dx C vfs _
            obtain ⟨C', f, k1, k2, k3, FE⟩ := (ok cc t et).ex
            rw [hc] at k1
            cases k1
            rw [← c.o.K] at k2 k3
            obtain rfl : u = Value.ref a := rv
            refine getmeth_ok I1 (w.le _ _ e1) k2 k3 (rf.out hnn) ?_
            refine PySem.W.callWith_K0 (first := [.ref a]) I1.kIn k3.kp ?_
            exact run_E (us := [.ref a]) (vs := [.ref a]) (c.fe FE hk) c.o.K c.r c.o.g c.t I1 (.cons rfl .nil) w (.d (.obj hc e1 e2 rf) .nil) h
  · exact h.elim
end
end PL

end
-- text PL36
section
set_option linter.all false
set_option maxRecDepth 100000
set_option maxHeartbeats 4000000
namespace PL
open PySem PySem.Spec PyProof.Rows L2
/-! ### a new instance -/
structure MkOk (P : Program) (w : World) (K : PySem.W.Frag) (cl : Str → Option Addr) (mg : Str → Option Value) (base : Heap) (k : Nat) (c : Str) (t : Ent) : Prop where
  ex : ∃ C f, cl c = some C ∧ mg c = some (.ref C) ∧ Mk K C f ∧ FnE P w K cl mg base k f t
def makeF (c : Str) (t : Ent) (as : List Ar) : M O := fun ρ =>
  if as.length + 1 ≤ t.ps.length ∧ t.ps.length ≤ as.length + 1 + t.dfl.length ∧ ndB (slots as) = true then
    match objs ρ (as ++ (t.dfl.drop (as.length + 1 + t.dfl.length - t.ps.length)).map .d) with
    | none => .bad
    | some os => match t.F (.ob c [] [] :: os) with
      | .bad => .bad
      | .ok (.dat .non) (some o :: ρ') => match backs ρ as ρ' with
        | some ρ1 => .ok o ρ1
        | none => .bad
      | .ok _ _ => .bad
      | .ex x (some _ :: ρ') => match backs ρ as ρ' with
        | some ρ1 => .ex x ρ1
        | none => .bad
      | .ex _ _ => .bad
  else .bad
def mMake (c : Str) (t : Ent) (fa : M (List Ar)) : M O := fa.bnd (makeF c t)
theorem make_guards {A : Around} {C : Addr} {us : List Value} {kw : List (Str × Value)} : (A.under (.builtin "type.__call__" ⟨.ref C :: us, kw⟩)).guards = A.guards := by
  first | rfl | simp [Around.under, Code.weight, Code.isCreation, Code.isGuard, Code.isCaller, Code.frames, Code.isFrame, guardIds]
theorem Stp.newOb {Rc R1 : List Addr} {H1 S1 H' S' : Hp} {x dx : Addr} {o1 o2 : HO} (hx : H1 x = none) (hd : H1 dx = none) (t : Stp (x :: dx :: Rc) (upd (upd H1 dx o1) x o2) S1 R1 H' S') : Stp Rc H1 S1 R1 H' S' where
  s := t.s
  n := fun b h1 h2 => by
    have ex : b ≠ x := fun z => h1 (by rw [z]; exact hx)
    have ed : b ≠ dx := fun z => h1 (by rw [z]; exact hd)
    rcases t.n b (by rw [upd_ne ex, upd_ne ed]; exact h1) h2 with z | z
    · exact .inl z
    · rcases List.mem_cons.mp z with y | y
      · exact absurd y ex
      · rcases List.mem_cons.mp y with y | y
        · exact absurd y ed
        · exact .inr y
  k := fun b o e hb => by
    have ex : b ≠ x := fun z => by rw [z, hx] at e; cases e
    have ed : b ≠ dx := fun z => by rw [z, hd] at e; cases e
    refine t.k b o (by rw [upd_ne ex, upd_ne ed]; exact e) fun z => ?_
    rcases List.mem_cons.mp z with y | y
    · exact ex y
    · rcases List.mem_cons.mp y with y | y
      · exact ed y
      · exact hb y
  r := fun b hb => by
    have un : ∀ {b}, upd (upd H1 dx o1) x o2 b = none → H1 b = none := fun {b} q => by
      by_cases ex : b = x
      · rw [ex, upd_same] at q; cases q
      · rw [upd_ne ex] at q
        by_cases ed : b = dx
        · rw [ed, upd_same] at q; cases q
        · rw [upd_ne ed] at q; exact q
    rcases t.r b hb with z | z
    · rcases List.mem_cons.mp z with y | y
      · exact .inr (by rw [y]; exact hx)
      · rcases List.mem_cons.mp y with y | y
        · exact .inr (by rw [y]; exact hd)
        · exact .inl y
    · exact .inr (un z)
  t := fun b h => by
    have q := t.t b h
    by_cases ex : b = x
    · rw [ex, upd_same] at q; cases q
    · rw [upd_ne ex] at q
      by_cases ed : b = dx
      · rw [ed, upd_same] at q; cases q
      · rw [upd_ne ed] at q; exact q
section
variable {X : Cx} {p : Pm} {W : WX} {d : Df}
theorem run_mk {k : Nat} {t : Ent} {c : Str} {C f : Addr} {pins : List (Addr × Obj)} {σ : L2.St} {H1 S1 : Hp} {R1 : List Addr} {ρ1 : Rho} {s1 : Shared} {Q : VK} {us : List Value} {vs : List V} {as : List Ar} (M : Mk X.K C f) (hc : p.cl c = some C) (ok : FnE X.prog X.w p.K p.cl X.mg X.base k f t) (hK : X.K = p.K) (hr : Room (k + 1) X.A) (hgd : X.A.guards = some []) (tk : Takes X W)
    (I1 : L2.Inv X pins σ H1 s1) (rv : Vals vs us) (w1 : Wd p S1 H1 σ ρ1 R1) (ra : RepA p.K p.cl S1 σ vs as) (h1 : PoO p W σ S1 H1 R1 Q (makeF c t as ρ1)) : wpAny (model X.prog X.w) X.A (call (.ref C) us) (EP X pins σ Q) X.xe s1 := by
  obtain ⟨fd, dvs, ds, hkp, F, rd, rdd, hbind⟩ := ok.ex
  unfold makeF at h1
  split at h1
  · rename_i hlen
    obtain ⟨l1, l2, l3⟩ := hlen
    split at h1
    · exact h1.elim
    · rename_i os ho
      have eds : ds.length = t.dfl.length := by rw [← rd.length]; exact (rdd S1).length
      have evs : us.length = as.length := by rw [← rv.length]; exact ra.length
      obtain ⟨n, en⟩ : ∃ n, n = as.length + 1 + t.dfl.length - t.ps.length := ⟨_, rfl⟩
      rw [← en] at ho
      have rdrop : ∀ {a : List V} {b : List D} (m : Nat), Reps p.K p.cl S1 a b → Reps p.K p.cl S1 (a.drop m) (b.drop m) := by
        intro a b m hh
        induction m generalizing a b with
        | zero => exact hh
        | succ m ih =>
          cases hh with
          | nil => exact .nil
          | cons _ hh => exact ih hh
      have ra2 : RepA p.K p.cl S1 σ (vs ++ dvs.drop n) (as ++ (t.dfl.drop n).map .d) := ra.app (rdrop n (rdd S1))
      have rv2 : Vals (vs ++ dvs.drop n) (us ++ ds.drop n) := rv.append (rd.drop n)
      have l4 : ndB (slots (as ++ (t.dfl.drop n).map .d)) = true := by rw [slots_app]; exact l3
      obtain ⟨Rc, c1, c2, c3, back⟩ := w1.call ra2 l4 ho
      have olen : os.length + 1 = t.ps.length := by
        rw [objs_len ho, List.length_append, List.length_map, List.length_drop]
        omega
      have hx : H1 (s1.heap.objs.size + 1) = none := I1.hok.fresh (Nat.le_succ _)
      have hd : H1 s1.heap.objs.size = none := I1.hok.fresh (Nat.le_refl _)
      have ne : s1.heap.objs.size ≠ s1.heap.objs.size + 1 := Nat.ne_of_lt (Nat.lt_succ_self _)
      have I2 := Inv.made (C := C) I1
      generalize hxx : s1.heap.objs.size + 1 = x at *
      generalize hdd : s1.heap.objs.size = dx at *
      have hb := hbind { s1 with heap := (s1.heap.push PySem.W.emptyDict).push (PySem.W.instObj C dx) } (.ref x :: us) (by rw [← hK]; exact I2.kIn) (by simp; omega) (by simp; omega)
      have en2 : (Value.ref x :: us).length + ds.length - t.ps.length = n := by simp; omega
      rw [en2] at hb
      have vlen : (V.ref x :: (vs ++ dvs.drop n)).length = t.ps.length := by
        rw [List.length_cons, c1.length]; exact olen
      have bk : ∀ {ρ' ρ2 : Rho} {S' H' : Hp} {R' : List Addr}, Bk p.K p.cl S' H' (vs ++ dvs.drop n) os ρ' R' → backs ρ1 as ρ' = some ρ2 → backs ρ1 (as ++ (t.dfl.drop n).map .d) ρ' = some ρ2 := fun {ρ' ρ2 S' H' R'} b z => by
        rw [backs_app _ _ (by
          have := b.len
          have := objs_len ho
          simp only [List.length_append, List.length_map] at this
          omega)]
        exact z
      have F2 : FnG X.prog X.w X.K X.mg X.base k f fd t.ps (spF p.K p.cl t.ps.length t.F) := by rw [hK]; exact F
      have r2 : Vals (V.ref x :: (vs ++ dvs.drop n)) (Value.ref x :: (us ++ ds.drop n)) := .cons rfl rv2
      have le2 : Le S1 (upd (upd H1 dx (.own x)) x (.ins C dx [])) := fun b u q => by
        have q1 := w1.le b u q
        rw [upd_ne (fun z => by rw [z, hx] at q1; cases q1), upd_ne (fun z => by rw [z, hd] at q1; cases q1)]
        exact q1
      have th := c1.there
      have up1 : Ows p.K p.cl S1 (upd (upd H1 dx (.own x)) x (.ins C dx [])) (vs ++ dvs.drop n) os Rc := c1.up (Le.refl _) fun a ha u q => by
        rw [upd_ne (fun z => by rw [z, hx] at q; cases q), upd_ne (fun z => by rw [z, hd] at q; cases q)]
        exact q
      have self : Ow p.K p.cl S1 (upd (upd H1 dx (.own x)) x (.ins C dx [])) (.ref x) (.ob c [] []) [x, dx] := .ob (ns := []) (vs := []) hc upd_same (by rw [upd_ne ne, upd_same]) rfl .nil
      have sx : S1 x = none := by
        cases q : S1 x with
        | none => rfl
        | some o => rw [w1.le _ _ q] at hx; cases hx
      have sd : S1 dx = none := by
        cases q : S1 dx with
        | none => rfl
        | some o => rw [w1.le _ _ q] at hd; cases hd
      have hsp : spF p.K p.cl t.ps.length t.F (V.ref x :: (vs ++ dvs.drop n)) (upd (upd H1 dx (.own x)) x (.ins C dx [])) (fun v H2 => v = .non ∧ Q (.ref x) H2) (WE W σ) := by
        refine ⟨vlen, S1, x :: dx :: Rc, .ob c [] [] :: os, le2, Ows.cons self up1, ?_, ?_, ?_⟩
        · refine List.nodup_cons.mpr ⟨fun z => ?_, List.nodup_cons.mpr ⟨fun z => th _ z hd, c2⟩⟩
          rcases List.mem_cons.mp z with y | y
          · exact ne y.symm
          · exact th _ y hx
        · intro a ha
          rcases List.mem_cons.mp ha with y | y
          · rw [y]; exact sx
          · rcases List.mem_cons.mp y with y | y
            · rw [y]; exact sd
            · exact c3 a y
        · revert h1
          cases eF : t.F (.ob c [] [] :: os) with
          | bad => exact fun h1 => h1
          | ok o ρ' =>
            intro h1 S' H' R' v Rv l tt b ow nd ap
            have tt' := Stp.newOb hx hd tt
            cases b with
            | own z ow1 b1 =>
              rename_i o1 ρ2 Rx R2
              cases ow with
              | own => exact h1.elim
              | ob => exact h1.elim
              | dat r =>
                rename_i dd
                cases r with
                | non =>
                  dsimp only at h1
                  split at h1
                  · rename_i ρ3 e3
                    have nd' : (R2 ++ Rx).Nodup := by
                      have h5 : ((Rx ++ R2) : List Addr).Nodup := by simpa using nd
                      exact (List.perm_append_comm).nodup_iff.mpr h5
                    have ap' : ∀ a ∈ R2 ++ Rx, S' a = none := fun a ha => ap a (by
                      rcases List.mem_append.mp ha with y | y <;> simp [y])
                    have tt2 : Stp Rc H1 S1 (R2 ++ Rx) H' S' := tt'.less fun a ha => by
                      rcases List.mem_append.mp ha with y | y <;> simp [y]
                    obtain ⟨R4, w4, nd4, t4⟩ := back S' H' ρ2 R2 ρ3 Rx l tt2 b1 nd' ap' (bk b1 e3)
                    exact ⟨rfl, h1 S' H' R4 (.ref x) Rx t4 w4 ow1 nd4 fun a ha => ap a (by simp [ha])⟩
                  · exact h1.elim
                | _ => exact h1.elim
          | ex xx ρ' =>
            intro h1 S' H' R' C' dd l tt b nd ap xr
            have tt' := Stp.newOb hx hd tt
            cases b with
            | own z ow1 b1 =>
              rename_i o1 ρ2 Rx R2
              dsimp only at h1
              split at h1
              · rename_i ρ3 e3
                have nd' : (R2 ++ []).Nodup := by
                  simpa using (List.nodup_append.mp nd).2.1
                have ap' : ∀ a ∈ R2 ++ [], S' a = none := fun a ha => ap a (List.mem_append_right _ (by simpa using ha))
                have tt2 : Stp Rc H1 S1 (R2 ++ []) H' S' := tt'.less fun a ha => List.mem_append_right _ (by simpa using ha)
                obtain ⟨R4, w4, nd4, t4⟩ := back S' H' ρ2 R2 ρ3 [] l tt2 b1 nd' ap' (bk b1 e3)
                exact h1 S' H' R4 C' dd (by simpa using t4) w4 xr
              · exact h1.elim
      refine wpAny_call (make_map (f := f) I1.kIn M.makes M.init (beq_iff_eq.mp M.fn) ?_)
      rw [hdd, hxx]
      refine codeAny_mono (F2.run _ X.stack _ _ ⟨Value.ref x :: us, []⟩ (Value.ref x :: (us ++ ds.drop n)) _ _ (WE W σ) (hr.make C us []) (by rw [make_guards]; exact hgd)
        (I2.env0.make C us []) hb r2 hsp) fun r s' hq' => ?_
      match r, hq' with
      | .error e, hq' => exact passAt tk σ pins _ _ e s' I2 hq'
      | .ok (.ret u), hq' =>
        obtain ⟨v, H', I3, rv3, ev, q3⟩ := I2.after hq'
        subst ev
        exact ⟨rv3, ⟨V.ref x, H', I3, rfl, q3⟩⟩
  · exact h1.elim
theorem Cn.make (c : Cn X p W d) {k : Nat} {t : Ent} {x : Str} {e : Expr} {es : List Expr} {fa : M (List Ar)} {q pos : Pos} (ok : MkOk p.P p.w p.K p.cl p.mg p.base k x t) (hk : k + 1 ≤ d.k) (j : Nat) (hj : d.gl[j]? = some x) (ha : PA X (e :: es) (tDX p W fa))
    (he : starEach (e :: es) X.env = (false, eval e X.env) :: starEach es X.env := by rfl) (hpl : (backTo pos (starEach es X.env)).any (·.1) = false := by rfl) : PE X (.Call (.Name x q) (e :: es) [] pos) (tDO p W (mMake x t fa)) := by
  refine ⟨fun pins s σ H Q I ⟨ρ, S, R, w, h⟩ => ?_⟩
  obtain ⟨C, f, hc, hm, M, FE⟩ := ok.ex
  rw [← c.o.K] at M
  rw [← c.eM] at hm
  have FE2 : FnE X.prog X.w p.K p.cl X.mg X.base k f t := by rw [c.eP, c.eW, c.eM, c.eB]; exact FE
  refine wpAny_Call_Name_kw (ld_glob I (c.gl hj).1 hm ?_ (c.gl hj).2.1)
  refine PySem.W.callWith_K (h₀ := X.base) I.ok.mod.kin M.kp (thn (ha.run pos pins s σ H _ I ⟨ρ, S, R, w, isO.bX h⟩) fun us s1 ⟨vs, H1, I1, rv, as, ρ1, S1, R1, ra, t1, w1, h1⟩ => ⟨I1.kIn, ?_⟩) he hpl
  exact run_mk M hc FE2 c.o.K (c.r.mono hk) c.o.g c.t I1 rv w1 ra h1
theorem Cn.make0 (c : Cn X p W d) {k : Nat} {t : Ent} {x : Str} {q pos : Pos} (ok : MkOk p.P p.w p.K p.cl p.mg p.base k x t) (hk : k + 1 ≤ d.k) (j : Nat) (hj : d.gl[j]? = some x) : PE X (.Call (.Name x q) [] [] pos) (tDO p W (mMake x t xNil)) := by
  refine ⟨fun pins s σ H Q I ⟨ρ, S, R, w, h⟩ => ?_⟩
  obtain ⟨C, f, hc, hm, M, FE⟩ := ok.ex
  rw [← c.o.K] at M
  rw [← c.eM] at hm
  have FE2 : FnE X.prog X.w p.K p.cl X.mg X.base k f t := by rw [c.eP, c.eW, c.eM, c.eB]; exact FE
  refine wpAny_Call_Name_kw (ld_glob I (c.gl hj).1 hm ?_ (c.gl hj).2.1)
  refine PySem.W.callWith_K0 I.kIn M.kp ?_
  exact run_mk (us := []) M hc FE2 c.o.K (c.r.mono hk) c.o.g c.t I .nil w .nil h
end
end PL

end
-- text PL37
section
set_option linter.all false
set_option maxRecDepth 100000
set_option maxHeartbeats 4000000
namespace PL
open PySem PySem.Spec PyProof.Rows L2
/-! ### properties -/
structure PrOk (P : Program) (w : World) (K : PySem.W.Frag) (cl : Str → Option Addr) (mg : Str → Option Value) (base : Heap) (k : Nat) (c f : Str) (t : Ent) : Prop where
  ex : ∃ C pa g, cl c = some C ∧ Cls K C ∧ PropOf K C f pa g ∧ FnE P w K cl mg base k g t
def PrsOk (P : Program) (w : World) (K : PySem.W.Frag) (cl : Str → Option Addr) (mg : Str → Option Value) (base : Heap) (k : Nat) (f : Str) (mt : MT) : Prop := ∀ c t, mt.lookup c = some t → PrOk P w K cl mg base k c f t
theorem PrOk.mono {P : Program} {w : World} {K : PySem.W.Frag} {cl : Str → Option Addr} {mg : Str → Option Value} {base : Heap} {j k : Nat} {c f : Str} {t : Ent} (h : PrOk P w K cl mg base j c f t) (l : j ≤ k) : PrOk P w K cl mg base k c f t := by
  obtain ⟨C, pa, g, a, b, d, e⟩ := h.ex
  exact ⟨C, pa, g, a, b, d, e.mono l⟩
theorem prs_nil {P : Program} {w : World} {K : PySem.W.Frag} {cl : Str → Option Addr} {mg : Str → Option Value} {base : Heap} {k : Nat} {m : Str} : PrsOk P w K cl mg base k m [] := fun c t h => by cases h
theorem prs_cons {P : Program} {w : World} {K : PySem.W.Frag} {cl : Str → Option Addr} {mg : Str → Option Value} {base : Heap} {k : Nat} {m c : Str} {t : Ent} {mt : MT} (h : PrOk P w K cl mg base k c m t) (r : PrsOk P w K cl mg base k m mt) : PrsOk P w K cl mg base k m ((c, t) :: mt) := fun c' t' e => by
  rw [List.lookup_cons] at e
  split at e
  · rename_i hc
    have : c' = c := by simpa using hc
    cases e
    rw [this]; exact h
  · exact r c' t' e
/-- a call on one thing, that raises nothing -/
def callP (t : Ent) (x : D) : M O := fun ρ => if t.ps.length = 1 then match t.F [.dat x] with
  | .ok o (_ :: _) => .ok o ρ
  | _ => .bad
  else .bad
def propX (mt : MT) : D → M O
  | .obj c fs => match mt.lookup c with
    | some t => callP t (.obj c fs)
    | none => M.bad
  | _ => M.bad
def mProp (mt : MT) (fo : M D) : M O := fo.bnd (propX mt)
theorem propX_at {mt : MT} {p : Pm} {W : WX} {σ : L2.St} {S H : Hp} {R : List Addr} {Q : VK} {ρ : Rho} {x : D} (h : PoO p W σ S H R Q (propX mt x ρ)) :
    ∃ c fs t o y r, x = .obj c fs ∧ mt.lookup c = some t ∧ t.ps.length = 1 ∧ t.F [.dat (.obj c fs)] = .ok o (y :: r) ∧ PoO p W σ S H R Q (.ok o ρ) := by
  cases x with
  | obj c fs =>
    unfold propX at h
    cases e : mt.lookup c with
    | none => simp only [e] at h; exact h.elim
    | some t =>
      simp only [e] at h
      unfold callP at h
      split at h
      · rename_i hl
        cases eF : t.F [.dat (.obj c fs)] with
        | bad => rw [eF] at h; exact h.elim
        | ex => rw [eF] at h; exact h.elim
        | ok o r =>
          rw [eF] at h
          cases r with
          | nil => exact h.elim
          | cons y r => exact ⟨c, fs, t, o, y, r, rfl, e, hl, eF, h⟩
      · exact h.elim
  | _ => exact h.elim
section
variable {X : Cx} {p : Pm} {W : WX} {d : Df}
theorem Cn.prop (c : Cn X p W d) {k : Nat} {mt : MT} {f : Str} {e : Expr} {fo : M D} {pos : Pos} (ok : PrsOk p.P p.w p.K p.cl p.mg p.base k f mt) (hk : k + 1 ≤ d.k) (he : PE X e (tD p W fo)) (hab : attributeBase e f X.env (eval e X.env) = eval e X.env := by rfl) :
    PE X (.Attribute e f pos) (tDO p W (mProp mt fo)) := by
  refine ⟨fun pins s σ H Q I ⟨ρ, S, R, w, h⟩ => ?_⟩
  refine attr_of hab (thn (he.run pins s σ H _ I ⟨ρ, S, R, w, isO.bE h⟩) fun u s1 ⟨v, H1, I1, rv, x, ρ1, S1, R1, r1, t1, w1, h1⟩ => ?_)
  obtain ⟨cc, fs, t, o, y, r, rfl, et, hl, eF, h1⟩ := propX_at h1
  cases r1 with
  | obj hc e1 e2 rf =>
    rename_i a dx C vfs
    obtain ⟨C', pa, g, k1, k2, hp, FE⟩ := (ok cc t et).ex
    rw [hc] at k1
    cases k1
    obtain rfl : u = Value.ref a := rv
    have FX : FnE X.prog X.w p.K p.cl X.mg X.base k g t := by rw [c.eP, c.eW, c.eM, c.eB]; exact FE
    obtain ⟨fd, dvs, ds, hkp, F, rd, rdd, hbind⟩ := FX.ex
    rw [← c.o.K] at k2 hp
    have F2 : FnG X.prog X.w X.K X.mg X.base k g fd t.ps (spF p.K p.cl t.ps.length t.F) := by rw [c.o.K]; exact F
    have hr : Room (k + 1) X.A := c.r.mono hk
    have ea := w1.le _ _ e1
    obtain ⟨mA, O, _, _, _, _⟩ := ins_get I1.hok ea
    obtain ⟨od, J, _⟩ := O.look
    obtain ⟨rest, hrec⟩ := hp.rec_
    have I2 := I1.tok (s1.toks + 1)
    have hcl : (PySem.W.clsIn X.K C).isSome = true := by
      obtain ⟨cd, hc, _⟩ := PySem.W.any_some k2.hd
      rw [hc]
      rfl
    have rx : Rep p.K p.cl S1 (.ref a) (.obj cc fs) := .obj hc e1 e2 rf
    have ra : RepA p.K p.cl S1 σ [.ref a] [.d (.obj cc fs)] := .d rx .nil
    obtain ⟨Rc, c1, c2, c3, back⟩ := w1.call ra rfl rfl
    have hb := hbind { s1 with toks := s1.toks + 1 } [.ref a] (by rw [← c.o.K]; exact I2.kIn) (by rw [hl]; exact Nat.le_refl _) (by rw [hl]; exact Nat.le_add_right _ _)
    have eds : ds.drop ([Value.ref a].length + ds.length - t.ps.length) = [] := by
      rw [hl]
      apply List.drop_of_length_le
      simp
    rw [eds] at hb
    have hsp : spF p.K p.cl t.ps.length t.F [.ref a] H1 Q (fun _ _ _ => False) := by
      refine ⟨by rw [hl]; rfl, S1, Rc, [.dat (.obj cc fs)], w1.le, c1, c2, c3, ?_⟩
      rw [eF]
      intro S' H' R' v Rv l tt b ow nd ap
      obtain ⟨R4, w4, nd4, t4⟩ := back S' H' (y :: r) R' ρ1 Rv l tt b nd ap (by simp [backs])
      exact h1 S' H' R4 v Rv t4 w4 ow nd4 fun a ha => ap a (List.mem_append_right _ ha)
    refine PySem.W.get_bind I1.kIn J (PySem.W.plainGet_of (k2.get f)).1 (PySem.W.findObj_data hcl hp.at_ hp.get hp.tak) (PySem.W.plainGet_of (k2.get f)).2 (wpAny_call (PySem.W.prop_get (s := { s1 with toks := s1.toks + 1 }) I1.kIn hrec ?_))
    refine codeAny_mono (F2.run X.A.in1 X.stack { s1 with toks := s1.toks + 1 } H1 ⟨[Value.ref a], []⟩ ([Value.ref a] ++ []) [.ref a] Q (fun _ _ _ => False) hr.in1 c.o.g I2.env0.in1 hb (.cons (show RelV (.ref a) (Value.ref a) from rfl) .nil) hsp) fun rr s' hq => ?_
    match rr, hq with
    | .error er, hq =>
      obtain ⟨_, _, _, _, _, _, _, _, _, _, _, _, z⟩ := hq
      exact z.elim
    | .ok (.ret u), hq =>
      obtain ⟨v, H', I3, rv, q3⟩ := I2.after hq
      show wpAny _ _ (handedOut u) _ _ _
      rw [PySem.W.handedOut_of (handed_of rv)]
      exact wpAny_pure ⟨v, H', I3, rv, q3⟩
end
/-! ### a field of the object in a slot -/
def mOwnFld (kt : KT) (i : Nat) (f : Str) : M D := fun ρ => match ρ[i]? with
  | some (some (.dat x)) => lift (fldD kt f x) ρ
  | some (some (.ob c ns xs)) => if hasF kt c f then (match (ns.zip xs).lookup f with
    | some (.dat x) => .ok x ρ
    | _ => .bad) else .bad
  | _ => .bad
theorem Ows.look {K : PySem.W.Frag} {cl : Str → Option Addr} {S H : Hp} {f : Str} {x : D} : ∀ {ns : List Str} {vs : List V} {xs : List O} {R : List Addr}, Ows K cl S H vs xs R → (ns.zip xs).lookup f = some (.dat x) → ∃ v, (ns.zip vs).lookup f = some v ∧ Rep K cl S v x
  | [], _, _, _, _, h => by cases h
  | _ :: _, _, _, _, .nil, h => by cases h
  | n :: ns, _, _, _, @Ows.cons _ _ _ _ v o vs os R R' a b, h => by
    have h' : List.lookup f ((n, o) :: ns.zip os) = some (.dat x) := h
    show ∃ u, List.lookup f ((n, v) :: ns.zip vs) = some u ∧ _
    rw [List.lookup_cons] at h' ⊢
    by_cases hn : (f == n) = true
    · rw [hn] at h' ⊢
      cases h'
      cases a with
      | dat r => exact ⟨v, rfl, r⟩
    · have hf : (f == n) = false := by simpa using hn
      rw [hf] at h' ⊢
      exact Ows.look b h'
section
variable {X : Cx} {p : Pm} {W : WX} {d : Df}
theorem Cn.ownFld (c : Cn X p W d) {kt : KT} (kl : KlOk p.K p.cl kt) {x f : Str} {p1 pos : Pos} (i : Nat) (h : d.N[i]? = some x) (hu : d.us.contains i = true := by rfl) (hb : attributeBase (.Name x p1) f X.env (eval (.Name x p1) X.env) = eval (.Name x p1) X.env := by rfl) :
    PE X (.Attribute (.Name x p1) f pos) (tD p W (mOwnFld kt i f)) :=
  PE.imp (pe_fld (pe_var (c.nx h) (c.vis h hu) (c.nameK h hu).1 (c.nameK h hu).2) hb) fun σ H Q ⟨ρ, S, R, w, h⟩ => by
    unfold mOwnFld at h
    split at h
    · rename_i x0 e0
      obtain ⟨v, hv, rv⟩ := w.get e0
      refine ⟨v, hv, ?_⟩
      cases rv with
      | obj hc e1 e2 rf =>
        rename_i a dx C cc vfs fs
        replace h : PoE p W σ S H R Q (lift (if hasF kt cc f then fs.lookup f else none) ρ) := h
        split at h
        · rename_i hf
          obtain ⟨k1, k2⟩ := hasF_ok kl hf hc
          cases el : fs.lookup f with
          | none => rw [el] at h; exact h.elim
          | some y =>
            rw [el] at h
            obtain ⟨u, hu, ru⟩ := rf.look el
            exact ⟨a, C, dx, vfs, u, rfl, w.le _ _ e1, by rw [c.o.K]; exact k1, by rw [c.o.K]; exact k2, hu, h S H R u Stp.refl w ru⟩
        · exact h.elim
      | _ => exact h.elim
    · rename_i cc ns xs e0
      split at h
      · rename_i hf
        split at h
        · rename_i y el
          obtain ⟨v, Ri, R0, hv, ho, hp, hs⟩ := w.sl.out e0
          cases ho with
          | ob hc e1 e2 hl rs =>
            rename_i a dx C vs Rf
            obtain ⟨k1, k2⟩ := hasF_ok kl hf hc
            obtain ⟨u, hu, ru⟩ := rs.look el
            exact ⟨_, hv, a, C, dx, _, u, rfl, e1, by rw [c.o.K]; exact k1, by rw [c.o.K]; exact k2, hu, h S H R u Stp.refl w ru⟩
        · exact h.elim
      · exact h.elim
    · exact h.elim
end
/-! ### operators of the program's own classes -/
structure OpOk (P : Program) (w : World) (K : PySem.W.Frag) (cl : Str → Option Addr) (mg : Str → Option Value) (base : Heap) (k : Nat) (op : Operator) (c : Str) (t : Ent) : Prop where
  ex : ∃ C f, cl c = some C ∧ PySem.W.selfFirst K C = true ∧ Meth K C (PySem.dunder op.info.2) f ∧ FnE P w K cl mg base k f t
def OpsOk (P : Program) (w : World) (K : PySem.W.Frag) (cl : Str → Option Addr) (mg : Str → Option Value) (base : Heap) (k : Nat) (op : Operator) (mt : MT) : Prop := ∀ c t, mt.lookup c = some t → OpOk P w K cl mg base k op c t
theorem ops_nil {P : Program} {w : World} {K : PySem.W.Frag} {cl : Str → Option Addr} {mg : Str → Option Value} {base : Heap} {k : Nat} {m : Operator} : OpsOk P w K cl mg base k m [] := fun c t h => by cases h
theorem ops_cons {P : Program} {w : World} {K : PySem.W.Frag} {cl : Str → Option Addr} {mg : Str → Option Value} {base : Heap} {k : Nat} {m : Operator} {c : Str} {t : Ent} {mt : MT} (h : OpOk P w K cl mg base k m c t) (r : OpsOk P w K cl mg base k m mt) : OpsOk P w K cl mg base k m ((c, t) :: mt) := fun c' t' e => by
  rw [List.lookup_cons] at e
  split at e
  · rename_i hc
    have : c' = c := by simpa using hc
    cases e
    rw [this]; exact h
  · exact r c' t' e
def isOb : D → Bool
  | .obj _ _ => true
  | _ => false
def ownX (mt : MT) (x y : D) : M O := match x, y with
  | .obj c fs, .obj c' fs' => if c = c' then (match mt.lookup c with
    | some t => callF t [.d (.obj c fs), .d (.obj c' fs')]
    | none => M.bad) else M.bad
  | _, _ => M.bad
def binX (mt : MT) (op : Operator) (x y : D) : M O := if isOb x && isOb y then ownX mt x y else (lift (binD op x y)).bnd fun z => M.ret (.dat z)
theorem isOb_of {x : D} (h : isOb x = true) : ∃ c fs, x = .obj c fs := by
  cases x with
  | obj c fs => exact ⟨c, fs, rfl⟩
  | _ => cases h
def mBinO (mt : MT) (op : Operator) (fa fb : M D) : M O := fa.bnd fun x => fb.bnd fun y => binX mt op x y
theorem rel_back {Q : Value → Shared → Prop} {v : V} {u : Value} {s' : Shared} (r : RelV v u) (h : Q u s') : PySem.W.CmpBack Q u s' := by
  cases v with
  | non => cases (show u = Value.none from r); exact h
  | bl b => cases (show u = Value.bool b from r); exact h
  | int i => obtain ⟨t, e⟩ := (show ∃ t, u = Value.int i t from r); cases e; exact h
  | str x => obtain ⟨t, e⟩ := (show ∃ t, u = Value.str x t from r); cases e; exact h
  | byt b => obtain ⟨t, e⟩ := (show ∃ t, u = Value.bytes b t from r); cases e; exact h
  | flt b => obtain ⟨t, e⟩ := (show ∃ t, u = Value.float b t from r); cases e; exact h
  | ref a => cases (show u = Value.ref a from r); exact h
  | ty n => cases (show u = Value.type n from r); exact h
section
variable {X : Cx} {p : Pm} {W : WX} {d : Df}
theorem Cn.binO (c : Cn X p W d) {k : Nat} {mt : MT} {op : Operator} {a b : Expr} {fa fb : M D} {pos : Pos} (ok : OpsOk p.P p.w p.K p.cl p.mg p.base k op mt) (hk : k ≤ d.k) (ha : PE X a (tD p W fa)) (hb : PE X b (tD p W fb)) :
    PE X (.BinOp a op b pos) (tDO p W (mBinO mt op fa fb)) := by
  refine ⟨fun pins s σ H Q I ⟨ρ, S, R, w, h⟩ => ?_⟩
  refine wpAny_BinOp (thn (ha.run pins s σ H _ I ⟨ρ, S, R, w, isO.bE h⟩) fun v s1 ⟨x, H1, I1, rx, dx, ρ1, S1, R1, r1, t1, w1, h1⟩ => thn (hb.run pins s1 σ H1 _ I1 ⟨ρ1, S1, R1, w1, isO.bE h1⟩) fun u s2 ⟨y, H2, I2, ry, dy, ρ2, S2, R2, r2, t2, w2, h2⟩ => ?_)
  have r1' := r1.up t2.s
  unfold binX at h2
  split at h2
  · rename_i hob
    rw [Bool.and_eq_true] at hob
    obtain ⟨cc, fs, rfl⟩ := isOb_of hob.1
    obtain ⟨c2, fs2, rfl⟩ := isOb_of hob.2
    unfold ownX at h2
    dsimp only at h2
    split at h2
    · rename_i ec
      subst ec
      cases et : mt.lookup cc with
      | none => rw [et] at h2; exact h2.elim
      | some t =>
        rw [et] at h2
        dsimp only at h2
        obtain ⟨C, f, k1, k2, k3, FE⟩ := (ok cc t et).ex
        rw [← c.o.K] at k2 k3
        cases r1' with
        | obj hc e1 e2 rf =>
          rename_i a1 dx1 C1 vfs1
          cases r2 with
          | obj hc' e1' e2' rf' =>
            rename_i a2 dx2 C2 vfs2
            have eC1 : C1 = C := Option.some.inj (hc.symm.trans k1)
            have eC2 : C2 = C := Option.some.inj (hc'.symm.trans k1)
            subst eC1 eC2
            obtain rfl : v = Value.ref a1 := rx
            obtain rfl : u = Value.ref a2 := ry
            obtain ⟨mA, O1, _, _, _, _⟩ := ins_get I2.hok (w2.le _ _ e1)
            obtain ⟨od, J1, _⟩ := O1.look
            obtain ⟨mB, O2, _, _, _, _⟩ := ins_get I2.hok (w2.le _ _ e1')
            obtain ⟨od2, J2, _⟩ := O2.look
            obtain ⟨m, F⟩ := I2.fr
            refine PySem.W.binop_K F I.ok.mod.kin J1 J2.type k2 k3.at_ k3.fn ?_
            refine wpAny_mono (run_E (us := [.ref a1, .ref a2]) (vs := [.ref a1, .ref a2]) (c.fe FE hk) c.o.K c.r c.o.g c.t I2 (.cons rfl (.cons rfl .nil)) w2 (.d (.obj hc e1 e2 rf) (.d (.obj hc' e1' e2' rf') .nil)) h2) (fun z s' hz => ?_) fun _ _ z => z
            obtain ⟨vv, H', I', rv, q⟩ := hz
            exact rel_back rv ⟨vv, H', I', rv, q⟩
    · exact h2.elim
  · exact op_binD c.o op pins s2 σ H2 x y v u Q I2 rx ry ⟨S2, dx, dy, w2.le, r1', r2, OutD.of w2 (PoO.of_dat h2)⟩
end
end PL

end
-- text PL38
section
set_option linter.all false
set_option maxRecDepth 100000
set_option maxHeartbeats 4000000
namespace PL
open PySem PySem.Spec PyProof.Rows L2
/-! ### raise X() -/
section
variable {X : Cx}
theorem mk_endN {pins : List (Addr × Obj)} {σ : L2.St} {H1 H2 : Hp} {Q : XK} {hp hp2 h2 : Heap} {g1 g2 : Array GenState} {d1 d2 : Drawn} {t1 t2 : Nat} {os1 os2 : OsState} {a C : Addr} (T : Raises X (.ref C)) (I1 : L2.Inv X pins σ H1 ⟨hp, g1, d1, t1, os1⟩)
    (ha : hp.objs.size ≤ a) (k : ∀ b o, hp.get? b = some o → hp2.get? b = some o) (un : Un (frs X.stack) [] (upd H1 a (exo a C none)) H2 hp2 h2) (hok : L2.HOk X.prog X.w H2 h2) (ho : os2 = os1) (hb : AllBare g2)
    (ea : H2 a = some (exo a C none)) (q : Q (.ref C) none (del H2 a)) : MkP X pins σ Q (.ref a) ⟨h2, g2, d2, t2, os2⟩ := by
  obtain ⟨t0, hoe⟩ := exo_at hok ea
  have hn : H1 a = none := I1.hok.fresh ha
  obtain ⟨G, g1', g2'⟩ := restrict h2 fun b => decide (b ≠ a)
  have gk : ∀ b, b ≠ a → G.get? b = h2.get? b := fun b hb => g1' b (decide_eq_true hb)
  have ge : G.get? a = none := g2' a (by simp)
  have nha : ∀ {b : Addr} {o : Obj}, hp.get? b = some o → b ≠ a := fun {b o} z => Nat.ne_of_lt (Nat.lt_of_lt_of_le (Heap.lt_size z) ha)
  have up : ∀ {b : Addr}, b ≠ a → H1 b = none → upd H1 a (exo a C none) b = none := fun {b} hb n => by rw [upd_ne hb]; exact n
  have U : Un (frs X.stack) [] H1 (del H2 a) hp G := {
    keep := fun b o z n hf hx => by
      rw [gk b (nha z)]
      exact un.keep b o (k b o z) (up (nha z) n) hf hx
    slot := fun b o z n hf hx => by
      rw [gk b (nha z)]
      exact un.slot b o (k b o z) (up (nha z) n) hf hx
    free := fun b o z n hx => by
      rw [del_ne (nha z)]
      exact un.free b o (k b o z) (up (nha z) n) hx
    there := fun b o z hx => by
      rw [gk b (nha z)]
      exact un.there b o (k b o z) hx
    tups := fun b xs z => by
      rw [del_ne (ne_of_none z hn)]
      exact un.tups b xs (by rw [upd_ne (ne_of_none z hn)]; exact z)
    frzs := fun b o v z => by
      rw [del_ne (ne_of_none z hn)]
      exact un.frzs b o v (by rw [upd_ne (ne_of_none z hn)]; exact z)
    tbls := fun b ps z => by
      rw [del_ne (ne_of_none z hn)]
      exact un.tbls b ps (by rw [upd_ne (ne_of_none z hn)]; exact z) }
  have hok3 : L2.HOk X.prog X.w (del H2 a) G := fun b o z => by
    have hba : b ≠ a := fun e => by
      rw [e, del_same] at z
      cases z
    rw [del_ne hba] at z
    have noa : ∀ {c : Addr}, H2 c = some (.own b) → c ≠ a := fun {c} hc => at_ne ea hc exo_own
    exact (hok b o z).stay (fun c v hc y => by
        have hca : c ≠ a := by
          rcases hc with hc | hc
          · rw [hc]
            exact hba
          · exact noa hc
        rw [gk c hca]
        exact y)
      (fun c hc => by rw [del_ne (noa hc)]; exact hc) (fun c xs hc => by rw [del_ne (at_ne ea hc exo_tup)]; exact hc)
  have J : L2.Inv X pins σ (del H2 a) ⟨G, g2, d2, t2, os2⟩ := I1.call' (ch := []) ho U hok3 hb (fun b z => absurd z (by simp))
  refine ⟨a, _, _, ⟨G, g2, d2, t2, os2⟩, _, .ref C, none, rfl, J, fun b o z => ?_, ge, hoe, ⟨rfl, rfl⟩, rfl, rfl, del_same, rfl, hb, T, q⟩
  by_cases hba : b = a
  · rw [hba, ge] at z
    cases z
  · exact (gk b hba).symm.trans z
/-- __init__ of an exception without fields -/
def spX0 (C : Addr) : Sp := fun vs H Q _ => ∃ a, vs = [.ref a] ∧ H a = some (exo a C none) ∧ Q .non H
structure Xm0 (P : Program) (w : World) (K : PySem.W.Frag) (cl : Str → Option Addr) (mg : Str → Option Value) (base : Heap) (k : Nat) (x : Str) : Prop where
  ex : ∃ (C fI : Addr) (fd : FuncData) (ps : List Str), cl x = some C ∧ isXc x = true ∧ OexC K C ∧ PySem.W.findIn K (.ref C) "__init__" = some (some (.ref fI)) ∧ PySem.W.typeIn K (.ref fI) = some (.type "function") ∧
    FnOk P w K mg base CX0 k fI fd ps (spX0 C) ∧ Binds K fd ps [] ∧ mg x = some (.ref C)
theorem pmk_oex0 {x : Str} {p pos : Pos} {C fI : Addr} {k : Nat} {fd : FuncData} {ps : List Str} (T : OexC X.K C) (iC : PySem.W.findIn X.K (.ref C) "__init__" = some (some (.ref fI))) (tI : PySem.W.typeIn X.K (.ref fI) = some (.type "function"))
    (F1 : FnOk X.prog X.w X.K X.mg X.base CX0 k fI fd ps (spX0 C)) (hr : Room (k + 1) X.A) (hb : Binds X.K fd ps []) (hg : Gl X x) (hm : X.mg x = some (.ref C)) (hdb : (x == ("__debug__" : Str)) = false) :
    PMk X (.Call (.Name x p) [] [] pos) (fun σ H Q => ∀ a, H a = none → Q (.ref C) none (del (upd H a (exo a C none)) a)) := by
  intro pins s σ H Q I h
  obtain ⟨nm, q, N, bs, bm, sn, sub, ab, col, dd, k0, k1, k2, k3, k5, hC, hbm⟩ := T.cls
  refine wpAny_Call_Name_kw (ld_glob I hg hm ?_ hdb)
  refine PySem.W.callWith_K0 I.kIn T.kC ?_
  show wpAny _ _ (call (.ref C) []) _ _ _
  obtain ⟨hp, g, dr, tk, os⟩ := s
  have hsz : hp.objs.size ≤ hp.objs.size + 1 := Nat.le_succ _
  have hn : H (hp.objs.size + 1) = none := I.hok.fresh hsz
  have hq := h (hp.objs.size + 1) hn
  have kk : ∀ b o, hp.get? b = some o → ((hp.push (PySem.W.kdv_tup [])).push (PySem.HandSPX.excO C hp.objs.size)).get? b = some o := fun b o e => Heap.get?_push_of_some _ (Heap.get?_push_of_some _ e)
  have hget : ((hp.push (PySem.W.kdv_tup [])).push (PySem.HandSPX.excO C hp.objs.size)).get? (hp.objs.size + 1) = some (PySem.HandSPX.excO C hp.objs.size) := by heap_get
  have I2 : L2.Inv X pins σ (upd H (hp.objs.size + 1) (exo (hp.objs.size + 1) C none)) ⟨(hp.push (PySem.W.kdv_tup [])).push (PySem.HandSPX.excO C hp.objs.size), g, dr, tk, os⟩ :=
    I.laid (t' := tk) (a := hp.objs.size + 1) (o := exo (hp.objs.size + 1) C none) (h' := (hp.push (PySem.W.kdv_tup [])).push (PySem.HandSPX.excO C hp.objs.size)) kk hsz (exo_ok hget)
  have r2 : Vals [V.ref (hp.objs.size + 1)] [Value.ref (hp.objs.size + 1)] := .cons rfl .nil
  have hsp : spX0 C [V.ref (hp.objs.size + 1)] (upd H (hp.objs.size + 1) (exo (hp.objs.size + 1) C none)) (fun v H2 => v = .non ∧ H2 = upd H (hp.objs.size + 1) (exo (hp.objs.size + 1) C none)) (fun _ _ _ => False) := ⟨_, rfl, upd_same, rfl, rfl⟩
  have hl : ([Value.ref (hp.objs.size + 1)] ++ []).length = ps.length := by
    have e := r2.length
    rw [F1.len _ _ _ _ hsp] at e
    simpa using e.symm
  refine wpAny_call (PySem.HandSPX.call_own F.excBase_ValueError (fun Y => PySem.HandSPX.refsVE_contains Y bm hbm) (I.kIn _ _ hC) (PySem.W.looks_findIn I.kIn iC) (fun self => PySem.W.bind_fn I.kIn self tI) (Nat.zero_le _)
    (codeAny_mono (F1.run _ X.stack _ _ ⟨[Value.ref (hp.objs.size + 1)], []⟩ ([Value.ref (hp.objs.size + 1)] ++ []) _ _ (fun _ _ _ => False) (hr.make C [] []) (I2.env0.make C [] []) (hb _ [Value.ref (hp.objs.size + 1)] I2.kIn hl) r2 hsp) fun r s' hq' => ?_))
  match r, hq' with
  | .error er, hq' => exact hq'.elim
  | .ok (.ret u), hq' =>
    obtain ⟨v, H2, os2, bare2, un2, hok2, rv, ev, eH⟩ := hq'
    subst ev eH
    obtain ⟨h2, g2, d2, t2, os'⟩ := s'
    exact ⟨rv, mk_endN (raises_own T.exC T.tyC) I hsz kk un2 hok2 os2 bare2 upd_same hq⟩
end
def mRaise0 (x : Str) : M Fl := fun ρ => .ex ⟨x, none⟩ ρ
section
variable {X : Cx} {p : Pm} {W : WX} {d : Df}
theorem Cn.raise0 (c : Cn X p W d) {k : Nat} {x : Str} {q1 q2 q3 : Pos} (xm : Xm0 p.P p.w p.K p.cl p.mg p.base k x) (hk : k + 1 ≤ d.k) (j : Nat) (hj : d.gl[j]? = some x) :
    PS X (.Raise (some (.Call (.Name x q1) [] [] q2)) none q3) (tDS p W (mRaise0 x)) := by
  obtain ⟨C, fI, fd, ps, hC, hx, T, iC, tI, F, hb, hm⟩ := xm.ex
  rw [← c.o.K] at T iC tI F hb
  rw [← c.eP, ← c.eW, ← c.eM, ← c.eB] at F
  rw [← c.eM] at hm
  refine PS.imp (ps_raise c.o.c c.t (pmk_oex0 T iC tI F (c.r.mono hk) hb (c.gl hj).1 hm (c.gl hj).2.1)) fun D σ H ⟨ρ, S, R, w, h⟩ => ?_
  intro a ha
  have e1 : del (upd H a (exo a C none)) a = H := by
    funext b
    by_cases hb : b = a
    · rw [hb, del_same, ha]
    · rw [del_ne hb, upd_ne hb]
  rw [e1]
  exact h σ S H R C none Stp.refl w ⟨hC, hx, rfl⟩
end
theorem init_ok0 {P : Program} {w : World} {K : PySem.W.Frag} {mg : Str → Option Value} {base : Heap} {E C fI : Addr} {fd : FuncData} {qual m : Str} {params : Arguments} {scope : Scope} {j : Nat} {q1 q2 q3 q4 q5 q6 : Pos}
    (hq : q2.endLine = q5.line) (F : L2.FunD K "__init__" qual params [.Expr (.Call (.Attribute (.Name "RowError" q1) "__init__" q2) [.Name "self" q3, .Constant (.str m) j q4] [] q5) q6] scope [] [] fI fd)
    (Sc : FnScope ["self"] ["self"] scope) (hgl : scope.names.lookup ("RowError" : Str) = some .globalImplicit) (ls : Vis scope "self") (T0 : ReK K mg E) (T : OexC K C) :
    FnOk P w K mg base CX0 1 fI fd ["self"] (spX0 C) := by
  refine F.ok Sc (fun vs H Q E ⟨a, e, _⟩ => by rw [e]; rfl) (fun cdv A outer s H vs Q E hr h => ?_)
  have hp : ∀ few o env, methodCallPos few o env q2 q5 = pure q5 := fun few o env => by
    unfold methodCallPos
    rw [if_pos (by simp [hq])]
  have b1 : PSs (cxOf CX0 P w K mg base ["self"] qual scope fI cdv A outer s H E).nox [.Expr (.Call (.Attribute (.Name "RowError" q1) "__init__" q2) [.Name "self" q3, .Constant (.str m) j q4] [] q5) q6] _ :=
    pss_one (ps_expr (pe_reInit hgl T0 (pa_cons (pe_var (i := 0) rfl ls (by decide) (by decide)) (pa_cons pe_str pa_nil)) (hc := by
      show (do
        let ov ← eval (.Name "RowError" q1) _
        standAt q2.atName
        methodCall (.Name "RowError" q1) "__init__" q2 q5 _ ov _ _ _) = _
      unfold methodCall
      simp only [hp, pure_bind]
      rfl)))
  refine ⟨_, PSs.nox b1, ?_⟩
  obtain ⟨a, rfl, ea, h⟩ := h
  exact ⟨_, rfl, _, _, _, rfl, by simp, T, ea, h⟩
theorem xm0_of {P : Program} {w : World} {K : PySem.W.Frag} {mg : Str → Option Value} {base : Heap} {xs : List Str} {x : Str} {fI : Addr} {fd : FuncData} (xq : Xs K mg xs) (hx : xIn xs x = true) (hI : PySem.W.findIn K (.ref (He.ga K x)) "__init__" = some (some (.ref fI))) (ht : PySem.W.typeIn K (.ref fI) = some (.type "function"))
    (F : FnOk P w K mg base CX0 1 fI fd ["self"] (spX0 (He.ga K x))) (hb : Binds K fd ["self"] []) : Xm0 P w K (clOf K xs) mg base 1 x :=
  ⟨_, fI, fd, _, cl_of (xIn_mem hx), xIn_x hx, xq.o x hx, hI, ht, F, hb, xq.g x (xIn_mem hx)⟩
/-! ### sep.join(texts) -/
def txts : List D → Option (List Str)
  | [] => some []
  | .str x :: r => (txts r).map (x :: ·)
  | _ => none
def joinD : D → D → Option D
  | .str a, .lst xs => match txts xs with
    | some ys => if (ys.map (·.length)).sum + ys.length * a.length ≤ big then some (.str (Txt.join a ys)) else none
    | none => none
  | .str a, .tup xs => match txts xs with
    | some ys => if (ys.map (·.length)).sum + ys.length * a.length ≤ big then some (.str (Txt.join a ys)) else none
    | none => none
  | _, _ => none
def mJoin (fo fe : M D) : M D := fo.bnd fun x => (lift (match x with | .str a => some a | _ => none)).bnd fun a => fe.bnd fun y => lift (joinD (.str a) y)
theorem txts_of {K : PySem.W.Frag} {cl : Str → Option Addr} {S : Hp} : ∀ {vs : List V} {ds : List D} {ys : List Str}, Reps K cl S vs ds → txts ds = some ys → vs = ys.map V.str
  | _, _, _, .nil, h => by cases h; rfl
  | _, _, _, .cons a b, h => by
    rename_i v d vs ds
    cases d with
    | str x =>
      simp only [txts, Option.map_eq_some_iff] at h
      obtain ⟨ys, h1, rfl⟩ := h
      cases a
      rw [txts_of b h1]
      rfl
    | _ => cases h
section
variable {X : Cx} {p : Pm} {W : WX} {d : Df}
theorem Cn.join (c : Cn X p W d) {o e : Expr} {fo fe : M D} {apos pos : Pos} (ho : PE X o (tD p W fo)) (he : PE X e (tD p W fe)) (hs : starEach [e] X.env = [(false, eval e X.env)] := by rfl) (hbase : attributeBase o "join" X.env (eval o X.env) = eval o X.env := by rfl) (hline : (apos.endLine == pos.line) = true := by rfl) :
    PE X (.Call (.Attribute o "join" apos) [e] [] pos) (tD p W (mJoin fo fe)) :=
  PE.imp (pe_join ho he hs hbase hline) fun σ H Q ⟨ρ, S, R, w, h⟩ => by
    refine ⟨ρ, S, R, w, (isE.bE h).mono fun v H1 ⟨x, ρ1, S1, R1, r1, t1, w1, h1⟩ => ?_⟩
    cases r1 with
    | str a =>
      replace h1 : PoE p W σ S1 H1 R1 Q ((fe.bnd fun y => lift (joinD (.str a) y)) ρ1) := h1
      refine ⟨⟨a, rfl⟩, ρ1, S1, R1, w1, (isE.bE h1).mono fun v2 H2 ⟨y, ρ2, S2, R2, r2, t2, w2, h2⟩ => ?_⟩
      unfold joinD at h2
      split at h2
      · rename_i a' xs ea
        cases ea
        split at h2
        · rename_i ys es
          split at h2
          · rename_i hz
            cases r2 with
            | lst ha ra =>
              have ev := txts_of ra es
              subst ev
              exact ⟨a, _, ys, rfl, rfl, .inl (SqL.of (w2.le _ _ ha)), hz, h2 S2 H2 R2 _ Stp.refl w2 (.str _)⟩
          · exact h2.elim
        · exact h2.elim
      · rename_i a' xs ea
        cases ea
        split at h2
        · rename_i ys es
          split at h2
          · rename_i hz
            cases r2 with
            | tup ha ra =>
              have ev := txts_of ra es
              subst ev
              exact ⟨a, _, ys, rfl, rfl, .inr (by rw [c.o.K]; exact w2.le.sqT ha), hz, h2 S2 H2 R2 _ Stp.refl w2 (.str _)⟩
          · exact h2.elim
        · exact h2.elim
      · exact h2.elim
    | _ => exact h1.elim
end
end PL

end
-- text PL39
section
set_option linter.all false
set_option maxRecDepth 100000
set_option maxHeartbeats 4000000
namespace PL
open PySem PySem.Spec PyProof.Rows L2
/-! ### the head's check: defs at any address, tables with text keys -/
abbrev AlQ : Type := He.AlD × List (Option (List (Option (Str × Int))))
def seesQ (chk : PySem.W.Frag → Bool) (fn : List He5.DefA) (ts : List He.Tab) (K : PySem.W.Frag) : AlQ := ((chk K && fn.all fun d => d.ok K, fn.map fun d => He5.fnA K (d.at_ K)), ts.map fun t => He.dicW K (t.1 K))
def valQ (fn : List He5.DefA) (ts : List He.Tab) (w : World) : AlQ := ((true, fn.map He5.DefA.val), ts.map fun t => some (He.keysIn w.params t.2))
def seesQG (n : Nat) (chk : PySem.W.Frag → Bool) (fn : List He5.DefA) (ts : List He.Tab) (g : Addr → Option Obj) : AlQ := seesQ chk fn ts (He.frG g (He.asD g n ++ [cStatics, sysModules]))
def hookQ (n : Nat) (chk : PySem.W.Frag → Bool) (fn : List He5.DefA) (ts : List He.Tab) : PySem.W.Hook where
  α := AlQ
  obs := fun s => seesQG n chk fn ts s.heap.get?
  val := fun w => valQ fn ts w
  says := fun w h => ∃ K : PySem.W.Frag, K.In h ∧ seesQ chk fn ts K = valQ fn ts w
  of := fun _ _ e => ⟨_, He.frG_in, e⟩
  keeps := fun _ _ _ ⟨K, hK, c⟩ k => ⟨K, PySem.W.Frag.In.keeps hK k, c⟩
theorem seesQG_eq {n : Nat} {chk : PySem.W.Frag → Bool} {fn : List He5.DefA} {ts : List He.Tab} {g : Addr → Option Obj} {s : Shared} (h : ∀ a, g a = s.heap.get? a) : seesQG n chk fn ts g = (hookQ n chk fn ts).obs s := by
  have e : g = s.heap.get? := funext h
  rw [e] <;> rfl
section
variable {chk : PySem.W.Frag → Bool} {fn : List He5.DefA} {ts : List He.Tab} {K : PySem.W.Frag} {w : World}
theorem seesQ_chk (c : seesQ chk fn ts K = valQ fn ts w) : chk K = true := (Bool.and_eq_true_iff.mp (congrArg (fun z : AlQ => z.1.1) c)).1
theorem seesQ_def (c : seesQ chk fn ts K = valQ fn ts w) (i : Nat) {d : He5.DefA} (h : fn[i]? = some d) : ∃ fd, L2.FunD K d.name d.qual d.params d.body d.scope (d.dvs K) (d.kws K) (d.at_ K) fd := by
  have c2 : (fn.all fun d => d.ok K) = true := (Bool.and_eq_true_iff.mp (congrArg (fun z : AlQ => z.1.1) c)).2
  have e2 : (fn.map fun d => He5.fnA K (d.at_ K))[i]? = (fn.map He5.DefA.val)[i]? := congrArg (fun z : AlQ => z.1.2[i]?) c
  rw [List.getElem?_map, List.getElem?_map, h] at e2
  exact He5.DefA.funD (Option.some.inj e2) (List.all_eq_true.mp c2 d (List.mem_of_getElem? h))
theorem seesQ_tab (c : seesQ chk fn ts K = valQ fn ts w) (i : Nat) {t : He.Tab} (h : ts[i]? = some t) : He.dicW K (t.1 K) = some (He.keysIn w.params t.2) := by
  have e : ts.map (fun t => He.dicW K (t.1 K)) = ts.map fun t => some (He.keysIn w.params t.2) := congrArg (fun z : AlQ => z.2) c
  have e2 : (ts.map fun t => He.dicW K (t.1 K))[i]? = (ts.map fun t => some (He.keysIn w.params t.2))[i]? := by rw [e]
  rw [List.getElem?_map, List.getElem?_map, h] at e2
  exact Option.some.inj e2
end
/-! ### a table of the module: texts to texts -/
structure KdOk (K : PySem.W.Frag) (w : World) (cl : Str → Option Addr) (mg : Str → Option Value) (x : Str) (kvs : List (Str × D)) : Prop where
  ex : ∃ d es n, mg x = some (.ref d) ∧ KDict K w d es n ∧ (∀ z e, kvs.lookup z = some e → ∃ u v, PySem.W.nsIn K d z = some (some u) ∧ RelV v u ∧ ∀ S, Rep K cl S v e) ∧ ∀ z, kvs.lookup z = none → PySem.W.nsIn K d z = some none
theorem lookup_keys {α : Type} {z : Str} : ∀ {kvs : List (Str × α)}, kvs.lookup z = none → z ∉ kvs.map (·.1)
  | [], _, h => by simp at h
  | (k, v) :: r, h, hm => by
    rw [List.lookup_cons] at h
    by_cases e : (z == k) = true
    · rw [e] at h; cases h
    · have e' : (z == k) = false := by simpa using e
      rw [e'] at h
      simp only [List.map_cons, List.mem_cons] at hm
      rcases hm with y | y
      · rw [y] at e; simp at e
      · exact lookup_keys h y
theorem find_none_keys {P : Params} {z : Str} : ∀ {l : List DictEntry} {ks : List Str}, l.map He.keyOf = He.keysIn P ks → z ∉ ks → l.find? (·.key.isStr z) = none ∧ l.any (·.refKey) = false
  | [], _, _, _ => ⟨rfl, rfl⟩
  | e :: r, [], h, _ => by cases h
  | e :: r, k :: ks, h, hz => by
    have h1 : He.keyOf e :: r.map He.keyOf = some (k, PyData.keyHash P k) :: He.keysIn P ks := h
    injection h1 with h2 h3
    simp only [List.mem_cons, not_or] at hz
    obtain ⟨i1, i2⟩ := find_none_keys h3 hz.2
    unfold He.keyOf at h2
    split at h2
    · rename_i x t q
      have h4 := Option.some.inj h2
      obtain ⟨h5, h6⟩ := Prod.mk.inj h4
      have n1 : e.key.isStr z = false := by
        rw [q]
        cases y : (Value.str x t).isStr z with
        | false => rfl
        | true =>
          exfalso
          apply hz.1
          rw [← h5]
          have : (x == z) = true := y
          exact (by simpa using this : x = z).symm
      have n2 : e.refKey = false := by
        unfold DictEntry.refKey
        rw [q]
      rw [List.find?_cons, n1, List.any_cons, n2]
      exact ⟨i1, by simpa using i2⟩
    · cases h2
theorem kd_of {K : PySem.W.Frag} {w : World} {cl : Str → Option Addr} {h : Heap} {mg : Str → Option Value} {x : Str} {kvs : List (Str × Str)} (Y : K.In h) (G : h.Ns mainGlobals mg) (e : PySem.W.nsIn K mainGlobals x = some (some (.ref (He.ga K x)))) (hd : He.dicW K (He.ga K x) = some (He.keysIn w.params (kvs.map (·.1))))
    (hv : (kvs.all fun q => match PySem.W.nsIn K (He.ga K x) q.1 with | some (some (.str y _)) => decide (y = q.2) | _ => false) = true) : KdOk K w cl mg x (kvs.map fun q => (q.1, D.str q.2)) := by
  obtain ⟨es, n, kd⟩ := He.dicW_ok hd
  refine ⟨He.ga K x, es, n, PySem.W.mg_of Y G e, kd, fun z d hz => ?_, fun z hz => ?_⟩
  · have hm : ∃ y, (z, y) ∈ kvs ∧ d = .str y := by
      clear hv hd
      induction kvs with
      | nil => cases hz
      | cons q r ih =>
        rw [List.map_cons, List.lookup_cons] at hz
        by_cases e : (z == q.1) = true
        · rw [e] at hz
          cases hz
          have : z = q.1 := by simpa using e
          exact ⟨q.2, by rw [this]; simp, rfl⟩
        · have e' : (z == q.1) = false := by simpa using e
          rw [e'] at hz
          obtain ⟨y, h1, h2⟩ := ih hz
          exact ⟨y, List.mem_cons_of_mem _ h1, h2⟩
    obtain ⟨y, h1, rfl⟩ := hm
    have h2 := List.all_eq_true.mp hv _ h1
    dsimp only at h2
    split at h2
    · rename_i y' t q
      have : y' = y := of_decide_eq_true h2
      subst this
      exact ⟨_, .str y', q, ⟨t, rfl⟩, fun S => .str y'⟩
    · cases h2
  · have hk := lookup_keys hz
    have e2 : (kvs.map fun q => (q.1, D.str q.2)).map (·.1) = kvs.map (·.1) := by rw [List.map_map]; rfl
    rw [e2] at hk
    unfold He.dicW at hd
    rw [kd.at_] at hd
    dsimp only at hd
    split at hd
    · obtain ⟨i1, i2⟩ := find_none_keys (z := z) (Option.some.inj hd) hk
      unfold PySem.W.nsIn
      rw [kd.at_]
      dsimp only
      rw [i1]
      dsimp only
      rw [i2]
      rfl
    · cases hd
def inK (kvs : List (Str × D)) : D → Option D
  | .str z => some (.bl (kvs.lookup z).isSome)
  | _ => none
def ixK (kvs : List (Str × D)) : D → Option D
  | .str z => kvs.lookup z
  | _ => none
def mInK (kvs : List (Str × D)) (fa : M D) : M D := fa.bnd fun x => lift (inK kvs x)
def mIxK (kvs : List (Str × D)) (fa : M D) : M D := fa.bnd fun x => lift (ixK kvs x)
section
variable {X : Cx} {p : Pm} {W : WX} {d : Df}
theorem Cn.inK (c : Cn X p W d) {x : Str} {kvs : List (Str × D)} {a : Expr} {fa : M D} {q pos : Pos} (ok : KdOk p.K p.w p.cl p.mg x kvs) (j : Nat) (hj : d.gl[j]? = some x) (ha : PE X a (tD p W fa)) (hm : behindInMarks .In (.Name x q) = false := by rfl) :
    PE X (.Compare a [.In] [.Name x q] pos) (tD p W (mInK kvs fa)) := by
  obtain ⟨dd, es, n, h1, kd, h2, h3⟩ := ok.ex
  rw [← c.o.K, ← c.eW] at kd
  rw [← c.eM] at h1
  refine PE.imp (pe_cmpR (op_in_kd kd) ha (pe_glob (c.gl hj).1 h1 (show RelV (.ref dd) (Value.ref dd) from rfl) (c.gl hj).2.1) hm) fun σ H Q ⟨ρ, S, R, w, h⟩ => ?_
  refine ⟨ρ, S, R, w, (isE.bE h).mono fun v H1 ⟨y, ρ1, S1, R1, r1, t1, w1, h4⟩ => ?_⟩
  cases r1 with
  | str z =>
    replace h4 : PoE p W σ S1 H1 R1 Q (.ok (.bl (kvs.lookup z).isSome) ρ1) := h4
    cases e : kvs.lookup z with
    | none =>
      rw [e] at h4
      exact ⟨z, none, rfl, rfl, by rw [c.o.K]; exact h3 z e, h4 S1 H1 R1 _ Stp.refl w1 (.bl _)⟩
    | some y =>
      rw [e] at h4
      obtain ⟨u, v, k1, k2, k3⟩ := h2 z y e
      exact ⟨z, some u, rfl, rfl, by rw [c.o.K]; exact k1, h4 S1 H1 R1 _ Stp.refl w1 (.bl _)⟩
  | _ => exact h4.elim
theorem Cn.ixK (c : Cn X p W d) {x : Str} {kvs : List (Str × D)} {b : Expr} {fb : M D} {q pos : Pos} (ok : KdOk p.K p.w p.cl p.mg x kvs) (j : Nat) (hj : d.gl[j]? = some x) (hb : PE X b (tD p W fb)) (hs : PlainIx b) :
    PE X (.Subscript (.Name x q) b pos) (tD p W (mIxK kvs fb)) := by
  obtain ⟨dd, es, n, h1, kd, h2, h3⟩ := ok.ex
  rw [← c.o.K, ← c.eW] at kd
  rw [← c.eM] at h1
  refine PE.imp (pe_ix ix_kdict (pe_glob (c.gl hj).1 h1 (show RelV (.ref dd) (Value.ref dd) from rfl) (c.gl hj).2.1) hb hs) fun σ H Q ⟨ρ, S, R, w, h⟩ => ?_
  refine ⟨ρ, S, R, w, (isE.bE h).mono fun v H1 ⟨y, ρ1, S1, R1, r1, t1, w1, h4⟩ => ?_⟩
  cases r1 with
  | str z =>
    cases e : kvs.lookup z with
    | none =>
      replace h4 : PoE p W σ S1 H1 R1 Q (lift (kvs.lookup z) ρ1) := h4
      rw [e] at h4
      exact h4.elim
    | some y =>
      replace h4 : PoE p W σ S1 H1 R1 Q (lift (kvs.lookup z) ρ1) := h4
      rw [e] at h4
      obtain ⟨u, v, k1, k2, k3⟩ := h2 z y e
      exact ⟨dd, z, v, rfl, rfl, ⟨es, n, u, kd.at_, kd.lit, by rw [c.o.K]; exact k1, k2⟩, h4 S1 H1 R1 _ Stp.refl w1 (k3 S1)⟩
  | _ => exact h4.elim
end
/-! ### ints and texts of the module -/
theorem cst_int {K : PySem.W.Frag} {cl : Str → Option Addr} {h : Heap} {mg : Str → Option Value} {x : Str} {i : Int} (Y : K.In h) (G : h.Ns mainGlobals mg) (c : (He.Fa.int x i).ok K = true) : Cst K cl mg x (.int i) := by
  obtain ⟨t, e⟩ := He.int_ok Y G c
  exact ⟨.int i, _, e, ⟨t, rfl⟩, fun S => .int i⟩
theorem cst_str {K : PySem.W.Frag} {cl : Str → Option Addr} {h : Heap} {mg : Str → Option Value} {x z : Str} (Y : K.In h) (G : h.Ns mainGlobals mg) (c : (He.Fa.str x z).ok K = true) : Cst K cl mg x (.str z) := by
  obtain ⟨t, e⟩ := He.str_ok Y G c
  exact ⟨.str z, _, e, ⟨t, rfl⟩, fun S => .str z⟩
/-! ### the classes' facts -/
def klB (K : PySem.W.Frag) (kt : KT) : Bool := kt.all fun q => (He.Fa.cls q.1).ok K && q.2.all fun f => (He.Fa.noat q.1 f).ok K
theorem kl_of {K : PySem.W.Frag} {xs : List Str} {kt : KT} (h : klB K kt = true) (hx : (kt.all fun q => xs.contains q.1) = true) : KlOk K (clOf K xs) kt := fun c fl e => by
  have hm : (c, fl) ∈ kt := by
    clear h hx
    induction kt with
    | nil => cases e
    | cons q r ih =>
      rw [List.lookup_cons] at e
      by_cases h : (c == q.1) = true
      · rw [h] at e
        cases e
        have : c = q.1 := by simpa using h
        rw [this]; simp
      · have h' : (c == q.1) = false := by simpa using h
        rw [h'] at e
        exact List.mem_cons_of_mem _ (ih e)
  have h1 := List.all_eq_true.mp h _ hm
  have h2 := List.all_eq_true.mp hx _ hm
  rw [Bool.and_eq_true] at h1
  exact ⟨_, cl_of (by simpa using h2), He.cls_ok h1.1, fun f hf => He.noat_ok (List.all_eq_true.mp h1.2 f hf)⟩
theorem fe_of {P : Program} {w : World} {K : PySem.W.Frag} {cl : Str → Option Addr} {mg : Str → Option Value} {base : Heap} {t : Ent} {k : Nat} {x qual : Str} {params : Arguments} {body : List Stmt} {sc : Scope} {kws : List (Str × V)} {f : Addr} {fd : FuncData} (F : L2.FunD K x qual params body sc [] kws f fd) (hd : t.dfl = []) (G : FnG P w K mg base k f fd t.ps (spF K cl t.ps.length t.F))
    (hp : Binds K fd t.ps []) (hk : PySem.W.keepIn K (.ref f) = true) : FnE P w K cl mg base k f t := by
  refine ⟨fd, [], [], hk, G, .nil, fun S => by rw [hd]; exact .nil, fun s us hK h1 h2 => ?_⟩
  have hl : us.length = t.ps.length := by simp at h2; omega
  have := hp s us hK (by simpa using hl)
  simpa using this
theorem mt_of {P : Program} {w : World} {K : PySem.W.Frag} {mg : Str → Option Value} {base : Heap} {xs : List Str} {k : Nat} {c m : Str} {t : Ent} (hx : xs.contains c = true) (h1 : (He.Fa.cls c).ok K = true) (h2 : (He.Fa.meth c m).ok K = true) (F : FnE P w K (clOf K xs) mg base k (He.ma K (He.ga K c) m) t) : MtOk P w K (clOf K xs) mg base k c m t :=
  ⟨_, _, cl_of (by simpa using hx), He.cls_ok h1, He.meth_ok h2, F⟩
theorem mk_of' {P : Program} {w : World} {K : PySem.W.Frag} {h : Heap} {mg : Str → Option Value} {base : Heap} {xs : List Str} {k : Nat} {c : Str} {t : Ent} (Y : K.In h) (G : h.Ns mainGlobals mg) (hx : xs.contains c = true) (h1 : (He.Fa.glo c).ok K = true) (h2 : (He.Fa.mkr c).ok K = true) (F : FnE P w K (clOf K xs) mg base k (He.ma K (He.ga K c) "__init__") t) : MkOk P w K (clOf K xs) mg base k c t :=
  ⟨_, _, cl_of (by simpa using hx), He.glo_ok Y G h1, He.mkr_ok h2, F⟩
def propB (K : PySem.W.Frag) (c f : Str) : Bool := He.eqO (PySem.W.findIn K (.ref (He.ga K c)) f) (some (some (.ref (He.ma K (He.ga K c) f)))) && (He.eqO (PySem.W.specialIn K (.ref (He.ma K (He.ga K c) f)) "__get__") (some (some (.builtin "property.__get__"))) && (decide (PySem.W.takesIn K (.ref (He.ma K (He.ga K c) f)) = some true) &&
  (match PySem.W.recIn K (He.ma K (He.ga K c) f) "property" with
    | some (.ref _ :: _) => true
    | _ => false)))
theorem pr_of' {P : Program} {w : World} {K : PySem.W.Frag} {mg : Str → Option Value} {base : Heap} {xs : List Str} {k : Nat} {c f : Str} {t : Ent} (hx : xs.contains c = true) (h1 : (He.Fa.cls c).ok K = true) (h2 : propB K c f = true) (F : FnE P w K (clOf K xs) mg base k (He5.wf K (He.ga K c) "property" f) t) : PrOk P w K (clOf K xs) mg base k c f t := by
  unfold propB at h2
  simp only [Bool.and_eq_true] at h2
  obtain ⟨a1, a2, a3, a4⟩ := h2
  refine ⟨_, _, _, cl_of (by simpa using hx), He.cls_ok h1, ⟨He.eqO_ok a1, He.eqO_ok a2, of_decide_eq_true a3, ?_⟩, F⟩
  unfold He5.wf
  split at a4
  · rename_i g r e
    exact ⟨r, by rw [e]⟩
  · cases a4
theorem op_of' {P : Program} {w : World} {K : PySem.W.Frag} {mg : Str → Option Value} {base : Heap} {xs : List Str} {k : Nat} {op : Operator} {c : Str} {t : Ent} (hx : xs.contains c = true) (h1 : PySem.W.selfFirst K (He.ga K c) = true) (h2 : (He.Fa.meth c (PySem.dunder op.info.2)).ok K = true) (F : FnE P w K (clOf K xs) mg base k (He.ma K (He.ga K c) (PySem.dunder op.info.2)) t) : OpOk P w K (clOf K xs) mg base k op c t :=
  ⟨_, _, cl_of (by simpa using hx), h1, He.meth_ok h2, F⟩
end PL

end
-- text PL40
section
set_option linter.all false
set_option maxRecDepth 100000
set_option maxHeartbeats 4000000
namespace PL
open PySem PySem.Spec L2
/-! ### steps for tables, texts, instances -/
section
variable {Q : D → Rho → Prop} {QF : Fl → Rho → Prop} {QO : O → Rho → Prop} {QA : List D → Rho → Prop} {E : Ex → Rho → Prop} {ρ : Rho} {fA : M (List D)} {f fo fe : M D} {fO : M O} {fX : M (List Ar)} {kvs : List (Str × D)} {kt : KT} {mt : MT} {t : Ent}
theorem w_inK (h : wp (f ρ) (fun x ρ' => wp (lift (inK kvs x) ρ') Q E) E) : wp (mInK kvs f ρ) Q E := w_bnd h
theorem w_ixK (h : wp (f ρ) (fun x ρ' => wp (lift (ixK kvs x) ρ') Q E) E) : wp (mIxK kvs f ρ) Q E := w_bnd h
theorem w_join (h : wp (fo ρ) (fun x ρ' => ∃ a, x = .str a ∧ wp (fe ρ') (fun y ρ'' => wp (lift (joinD (.str a) y) ρ'') Q E) E) E) : wp (mJoin fo fe ρ) Q E := by
  refine w_bnd (wp_mono h (fun x ρ' k => ?_) fun _ _ k => k)
  obtain ⟨a, rfl, k⟩ := k
  exact w_bnd ⟨w_bnd k⟩
theorem w_enum (h : wp (fA ρ) (fun xs ρ' => ∃ l, enumD xs = some l ∧ QA l ρ') E) : wp (mEnum fA ρ) QA E := by
  refine w_bnd (wp_mono h (fun x ρ' k => ?_) fun _ _ k => k)
  obtain ⟨l, e, q⟩ := k
  rw [e]; exact ⟨q⟩
theorem w_setFld {i : Nat} {g : Str} (h : wp (fO ρ) (fun o ρ' => ∃ c ns xs, ρ'[i]? = some (some (.ob c ns xs)) ∧ (hasF kt c g && Nat.ble (ns.length + 1) 1000) = true ∧ QF .nx (ρ'.set i (some (putO c g o ns xs)))) E) : wp (mSetFld kt i g fO ρ) QF E := by
  refine w_bnd (wp_mono h (fun o ρ' k => ?_) fun _ _ k => k)
  obtain ⟨c, ns, xs, e, h2, q⟩ := k
  rw [e]
  dsimp only
  rw [Bool.and_eq_true] at h2
  rw [if_pos ⟨h2.1, Nat.le_of_ble_eq_true h2.2⟩]
  exact ⟨q⟩
theorem s_sf {ρ' : Rho} {i : Nat} {g : Str} {c : Str} {ns : List Str} {xs : List O} {P : Str → List Str → List O → Prop} (h1 : ρ'[i]? = some (some (.ob c ns xs))) (h2 : (hasF kt c g && Nat.ble (ns.length + 1) 1000) = true) (k : P c ns xs) : ∃ c ns xs, ρ'[i]? = some (some (.ob c ns xs)) ∧ (hasF kt c g && Nat.ble (ns.length + 1) 1000) = true ∧ P c ns xs := ⟨c, ns, xs, h1, h2, k⟩
theorem w_ownFldD {i : Nat} {g : Str} {x y : D} (e : ρ[i]? = some (some (.dat x))) (e2 : fldD kt g x = some y) (h : Q y ρ) : wp (mOwnFld kt i g ρ) Q E := by
  unfold mOwnFld
  rw [e]
  dsimp only
  rw [e2]
  exact ⟨h⟩
theorem w_ownFldO {i : Nat} {g c : Str} {ns : List Str} {xs : List O} {y : D} (e : ρ[i]? = some (some (.ob c ns xs))) (e2 : hasF kt c g = true) (e3 : (ns.zip xs).lookup g = some (.dat y)) (h : Q y ρ) : wp (mOwnFld kt i g ρ) Q E := by
  unfold mOwnFld
  rw [e]
  dsimp only
  rw [if_pos e2, e3]
  exact ⟨h⟩
theorem w_fld {g : Str} (h : wp (f ρ) (fun x ρ' => wp (lift (fldD kt g x) ρ') Q E) E) : wp (mFld kt g f ρ) Q E := w_bnd h
theorem w_prop (h : wp (f ρ) (fun x ρ' => ∃ c fs t, x = .obj c fs ∧ mt.lookup c = some t ∧ t.ps.length = 1 ∧ Call t [.dat (.obj c fs)] (fun o ρ'' => 1 ≤ ρ''.length ∧ QO o ρ') noE) E) : wp (mProp mt f ρ) QO E := by
  refine w_bnd (wp_mono h (fun x ρ' k => ?_) fun _ _ k => k)
  obtain ⟨c, fs, t, rfl, e, hl, k⟩ := k
  unfold propX
  dsimp only
  rw [e]
  dsimp only
  unfold callP
  rw [if_pos hl]
  unfold Call at k
  revert k
  cases t.F [.dat (.obj c fs)] with
  | bad => exact fun k => k.go.elim
  | ex x r => exact fun k => k.go.elim
  | ok o r =>
    intro k
    obtain ⟨h1, h2⟩ := k.go
    cases r with
    | nil => simp at h1
    | cons y r => exact ⟨h2⟩
theorem w_meth {m : Str} (h : wp (f ρ) (fun x ρ' => ∃ c fs t, x = .obj c fs ∧ mt.lookup c = some t ∧ fs.lookup m = none ∧ wp (mCall t (xCons (M.ret x) fX) ρ') QO E) E) : wp (mMeth mt m f fX ρ) QO E := by
  refine w_bnd (wp_mono h (fun x ρ' k => ?_) fun _ _ k => k)
  obtain ⟨c, fs, t, rfl, e, hn, k⟩ := k
  unfold methX
  dsimp only
  rw [e]
  dsimp only
  rw [if_pos (by rw [hn]; rfl)]
  have e2 : mCall t (xCons (M.ret (.obj c fs)) fX) ρ' = (fX.bnd fun as => callF t (.d (.obj c fs) :: as)) ρ' := by
    show ((fX ρ').bnd fun xs => M.ret (Ar.d (.obj c fs) :: xs)).bnd (callF t) = (fX ρ').bnd _
    cases fX ρ' <;> rfl
  rw [e2] at k
  exact k
theorem w_binO {op : Operator} {fa fb : M D} (h : wp (fa ρ) (fun x ρ1 => wp (fb ρ1) (fun y ρ2 => ∃ c fs fs' t, x = .obj c fs ∧ y = .obj c fs' ∧ mt.lookup c = some t ∧ wp (mCall t (xCons (M.ret x) (xCons (M.ret y) xNil)) ρ2) QO E) E) E) : wp (mBinO mt op fa fb ρ) QO E := by
  refine w_bnd (wp_mono h (fun x ρ1 k => w_bnd (wp_mono k (fun y ρ2 k => ?_) fun _ _ k => k)) fun _ _ k => k)
  obtain ⟨c, fs, fs', t, rfl, rfl, e, k⟩ := k
  unfold binX
  rw [if_pos (by rfl)]
  unfold ownX
  dsimp only
  rw [if_pos rfl, e]
  exact k
theorem w_raise0 {x : Str} (h : E ⟨x, none⟩ ρ) : wp (mRaise0 x ρ) QF E := ⟨h⟩
theorem w_make {c : Str} (h : wp (fX ρ) (fun as ρ' => ∃ ds, as = asAr ds ∧ (ds.length + 1 ≤ t.ps.length ∧ t.ps.length ≤ ds.length + 1 + t.dfl.length) ∧ Call t (.ob c [] [] :: (ds ++ t.dfl.drop (ds.length + 1 + t.dfl.length - t.ps.length)).map .dat) (fun o ρ'' => o = .dat .non ∧ ∃ o1 r, ρ'' = some o1 :: r ∧ ds.length ≤ r.length ∧ QO o1 ρ') (fun x ρ'' => ∃ o1 r, ρ'' = some o1 :: r ∧ ds.length ≤ r.length ∧ E x ρ')) E) : wp (mMake c t fX ρ) QO E := by
  refine w_bnd (wp_mono h (fun as ρ' k => ?_) fun _ _ k => k)
  obtain ⟨ds, rfl, hl, k⟩ := k
  have e1 : (asAr ds).length = ds.length := by simp [asAr]
  have e2 : objs ρ' (asAr ds ++ (t.dfl.drop ((asAr ds).length + 1 + t.dfl.length - t.ps.length)).map .d) = some ((ds ++ t.dfl.drop (ds.length + 1 + t.dfl.length - t.ps.length)).map .dat) := by
    rw [e1, ← objs_d (ρ := ρ')]
    simp [asAr]
  unfold makeF
  rw [if_pos ⟨by rw [e1]; exact hl.1, by rw [e1]; exact hl.2, by rw [slots_d]; rfl⟩, e2]
  unfold Call at k
  dsimp only
  revert k
  cases t.F (.ob c [] [] :: (ds ++ t.dfl.drop (ds.length + 1 + t.dfl.length - t.ps.length)).map .dat) with
  | bad => exact fun k => k.go.elim
  | ok o ρ'' =>
    rintro ⟨rfl, o1, r, rfl, hr, k⟩
    dsimp only
    rw [backs_d ds r hr]
    exact ⟨k⟩
  | ex x ρ'' =>
    rintro ⟨o1, r, rfl, hr, k⟩
    dsimp only
    rw [backs_d ds r hr]
    exact ⟨k⟩
end
end PL

end
-- text PL41
section
set_option linter.all false
set_option maxRecDepth 100000
set_option maxHeartbeats 4000000
namespace PL
open PySem PySem.Spec L2
/-! ### comprehensions whose items are drawn -/
theorem w_lcT {vs : List Nat} {gt : Tgt} {fe : M O} {QL : List O → Rho → Prop} {E : Ex → Rho → Prop} {lo : Int} {N c : Nat} {n : Int} {xs : List O} {P : O → Prop} (ρof : List O → Rho) (hb : Bx xs n) (hN : N ≤ big)
    (hs : ∀ (k : Nat) (xs' : List O) (m : Int), k < N → Bx xs' m → m ≤ n + c * N → ∃ ρ1, gt (.int (lo + k)) (ρof xs') = some ρ1 ∧ wp (fe ρ1) (fun o ρ3 => P o ∧ ∃ xs'', Bx xs'' (m + c) ∧ wipeR ρ3 vs = ρof xs'') noE)
    (k : ∀ os xs', os.length = N → (∀ o ∈ os, P o) → Bx xs' (n + c * N) → QL os (ρof xs')) : wp (lcL vs gt (M.ret true) fe (rngL lo N) [] (ρof xs)) QL E := by
  refine w_lcL _ (fun i acc ρ => i ≤ N ∧ acc.length = i ∧ (∀ o ∈ acc, P o) ∧ ∃ xs', Bx xs' (n + c * i) ∧ ρ = ρof xs') ⟨Nat.zero_le _, rfl, by simp, xs, by simpa using hb, rfl⟩ ?_ ?_
  · rintro i d acc ρ hd ⟨hi, hl, ha, xs', hb', rfl⟩
    obtain ⟨rfl, hi2⟩ := rngL_get hd
    have cm : (c : Int) * i + c ≤ c * N := by
      have h1 : (c : Int) * (i + 1) ≤ c * N := Int.mul_le_mul_of_nonneg_left (by omega) (by omega)
      have h2 : (c : Int) * (i + 1) = c * i + c := by rw [Int.mul_add]; simp
      omega
    obtain ⟨ρ1, e1, h1⟩ := hs i xs' _ hi2 hb' (by omega)
    refine ⟨ρ1, e1, ⟨fun _ => wp_mono h1 (fun o ρ3 ⟨hp, xs2, hb2, e2⟩ => ⟨by omega, by omega, by simp [hl], ?_, xs2, ?_, e2⟩) fun _ _ z => z, (fun z => by cases z)⟩⟩
    · intro o' ho'
      rcases List.mem_append.mp ho' with z | z
      · exact ha o' z
      · rw [List.mem_singleton] at z
        rw [z]; exact hp
    · have e3 : n + (c : Int) * ((i + 1 : Nat) : Int) = n + c * i + c := by
        have h2 : (c : Int) * ((i + 1 : Nat) : Int) = c * i + c := by
          rw [show ((i + 1 : Nat) : Int) = (i : Int) + 1 by omega, Int.mul_add]; simp
        omega
      rw [e3]; exact hb2
  · rintro acc ρ ⟨_, hl, ha, xs', hb', rfl⟩
    rw [rngL_len] at hl hb'
    exact k acc xs' hl ha hb'
/-- all of a form -/
theorem all_form {α β : Type} {f : α → β} {P : α → Prop} : ∀ {os : List β}, (∀ o ∈ os, ∃ x, o = f x ∧ P x) → ∃ xs : List α, os = xs.map f ∧ ∀ x ∈ xs, P x
  | [], _ => ⟨[], rfl, by simp⟩
  | o :: os, h => by
    obtain ⟨x, rfl, hx⟩ := h o List.mem_cons_self
    obtain ⟨xs, rfl, hxs⟩ := all_form (os := os) fun o ho => h o (List.mem_cons_of_mem _ ho)
    exact ⟨x :: xs, rfl, fun y hy => by
      rcases List.mem_cons.mp hy with z | z
      · rw [z]; exact hx
      · exact hxs y z⟩
theorem w_varX {ρ : Rho} {i : Nat} {o : O} {Q : D → Rho → Prop} {E : Ex → Rho → Prop} (e : ρ[i]? = some (some o)) (h : Q (fz o) (ρ.set i (some (.dat (fz o))))) : wp (mVar i ρ) Q E := by
  cases o with
  | dat d =>
    refine w_var e ?_
    rw [fz_dat, set_self e] at h
    exact h
  | own xs => exact w_varO e h
  | ob c ns xs =>
    unfold mVar
    rw [e]
    exact ⟨h⟩
theorem fz_dats {ds : List D} : fz (.own (ds.map .dat)) = .lst ds := fz_own
end PL

end
-- text PL42
section
set_option linter.all false
set_option maxRecDepth 100000
set_option maxHeartbeats 4000000
namespace PL
open PySem PySem.Spec PyProof.Rows L2
/-! ### where one token is out: replace of written texts -/
section
variable {X : Cx} {p : Pm} {W : WX} {d : Df}
def repD (y z : Str) : D → Option D
  | .str x => if x.length + (x.length + 1) * z.length ≤ 16777216 then some (.str (Txt.replace x y z)) else none
  | _ => none
def mRepl (y z : Str) (f : M D) : M D := f.bnd fun x => lift (repD y z x)
theorem repl_imp {y z : Str} {f : M D} {σ : L2.St} {H : Hp} {Q : VK} (h : tD p W (mRepl y z f) σ H Q) : CwR.tReplC (tD p W f) y z σ H Q := by
  obtain ⟨ρ, S, R, w, h⟩ := h
  refine ⟨ρ, S, R, w, (isE.bE h).mono fun v H1 ⟨x, ρ1, S1, R1, r1, t1, w1, h1⟩ => ?_⟩
  have h2 := OutD.of w1 h1
  cases r1 with
  | str s =>
    have h3 : OutD p S1 H1 Q (if s.length + (s.length + 1) * z.length ≤ 16777216 then some (.str (Txt.replace s y z)) else none) := h2
    split at h3
    · rename_i hb
      exact ⟨s, rfl, hb, h3.leaf w1.le (.str _)⟩
    · exact h3.elim
  | _ => exact h2.elim
theorem Cn.replC (c : Cn X p W d) {oe : Expr} {f : M D} {a b : Str} {ja jb : Nat} {pa pb q1 q2 : Pos} (ho : PE X oe (tD p W f)) (hne : (a == b) = false := by decide) (hst : starEach [.Constant (.str a) ja pa, .Constant (.str b) jb pb] X.env = [(false, eval (.Constant (.str a) ja pa) X.env), (false, eval (.Constant (.str b) jb pb) X.env)] := by rfl)
    (hbs : attributeBase oe "replace" X.env (eval oe X.env) = eval oe X.env := by rfl) (hln : (q1.endLine == q2.line) = true := by rfl) : PET X (.Call (.Attribute oe "replace" q1) [.Constant (.str a) ja pa, .Constant (.str b) jb pb] [] q2) (tD p W (mRepl a b f)) :=
  fun pins s σ H Q h0 I h => CwR.pet_replC ho hne hst hbs hln pins s σ H Q h0 I (repl_imp h)
theorem Cn.replT (c : Cn X p W d) {oe : Expr} {f : M D} {a b : Str} {ja jb : Nat} {pa pb q1 q2 : Pos} (ho : PET X oe (tD p W f)) (hne : (a == b) = false := by decide) (hst : starEach [.Constant (.str a) ja pa, .Constant (.str b) jb pb] X.env = [(false, eval (.Constant (.str a) ja pa) X.env), (false, eval (.Constant (.str b) jb pb) X.env)] := by rfl)
    (hbs : attributeBase oe "replace" X.env (eval oe X.env) = eval oe X.env := by rfl) (hln : (q1.endLine == q2.line) = true := by rfl) : PET X (.Call (.Attribute oe "replace" q1) [.Constant (.str a) ja pa, .Constant (.str b) jb pb] [] q2) (tD p W (mRepl a b f)) :=
  fun pins s σ H Q h0 I h => CwR.pet_replT ho hne hst hbs hln pins s σ H Q h0 I (repl_imp h)
theorem et_asO {e : Expr} {f : M D} (h : PET X e (tD p W f)) : PET X e (tDO p W (asO f)) :=
  fun pins s σ H Q h0 I ⟨ρ, S, R, w, q⟩ => h pins s σ H Q h0 I ⟨ρ, S, R, w, PoO.of_dat q⟩
theorem Cn.setT {x : Str} {e : Expr} {pos pos' : Pos} {f : M O} (c : Cn X p W d) (i : Nat) (h : d.N[i]? = some x) (hi : d.io.contains i = false) (he : PET X e (tDO p W f)) (hs : swapsWith e (some (.Name x pos')) pos.line X.env = pure false := by rfl) (hu : d.us.contains i = true := by rfl) (hb : d.blk = false := by rfl) : PST X (.Assign [.Name x pos'] e pos) (tDS p W (mSet i f)) := by
  intro pins s σ H D h0 I hd
  have q := tSet_imp (c.pin hi) hd
  refine wpAny_Assign_Name (wpAny_mono (he pins s σ H _ h0 I q) (fun u s1 y => ?_) fun _ _ z => z) hs
  obtain ⟨v, H1, I1, r1, q1⟩ := y
  exact store_ok I1 c.o.N (c.nx h) (c.loc h hu hb) r1 (fun s2 I2 => ⟨_, H1, I2, q1⟩) (.inl (c.fnT hb x))
theorem ds_consT {st : Stmt} {rest : List Stmt} {f g : M Fl} (h1 : PST X st (tDS p W f)) (h2 : PSsT X rest (tDS p W g)) : PSsT X (st :: rest) (tDS p W (mSeq f g)) := by
  intro pins s σ H D h0 I hd
  refine psst_cons h1 h2 pins s σ H D h0 I ?_
  obtain ⟨ρ, S, R, w, h⟩ := hd
  refine ⟨ρ, S, R, w, ?_⟩
  have h' : PoS p W S H R D ((f ρ).bnd fun fl => match fl with | .nx => g | fl => M.ret fl) := h
  revert h'
  cases f ρ with
  | bad => exact fun z => z
  | ex x ρ' => exact fun z => z
  | ok fl ρ' =>
    cases fl with
    | nx => exact fun z σ' S' H' R' t w' => ⟨ρ', S', R', w', PoS.up t z⟩
    | rt o => exact fun z => z
    | bk => exact fun z => z
    | ct => exact fun z => z
/-! ### text[::-1] -/
def revS (x : Str) : Str := ⟨((Builtin.Str.strSliceIndices none none (-1) x.length).filterMap (x.cps[·]?)).toArray⟩
def revD : D → Option D
  | .str x => if (revS x).length ≤ big then some (.str (revS x)) else none
  | _ => none
def mRev (f : M D) : M D := f.bnd fun x => lift (revD x)
theorem Cn.rev (c : Cn X p W d) {oe : Expr} {f : M D} {j : Nat} {q1 q2 q3 q4 : Pos} (ho : PE X oe (tD p W f)) : PE X (.Subscript oe (.Slice none none (some (.UnaryOp .USub (.Constant (.int 1) j q1) q2)) q3) q4) (tD p W (mRev f)) := by
  refine ⟨fun pins s σ H Q I ⟨ρ, S, R, w, h⟩ => ?_⟩
  refine Subscript_ (wpAny_mono (ho.run pins s σ H _ I ⟨ρ, S, R, w, isE.bE h⟩) (fun v sa y => ?_) fun _ _ z => z)
  obtain ⟨x0, Ha, Ia, ra, x, ρ1, S1, R1, r1, t1, w1, h1⟩ := y
  have h2 := OutD.of w1 h1
  cases r1 with
  | str z =>
    have h3 : OutD p S1 Ha Q (if (revS z).length ≤ big then some (.str (revS z)) else none) := h2
    split at h3
    · rename_i hb
      obtain ⟨t, rfl⟩ := ra
      have kn : PO X none tNoPart := po_none
      have ks : PO X (some (.UnaryOp .USub (.Constant (.int 1) j q1) q2)) (tPart (tUn (rU fun i => .int (-i)) (tC (.int 1)))) := po_some (pe_un un_neg pe_int)
      refine wpAny_Slice (wpAny_mono (kn.run pins sa σ Ha (fun o Hb => o = none ∧ Hb = Ha) Ia ⟨rfl, rfl⟩) (fun vl sb yb => ?_) fun _ _ z => z)
      obtain ⟨ol, Hb, Ib, pl, el, eb⟩ := yb
      subst el eb
      refine wpAny_mono (kn.run pins sb σ Hb (fun o Hc => o = none ∧ Hc = Hb) Ib ⟨rfl, rfl⟩) (fun vu sc yc => ?_) fun _ _ z => z
      obtain ⟨ou, Hc, Ic, pu, eu, ec⟩ := yc
      subst eu ec
      refine wpAny_mono (ks.run pins sc σ Hc (fun o Hd => o = some (-1) ∧ Hd = Hc) Ic ⟨1, rfl, -1, rfl, rfl, rfl⟩) (fun vs sd yd => ?_) fun _ _ z => z
      obtain ⟨os, Hd, Id, ps, es, ed⟩ := yd
      subst es ed
      obtain ⟨l, rfl, el⟩ := IsPart.raw pl
      obtain ⟨u, rfl, eu⟩ := IsPart.raw pu
      obtain ⟨st, rfl, es⟩ := IsPart.raw ps
      have Ie : L2.Inv X pins σ Hd { sd with heap := sd.heap.push { cls := .type "slice", data := .fields #[partValue l, partValue u, partValue st] } } := Id.kept (t' := sd.toks) fun b ob q => Heap.get?_push_of_some _ q
      refine tail_any (ops := [.str z t, .ref sd.heap.objs.size]) (typeIs_str _ z t) (PySem.F.slot_str_getitem.lookup) ?_ (by with_unfolding_all rfl)
      refine wpAny_getItem_str_slice (l := l) (u := u) (st := st) ⟨_, Heap.get?_push_size _ rfl, rfl, rfl⟩ (by rw [es]; rfl) ?_
      unfold sliceMade slicePicked
      rw [es, el, eu, if_neg (by simp)]
      exact ⟨by rw [← big_eq]; exact hb, .str _, Hd, Ie.tok _, ⟨_, rfl⟩, h3.leaf w1.le (.str _)⟩
    · exact h3.elim
  | _ => exact h2.elim
end
end PL

end
-- text PL43
section
set_option linter.all false
set_option maxRecDepth 100000
set_option maxHeartbeats 4000000
namespace PL
open PySem PySem.Spec PyProof.Rows L2
/-! ### a def whose first parameter is a plain local: one token is out when its body begins -/
theorem env_tok {M : Model} {A : Around} {E : Value → Shared → Prop} {s : Shared} {sc : Scope} {gl : Addr} {bs : List (Str × Value)} {ql : Str} {fa : Option Addr} {cd : Value} {bn : Addr} {Q : Env → Shared → Prop} (hk : sc.kind = .function)
    (kinds : ∀ y ∈ bs, sc.names.lookup y.1 = some .local ∨ (sc.names.lookup y.1 = some .cell ∧ ((cellsFrom (s.heap.objs.size + 1) sc.names []).lookup y.1).isSome = true)) (hf : ∃ n v r, bs = (n, v) :: r ∧ sc.names.lookup n = some .local)
    (hq : ∀ env, env = newEnv sc s.heap.objs.size gl (cellsFrom (s.heap.objs.size + 1) sc.names []) ql fa cd none bn → ∀ s1, InCallC s env.locals (bindL env.kindOf bs fun _ => none) env.cells (bindC env.kindOf bs fun _ => none) s1 → 1 ≤ s1.toks → Q env s1) : wpAny M A (newFunctionEnv sc gl [] bs ql fa cd none bn) Q E s := by
  obtain ⟨n, v, r, rfl, hn⟩ := hf
  simp only [newFunctionEnv, Option.isSome_none, Bool.false_eq_true, if_false]
  refine wpAny_bind (wpAny_alloc ?_)
  refine wpAny_bind (wpAny_layCells _ (fun nm kd cs => by cases e : kd == NameKind.cell <;> simp [e]) _ _ _ _ ?_)
  have ok := cellsFrom_ok sc.names (s.heap.push { cls := .type "frame", data := .dict #[] }) (s.heap.objs.size + 1) [] ⟨fun _ _ z => (nomatch z), .nil⟩ (by rw [Heap.size_push]; exact Nat.le_refl _)
  rw [Heap.size_push] at ok
  rw [show ({ s with heap := s.heap.push { cls := .type "frame", data := .dict #[] } } : Shared).heap.objs.size = s.heap.objs.size + 1 from Heap.size_push ..]
  have x0 := (⟨⟨⟨_, _, rfl⟩, (Heap.Ns.new s.heap (.type "frame")).keeps (pushCells_keeps _ _), fun b o e => pushCells_keeps _ _ b o (Heap.get?_push_of_some _ e), Nat.le_refl _⟩, fun m c z => (ok.empty m c (mem_of_lookup z)).1, ok.apart, fun m c z => (ok.empty m c z).2⟩ :
    InCallC s (newEnv sc s.heap.objs.size gl (cellsFrom (s.heap.objs.size + 1) sc.names []) ql fa cd none bn).locals (fun _ => none) (newEnv sc s.heap.objs.size gl (cellsFrom (s.heap.objs.size + 1) sc.names []) ql fa cd none bn).cells (fun _ => none) { s with heap := pushCells (s.heap.push { cls := .type "frame", data := .dict #[] }) sc.names })
  have hl : (newEnv sc s.heap.objs.size gl (cellsFrom (s.heap.objs.size + 1) sc.names []) ql fa cd none bn).kindOf n = some .local := hn
  refine wpAny_bind ?_
  rw [List.forIn_cons]
  refine wpAny_bind (wpAny_bind (wpAny_storeName_local hl x0.toInCall.ns (fun h' hn' hs' => wpAny_pure ?_) (by dsimp only; rw [hk]; rfl)))
  have x1 : InCallC s (newEnv sc s.heap.objs.size gl (cellsFrom (s.heap.objs.size + 1) sc.names []) ql fa cd none bn).locals (fun y => if y = n then some v else none) (newEnv sc s.heap.objs.size gl (cellsFrom (s.heap.objs.size + 1) sc.names []) ql fa cd none bn).cells (fun _ => none) { s with heap := h', toks := s.toks + 1 } :=
    ⟨⟨⟨_, _, rfl⟩, hn', fun b o e => hs'.extBut b o (Nat.ne_of_lt (Nat.lt_of_lt_of_le (Heap.lt_size e) x0.toInCall.fresh)) (x0.toInCall.keep b o e), x0.toInCall.fresh⟩, fun m c z => (x0.cell m c z).sameBut hs' (Nat.ne_of_gt (x0.above m c (mem_of_lookup z))), x0.apart, x0.above⟩
  refine wpAny_mono (wpAny_toks_of (n := 1) (by show 1 ≤ s.toks + 1; omega) (wpAny_bindParams (s₀ := s) (env := newEnv sc s.heap.objs.size gl (cellsFrom (s.heap.objs.size + 1) sc.names []) ql fa cd none bn) _ (fun _ _ _ => rfl) hk r _ _ _
    (fun _ s2 => InCallC s (newEnv sc s.heap.objs.size gl (cellsFrom (s.heap.objs.size + 1) sc.names []) ql fa cd none bn).locals (bindL (newEnv sc s.heap.objs.size gl (cellsFrom (s.heap.objs.size + 1) sc.names []) ql fa cd none bn).kindOf r (fun y => if y = n then some v else none)) (newEnv sc s.heap.objs.size gl (cellsFrom (s.heap.objs.size + 1) sc.names []) ql fa cd none bn).cells (bindC (newEnv sc s.heap.objs.size gl (cellsFrom (s.heap.objs.size + 1) sc.names []) ql fa cd none bn).kindOf r fun _ => none) s2)
    x1 (fun y hy => kinds y (List.mem_cons_of_mem _ hy)) fun s2 x2 => x2)) (fun _ s2 y => wpAny_pure (hq _ rfl s2 ?_ y.1)) fun _ _ z => z.2
  unfold bindL bindC
  rw [if_pos hl, if_pos hl]
  exact y.2
def fstLoc (ps : List Str) (sc : Scope) : Bool := match ps with
  | n :: _ => decide (sc.names.lookup n = some .local)
  | [] => false
theorem bindsFst {ps : List Str} {us : List Value} {sc : Scope} (h : fstLoc ps sc = true) (hl : us.length = ps.length) : ∃ n v r, ps.zip us = (n, v) :: r ∧ sc.names.lookup n = some .local := by
  cases ps with
  | nil => cases h
  | cons n ps =>
    cases us with
    | nil => cases hl
    | cons u us => exact ⟨n, u, _, rfl, of_decide_eq_true h⟩
theorem fnG_ofT {P : Program} {w : World} {K : PySem.W.Frag} {cl : Str → Option Addr} {mg : Str → Option Value} {base : Heap} {k : Nat} {x qual : Str} {st : Stmt} {f : Addr} {dV : Value} {fd : FuncData} {N ps : List Str} {io : List Nat} {g : M Fl} (F : FunD K x qual st f dV fd) (Sc : FnScope N ps (defScope st)) (hfst : fstLoc ps (defScope st) = true)
    (hbody : ∀ (X : Cx) (W : WX) (io' : List (Nat × V)), X.prog = P → X.w = w → X.K = K → X.mg = mg → X.base = base → BodyX X k N (defScope st) W → (∀ q ∈ io', io.contains q.1 = true) → PSsT X (defBody st) (tDS ⟨K, cl, io', P, w, mg, base⟩ W g)) :
    FnG P w K mg base (k + 1) f fd ps (spF K cl ps.length (bodyF N.length ps.length io g)) := by
  obtain ⟨oc, od, kV, doc, pm, an, cdv, ct, osl, rfl, lk, hcd⟩ := F.ex
  refine ⟨fun A outer s H args us vs Q E hr hg e0 hb rv hsp => ?_⟩
  obtain ⟨hl, S, R, os, le, ow, nd, ap, hq⟩ := hsp
  have KX : K.In s.heap := e0.mod.kin.keeps fun b o z => (e0.bs b o z).1
  have lim : s.heap.NoLimit := e0.mod.nolimit.keeps fun b o z => (e0.bs b o z).1
  have kinds : ∀ y ∈ ps.zip us, (defScope st).names.lookup y.1 = some .local ∨ ((defScope st).names.lookup y.1 = some .cell ∧ ((cellsFrom (s.heap.objs.size + 1) (defScope st).names []).lookup y.1).isSome = true) := by
    rintro ⟨n, v⟩ hy
    rcases Sc.par n (List.of_mem_zip hy).1 with z | z
    · exact .inl z
    · exact .inr ⟨z, PySem.W.cellsFrom_some _ _ _ (.inl z)⟩
  refine codeAny_call_function hr.depth (KX _ _ lk) rfl Sc.co Sc.gen rfl (PySem.W.codeRec_of KX hcd) (hb _ _ _ _ ?_)
  refine env_tok Sc.kind kinds (bindsFst hfst (by rw [← rv.length, hl])) fun env he s1 ic htk => ?_
  subst he
  refine ⟨lim.keeps ic.toInCall.keep, codeAny_func ?_⟩
  have I : L2.Inv (cxOf (L2.CX P w) P w K mg base N qual (defScope st) f cdv A outer s H E) [] (L2.start N vs) H s1 := inv_start Sc hr.hd e0 hl rv ic
  have bx : BodyX (cxOf (L2.CX P w) P w K mg base N qual (defScope st) f cdv A outer s H E) k N (defScope st) (fun cls d _ H => E cls d H) :=
    ⟨rfl, rfl, rfl, hr.deeper _, hg, rfl, takes_of rfl rfl rfl rfl, passes_of rfl, rfl, rfl⟩
  have hbd := hbody _ _ (pinsOf io 0 vs) rfl rfl rfl rfl rfl bx (fun q hq => (pins_ge hq).2.1)
  have hpl : ps.length ≤ N.length := by have := congrArg List.length Sc.pre; rw [List.length_take] at this; omega
  unfold bodyF at hq
  have ol : os.length = vs.length := ow.length.symm
  by_cases hin : os.length = ps.length ∧ okIn io 0 os = true
  · rw [if_pos hin] at hq
    have w0 : Wd ⟨K, cl, pinsOf io 0 vs, P, w, mg, base⟩ S H (L2.start N vs) (os.map some ++ List.replicate (N.length - ps.length) none) R := by
      refine ⟨le, ?_, nd, ap, fun q hq => ?_⟩
      · unfold L2.start
        rw [hl]
        exact Sl.start _ ow
      · obtain ⟨h1, h2, h3⟩ := pins_ge hq
        unfold L2.start
        have hlt : q.1 < vs.length := by
          have := (List.getElem?_eq_some_iff.mp h3).1
          omega
        rw [List.getElem?_append_left (by simpa using hlt), List.getElem?_map]
        simp only [Nat.sub_zero] at h3
        rw [h3]; rfl
    have pinned : ∀ {σ' : L2.St} {ρ' : Rho} {S' H' : Hp} {R' : List Addr}, Wd ⟨K, cl, pinsOf io 0 vs, P, w, mg, base⟩ S' H' σ' ρ' R' → ∀ j v, io.contains (0 + j) = true → vs[j]? = some v → σ'[j]? = some (some v) := by
      intro σ' ρ' S' H' R' w' j v hc hv
      have mem : ∀ {vs : List V} {i j : Nat} {v : V}, io.contains (i + j) = true → vs[j]? = some v → (i + j, v) ∈ pinsOf io i vs := by
        intro vs
        induction vs with
        | nil => intro i j v _ h; simp at h
        | cons u us ih =>
          intro i j v hc h
          unfold pinsOf
          cases j with
          | zero =>
            simp at h; subst h
            rw [if_pos (by simpa using hc)]
            exact List.mem_cons_self
          | succ j =>
            have := ih (i := i + 1) (j := j) (v := v) (by rw [show i + 1 + j = i + (j + 1) by omega]; exact hc) (by simpa using h)
            rw [show i + 1 + j = i + (j + 1) by omega] at this
            split
            · exact List.mem_cons_of_mem _ this
            · exact this
      have := w'.io _ (mem (i := 0) hc hv)
      simpa using this
    have go : PoS ⟨K, cl, pinsOf io 0 vs, P, w, mg, base⟩ (fun cls d _ H => E cls d H) S H R { nx := fun _ H' => Q .non H', rt := Q } (g (os.map some ++ List.replicate (N.length - ps.length) none)) := by
      have back : ∀ {σ' : L2.St} {ρ' : Rho} {S' H' : Hp} {R' : List Addr}, okB os ρ' = true → Wd ⟨K, cl, pinsOf io 0 vs, P, w, mg, base⟩ S' H' σ' ρ' R' → ∃ R2, Bk K cl S' H' vs os ρ' R2 ∧ List.Sublist R2 R' := fun {σ' ρ' S' H' R'} hk w' =>
        Sl.back (i := 0) w'.sl ol.symm hin.2 hk (pinned w')
      cases hgr : g (os.map some ++ List.replicate (N.length - ps.length) none) with
      | bad => rw [hgr] at hq; exact hq
      | ok fl ρ' =>
        rw [hgr] at hq
        cases fl with
        | nx =>
          unfold fin at hq
          dsimp only at hq
          split at hq
          · rename_i hk
            intro σ' S' H' R' t w'
            obtain ⟨R2, b, sb⟩ := back hk w'
            exact hq S' H' R2 .non [] w'.le (by simpa using t.less fun b hb => sb.subset hb) b (.dat .non) (by simpa using w'.nd.sublist sb) (fun a ha => w'.ap a (sb.subset (by simpa using ha)))
          · exact hq.elim
        | rt o =>
          unfold fin at hq
          dsimp only at hq
          split at hq
          · rename_i hk
            intro σ' S' H' R' v Rv t w' ow' nd' ap'
            obtain ⟨R2, b, sb⟩ := back hk w'
            have sb2 : List.Sublist (R2 ++ Rv) (R' ++ Rv) := List.Sublist.append sb (List.Sublist.refl _)
            refine hq S' H' R2 v Rv w'.le (t.less fun b hb => sb2.subset hb) b ow' (nd'.sublist sb2) fun a ha => ?_
            rcases List.mem_append.mp ha with z | z
            · exact w'.ap a (sb.subset z)
            · exact ap' a z
          · exact hq.elim
        | bk => exact hq.elim
        | ct => exact hq.elim
      | ex x ρ' =>
        rw [hgr] at hq
        unfold fin at hq
        dsimp only at hq
        split at hq
        · rename_i hk
          intro σ' S' H' R' C dd t w' xr
          obtain ⟨R2, b, sb⟩ := back hk w'
          exact hq S' H' R2 C dd w'.le (t.less fun b hb => sb.subset hb) b (w'.nd.sublist sb) (fun a ha => w'.ap a (sb.subset ha)) xr
        · exact hq.elim
    refine wpAny_mono (hbd [] s1 (L2.start N vs) H _ htk I ⟨_, S, R, w0, go⟩) (fun fl s' hs => ?_) fun e s' hs => hs
    match fl, hs with
    | .ret u, ⟨v, σ', H', J, rv, q⟩ => exact ⟨v, H', J.os, J.bare, J.base, J.hok, rv, q⟩
    | .next, ⟨σ', H', J, q⟩ => exact ⟨.non, H', J.os, J.bare, J.base, J.hok, rfl, q⟩
    | .brk, ⟨_, _, _, q⟩ => exact False.elim q
    | .cont, ⟨_, _, _, q⟩ => exact False.elim q
  · rw [if_neg hin] at hq
    exact hq.elim
section
variable {P : Program} {w : World} {K : PySem.W.Frag} {cl : Str → Option Addr} {mg : Str → Option Value} {base : Heap} {x qual : Str} {st : Stmt} {f : Addr} {fd : FuncData} {dvs : List V} {kws : List (Str × V)} {d : Df} {ps : List Str} {g : M Fl}
theorem fn_mkT (F : L2.FunD K x qual (defArgs st) (defBody st) (defScope st) dvs kws f fd) (hsc : d.sc = defScope st) (Sc : FnScope d.N ps d.sc) (nk : okN d = true) (gk : okG d.sc d.gl = true) (hb : d.blk = false) (B : Bs K mg base) (hfst : fstLoc ps d.sc = true)
    (hbody : ∀ (X : Cx) (p : Pm) (W : WX), p.P = P → p.w = w → p.K = K → p.cl = cl → p.mg = mg → p.base = base → Cn X p W d → PSsT X (defBody st) (tDS p W g)) :
    FnG P w K mg base (d.k + 1) f fd ps (spF K cl ps.length (bodyF d.N.length ps.length d.io g)) := by
  obtain ⟨oc, od, dV, kV, doc, pm, an, cdv, ct, osl, e1, lk, hcd, _, _⟩ := F.ex
  have F2 : PL.FunD K x qual st f dV fd := ⟨⟨oc, od, kV, doc, pm, an, cdv, ct, osl, e1, lk, hcd⟩, F.kp⟩
  rw [hsc] at Sc hfst
  refine fnG_ofT (N := d.N) (io := d.io) F2 Sc hfst fun X W io' h1 h2 h3 h4 h5 bx hio => ?_
  rw [← hsc] at bx
  exact hbody X ⟨K, cl, io', P, w, mg, base⟩ W rfl rfl rfl rfl rfl rfl (cn_of bx h3 (by rw [h5]; exact B.m) Sc.nd nk hb gk (by rw [hsc]; exact Sc.kind) hio (by rw [h4]; exact B.f) h1 h2 h4 h5)
end
end PL

end
-- text G46
section
set_option linter.all false
set_option maxRecDepth 100000
set_option maxHeartbeats 0
namespace K46
open PySem PySem.Spec PyProof.Rows L2 PL
def XS : List Str := ["RowError", "InvalidPattern", "InvalidBar"]
def top (i : Nat) : Stmt := PySem.Challenge.pw_maprows_k46_maps_between_bars.main.body.getD i (.Pass ⟨0, 0, 0, 0⟩)
def mth (i j : Nat) : Stmt := (clsB (top i)).getD j (.Pass ⟨0, 0, 0, 0⟩)
def c_MOST_ARROWS : D := .int 6
def T_OTHER : List (Str × D) := ([(">", "<"), ("<", ">")] : List (Str × Str)).map fun q => (q.1, D.str q.2)
def KTab : KT := []

def N__law_box : List Str := ["_law_cell_here"]
def d__law_box : Df := ⟨N__law_box, ["max", "int"], defScope (top 17), 0, [], [0], false, defScope (top 17)⟩
def g__law_box : M Fl := (mSeq (mRet (mLst (mCons (mCB maxD (mCons (M.ret (.int 0)) (mCons (mBin .Sub (mVar 0) (mBin .Pow (M.ret (.int 10)) (M.ret (.int 18)))) mNil))) (mCons (mBin .Mod (mCB intD (mCons (mVar 0) mNil)) (M.ret (.int 2147483629))) (mCons (M.ret (.int 0)) mNil)))))
  mNx)
def E__law_box : Ent := ⟨"_law_box", ["_law_cell_here"], [], bodyF 1 1 [] g__law_box⟩
theorem b__law_box {X : Cx} {p : Pm} {W : WX} (c : Cn X p W d__law_box) : PSs X (defBody (top 17)) (tDS p W g__law_box) := by
  unfold g__law_box
  exact (ds_cons (ds_ret (do_lst (a_cons (c.max 0 rfl (a_cons de_int (a_cons (c.bin (c.v 0 rfl) (c.bin de_int de_int)) da_nil))) (a_cons (c.bin (c.int 1 rfl (a_cons (c.v 0 rfl) da_nil)) de_int) (a_cons de_int da_nil)))))
  ds_nil)
theorem sc__law_box : FnScope N__law_box ["_law_cell_here"] (defScope (top 17)) := ⟨rfl, rfl, rfl, by decide +kernel, rfl, by decide +kernel, by decide +kernel⟩
theorem f__law_box {P : Program} {w : World} {K : PySem.W.Frag} {mg : Str → Option Value} {base : Heap} (B : Bs K mg base) {dvs : List V} {f : Addr} {fd : FuncData} (F : L2.FunD K "_law_box" "_law_box" (defArgs (top 17)) (defBody (top 17)) (defScope (top 17)) dvs [] f fd) :
    FnG P w K mg base 1 f fd ["_law_cell_here"] (spF K (clOf K XS) 1 E__law_box.F) := by
  refine fn_mk (d := d__law_box) (g := g__law_box) F rfl sc__law_box (by decide +kernel) (by decide +kernel) rfl B fun X p W h1 h2 h3 h4 h5 h6 c => ?_
  subst h1 h2 h3 h5 h6
  exact b__law_box c 
theorem n__law_box {P : Program} {w : World} {K : PySem.W.Frag} {mg : Str → Option Value} {base : Heap} (B : Bs K mg base) (F : ∃ fd, L2.FunD K "_law_box" "_law_box" (defArgs (top 17)) (defBody (top 17)) (defScope (top 17)) [] [] (He.ga K "_law_box") fd) (hm : mg "_law_box" = some (.ref (He.ga K "_law_box"))) :
    EntOk P w K (clOf K XS) mg base 1 E__law_box := by
  obtain ⟨fd, F⟩ := F
  exact entN F hm rfl (f__law_box B  F) fun _ _ _ _ _ _ us hl => match us, hl with | [_], _ => rfl

def N__law_take : List Str := ["_law_box_here", "_law_many", "_law_digit", "_law_blend"]
def d__law_take : Df := ⟨N__law_take, ["int"], defScope (top 18), 0, [0], [0, 1, 2, 3], false, defScope (top 18)⟩
def g__law_take : M Fl := (mSeq (mIf (mBorT (mTst (mCmp .Gt (mOwnIx 0 (M.ret (.int 0))) (M.ret (.int 0))))) (mSeq (mSet 2 (asO (mBin .Mod (mCB intD (mCons (mOwnIx 0 (M.ret (.int 0))) mNil)) (mVar 1))))
  (mSeq (mSetIx 0 (mBin .FloorDiv (mOwnIx 0 (M.ret (.int 0))) (mVar 1)) (M.ret (.int 0)))
  (mSeq (mRet (asO (mVar 2)))
  mNx))) mNx)
  (mSeq (mSetIx 0 (mBin .Add (mOwnIx 0 (M.ret (.int 2))) (M.ret (.int 1))) (M.ret (.int 2)))
  (mSeq (mSet 3 (asO (mBin .Mod (mBin .Pow (mCB intD (mCons (mBin .Add (mBin .Add (mOwnIx 0 (M.ret (.int 1))) (mBin .Mult (M.ret (.int 9473)) (mOwnIx 0 (M.ret (.int 2))))) (M.ret (.int 271))) mNil)) (M.ret (.int 5))) (M.ret (.int 2147483647)))))
  (mSeq (mSet 3 (asO (mBin .Mod (mBin .Pow (mCB intD (mCons (mBin .Add (mVar 3) (mBin .Mult (M.ret (.int 72493)) (mOwnIx 0 (M.ret (.int 2))))) mNil)) (M.ret (.int 3))) (M.ret (.int 2147483587)))))
  (mSeq (mRet (asO (mBin .Mod (mCB intD (mCons (mBin .FloorDiv (mVar 3) (M.ret (.int 16))) mNil)) (mVar 1))))
  mNx)))))
def E__law_take : Ent := ⟨"_law_take", ["_law_box_here", "_law_many"], [], bodyF 4 2 [0] g__law_take⟩
theorem b__law_take {X : Cx} {p : Pm} {W : WX} (c : Cn X p W d__law_take) : PSs X (defBody (top 18)) (tDS p W g__law_take) := by
  unfold g__law_take
  exact (ds_cons (ds_if (t_bor (c.tcmp (c.vix 0 rfl de_int (fun _ _ => rfl)) de_int rfl)) (ds_cons (c.set 2 rfl rfl (e_asO (c.bin (c.int 0 rfl (a_cons (c.vix 0 rfl de_int (fun _ _ => rfl)) da_nil)) (c.v 1 rfl))))
  (ds_cons (c.setIx 0 rfl (c.bin (c.vix 0 rfl de_int (fun _ _ => rfl)) (c.v 1 rfl)) de_int)
  (ds_cons (ds_ret (e_asO (c.v 2 rfl)))
  ds_nil))) ds_nil)
  (ds_cons (c.setIx 0 rfl (c.bin (c.vix 0 rfl de_int (fun _ _ => rfl)) de_int) de_int)
  (ds_cons (c.set 3 rfl rfl (e_asO (c.bin (c.bin (c.int 0 rfl (a_cons (c.bin (c.bin (c.vix 0 rfl de_int (fun _ _ => rfl)) (c.bin de_int (c.vix 0 rfl de_int (fun _ _ => rfl)))) de_int) da_nil)) de_int) de_int)))
  (ds_cons (c.set 3 rfl rfl (e_asO (c.bin (c.bin (c.int 0 rfl (a_cons (c.bin (c.v 3 rfl) (c.bin de_int (c.vix 0 rfl de_int (fun _ _ => rfl)))) da_nil)) de_int) de_int)))
  (ds_cons (ds_ret (e_asO (c.bin (c.int 0 rfl (a_cons (c.bin (c.v 3 rfl) de_int) da_nil)) (c.v 1 rfl))))
  ds_nil)))))
theorem sc__law_take : FnScope N__law_take ["_law_box_here", "_law_many"] (defScope (top 18)) := ⟨rfl, rfl, rfl, by decide +kernel, rfl, by decide +kernel, by decide +kernel⟩
theorem f__law_take {P : Program} {w : World} {K : PySem.W.Frag} {mg : Str → Option Value} {base : Heap} (B : Bs K mg base) {dvs : List V} {f : Addr} {fd : FuncData} (F : L2.FunD K "_law_take" "_law_take" (defArgs (top 18)) (defBody (top 18)) (defScope (top 18)) dvs [] f fd) :
    FnG P w K mg base 1 f fd ["_law_box_here", "_law_many"] (spF K (clOf K XS) 2 E__law_take.F) := by
  refine fn_mk (d := d__law_take) (g := g__law_take) F rfl sc__law_take (by decide +kernel) (by decide +kernel) rfl B fun X p W h1 h2 h3 h4 h5 h6 c => ?_
  subst h1 h2 h3 h5 h6
  exact b__law_take c 
theorem n__law_take {P : Program} {w : World} {K : PySem.W.Frag} {mg : Str → Option Value} {base : Heap} (B : Bs K mg base) (F : ∃ fd, L2.FunD K "_law_take" "_law_take" (defArgs (top 18)) (defBody (top 18)) (defScope (top 18)) [] [] (He.ga K "_law_take") fd) (hm : mg "_law_take" = some (.ref (He.ga K "_law_take"))) :
    EntOk P w K (clOf K XS) mg base 1 E__law_take := by
  obtain ⟨fd, F⟩ := F
  exact entN F hm rfl (f__law_take B  F) fun _ _ _ _ _ _ us hl => match us, hl with | [_, _], _ => rfl

def N__law_arrows : List Str := ["_law_box_here", "_law_most", "_law_k"]
def d__law_arrows : Df := ⟨N__law_arrows, ["range", "_law_take"], defScope (top 19), 1, [0], [0, 1], false, defScope (top 19)⟩
def g__law_arrows : M Fl := (mSeq (mRet (asO (mJoin (M.ret (.str "")) (asD (mLc [2] (mRng1 (mCons (asD (mCall E__law_take (xSlot 0 (xCons (mBin .Add (mVar 1) (M.ret (.int 1))) xNil)))) mNil)) (gSet 2) (M.ret true) (asO (mIx (M.ret (.str "><")) (asD (mCall E__law_take (xSlot 0 (xCons (M.ret (.int 2)) xNil)))))))))))
  mNx)
def E__law_arrows : Ent := ⟨"_law_arrows", ["_law_box_here", "_law_most"], [], bodyF 3 2 [0] g__law_arrows⟩
theorem b__law_arrows {X : Cx} {p : Pm} {W : WX} (c : Cn X p W d__law_arrows) (e__law_take : EntOk p.P p.w p.K p.cl p.mg p.base 1 E__law_take) : PSs X (defBody (top 19)) (tDS p W g__law_arrows) := by
  unfold g__law_arrows
  exact (ds_cons (ds_ret (e_asO (c.join de_str (e_asD (c.lc [("_law_k", 2)] ["_law_take"] [2, 0] 1 (c.rng1 0 rfl (a_cons (e_asD (c.call e__law_take (by decide) 1 rfl (c.slot 0 rfl (x_cons (c.bin (c.v 1 rfl) de_int) dx_nil)))) da_nil)) (fun X' c => (c.bname 2 rfl rfl)) (fun X' c => ts_nil) (fun X' c => (e_asO (c.ixx de_str (e_asD (c.call e__law_take (by decide) 0 rfl (c.slot 0 rfl (x_cons de_int dx_nil)))) (fun _ _ => rfl)))))))))
  ds_nil)
theorem sc__law_arrows : FnScope N__law_arrows ["_law_box_here", "_law_most"] (defScope (top 19)) := ⟨rfl, rfl, rfl, by decide +kernel, rfl, by decide +kernel, by decide +kernel⟩
theorem f__law_arrows {P : Program} {w : World} {K : PySem.W.Frag} {mg : Str → Option Value} {base : Heap} (B : Bs K mg base) (e__law_take : EntOk P w K (clOf K XS) mg base 1 E__law_take) {dvs : List V} {f : Addr} {fd : FuncData} (F : L2.FunD K "_law_arrows" "_law_arrows" (defArgs (top 19)) (defBody (top 19)) (defScope (top 19)) dvs [] f fd) :
    FnG P w K mg base 2 f fd ["_law_box_here", "_law_most"] (spF K (clOf K XS) 2 E__law_arrows.F) := by
  refine fn_mk (d := d__law_arrows) (g := g__law_arrows) F rfl sc__law_arrows (by decide +kernel) (by decide +kernel) rfl B fun X p W h1 h2 h3 h4 h5 h6 c => ?_
  subst h1 h2 h3 h5 h6
  rw [← h4] at e__law_take
  exact b__law_arrows c e__law_take
theorem n__law_arrows {P : Program} {w : World} {K : PySem.W.Frag} {mg : Str → Option Value} {base : Heap} (B : Bs K mg base) (e__law_take : EntOk P w K (clOf K XS) mg base 1 E__law_take) (F : ∃ fd, L2.FunD K "_law_arrows" "_law_arrows" (defArgs (top 19)) (defBody (top 19)) (defScope (top 19)) [] [] (He.ga K "_law_arrows") fd) (hm : mg "_law_arrows" = some (.ref (He.ga K "_law_arrows"))) :
    EntOk P w K (clOf K XS) mg base 2 E__law_arrows := by
  obtain ⟨fd, F⟩ := F
  exact entN F hm rfl (f__law_arrows B e__law_take F) fun _ _ _ _ _ _ us hl => match us, hl with | [_, _], _ => rfl

def N__law_cell : List Str := ["_law_script", "_law_k"]
def d__law_cell : Df := ⟨N__law_cell, ["len"], defScope (top 16), 0, [], [0, 1], false, defScope (top 16)⟩
def g__law_cell : M Fl := (mSeq (mIf (mBorT (mTst (mCmp .Lt (mVar 1) (mLenS 0)))) (mSeq (mRet (asO (mOwnIx 0 (mVar 1))))
  mNx) mNx)
  (mSeq (mRet (asO (mBin .Add (mBin .Mult (M.ret (.int 49979687)) (mVar 1)) (M.ret (.int 6427)))))
  mNx))
def E__law_cell : Ent := ⟨"_law_cell", ["_law_script", "_law_k"], [], bodyF 2 2 [] g__law_cell⟩
theorem b__law_cell {X : Cx} {p : Pm} {W : WX} (c : Cn X p W d__law_cell) : PSs X (defBody (top 16)) (tDS p W g__law_cell) := by
  unfold g__law_cell
  exact (ds_cons (ds_if (t_bor (c.tcmp (c.v 1 rfl) (c.lenS 0 0 rfl rfl) rfl)) (ds_cons (ds_ret (e_asO (c.vix 0 rfl (c.v 1 rfl) (fun _ _ => rfl))))
  ds_nil) ds_nil)
  (ds_cons (ds_ret (e_asO (c.bin (c.bin de_int (c.v 1 rfl)) de_int)))
  ds_nil))
theorem sc__law_cell : FnScope N__law_cell ["_law_script", "_law_k"] (defScope (top 16)) := ⟨rfl, rfl, rfl, by decide +kernel, rfl, by decide +kernel, by decide +kernel⟩
theorem f__law_cell {P : Program} {w : World} {K : PySem.W.Frag} {mg : Str → Option Value} {base : Heap} (B : Bs K mg base) {dvs : List V} {f : Addr} {fd : FuncData} (F : L2.FunD K "_law_cell" "_law_cell" (defArgs (top 16)) (defBody (top 16)) (defScope (top 16)) dvs [] f fd) :
    FnG P w K mg base 1 f fd ["_law_script", "_law_k"] (spF K (clOf K XS) 2 E__law_cell.F) := by
  refine fn_mk (d := d__law_cell) (g := g__law_cell) F rfl sc__law_cell (by decide +kernel) (by decide +kernel) rfl B fun X p W h1 h2 h3 h4 h5 h6 c => ?_
  subst h1 h2 h3 h5 h6
  exact b__law_cell c 
theorem n__law_cell {P : Program} {w : World} {K : PySem.W.Frag} {mg : Str → Option Value} {base : Heap} (B : Bs K mg base) (F : ∃ fd, L2.FunD K "_law_cell" "_law_cell" (defArgs (top 16)) (defBody (top 16)) (defScope (top 16)) [] [] (He.ga K "_law_cell") fd) (hm : mg "_law_cell" = some (.ref (He.ga K "_law_cell"))) :
    EntOk P w K (clOf K XS) mg base 1 E__law_cell := by
  obtain ⟨fd, F⟩ := F
  exact entN F hm rfl (f__law_cell B  F) fun _ _ _ _ _ _ us hl => match us, hl with | [_, _], _ => rfl

def N__law_bars : List Str := ["_law_arrows_here", "_law_found", "_law_first", "_law_last"]
def d__law_bars : Df := ⟨N__law_bars, ["range", "len"], defScope (top 20), 0, [], [0, 1, 2], false, defScope (top 20)⟩
def g__law_bars : M Fl := (mSeq (mSet 1 (mLst mNil))
  (mSeq (mFor (mRng1 (mCons (mBin .Add (mLenS 0) (M.ret (.int 1))) mNil)) (gSet 2) (mSeq (mSet 1 (asO (mBin .Add (mVar 1) (asD (mLc [3] (mRng2 (mCons (mVar 2) (mCons (mBin .Add (mLenS 0) (M.ret (.int 1))) mNil))) (gSet 3) (M.ret true) (asO (mTup (mCons (mVar 2) (mCons (mVar 3) mNil)))))))))
  mNx))
  (mSeq (mRet (asO (mVar 1)))
  mNx)))
def E__law_bars : Ent := ⟨"_law_bars", ["_law_arrows_here"], [], bodyF 4 1 [] g__law_bars⟩
theorem b__law_bars {X : Cx} {p : Pm} {W : WX} (c : Cn X p W d__law_bars) : PSs X (defBody (top 20)) (tDS p W g__law_bars) := by
  unfold g__law_bars
  exact (ds_cons (c.set 1 rfl rfl (do_lst da_nil))
  (ds_cons (c.for (c.rng1 0 rfl (a_cons (c.bin (c.lenS 1 0 rfl rfl) de_int) da_nil)) (c.gname 2 rfl rfl) (ds_cons (c.set 1 rfl rfl (e_asO (c.bin (c.v 1 rfl) (e_asD (c.lc [("_law_last", 3)] [] [3, 2] 0 (c.rng2 0 rfl (a_cons (c.v 2 rfl) (a_cons (c.bin (c.lenS 1 0 rfl rfl) de_int) da_nil))) (fun X' c => (c.bname 3 rfl rfl)) (fun X' c => ts_nil) (fun X' c => (e_asO (de_tup (a_cons (c.v 2 rfl) (a_cons (c.v 3 rfl) da_nil))))))))))
  ds_nil))
  (ds_cons (ds_ret (e_asO (c.v 1 rfl)))
  ds_nil)))
theorem sc__law_bars : FnScope N__law_bars ["_law_arrows_here"] (defScope (top 20)) := ⟨rfl, rfl, rfl, by decide +kernel, rfl, by decide +kernel, by decide +kernel⟩
theorem f__law_bars {P : Program} {w : World} {K : PySem.W.Frag} {mg : Str → Option Value} {base : Heap} (B : Bs K mg base) {dvs : List V} {f : Addr} {fd : FuncData} (F : L2.FunD K "_law_bars" "_law_bars" (defArgs (top 20)) (defBody (top 20)) (defScope (top 20)) dvs [] f fd) :
    FnG P w K mg base 1 f fd ["_law_arrows_here"] (spF K (clOf K XS) 1 E__law_bars.F) := by
  refine fn_mk (d := d__law_bars) (g := g__law_bars) F rfl sc__law_bars (by decide +kernel) (by decide +kernel) rfl B fun X p W h1 h2 h3 h4 h5 h6 c => ?_
  subst h1 h2 h3 h5 h6
  exact b__law_bars c 
theorem n__law_bars {P : Program} {w : World} {K : PySem.W.Frag} {mg : Str → Option Value} {base : Heap} (B : Bs K mg base) (F : ∃ fd, L2.FunD K "_law_bars" "_law_bars" (defArgs (top 20)) (defBody (top 20)) (defScope (top 20)) [] [] (He.ga K "_law_bars") fd) (hm : mg "_law_bars" = some (.ref (He.ga K "_law_bars"))) :
    EntOk P w K (clOf K XS) mg base 1 E__law_bars := by
  obtain ⟨fd, F⟩ := F
  exact entN F hm rfl (f__law_bars B  F) fun _ _ _ _ _ _ us hl => match us, hl with | [_], _ => rfl

def N__law_is_map : List Str := ["_law_arrows_here", "_law_bar", "_law_other", "_law_held", "_law_place", "_law_k", "_law_sign", "_law_begin", "_law_end", "_law_first"]
def d__law_is_map : Df := ⟨N__law_is_map, ["range", "len", "enumerate", "int"], defScope (top 21), 0, [], [0, 1, 2, 3, 5, 6, 7, 8, 9], false, defScope (top 21)⟩
def g__law_is_map : M Fl := (mSeq (mSet 3 (mLc [4] (mRng1 (mCons (mBin .Add (mLenS 0) (M.ret (.int 1))) mNil)) (gSet 4) (M.ret true) (asO (mCB intD (mCons (mAndV (mCh (mOwnIx 1 (M.ret (.int 0))) [.LtE, .LtE] [(mVar 4), (mOwnIx 1 (M.ret (.int 1)))]) (mCh (mOwnIx 2 (M.ret (.int 0))) [.LtE, .LtE] [(mVar 4), (mOwnIx 2 (M.ret (.int 1)))])) mNil)))))
  (mSeq (mFor (mEnum (mCons (mVar 0) mNil)) (gTupD [5, 6]) (mSeq (mAsgT [7, 8] (mIf (mTst (mCmp .Eq (mVar 6) (M.ret (.str ">")))) (mTup (mCons (mVar 5) (mCons (mBin .Add (mVar 5) (M.ret (.int 1))) mNil))) (mTup (mCons (mBin .Add (mVar 5) (M.ret (.int 1))) (mCons (mVar 5) mNil)))))
  (mSeq (mSet 9 (asO (mBin .Mult (mCB intD (mCons (mAndV (mCmp .LtE (mOwnIx 1 (M.ret (.int 0))) (mVar 5)) (mCmp .LtE (mBin .Add (mVar 5) (M.ret (.int 1))) (mOwnIx 1 (M.ret (.int 1))))) mNil)) (mOwnIx 3 (mVar 8)))))
  (mSeq (mIf (mBorT (mTst (mCmp .NotEq (mVar 9) (mBin .Mult (mOwnIx 3 (mVar 7)) (mCB intD (mCons (mAndV (mCmp .LtE (mOwnIx 2 (M.ret (.int 0))) (mVar 5)) (mCmp .LtE (mBin .Add (mVar 5) (M.ret (.int 1))) (mOwnIx 2 (M.ret (.int 1))))) mNil)))))) (mSeq (mRet (asO (M.ret (.bl false))))
  mNx) mNx)
  mNx))))
  (mSeq (mRet (asO (mBor (mCmp .In (M.ret (.int 1)) (mVar 3)))))
  mNx)))
def E__law_is_map : Ent := ⟨"_law_is_map", ["_law_arrows_here", "_law_bar", "_law_other"], [], bodyF 10 3 [] g__law_is_map⟩
theorem b__law_is_map {X : Cx} {p : Pm} {W : WX} (c : Cn X p W d__law_is_map) : PSs X (defBody (top 21)) (tDS p W g__law_is_map) := by
  unfold g__law_is_map
  exact (ds_cons (c.setLc 3 rfl rfl (by decide +kernel) [("_law_place", 4)] ["int"] [4, 1, 2] 0 (c.rng1 0 rfl (a_cons (c.bin (c.lenS 1 0 rfl rfl) de_int) da_nil)) (fun X' c => (c.bname 4 rfl rfl)) (fun X' c => ts_nil) (fun X' c => (e_asO (c.int 0 rfl (a_cons (c.and (c.chain (c.vix 1 rfl de_int (fun _ _ => rfl)) (c.v 4 rfl) (c.vix 1 rfl de_int (fun _ _ => rfl)) .nil rfl) (de_one (c.chain (c.vix 2 rfl de_int (fun _ _ => rfl)) (c.v 4 rfl) (c.vix 2 rfl de_int (fun _ _ => rfl)) .nil rfl))) da_nil)))) (c.swT (by decide +kernel) rfl (by decide +kernel)))
  (ds_cons (c.for (c.enum 2 rfl (a_cons (c.v 0 rfl) da_nil)) (c.gtup (c.nat 5 rfl rfl (c.nat 6 rfl rfl .nil))) (ds_cons (c.asgT (c.nat 7 rfl rfl (c.nat 8 rfl rfl .nil)) (de_if (c.tcmp (c.v 6 rfl) de_str rfl) (de_tup (a_cons (c.v 5 rfl) (a_cons (c.bin (c.v 5 rfl) de_int) da_nil))) (de_tup (a_cons (c.bin (c.v 5 rfl) de_int) (a_cons (c.v 5 rfl) da_nil)))) rfl)
  (ds_cons (c.set 9 rfl rfl (e_asO (c.bin (c.int 3 rfl (a_cons (c.and (c.cmp (c.vix 1 rfl de_int (fun _ _ => rfl)) (c.v 5 rfl) rfl) (de_one (c.cmp (c.bin (c.v 5 rfl) de_int) (c.vix 1 rfl de_int (fun _ _ => rfl)) rfl))) da_nil)) (c.vix 3 rfl (c.v 8 rfl) (fun _ _ => rfl)))))
  (ds_cons (ds_if (t_bor (c.tcmp (c.v 9 rfl) (c.bin (c.vix 3 rfl (c.v 7 rfl) (fun _ _ => rfl)) (c.int 3 rfl (a_cons (c.and (c.cmp (c.vix 2 rfl de_int (fun _ _ => rfl)) (c.v 5 rfl) rfl) (de_one (c.cmp (c.bin (c.v 5 rfl) de_int) (c.vix 2 rfl de_int (fun _ _ => rfl)) rfl))) da_nil))) rfl)) (ds_cons (ds_ret (e_asO de_bl))
  ds_nil) ds_nil)
  ds_nil))))
  (ds_cons (ds_ret (e_asO (e_bor (c.cmp de_int (c.v 3 rfl) rfl))))
  ds_nil)))
theorem sc__law_is_map : FnScope N__law_is_map ["_law_arrows_here", "_law_bar", "_law_other"] (defScope (top 21)) := ⟨rfl, rfl, rfl, by decide +kernel, rfl, by decide +kernel, by decide +kernel⟩
theorem f__law_is_map {P : Program} {w : World} {K : PySem.W.Frag} {mg : Str → Option Value} {base : Heap} (B : Bs K mg base) {dvs : List V} {f : Addr} {fd : FuncData} (F : L2.FunD K "_law_is_map" "_law_is_map" (defArgs (top 21)) (defBody (top 21)) (defScope (top 21)) dvs [] f fd) :
    FnG P w K mg base 1 f fd ["_law_arrows_here", "_law_bar", "_law_other"] (spF K (clOf K XS) 3 E__law_is_map.F) := by
  refine fn_mk (d := d__law_is_map) (g := g__law_is_map) F rfl sc__law_is_map (by decide +kernel) (by decide +kernel) rfl B fun X p W h1 h2 h3 h4 h5 h6 c => ?_
  subst h1 h2 h3 h5 h6
  exact b__law_is_map c 
theorem n__law_is_map {P : Program} {w : World} {K : PySem.W.Frag} {mg : Str → Option Value} {base : Heap} (B : Bs K mg base) (F : ∃ fd, L2.FunD K "_law_is_map" "_law_is_map" (defArgs (top 21)) (defBody (top 21)) (defScope (top 21)) [] [] (He.ga K "_law_is_map") fd) (hm : mg "_law_is_map" = some (.ref (He.ga K "_law_is_map"))) :
    EntOk P w K (clOf K XS) mg base 1 E__law_is_map := by
  obtain ⟨fd, F⟩ := F
  exact entN F hm rfl (f__law_is_map B  F) fun _ _ _ _ _ _ us hl => match us, hl with | [_, _, _], _ => rfl

def N_is_pattern : List Str := ["value", "sign"]
def d_is_pattern : Df := ⟨N_is_pattern, ["isinstance", "str", "len", "MOST_ARROWS", "all"], defScope (top 9), 0, [], [0], false, defScope (top 9)⟩
def g_is_pattern : M Fl := (mSeq (mRet (asO (mBor (mAndV (mCB isiD (mCons (mVar 0) (mCons (M.ret (.ty "str")) mNil))) (mAndV (mCmp .LtE (mLenS 0) (M.ret c_MOST_ARROWS)) (mCB allD (mCons (asD (mLc [1] (mItems (mVar 0)) (gSet 1) (M.ret true) (asO (mInK T_OTHER (mVar 1))))) mNil)))))))
  mNx)
def E_is_pattern : Ent := ⟨"is_pattern", ["value"], [], bodyF 2 1 [] g_is_pattern⟩
theorem b_is_pattern {X : Cx} {p : Pm} {W : WX} (c : Cn X p W d_is_pattern) (k_MOST_ARROWS : Cst p.K p.cl p.mg "MOST_ARROWS" c_MOST_ARROWS) (kd_OTHER : KdOk p.K p.w p.cl p.mg "OTHER" T_OTHER) : PSs X (defBody (top 9)) (tDS p W g_is_pattern) := by
  unfold g_is_pattern
  exact (ds_cons (ds_ret (e_asO (e_bor (c.and (c.isinstance 0 rfl (a_cons (c.v 0 rfl) (a_cons (c.ty 1 rfl mem_str bb_str) da_nil))) (c.and (c.cmp (c.lenS 2 0 rfl rfl) (c.cst k_MOST_ARROWS 3 rfl) rfl) (de_one (c.all 4 rfl (a_cons (e_asD (c.lc [("sign", 1)] ["OTHER"] [1] 0 (c.seq (c.v 0 rfl)) (fun X' c => (c.bname 1 rfl rfl)) (fun X' c => ts_nil) (fun X' c => (e_asO (c.inK kd_OTHER 0 rfl (c.v 1 rfl)))))) da_nil))))))))
  ds_nil)
theorem sc_is_pattern : FnScope N_is_pattern ["value"] (defScope (top 9)) := ⟨rfl, rfl, rfl, by decide +kernel, rfl, by decide +kernel, by decide +kernel⟩
theorem f_is_pattern {P : Program} {w : World} {K : PySem.W.Frag} {mg : Str → Option Value} {base : Heap} (B : Bs K mg base) (k_MOST_ARROWS : Cst K (clOf K XS) mg "MOST_ARROWS" c_MOST_ARROWS) (kd_OTHER : KdOk K w (clOf K XS) mg "OTHER" T_OTHER) {dvs : List V} {f : Addr} {fd : FuncData} (F : L2.FunD K "is_pattern" "is_pattern" (defArgs (top 9)) (defBody (top 9)) (defScope (top 9)) dvs [] f fd) :
    FnG P w K mg base 1 f fd ["value"] (spF K (clOf K XS) 1 E_is_pattern.F) := by
  refine fn_mk (d := d_is_pattern) (g := g_is_pattern) F rfl sc_is_pattern (by decide +kernel) (by decide +kernel) rfl B fun X p W h1 h2 h3 h4 h5 h6 c => ?_
  subst h1 h2 h3 h5 h6
  rw [← h4] at k_MOST_ARROWS kd_OTHER
  exact b_is_pattern c k_MOST_ARROWS kd_OTHER
theorem n_is_pattern {P : Program} {w : World} {K : PySem.W.Frag} {mg : Str → Option Value} {base : Heap} (B : Bs K mg base) (k_MOST_ARROWS : Cst K (clOf K XS) mg "MOST_ARROWS" c_MOST_ARROWS) (kd_OTHER : KdOk K w (clOf K XS) mg "OTHER" T_OTHER) (F : ∃ fd, L2.FunD K "is_pattern" "is_pattern" (defArgs (top 9)) (defBody (top 9)) (defScope (top 9)) [] [] (He.ga K "is_pattern") fd) (hm : mg "is_pattern" = some (.ref (He.ga K "is_pattern"))) :
    EntOk P w K (clOf K XS) mg base 1 E_is_pattern := by
  obtain ⟨fd, F⟩ := F
  exact entN F hm rfl (f_is_pattern B k_MOST_ARROWS kd_OTHER F) fun _ _ _ _ _ _ us hl => match us, hl with | [_], _ => rfl

def N_need_pattern : List Str := ["pattern"]
def d_need_pattern : Df := ⟨N_need_pattern, ["is_pattern", "InvalidPattern"], defScope (top 10), 2, [], [0], false, defScope (top 10)⟩
def g_need_pattern : M Fl := (mSeq (mIf (mBorT (mNot (mTru (asD (mCall E_is_pattern (xCons (mVar 0) xNil)))))) (mSeq (mRaise "InvalidPattern" "value" (mVar 0))
  mNx) mNx)
  mNx)
def E_need_pattern : Ent := ⟨"need_pattern", ["pattern"], [], bodyF 1 1 [] g_need_pattern⟩
theorem b_need_pattern {X : Cx} {p : Pm} {W : WX} (c : Cn X p W d_need_pattern) (e_is_pattern : EntOk p.P p.w p.K p.cl p.mg p.base 1 E_is_pattern) (x_InvalidPattern : XmOk p.P p.w p.K p.cl p.mg p.base 1 "InvalidPattern" "value") : PSs X (defBody (top 10)) (tDS p W g_need_pattern) := by
  unfold g_need_pattern
  exact (ds_cons (ds_if (t_bor (dt_not (c.tru (e_asD (c.call e_is_pattern (by decide) 0 rfl (x_cons (c.v 0 rfl) dx_nil))) (fun _ => rfl)))) (ds_cons (c.raise x_InvalidPattern (by decide) 1 rfl (c.v 0 rfl))
  ds_nil) ds_nil)
  ds_nil)
theorem sc_need_pattern : FnScope N_need_pattern ["pattern"] (defScope (top 10)) := ⟨rfl, rfl, rfl, by decide +kernel, rfl, by decide +kernel, by decide +kernel⟩
theorem f_need_pattern {P : Program} {w : World} {K : PySem.W.Frag} {mg : Str → Option Value} {base : Heap} (B : Bs K mg base) (e_is_pattern : EntOk P w K (clOf K XS) mg base 1 E_is_pattern) (x_InvalidPattern : XmOk P w K (clOf K XS) mg base 1 "InvalidPattern" "value") {dvs : List V} {f : Addr} {fd : FuncData} (F : L2.FunD K "need_pattern" "need_pattern" (defArgs (top 10)) (defBody (top 10)) (defScope (top 10)) dvs [] f fd) :
    FnG P w K mg base 3 f fd ["pattern"] (spF K (clOf K XS) 1 E_need_pattern.F) := by
  refine fn_mk (d := d_need_pattern) (g := g_need_pattern) F rfl sc_need_pattern (by decide +kernel) (by decide +kernel) rfl B fun X p W h1 h2 h3 h4 h5 h6 c => ?_
  subst h1 h2 h3 h5 h6
  rw [← h4] at e_is_pattern x_InvalidPattern
  exact b_need_pattern c e_is_pattern x_InvalidPattern
theorem n_need_pattern {P : Program} {w : World} {K : PySem.W.Frag} {mg : Str → Option Value} {base : Heap} (B : Bs K mg base) (e_is_pattern : EntOk P w K (clOf K XS) mg base 1 E_is_pattern) (x_InvalidPattern : XmOk P w K (clOf K XS) mg base 1 "InvalidPattern" "value") (F : ∃ fd, L2.FunD K "need_pattern" "need_pattern" (defArgs (top 10)) (defBody (top 10)) (defScope (top 10)) [] [] (He.ga K "need_pattern") fd) (hm : mg "need_pattern" = some (.ref (He.ga K "need_pattern"))) :
    EntOk P w K (clOf K XS) mg base 3 E_need_pattern := by
  obtain ⟨fd, F⟩ := F
  exact entN F hm rfl (f_need_pattern B e_is_pattern x_InvalidPattern F) fun _ _ _ _ _ _ us hl => match us, hl with | [_], _ => rfl

def N_has_map : List Str := ["pattern", "bar", "other", "begin", "end"]
def d_has_map : Df := ⟨N_has_map, ["max", "min"], defScope (top 14), 0, [], [0, 1, 2, 3, 4], false, defScope (top 14)⟩
def g_has_map : M Fl := (mSeq (mPar 3 4 (mCons (mCB maxD (mCons (mOwnIx 1 (M.ret (.int 0))) (mCons (mOwnIx 2 (M.ret (.int 0))) mNil))) (mCons (mCB minD (mCons (mOwnIx 1 (M.ret (.int 1))) (mCons (mOwnIx 2 (M.ret (.int 1))) mNil))) mNil)))
  (mSeq (mIf (mBorT (mTst (mCmp .Gt (mVar 3) (mVar 4)))) (mSeq (mRet (asO (M.ret (.bl false))))
  mNx) mNx)
  (mSeq (mIf (mBorT (mAnd (mTst (mCmp .NotEq (mOwnIx 1 (M.ret (.int 0))) (mOwnIx 2 (M.ret (.int 0))))) (mTst (mCmp .NotEq (mOwnIx 0 (mBin .Sub (mVar 3) (M.ret (.int 1)))) (mIf (mTst (mCmp .Gt (mOwnIx 1 (M.ret (.int 0))) (mOwnIx 2 (M.ret (.int 0))))) (M.ret (.str ">")) (M.ret (.str "<"))))))) (mSeq (mRet (asO (M.ret (.bl false))))
  mNx) mNx)
  (mSeq (mRet (asO (mBor (mOrV (mCmp .Eq (mOwnIx 1 (M.ret (.int 1))) (mOwnIx 2 (M.ret (.int 1)))) (mCmp .Eq (mOwnIx 0 (mVar 4)) (mIf (mTst (mCmp .Gt (mOwnIx 1 (M.ret (.int 1))) (mOwnIx 2 (M.ret (.int 1))))) (M.ret (.str ">")) (M.ret (.str "<"))))))))
  mNx))))
def E_has_map : Ent := ⟨"has_map", ["pattern", "bar", "other"], [], bodyF 5 3 [] g_has_map⟩
theorem b_has_map {X : Cx} {p : Pm} {W : WX} (c : Cn X p W d_has_map) : PSs X (defBody (top 14)) (tDS p W g_has_map) := by
  unfold g_has_map
  exact (ds_cons (c.par 3 4 rfl rfl (by decide) (by decide +kernel) (by decide +kernel) rfl rfl (a_cons (c.max 0 rfl (a_cons (c.vix 1 rfl de_int (fun _ _ => rfl)) (a_cons (c.vix 2 rfl de_int (fun _ _ => rfl)) da_nil))) (a_cons (c.min 1 rfl (a_cons (c.vix 1 rfl de_int (fun _ _ => rfl)) (a_cons (c.vix 2 rfl de_int (fun _ _ => rfl)) da_nil))) da_nil)) rfl rfl rfl rfl rfl)
  (ds_cons (ds_if (t_bor (c.tcmp (c.v 3 rfl) (c.v 4 rfl) rfl)) (ds_cons (ds_ret (e_asO de_bl))
  ds_nil) ds_nil)
  (ds_cons (ds_if (t_bor (L2.PW.pt (dw_and (c.tcmp (c.vix 1 rfl de_int (fun _ _ => rfl)) (c.vix 2 rfl de_int (fun _ _ => rfl)) rfl) (dw_one (c.tcmp (c.vix 0 rfl (c.bin (c.v 3 rfl) de_int) (fun _ _ => rfl)) (de_if (c.tcmp (c.vix 1 rfl de_int (fun _ _ => rfl)) (c.vix 2 rfl de_int (fun _ _ => rfl)) rfl) de_str de_str) rfl))))) (ds_cons (ds_ret (e_asO de_bl))
  ds_nil) ds_nil)
  (ds_cons (ds_ret (e_asO (e_bor (c.or (c.cmp (c.vix 1 rfl de_int (fun _ _ => rfl)) (c.vix 2 rfl de_int (fun _ _ => rfl)) rfl) (de_one (c.cmp (c.vix 0 rfl (c.v 4 rfl) (fun _ _ => rfl)) (de_if (c.tcmp (c.vix 1 rfl de_int (fun _ _ => rfl)) (c.vix 2 rfl de_int (fun _ _ => rfl)) rfl) de_str de_str) rfl))))))
  ds_nil))))
theorem sc_has_map : FnScope N_has_map ["pattern", "bar", "other"] (defScope (top 14)) := ⟨rfl, rfl, rfl, by decide +kernel, rfl, by decide +kernel, by decide +kernel⟩
theorem f_has_map {P : Program} {w : World} {K : PySem.W.Frag} {mg : Str → Option Value} {base : Heap} (B : Bs K mg base) {dvs : List V} {f : Addr} {fd : FuncData} (F : L2.FunD K "has_map" "has_map" (defArgs (top 14)) (defBody (top 14)) (defScope (top 14)) dvs [] f fd) :
    FnG P w K mg base 1 f fd ["pattern", "bar", "other"] (spF K (clOf K XS) 3 E_has_map.F) := by
  refine fn_mk (d := d_has_map) (g := g_has_map) F rfl sc_has_map (by decide +kernel) (by decide +kernel) rfl B fun X p W h1 h2 h3 h4 h5 h6 c => ?_
  subst h1 h2 h3 h5 h6
  exact b_has_map c 
theorem n_has_map {P : Program} {w : World} {K : PySem.W.Frag} {mg : Str → Option Value} {base : Heap} (B : Bs K mg base) (F : ∃ fd, L2.FunD K "has_map" "has_map" (defArgs (top 14)) (defBody (top 14)) (defScope (top 14)) [] [] (He.ga K "has_map") fd) (hm : mg "has_map" = some (.ref (He.ga K "has_map"))) :
    EntOk P w K (clOf K XS) mg base 1 E_has_map := by
  obtain ⟨fd, F⟩ := F
  exact entN F hm rfl (f_has_map B  F) fun _ _ _ _ _ _ us hl => match us, hl with | [_, _, _], _ => rfl

def N_is_integer : List Str := ["value", "low", "high"]
def d_is_integer : Df := ⟨N_is_integer, ["isinstance", "int", "bool"], defScope (top 5), 0, [], [0, 1, 2], false, defScope (top 5)⟩
def g_is_integer : M Fl := (mSeq (mIf (mBorT (mOr (mNot (mTru (mCB isiD (mCons (mVar 0) (mCons (M.ret (.ty "int")) mNil))))) (mTru (mCB isiD (mCons (mVar 0) (mCons (M.ret (.ty "bool")) mNil)))))) (mSeq (mRet (asO (M.ret (.bl false))))
  mNx) mNx)
  (mSeq (mRet (asO (mBor (mAndV (mOrV (mCmp .Is (mVar 1) (M.ret .non)) (mCmp .GtE (mVar 0) (mVar 1))) (mOrV (mCmp .Is (mVar 2) (M.ret .non)) (mCmp .LtE (mVar 0) (mVar 2)))))))
  mNx))
def E_is_integer : Ent := ⟨"is_integer", ["value", "low", "high"], [.non, .non], bodyF 3 3 [] g_is_integer⟩
theorem b_is_integer {X : Cx} {p : Pm} {W : WX} (c : Cn X p W d_is_integer) : PSs X (defBody (top 5)) (tDS p W g_is_integer) := by
  unfold g_is_integer
  exact (ds_cons (ds_if (t_bor (L2.PW.pt (dw_or (dt_not (c.tru (c.isinstance 0 rfl (a_cons (c.v 0 rfl) (a_cons (c.ty 1 rfl mem_int bb_int) da_nil))) (fun _ => rfl))) (dw_one (c.tru (c.isinstance 0 rfl (a_cons (c.v 0 rfl) (a_cons (c.ty 2 rfl mem_bool bb_bool) da_nil))) (fun _ => rfl)))))) (ds_cons (ds_ret (e_asO de_bl))
  ds_nil) ds_nil)
  (ds_cons (ds_ret (e_asO (e_bor (c.and (c.or (c.cmp (c.v 1 rfl) de_non rfl) (de_one (c.cmp (c.v 0 rfl) (c.v 1 rfl) rfl))) (de_one (c.or (c.cmp (c.v 2 rfl) de_non rfl) (de_one (c.cmp (c.v 0 rfl) (c.v 2 rfl) rfl))))))))
  ds_nil))
theorem sc_is_integer : FnScope N_is_integer ["value", "low", "high"] (defScope (top 5)) := ⟨rfl, rfl, rfl, by decide +kernel, rfl, by decide +kernel, by decide +kernel⟩
theorem f_is_integer {P : Program} {w : World} {K : PySem.W.Frag} {mg : Str → Option Value} {base : Heap} (B : Bs K mg base) {dvs : List V} {f : Addr} {fd : FuncData} (F : L2.FunD K "is_integer" "is_integer" (defArgs (top 5)) (defBody (top 5)) (defScope (top 5)) dvs [] f fd) :
    FnG P w K mg base 1 f fd ["value", "low", "high"] (spF K (clOf K XS) 3 E_is_integer.F) := by
  refine fn_mk (d := d_is_integer) (g := g_is_integer) F rfl sc_is_integer (by decide +kernel) (by decide +kernel) rfl B fun X p W h1 h2 h3 h4 h5 h6 c => ?_
  subst h1 h2 h3 h5 h6
  exact b_is_integer c 
theorem n_is_integer {P : Program} {w : World} {K : PySem.W.Frag} {mg : Str → Option Value} {base : Heap} (B : Bs K mg base) (F : ∃ fd, L2.FunD K "is_integer" "is_integer" (defArgs (top 5)) (defBody (top 5)) (defScope (top 5)) [.non, .non] [] (He.ga K "is_integer") fd) (hm : mg "is_integer" = some (.ref (He.ga K "is_integer"))) :
    EntOk P w K (clOf K XS) mg base 1 E_is_integer := by
  obtain ⟨fd, F⟩ := F
  exact entD F hm (by simp) (fun S => (.cons .non (.cons .non .nil))) (f_is_integer B  F) fun _ _ _ _ _ _ _ us its h1 h2 h3 => by
    match its, h1 with
    | [_, _], _ =>
      match us, h2, h3 with
      | [], _, h3 => exact absurd h3 (by simp [E_is_integer])
      | [_], _, _ => exact ⟨_, rfl, rfl⟩
      | [_, _], _, _ => exact ⟨_, rfl, rfl⟩
      | [_, _, _], _, _ => exact ⟨_, rfl, rfl⟩
      | _ :: _ :: _ :: _ :: _, h2, _ => exact absurd h2 (by simp [E_is_integer])

def N_is_bar : List Str := ["pattern", "value", "item"]
def d_is_bar : Df := ⟨N_is_bar, ["isinstance", "tuple", "len", "all"], defScope (top 11), 1, [], [0, 1], false, defScope (top 11)⟩
def g_is_bar : M Fl := (mSeq (mIf (mBorT (mOr (mNot (mTru (mCB isiD (mCons (mVar 1) (mCons (M.ret (.ty "tuple")) mNil))))) (mOr (mTst (mCmp .NotEq (mLenS 1) (M.ret (.int 2)))) (mNot (mTru (mCB allD (mCons (asD (mLc [2] (mItems (mVar 1)) (gSet 2) (M.ret true) (mCall E_is_integer (xCons (mVar 2) xNil)))) mNil))))))) (mSeq (mRet (asO (M.ret (.bl false))))
  mNx) mNx)
  (mSeq (mRet (asO (mBor (mCh (M.ret (.int 0)) [.LtE, .LtE, .LtE] [(mOwnIx 1 (M.ret (.int 0))), (mOwnIx 1 (M.ret (.int 1))), (mLenS 0)]))))
  mNx))
def E_is_bar : Ent := ⟨"is_bar", ["pattern", "value"], [], bodyF 3 2 [] g_is_bar⟩
theorem b_is_bar {X : Cx} {p : Pm} {W : WX} (c : Cn X p W d_is_bar) (e_is_integer : EntOk p.P p.w p.K p.cl p.mg p.base 1 E_is_integer) : PSs X (defBody (top 11)) (tDS p W g_is_bar) := by
  unfold g_is_bar
  exact (ds_cons (ds_if (t_bor (L2.PW.pt (dw_or (dt_not (c.tru (c.isinstance 0 rfl (a_cons (c.v 1 rfl) (a_cons (c.ty 1 rfl mem_tuple bb_tuple) da_nil))) (fun _ => rfl))) (dw_or (c.tcmp (c.lenS 2 1 rfl rfl) de_int rfl) (dw_one (dt_not (c.tru (c.all 3 rfl (a_cons (e_asD (c.lc [("item", 2)] ["is_integer"] [2] 1 (c.seq (c.v 1 rfl)) (fun X' c => (c.bname 2 rfl rfl)) (fun X' c => ts_nil) (fun X' c => (c.call e_is_integer (by decide) 0 rfl (x_cons (c.v 2 rfl) dx_nil))))) da_nil)) (fun _ => rfl)))))))) (ds_cons (ds_ret (e_asO de_bl))
  ds_nil) ds_nil)
  (ds_cons (ds_ret (e_asO (e_bor (c.chain de_int (c.vix 1 rfl de_int (fun _ _ => rfl)) (c.vix 1 rfl de_int (fun _ _ => rfl)) (.cons (c.lenS 2 0 rfl rfl) .nil) rfl))))
  ds_nil))
theorem sc_is_bar : FnScope N_is_bar ["pattern", "value"] (defScope (top 11)) := ⟨rfl, rfl, rfl, by decide +kernel, rfl, by decide +kernel, by decide +kernel⟩
theorem f_is_bar {P : Program} {w : World} {K : PySem.W.Frag} {mg : Str → Option Value} {base : Heap} (B : Bs K mg base) (e_is_integer : EntOk P w K (clOf K XS) mg base 1 E_is_integer) {dvs : List V} {f : Addr} {fd : FuncData} (F : L2.FunD K "is_bar" "is_bar" (defArgs (top 11)) (defBody (top 11)) (defScope (top 11)) dvs [] f fd) :
    FnG P w K mg base 2 f fd ["pattern", "value"] (spF K (clOf K XS) 2 E_is_bar.F) := by
  refine fn_mk (d := d_is_bar) (g := g_is_bar) F rfl sc_is_bar (by decide +kernel) (by decide +kernel) rfl B fun X p W h1 h2 h3 h4 h5 h6 c => ?_
  subst h1 h2 h3 h5 h6
  rw [← h4] at e_is_integer
  exact b_is_bar c e_is_integer
theorem n_is_bar {P : Program} {w : World} {K : PySem.W.Frag} {mg : Str → Option Value} {base : Heap} (B : Bs K mg base) (e_is_integer : EntOk P w K (clOf K XS) mg base 1 E_is_integer) (F : ∃ fd, L2.FunD K "is_bar" "is_bar" (defArgs (top 11)) (defBody (top 11)) (defScope (top 11)) [] [] (He.ga K "is_bar") fd) (hm : mg "is_bar" = some (.ref (He.ga K "is_bar"))) :
    EntOk P w K (clOf K XS) mg base 2 E_is_bar := by
  obtain ⟨fd, F⟩ := F
  exact entN F hm rfl (f_is_bar B e_is_integer F) fun _ _ _ _ _ _ us hl => match us, hl with | [_, _], _ => rfl

def N_leads_into : List Str := ["pattern", "bar", "other", "value"]
def d_leads_into : Df := ⟨N_leads_into, ["need_pattern", "is_bar", "InvalidBar", "has_map"], defScope (top 13), 3, [], [0, 1, 2, 3], false, defScope (top 13)⟩
def g_leads_into : M Fl := (mSeq (mEx (mCall E_need_pattern (xCons (mVar 0) xNil)))
  (mSeq (mFor (mItems (mTup (mCons (mVar 1) (mCons (mVar 2) mNil)))) (gSet 3) (mSeq (mIf (mBorT (mNot (mTru (asD (mCall E_is_bar (xCons (mVar 0) (xCons (mVar 3) xNil))))))) (mSeq (mRaise "InvalidBar" "value" (mVar 3))
  mNx) mNx)
  mNx))
  (mSeq (mRet (mCall E_has_map (xCons (mVar 0) (xCons (mVar 1) (xCons (mVar 2) xNil)))))
  mNx)))
def E_leads_into : Ent := ⟨"leads_into", ["pattern", "bar", "other"], [], bodyF 4 3 [] g_leads_into⟩
theorem b_leads_into {X : Cx} {p : Pm} {W : WX} (c : Cn X p W d_leads_into) (e_need_pattern : EntOk p.P p.w p.K p.cl p.mg p.base 3 E_need_pattern) (e_is_bar : EntOk p.P p.w p.K p.cl p.mg p.base 2 E_is_bar) (x_InvalidBar : XmOk p.P p.w p.K p.cl p.mg p.base 1 "InvalidBar" "value") (e_has_map : EntOk p.P p.w p.K p.cl p.mg p.base 1 E_has_map) : PSs X (defBody (top 13)) (tDS p W g_leads_into) := by
  unfold g_leads_into
  exact (ds_cons (c.ex (c.call e_need_pattern (by decide) 0 rfl (x_cons (c.v 0 rfl) dx_nil)))
  (ds_cons (c.for (c.seq (de_tup (a_cons (c.v 1 rfl) (a_cons (c.v 2 rfl) da_nil)))) (c.gname 3 rfl rfl) (ds_cons (ds_if (t_bor (dt_not (c.tru (e_asD (c.call e_is_bar (by decide) 1 rfl (x_cons (c.v 0 rfl) (x_cons (c.v 3 rfl) dx_nil)))) (fun _ => rfl)))) (ds_cons (c.raise x_InvalidBar (by decide) 2 rfl (c.v 3 rfl))
  ds_nil) ds_nil)
  ds_nil))
  (ds_cons (ds_ret (c.call e_has_map (by decide) 3 rfl (x_cons (c.v 0 rfl) (x_cons (c.v 1 rfl) (x_cons (c.v 2 rfl) dx_nil)))))
  ds_nil)))
theorem sc_leads_into : FnScope N_leads_into ["pattern", "bar", "other"] (defScope (top 13)) := ⟨rfl, rfl, rfl, by decide +kernel, rfl, by decide +kernel, by decide +kernel⟩
theorem f_leads_into {P : Program} {w : World} {K : PySem.W.Frag} {mg : Str → Option Value} {base : Heap} (B : Bs K mg base) (e_need_pattern : EntOk P w K (clOf K XS) mg base 3 E_need_pattern) (e_is_bar : EntOk P w K (clOf K XS) mg base 2 E_is_bar) (x_InvalidBar : XmOk P w K (clOf K XS) mg base 1 "InvalidBar" "value") (e_has_map : EntOk P w K (clOf K XS) mg base 1 E_has_map) {dvs : List V} {f : Addr} {fd : FuncData} (F : L2.FunD K "leads_into" "leads_into" (defArgs (top 13)) (defBody (top 13)) (defScope (top 13)) dvs [] f fd) :
    FnG P w K mg base 4 f fd ["pattern", "bar", "other"] (spF K (clOf K XS) 3 E_leads_into.F) := by
  refine fn_mk (d := d_leads_into) (g := g_leads_into) F rfl sc_leads_into (by decide +kernel) (by decide +kernel) rfl B fun X p W h1 h2 h3 h4 h5 h6 c => ?_
  subst h1 h2 h3 h5 h6
  rw [← h4] at e_need_pattern e_is_bar x_InvalidBar e_has_map
  exact b_leads_into c e_need_pattern e_is_bar x_InvalidBar e_has_map
theorem n_leads_into {P : Program} {w : World} {K : PySem.W.Frag} {mg : Str → Option Value} {base : Heap} (B : Bs K mg base) (e_need_pattern : EntOk P w K (clOf K XS) mg base 3 E_need_pattern) (e_is_bar : EntOk P w K (clOf K XS) mg base 2 E_is_bar) (x_InvalidBar : XmOk P w K (clOf K XS) mg base 1 "InvalidBar" "value") (e_has_map : EntOk P w K (clOf K XS) mg base 1 E_has_map) (F : ∃ fd, L2.FunD K "leads_into" "leads_into" (defArgs (top 13)) (defBody (top 13)) (defScope (top 13)) [] [] (He.ga K "leads_into") fd) (hm : mg "leads_into" = some (.ref (He.ga K "leads_into"))) :
    EntOk P w K (clOf K XS) mg base 4 E_leads_into := by
  obtain ⟨fd, F⟩ := F
  exact entN F hm rfl (f_leads_into B e_need_pattern e_is_bar x_InvalidBar e_has_map F) fun _ _ _ _ _ _ us hl => match us, hl with | [_, _, _], _ => rfl

def N__law_right : List Str := ["_law_arrows_here", "_law_last", "_law_dual", "_law_bar", "_law_other", "_law_due", "_law_mirror", "_law_pair", "_law_found"]
def d__law_right : Df := ⟨N__law_right, ["len", "_law_bars", "_law_is_map", "leads_into", "repr"], defScope (top 23), 4, [], [0, 1, 2, 3, 4, 5, 6, 8], false, defScope (top 23)⟩
def g__law_right : M Fl := (mSeq (mSet 1 (asO (mBor (mLenS 0))))
  (mSeq (mSet 2 (asO (mRepl "x" "<" (mRepl "<" ">" (mRepl ">" "x" (mVar 0))))))
  (mSeq (mFor (mItems (asD (mCall E__law_bars (xCons (mVar 0) xNil)))) (gSet 3) (mSeq (mFor (mItems (asD (mCall E__law_bars (xCons (mVar 0) xNil)))) (gSet 4) (mSeq (mSet 5 (mCall E__law_is_map (xCons (mVar 0) (xCons (mVar 3) (xCons (mVar 4) xNil)))))
  (mSeq (mSet 6 (mLc [7] (mItems (mTup (mCons (mVar 3) (mCons (mVar 4) mNil)))) (gSet 7) (M.ret true) (asO (mTup (mCons (mBin .Sub (mVar 1) (mOwnIx 7 (M.ret (.int 1)))) (mCons (mBin .Sub (mVar 1) (mOwnIx 7 (M.ret (.int 0)))) mNil))))))
  (mSeq (mSet 8 (mLst (mCons (asD (mCall E_leads_into (xCons (mVar 0) (xCons (mVar 3) (xCons (mVar 4) xNil))))) (mCons (asD (mCall E_leads_into (xCons (mVar 2) (xCons (mVar 4) (xCons (mVar 3) xNil))))) mNil))))
  (mSeq (mEx (asO (mMet 8 effApp (mCons (asD (mCall E_leads_into (xCons (mRev (mVar 2)) (xCons (mOwnIx 6 (M.ret (.int 0))) (xCons (mOwnIx 6 (M.ret (.int 1))) xNil))))) mNil))))
  (mSeq (mIf (mBorT (mTst (mCmp .NotEq (mCB repr1 (mCons (mVar 8) mNil)) (mCB repr1 (mCons (mBin .Mult (asD (mLst (mCons (mVar 5) mNil))) (M.ret (.int 3))) mNil))))) (mSeq (mRet (asO (M.ret (.bl false))))
  mNx) mNx)
  mNx))))))
  mNx))
  (mSeq (mRet (asO (M.ret (.bl true))))
  mNx))))
def E__law_right : Ent := ⟨"_law_right", ["_law_arrows_here"], [], bodyF 9 1 [] g__law_right⟩
theorem b__law_right {X : Cx} {p : Pm} {W : WX} (c : Cn X p W d__law_right) (e__law_bars : EntOk p.P p.w p.K p.cl p.mg p.base 1 E__law_bars) (e__law_is_map : EntOk p.P p.w p.K p.cl p.mg p.base 1 E__law_is_map) (e_leads_into : EntOk p.P p.w p.K p.cl p.mg p.base 4 E_leads_into) : PSsT X (defBody (top 23)) (tDS p W g__law_right) := by
  unfold g__law_right
  exact (ds_consT (PST.of (c.set 1 rfl rfl (e_asO (e_bor (c.lenS 0 0 rfl rfl)))))
  (ds_consT (c.setT 2 rfl rfl (et_asO (c.replT (c.replT (c.replC (c.v 0 rfl))))))
  (PSsT.of (ds_cons (c.for (c.seq (e_asD (c.call e__law_bars (by decide) 1 rfl (x_cons (c.v 0 rfl) dx_nil)))) (c.gname 3 rfl rfl) (ds_cons (c.for (c.seq (e_asD (c.call e__law_bars (by decide) 1 rfl (x_cons (c.v 0 rfl) dx_nil)))) (c.gname 4 rfl rfl) (ds_cons (c.set 5 rfl rfl (c.call e__law_is_map (by decide) 2 rfl (x_cons (c.v 0 rfl) (x_cons (c.v 3 rfl) (x_cons (c.v 4 rfl) dx_nil)))))
  (ds_cons (c.setLc 6 rfl rfl (by decide +kernel) [("_law_pair", 7)] [] [7, 1] 4 (c.seq (de_tup (a_cons (c.v 3 rfl) (a_cons (c.v 4 rfl) da_nil)))) (fun X' c => (c.bname 7 rfl rfl)) (fun X' c => ts_nil) (fun X' c => (e_asO (de_tup (a_cons (c.bin (c.v 1 rfl) (c.vix 7 rfl de_int (fun _ _ => rfl))) (a_cons (c.bin (c.v 1 rfl) (c.vix 7 rfl de_int (fun _ _ => rfl))) da_nil))))) (c.swT (by decide +kernel) rfl (by decide +kernel)))
  (ds_cons (c.set 8 rfl rfl (do_lst (a_cons (e_asD (c.call e_leads_into (by decide) 3 rfl (x_cons (c.v 0 rfl) (x_cons (c.v 3 rfl) (x_cons (c.v 4 rfl) dx_nil))))) (a_cons (e_asD (c.call e_leads_into (by decide) 3 rfl (x_cons (c.v 2 rfl) (x_cons (c.v 4 rfl) (x_cons (c.v 3 rfl) dx_nil))))) da_nil))))
  (ds_cons (c.ex (e_asO (c.app 8 rfl (a_cons (e_asD (c.call e_leads_into (by decide) 3 rfl (x_cons (c.rev (c.v 2 rfl)) (x_cons (c.vix 6 rfl de_int (fun _ _ => rfl)) (x_cons (c.vix 6 rfl de_int (fun _ _ => rfl)) dx_nil))))) da_nil))))
  (ds_cons (ds_if (t_bor (c.tcmp (c.repr 4 rfl (a_cons (c.v 8 rfl) da_nil)) (c.repr 4 rfl (a_cons (c.bin (e_asD (do_lst (a_cons (c.v 5 rfl) da_nil))) de_int) da_nil)) rfl)) (ds_cons (ds_ret (e_asO de_bl))
  ds_nil) ds_nil)
  ds_nil))))))
  ds_nil))
  (ds_cons (ds_ret (e_asO de_bl))
  ds_nil)))))
theorem sc__law_right : FnScope N__law_right ["_law_arrows_here"] (defScope (top 23)) := ⟨rfl, rfl, rfl, by decide +kernel, rfl, by decide +kernel, by decide +kernel⟩
theorem f__law_right {P : Program} {w : World} {K : PySem.W.Frag} {mg : Str → Option Value} {base : Heap} (B : Bs K mg base) (e__law_bars : EntOk P w K (clOf K XS) mg base 1 E__law_bars) (e__law_is_map : EntOk P w K (clOf K XS) mg base 1 E__law_is_map) (e_leads_into : EntOk P w K (clOf K XS) mg base 4 E_leads_into) {dvs : List V} {f : Addr} {fd : FuncData} (F : L2.FunD K "_law_right" "_law_right" (defArgs (top 23)) (defBody (top 23)) (defScope (top 23)) dvs [] f fd) :
    FnG P w K mg base 5 f fd ["_law_arrows_here"] (spF K (clOf K XS) 1 E__law_right.F) := by
  refine fn_mkT (d := d__law_right) (g := g__law_right) F rfl sc__law_right (by decide +kernel) (by decide +kernel) rfl B (by decide +kernel) fun X p W h1 h2 h3 h4 h5 h6 c => ?_
  subst h1 h2 h3 h5 h6
  rw [← h4] at e__law_bars e__law_is_map e_leads_into
  exact b__law_right c e__law_bars e__law_is_map e_leads_into
theorem n__law_right {P : Program} {w : World} {K : PySem.W.Frag} {mg : Str → Option Value} {base : Heap} (B : Bs K mg base) (e__law_bars : EntOk P w K (clOf K XS) mg base 1 E__law_bars) (e__law_is_map : EntOk P w K (clOf K XS) mg base 1 E__law_is_map) (e_leads_into : EntOk P w K (clOf K XS) mg base 4 E_leads_into) (F : ∃ fd, L2.FunD K "_law_right" "_law_right" (defArgs (top 23)) (defBody (top 23)) (defScope (top 23)) [] [] (He.ga K "_law_right") fd) (hm : mg "_law_right" = some (.ref (He.ga K "_law_right"))) :
    EntOk P w K (clOf K XS) mg base 5 E__law_right := by
  obtain ⟨fd, F⟩ := F
  exact entN F hm rfl (f__law_right B e__law_bars e__law_is_map e_leads_into F) fun _ _ _ _ _ _ us hl => match us, hl with | [_], _ => rfl

def N__law_caught : List Str := ["_law_arrows_here", "_law_bar", "_law_other", "e"]
def d__law_caught : Df := ⟨N__law_caught, ["leads_into", "RowError", "InvalidBar", "InvalidPattern"], defScope (top 22), 4, [], [0, 1, 2, 3], false, defScope (top 22)⟩
def g__law_caught : M Fl := (mSeq (mTry (mSeq (mRet (mLst (mCons (M.ret (.str "told")) (mCons (asD (mCall E_leads_into (xCons (mVar 0) (xCons (mVar 1) (xCons (mVar 2) xNil))))) mNil))))
  mNx) [⟨"InvalidPattern", some 3, gTxtF "pattern" "value"⟩, ⟨"InvalidBar", some 3, gTxtF "bar" "value"⟩, ⟨"RowError", none, gTxt "other"⟩])
  mNx)
def E__law_caught : Ent := ⟨"_law_caught", ["_law_arrows_here", "_law_bar", "_law_other"], [], bodyF 4 3 [] g__law_caught⟩
theorem b__law_caught {X : Cx} {p : Pm} {W : WX} (c : Cn X p W d__law_caught) (e_leads_into : EntOk p.P p.w p.K p.cl p.mg p.base 4 E_leads_into) (xq : Xs p.K p.mg XS) (hcl : p.cl = clOf p.K XS) : PSs X (defBody (top 22)) (tDS p W g__law_caught) := by
  unfold g__law_caught
  exact (ds_cons (c.tryH xq hcl (fun W1 pn1 xe1 c => (ds_cons (ds_ret (do_lst (a_cons de_str (a_cons (e_asD (c.call e_leads_into (by decide) 0 rfl (x_cons (c.v 0 rfl) (x_cons (c.v 1 rfl) (x_cons (c.v 2 rfl) dx_nil))))) da_nil))))
  ds_nil)) (c.kNamed xq hcl 3 rfl (by decide +kernel) 3 rfl (by decide +kernel) rfl (by decide +kernel) (c.kNamed xq hcl 2 rfl (by decide +kernel) 3 rfl (by decide +kernel) rfl (by decide +kernel) (c.kBare xq hcl 1 rfl (by decide +kernel) h_nil))))
  ds_nil)
theorem sc__law_caught : FnScope N__law_caught ["_law_arrows_here", "_law_bar", "_law_other"] (defScope (top 22)) := ⟨rfl, rfl, rfl, by decide +kernel, rfl, by decide +kernel, by decide +kernel⟩
theorem f__law_caught {P : Program} {w : World} {K : PySem.W.Frag} {mg : Str → Option Value} {base : Heap} (B : Bs K mg base) (e_leads_into : EntOk P w K (clOf K XS) mg base 4 E_leads_into) (xq : Xs K mg XS) {dvs : List V} {f : Addr} {fd : FuncData} (F : L2.FunD K "_law_caught" "_law_caught" (defArgs (top 22)) (defBody (top 22)) (defScope (top 22)) dvs [] f fd) :
    FnG P w K mg base 5 f fd ["_law_arrows_here", "_law_bar", "_law_other"] (spF K (clOf K XS) 3 E__law_caught.F) := by
  refine fn_mk (d := d__law_caught) (g := g__law_caught) F rfl sc__law_caught (by decide +kernel) (by decide +kernel) rfl B fun X p W h1 h2 h3 h4 h5 h6 c => ?_
  subst h1 h2 h3 h5 h6
  rw [← h4] at e_leads_into
  exact b__law_caught c e_leads_into xq h4
theorem n__law_caught {P : Program} {w : World} {K : PySem.W.Frag} {mg : Str → Option Value} {base : Heap} (B : Bs K mg base) (e_leads_into : EntOk P w K (clOf K XS) mg base 4 E_leads_into) (xq : Xs K mg XS) (F : ∃ fd, L2.FunD K "_law_caught" "_law_caught" (defArgs (top 22)) (defBody (top 22)) (defScope (top 22)) [] [] (He.ga K "_law_caught") fd) (hm : mg "_law_caught" = some (.ref (He.ga K "_law_caught"))) :
    EntOk P w K (clOf K XS) mg base 5 E__law_caught := by
  obtain ⟨fd, F⟩ := F
  exact entN F hm rfl (f__law_caught B e_leads_into xq F) fun _ _ _ _ _ _ us hl => match us, hl with | [_, _, _], _ => rfl

def N_law : List Str := ["_law_script", "_law_k", "_law_box_here", "_law_arrows_here", "_law_odd", "_law_many", "_law_found"]
def d_law : Df := ⟨N_law, ["range", "max", "min", "len", "_law_cell", "_law_box", "_law_arrows", "_law_right", "repr", "_law_caught"], defScope (top 24), 5, [], [0, 1, 2, 3, 4, 5, 6], false, defScope (top 24)⟩
def g_law : M Fl := (mSeq (mFor (mRng1 (mCons (mCB maxD (mCons (M.ret (.int 2)) (mCons (mCB minD (mCons (M.ret (.int 8)) (mCons (mLenS 0) mNil))) mNil))) mNil)) (gSet 1) (mSeq (mSet 2 (mCall E__law_box (xCons (asD (mCall E__law_cell (xCons (mVar 0) (xCons (mVar 1) xNil)))) xNil)))
  (mSeq (mSet 3 (mCall E__law_arrows (xSlot 2 (xCons (M.ret (.int 6)) xNil))))
  (mSeq (mIf (mBorT (mNot (mTru (asD (mCall E__law_right (xCons (mVar 3) xNil)))))) (mSeq (mRet (asO (M.ret (.bl false))))
  mNx) mNx)
  (mSeq (mFor (mItems (asD (mLst (mCons (M.ret .non) (mCons (M.ret (.int 3)) (mCons (M.ret (.bl true)) (mCons (asD (mLst (mCons (M.ret (.str ">")) mNil))) (mCons (M.ret (.dic [])) (mCons (mBin .Add (mVar 3) (M.ret (.str "x"))) (mCons (mBin .Mult (M.ret (.str ">")) (M.ret (.int 7))) mNil)))))))))) (gSet 4) (mSeq (mIf (mBorT (mTst (mCmp .NotEq (mCB repr1 (mCons (asD (mCall E__law_caught (xCons (mVar 4) (xCons (mVar 4) (xCons (mVar 4) xNil))))) mNil)) (mCB repr1 (mCons (asD (mLst (mCons (M.ret (.str "pattern")) (mCons (mVar 4) mNil)))) mNil))))) (mSeq (mRet (asO (M.ret (.bl false))))
  mNx) mNx)
  mNx))
  (mSeq (mSet 5 (asO (mBor (mLenS 3))))
  (mSeq (mFor (mItems (asD (mLst (mCons (M.ret .non) (mCons (M.ret (.int 3)) (mCons (M.ret (.str "01")) (mCons (asD (mLst (mCons (M.ret (.int 0)) (mCons (M.ret (.int 0)) mNil)))) (mCons (mTup (mCons (M.ret (.int 0)) mNil)) (mCons (mTup (mCons (M.ret (.int 0)) (mCons (M.ret (.int 0)) (mCons (M.ret (.int 0)) mNil)))) (mCons (mTup (mCons (M.ret (.int 0)) (mCons (mBin .Add (mVar 5) (M.ret (.int 1))) mNil))) (mCons (mTup (mCons (mNeg (M.ret (.int 1))) (mCons (M.ret (.int 0)) mNil))) (mCons (mTup (mCons (M.ret (.int 1)) (mCons (M.ret (.int 0)) mNil))) (mCons (mTup (mCons (M.ret (.bl false)) (mCons (M.ret (.int 0)) mNil))) (mCons (mTup (mCons (M.ret (.int 0)) (mCons (M.ret (.str "0")) mNil))) (mCons (mTup mNil) mNil))))))))))))))) (gSet 4) (mSeq (mSet 6 (mLst (mCons (asD (mCall E__law_caught (xCons (mVar 3) (xCons (mVar 4) (xCons (M.ret .non) xNil))))) (mCons (asD (mCall E__law_caught (xCons (mVar 3) (xCons (mTup (mCons (M.ret (.int 0)) (mCons (mVar 5) mNil))) (xCons (mVar 4) xNil))))) mNil))))
  (mSeq (mIf (mBorT (mTst (mCmp .NotEq (mCB repr1 (mCons (mVar 6) mNil)) (mCB repr1 (mCons (mBin .Mult (asD (mLst (mCons (asD (mLst (mCons (M.ret (.str "bar")) (mCons (mVar 4) mNil)))) mNil))) (M.ret (.int 2))) mNil))))) (mSeq (mRet (asO (M.ret (.bl false))))
  mNx) mNx)
  mNx)))
  mNx)))))))
  (mSeq (mRet (asO (M.ret (.bl true))))
  mNx))
def E_law : Ent := ⟨"law", ["_law_script"], [], bodyF 7 1 [] g_law⟩
theorem b_law {X : Cx} {p : Pm} {W : WX} (c : Cn X p W d_law) (e__law_box : EntOk p.P p.w p.K p.cl p.mg p.base 1 E__law_box) (e__law_cell : EntOk p.P p.w p.K p.cl p.mg p.base 1 E__law_cell) (e__law_arrows : EntOk p.P p.w p.K p.cl p.mg p.base 2 E__law_arrows) (e__law_right : EntOk p.P p.w p.K p.cl p.mg p.base 5 E__law_right) (e__law_caught : EntOk p.P p.w p.K p.cl p.mg p.base 5 E__law_caught) : PSs X (defBody (top 24)) (tDS p W g_law) := by
  unfold g_law
  exact (ds_cons (c.for (c.rng1 0 rfl (a_cons (c.max 1 rfl (a_cons de_int (a_cons (c.min 2 rfl (a_cons de_int (a_cons (c.lenS 3 0 rfl rfl) da_nil))) da_nil))) da_nil)) (c.gname 1 rfl rfl) (ds_cons (c.set 2 rfl rfl (c.call e__law_box (by decide) 5 rfl (x_cons (e_asD (c.call e__law_cell (by decide) 4 rfl (x_cons (c.v 0 rfl) (x_cons (c.v 1 rfl) dx_nil)))) dx_nil)))
  (ds_cons (c.set 3 rfl rfl (c.call e__law_arrows (by decide) 6 rfl (c.slot 2 rfl (x_cons de_int dx_nil))))
  (ds_cons (ds_if (t_bor (dt_not (c.tru (e_asD (c.call e__law_right (by decide) 7 rfl (x_cons (c.v 3 rfl) dx_nil))) (fun _ => rfl)))) (ds_cons (ds_ret (e_asO de_bl))
  ds_nil) ds_nil)
  (ds_cons (c.for (c.seq (e_asD (do_lst (a_cons de_non (a_cons de_int (a_cons de_bl (a_cons (e_asD (do_lst (a_cons de_str da_nil))) (a_cons e_dic0 (a_cons (c.bin (c.v 3 rfl) de_str) (a_cons (c.bin de_str de_int) da_nil)))))))))) (c.gname 4 rfl rfl) (ds_cons (ds_if (t_bor (c.tcmp (c.repr 8 rfl (a_cons (e_asD (c.call e__law_caught (by decide) 9 rfl (x_cons (c.v 4 rfl) (x_cons (c.v 4 rfl) (x_cons (c.v 4 rfl) dx_nil))))) da_nil)) (c.repr 8 rfl (a_cons (e_asD (do_lst (a_cons de_str (a_cons (c.v 4 rfl) da_nil)))) da_nil)) rfl)) (ds_cons (ds_ret (e_asO de_bl))
  ds_nil) ds_nil)
  ds_nil))
  (ds_cons (c.set 5 rfl rfl (e_asO (e_bor (c.lenS 3 3 rfl rfl))))
  (ds_cons (c.for (c.seq (e_asD (do_lst (a_cons de_non (a_cons de_int (a_cons de_str (a_cons (e_asD (do_lst (a_cons de_int (a_cons de_int da_nil)))) (a_cons (de_tup (a_cons de_int da_nil)) (a_cons (de_tup (a_cons de_int (a_cons de_int (a_cons de_int da_nil)))) (a_cons (de_tup (a_cons de_int (a_cons (c.bin (c.v 5 rfl) de_int) da_nil))) (a_cons (de_tup (a_cons (e_neg de_int) (a_cons de_int da_nil))) (a_cons (de_tup (a_cons de_int (a_cons de_int da_nil))) (a_cons (de_tup (a_cons de_bl (a_cons de_int da_nil))) (a_cons (de_tup (a_cons de_int (a_cons de_str da_nil))) (a_cons (de_tup da_nil) da_nil))))))))))))))) (c.gname 4 rfl rfl) (ds_cons (c.set 6 rfl rfl (do_lst (a_cons (e_asD (c.call e__law_caught (by decide) 9 rfl (x_cons (c.v 3 rfl) (x_cons (c.v 4 rfl) (x_cons de_non dx_nil))))) (a_cons (e_asD (c.call e__law_caught (by decide) 9 rfl (x_cons (c.v 3 rfl) (x_cons (de_tup (a_cons de_int (a_cons (c.v 5 rfl) da_nil))) (x_cons (c.v 4 rfl) dx_nil))))) da_nil))))
  (ds_cons (ds_if (t_bor (c.tcmp (c.repr 8 rfl (a_cons (c.v 6 rfl) da_nil)) (c.repr 8 rfl (a_cons (c.bin (e_asD (do_lst (a_cons (e_asD (do_lst (a_cons de_str (a_cons (c.v 4 rfl) da_nil)))) da_nil))) de_int) da_nil)) rfl)) (ds_cons (ds_ret (e_asO de_bl))
  ds_nil) ds_nil)
  ds_nil)))
  ds_nil)))))))
  (ds_cons (ds_ret (e_asO de_bl))
  ds_nil))
theorem sc_law : FnScope N_law ["_law_script"] (defScope (top 24)) := ⟨rfl, rfl, rfl, by decide +kernel, rfl, by decide +kernel, by decide +kernel⟩
theorem f_law {P : Program} {w : World} {K : PySem.W.Frag} {mg : Str → Option Value} {base : Heap} (B : Bs K mg base) (e__law_box : EntOk P w K (clOf K XS) mg base 1 E__law_box) (e__law_cell : EntOk P w K (clOf K XS) mg base 1 E__law_cell) (e__law_arrows : EntOk P w K (clOf K XS) mg base 2 E__law_arrows) (e__law_right : EntOk P w K (clOf K XS) mg base 5 E__law_right) (e__law_caught : EntOk P w K (clOf K XS) mg base 5 E__law_caught) {dvs : List V} {f : Addr} {fd : FuncData} (F : L2.FunD K "law" "law" (defArgs (top 24)) (defBody (top 24)) (defScope (top 24)) dvs [] f fd) :
    FnG P w K mg base 6 f fd ["_law_script"] (spF K (clOf K XS) 1 E_law.F) := by
  refine fn_mk (d := d_law) (g := g_law) F rfl sc_law (by decide +kernel) (by decide +kernel) rfl B fun X p W h1 h2 h3 h4 h5 h6 c => ?_
  subst h1 h2 h3 h5 h6
  rw [← h4] at e__law_box e__law_cell e__law_arrows e__law_right e__law_caught
  exact b_law c e__law_box e__law_cell e__law_arrows e__law_right e__law_caught
theorem n_law {P : Program} {w : World} {K : PySem.W.Frag} {mg : Str → Option Value} {base : Heap} (B : Bs K mg base) (e__law_box : EntOk P w K (clOf K XS) mg base 1 E__law_box) (e__law_cell : EntOk P w K (clOf K XS) mg base 1 E__law_cell) (e__law_arrows : EntOk P w K (clOf K XS) mg base 2 E__law_arrows) (e__law_right : EntOk P w K (clOf K XS) mg base 5 E__law_right) (e__law_caught : EntOk P w K (clOf K XS) mg base 5 E__law_caught) (F : ∃ fd, L2.FunD K "law" "law" (defArgs (top 24)) (defBody (top 24)) (defScope (top 24)) [] [] (He.ga K "law") fd) (hm : mg "law" = some (.ref (He.ga K "law"))) :
    EntOk P w K (clOf K XS) mg base 6 E_law := by
  obtain ⟨fd, F⟩ := F
  exact entN F hm rfl (f_law B e__law_box e__law_cell e__law_arrows e__law_right e__law_caught F) fun _ _ _ _ _ _ us hl => match us, hl with | [_], _ => rfl
def iS_InvalidPattern : Stmt := (clsB (top 2)).getD 0 (.Pass ⟨0, 0, 0, 0⟩)
def iS_InvalidBar : Stmt := (clsB (top 3)).getD 0 (.Pass ⟨0, 0, 0, 0⟩)
def fn : List He5.DefA := [⟨fun K => He.fAd K ("_law_box", none), "_law_box", "_law_box", defArgs (top 17), defBody (top 17), defScope (top 17), [], []⟩,
  ⟨fun K => He.fAd K ("_law_take", none), "_law_take", "_law_take", defArgs (top 18), defBody (top 18), defScope (top 18), [], []⟩,
  ⟨fun K => He.fAd K ("_law_arrows", none), "_law_arrows", "_law_arrows", defArgs (top 19), defBody (top 19), defScope (top 19), [], []⟩,
  ⟨fun K => He.fAd K ("_law_cell", none), "_law_cell", "_law_cell", defArgs (top 16), defBody (top 16), defScope (top 16), [], []⟩,
  ⟨fun K => He.fAd K ("_law_bars", none), "_law_bars", "_law_bars", defArgs (top 20), defBody (top 20), defScope (top 20), [], []⟩,
  ⟨fun K => He.fAd K ("_law_is_map", none), "_law_is_map", "_law_is_map", defArgs (top 21), defBody (top 21), defScope (top 21), [], []⟩,
  ⟨fun K => He.fAd K ("is_pattern", none), "is_pattern", "is_pattern", defArgs (top 9), defBody (top 9), defScope (top 9), [], []⟩,
  ⟨fun K => He.fAd K ("need_pattern", none), "need_pattern", "need_pattern", defArgs (top 10), defBody (top 10), defScope (top 10), [], []⟩,
  ⟨fun K => He.fAd K ("has_map", none), "has_map", "has_map", defArgs (top 14), defBody (top 14), defScope (top 14), [], []⟩,
  ⟨fun K => He.fAd K ("is_integer", none), "is_integer", "is_integer", defArgs (top 5), defBody (top 5), defScope (top 5), [.non, .non], []⟩,
  ⟨fun K => He.fAd K ("is_bar", none), "is_bar", "is_bar", defArgs (top 11), defBody (top 11), defScope (top 11), [], []⟩,
  ⟨fun K => He.fAd K ("leads_into", none), "leads_into", "leads_into", defArgs (top 13), defBody (top 13), defScope (top 13), [], []⟩,
  ⟨fun K => He.fAd K ("_law_right", none), "_law_right", "_law_right", defArgs (top 23), defBody (top 23), defScope (top 23), [], []⟩,
  ⟨fun K => He.fAd K ("_law_caught", none), "_law_caught", "_law_caught", defArgs (top 22), defBody (top 22), defScope (top 22), [], []⟩,
  ⟨fun K => He.fAd K ("law", none), "law", "law", defArgs (top 24), defBody (top 24), defScope (top 24), [], []⟩,
  ⟨fun K => He.ma K (He.ga K "InvalidPattern") "__init__", "__init__", "InvalidPattern.__init__", defArgs iS_InvalidPattern, defBody iS_InvalidPattern, defScope iS_InvalidPattern, [], []⟩,
  ⟨fun K => He.ma K (He.ga K "InvalidBar") "__init__", "__init__", "InvalidBar.__init__", defArgs iS_InvalidBar, defBody iS_InvalidBar, defScope iS_InvalidBar, [], []⟩]
def ts : List He.Tab := [(fun K => He.ga K "OTHER", [">", "<"])]
def glb : List Str := (["_law_box", "_law_take", "_law_arrows", "_law_cell", "_law_bars", "_law_is_map", "is_pattern", "need_pattern", "has_map", "is_integer", "is_bar", "leads_into", "_law_right", "_law_caught", "law"] : List Str)
def cks (K : PySem.W.Frag) : List Bool := [msB K,
  freeB K,
  glb.all (fun x => He.eqO (PySem.W.nsIn K mainGlobals x) (some (some (.ref (He.ga K x))))),
  xcB K XS,
  reB K,
  (He.eqO (PySem.W.findIn K (.ref (He.ga K "InvalidPattern")) "__init__") (some (some (.ref (He.ma K (He.ga K "InvalidPattern") "__init__")))) && decide (PySem.W.typeIn K (.ref (He.ma K (He.ga K "InvalidPattern") "__init__")) = some (.type "function"))),
  (He.eqO (PySem.W.findIn K (.ref (He.ga K "InvalidBar")) "__init__") (some (some (.ref (He.ma K (He.ga K "InvalidBar") "__init__")))) && decide (PySem.W.typeIn K (.ref (He.ma K (He.ga K "InvalidBar") "__init__")) = some (.type "function"))),
  ((He.Fa.int "MOST_ARROWS" 6).ok K),
  (He.eqO (PySem.W.nsIn K mainGlobals "OTHER") (some (some (.ref (He.ga K "OTHER")))) && ([(">", "<"), ("<", ">")] : List (Str × Str)).all fun z => match PySem.W.nsIn K (He.ga K "OTHER") z.1 with | some (some (.str y _)) => decide (y = z.2) | _ => false)]
def chk (K : PySem.W.Frag) : Bool := (cks K).all id
abbrev R : PySem.W.OpenRow := PySem.W.OpenLaw.row PySem.Challenge.rw_maprows_k46_maps_between_bars
abbrev hk : PySem.W.Hook := hookQ 7 chk fn ts
def ob (s : PySem.W.SharedT) : AlQ := seesQG 7 chk fn ts (HandSHeadRun.getT s)
theorem ob_eq (s : PySem.W.SharedT) : ob s = hk.obs s.abs := seesQG_eq (HandSHeadRun.getT_eq s)
def names : List Str := (["RowError", "InvalidPattern", "InvalidBar", "is_integer", "MOST_ARROWS", "OTHER", "is_pattern", "need_pattern", "is_bar", "leads_into", "has_map", "_law_cell", "_law_box", "_law_take", "_law_arrows", "_law_bars", "_law_is_map", "_law_caught", "_law_right"] : List Str)
theorem run (w : World) : HandSHeadRun.RunEq R (PySem.W.view R.prog [24]) hk ob 4000 names w := by
  intro os
  obtain ⟨dr, a1, a2, a3, a4, a5, a6, a7, a8, a9, a10, a11, a12, a13, a14, a15, a16, a17, a18, a19, a20, a21, a22, a23, a24, a25⟩ := w
  obtain ⟨b, hb⟩ : ∃ b, b = a6 "special-get-raises" := ⟨_, rfl⟩
  have e : a6 = fun s => if s = "special-get-raises" then b else a6 s := by
    funext s
    split
    · rename_i h; rw [h, hb]
    · rfl
  rw [e]
  clear e hb
  cases b <;> kernel_rfl
theorem facts {P : Program} {w : World} {K : PySem.W.Frag} {h : Heap} {mg : Str → Option Value} (Y : K.In h) (G : h.Ns mainGlobals mg) (c : seesQ chk fn ts K = valQ fn ts w) :
    ∃ fd : FuncData, (∀ (s : Shared) (u : Value), BindsTo s fd ⟨[u], []⟩ [("_law_script", u)]) ∧ ∀ base : Heap, K.In base → base.Ns mainGlobals mg → FnG P w K mg base 6 (He.ga K "law") fd ["_law_script"] (spF K (clOf K XS) 1 E_law.F) := by
  have ck : ∀ b ∈ cks K, b = true := fun b hb => List.all_eq_true.mp (seesQ_chk c) b hb
  have q_ms := ck _ (List.mem_of_getElem? (i := 0) rfl)
  have q_free := ck _ (List.mem_of_getElem? (i := 1) rfl)
  have q_glb := ck _ (List.mem_of_getElem? (i := 2) rfl)
  have q_xc := ck _ (List.mem_of_getElem? (i := 3) rfl)
  have q_re := ck _ (List.mem_of_getElem? (i := 4) rfl)
  have q_i_InvalidPattern := ck _ (List.mem_of_getElem? (i := 5) rfl)
  have q_i_InvalidBar := ck _ (List.mem_of_getElem? (i := 6) rfl)
  have q_c_MOST_ARROWS := ck _ (List.mem_of_getElem? (i := 7) rfl)
  have q_t_OTHER := ck _ (List.mem_of_getElem? (i := 8) rfl)
  have gm : ∀ x ∈ glb, mg x = some (.ref (He.ga K x)) := fun x hx => PySem.W.mg_of Y G (He.eqO_ok (List.all_eq_true.mp q_glb x hx))
  have F__law_box := seesQ_def c 0 rfl
  have F__law_take := seesQ_def c 1 rfl
  have F__law_arrows := seesQ_def c 2 rfl
  have F__law_cell := seesQ_def c 3 rfl
  have F__law_bars := seesQ_def c 4 rfl
  have F__law_is_map := seesQ_def c 5 rfl
  have F_is_pattern := seesQ_def c 6 rfl
  have F_need_pattern := seesQ_def c 7 rfl
  have F_has_map := seesQ_def c 8 rfl
  have F_is_integer := seesQ_def c 9 rfl
  have F_is_bar := seesQ_def c 10 rfl
  have F_leads_into := seesQ_def c 11 rfl
  have F__law_right := seesQ_def c 12 rfl
  have F__law_caught := seesQ_def c 13 rfl
  have F_law := seesQ_def c 14 rfl
  have I_InvalidPattern := seesQ_def c 15 rfl
  have I_InvalidBar := seesQ_def c 16 rfl
  have xq := xcB_ok Y G q_xc
  have rk := reB_ok Y G q_re
  obtain ⟨fl, FL⟩ := F_law
  refine ⟨fl, fun s v => FL.bindsA (ps := ["_law_script"]) (fun _ _ _ _ _ _ us hl => match us, hl with | [_], _ => rfl) s [v] rfl, fun base kb gb => ?_⟩
  have B : Bs K mg base := ⟨ms_ok q_ms kb, free_all Y G q_free⟩
  obtain ⟨z1_InvalidPattern, z2_InvalidPattern⟩ := Bool.and_eq_true_iff.mp q_i_InvalidPattern
  obtain ⟨fi_InvalidPattern, FI_InvalidPattern⟩ := I_InvalidPattern
  have x_InvalidPattern : XmOk P w K (clOf K XS) mg base 1 "InvalidPattern" "value" := xm_of xq (by decide +kernel) (He.eqO_ok z1_InvalidPattern) (of_decide_eq_true z2_InvalidPattern) (init_ok (f := "value") rfl FI_InvalidPattern ⟨rfl, rfl, rfl, by decide +kernel, rfl, by decide +kernel, by decide +kernel⟩ (by decide +kernel) (.inl (by decide +kernel)) (.inl (by decide +kernel)) (by decide) (by decide) rk (xq.o _ (by decide +kernel)) (xq.n _ (by decide +kernel) _ (by decide +kernel))) (FI_InvalidPattern.bindsN fun _ _ _ _ _ _ us hl => match us, hl with | [_, _], _ => rfl)
  obtain ⟨z1_InvalidBar, z2_InvalidBar⟩ := Bool.and_eq_true_iff.mp q_i_InvalidBar
  obtain ⟨fi_InvalidBar, FI_InvalidBar⟩ := I_InvalidBar
  have x_InvalidBar : XmOk P w K (clOf K XS) mg base 1 "InvalidBar" "value" := xm_of xq (by decide +kernel) (He.eqO_ok z1_InvalidBar) (of_decide_eq_true z2_InvalidBar) (init_ok (f := "value") rfl FI_InvalidBar ⟨rfl, rfl, rfl, by decide +kernel, rfl, by decide +kernel, by decide +kernel⟩ (by decide +kernel) (.inl (by decide +kernel)) (.inl (by decide +kernel)) (by decide) (by decide) rk (xq.o _ (by decide +kernel)) (xq.n _ (by decide +kernel) _ (by decide +kernel))) (FI_InvalidBar.bindsN fun _ _ _ _ _ _ us hl => match us, hl with | [_, _], _ => rfl)
  have k_MOST_ARROWS : Cst K (clOf K XS) mg "MOST_ARROWS" c_MOST_ARROWS := cst_int Y G q_c_MOST_ARROWS
  have kd_OTHER : KdOk K w (clOf K XS) mg "OTHER" T_OTHER := kd_of Y G (He.eqO_ok (Bool.and_eq_true_iff.mp q_t_OTHER).1) (seesQ_tab c 0 rfl) (Bool.and_eq_true_iff.mp q_t_OTHER).2
  have e__law_box : EntOk P w K (clOf K XS) mg base 1 E__law_box := n__law_box B  F__law_box (gm _ (by decide +kernel))
  have e__law_take : EntOk P w K (clOf K XS) mg base 1 E__law_take := n__law_take B  F__law_take (gm _ (by decide +kernel))
  have e__law_arrows : EntOk P w K (clOf K XS) mg base 2 E__law_arrows := n__law_arrows B e__law_take F__law_arrows (gm _ (by decide +kernel))
  have e__law_cell : EntOk P w K (clOf K XS) mg base 1 E__law_cell := n__law_cell B  F__law_cell (gm _ (by decide +kernel))
  have e__law_bars : EntOk P w K (clOf K XS) mg base 1 E__law_bars := n__law_bars B  F__law_bars (gm _ (by decide +kernel))
  have e__law_is_map : EntOk P w K (clOf K XS) mg base 1 E__law_is_map := n__law_is_map B  F__law_is_map (gm _ (by decide +kernel))
  have e_is_pattern : EntOk P w K (clOf K XS) mg base 1 E_is_pattern := n_is_pattern B k_MOST_ARROWS kd_OTHER F_is_pattern (gm _ (by decide +kernel))
  have e_need_pattern : EntOk P w K (clOf K XS) mg base 3 E_need_pattern := n_need_pattern B e_is_pattern x_InvalidPattern F_need_pattern (gm _ (by decide +kernel))
  have e_has_map : EntOk P w K (clOf K XS) mg base 1 E_has_map := n_has_map B  F_has_map (gm _ (by decide +kernel))
  have e_is_integer : EntOk P w K (clOf K XS) mg base 1 E_is_integer := n_is_integer B  F_is_integer (gm _ (by decide +kernel))
  have e_is_bar : EntOk P w K (clOf K XS) mg base 2 E_is_bar := n_is_bar B e_is_integer F_is_bar (gm _ (by decide +kernel))
  have e_leads_into : EntOk P w K (clOf K XS) mg base 4 E_leads_into := n_leads_into B e_need_pattern e_is_bar x_InvalidBar e_has_map F_leads_into (gm _ (by decide +kernel))
  have e__law_right : EntOk P w K (clOf K XS) mg base 5 E__law_right := n__law_right B e__law_bars e__law_is_map e_leads_into F__law_right (gm _ (by decide +kernel))
  have e__law_caught : EntOk P w K (clOf K XS) mg base 5 E__law_caught := n__law_caught B e_leads_into xq F__law_caught (gm _ (by decide +kernel))
  exact f_law B e__law_box e__law_cell e__law_arrows e__law_right e__law_caught FL
end K46

end
-- text PDraw46
section
set_option linter.all false
set_option maxRecDepth 100000
set_option maxHeartbeats 0
namespace K46
open PySem PySem.Spec PyProof.Rows L2 PL
local macro_rules
  | `(tactic| simp_wf) => `(tactic| repeat (first | with_reducible refine w_seq ?_ | with_reducible refine w_nx ?_ | with_reducible refine w_if ?_ | with_reducible refine w_set ?_ | with_reducible refine w_retS ?_ | with_reducible refine w_exS ?_ | with_reducible refine w_raise ?_ | with_reducible refine w_par ?_ | with_reducible refine w_setIx ?_ | with_reducible refine w_tst ?_ | with_reducible refine w_tru ?_ | with_reducible refine w_not ?_ | with_reducible refine w_and ?_ | with_reducible refine w_or ?_ | with_reducible refine w_asD ?_ | with_reducible refine w_asO ?_ | with_reducible refine w_bin ?_ | with_reducible refine w_cmp ?_ | with_reducible refine w_ix ?_ | with_reducible refine w_neg ?_ | with_reducible refine w_cb ?_ | with_reducible refine w_andV ?_ | with_reducible refine w_orV ?_ | with_reducible refine w_notV ?_ | with_reducible refine w_nil ?_ | with_reducible refine w_cons ?_ | with_reducible refine w_lst ?_ | with_reducible refine w_tup ?_ | with_reducible refine w_xnil ?_ | with_reducible refine w_xcons ?_ | with_reducible refine w_for ?_ | with_reducible refine w_borT ?_ | with_reducible refine w_bor ?_ | with_reducible refine w_parO ?_ | with_reducible refine w_zip ?_ | with_reducible refine w_listO ?_ | with_reducible refine w_asgT ?_ | with_reducible refine w_sl ?_ | with_reducible refine w_nob ?_ | with_reducible refine w_b ?_ | with_reducible refine w_lc ?_ | with_reducible refine w_inK ?_ | with_reducible refine w_ixK ?_ | with_reducible refine w_join ?_ | with_reducible refine w_enum ?_ | with_reducible refine w_setFld ?_ | with_reducible refine w_fld ?_ | with_reducible refine w_raise0 ?_ | with_reducible refine w_lrg1 ?_ | with_reducible refine w_lrg2 ?_ | with_reducible refine w_ch ?_ | with_reducible refine w_chain1 ?_ | with_reducible refine w_chain2 ?_ | with_reducible refine w_items ?_ | with_reducible refine w_rng1 ?_ | with_reducible refine w_rng2 ?_ | with_reducible refine w_ret ?_ | with_reducible refine t_nx ?_ | with_reducible refine t_rt ?_ | with_reducible refine u_nx ?_ | with_reducible refine u_rt ?_ | with_reducible refine l_add ?_ | with_reducible refine l_sub ?_ | with_reducible refine l_neg ?_ | with_reducible refine l_lt ?_ | with_reducible refine l_le ?_ | with_reducible refine l_gt ?_ | with_reducible refine l_ge ?_ | with_reducible refine l_eqI ?_ | with_reducible refine l_neI ?_ | with_reducible refine l_eqS ?_ | with_reducible refine l_neS ?_ | with_reducible refine l_eqB ?_ | with_reducible refine l_neB ?_ | with_reducible refine l_int ?_ | with_reducible refine l_max ?_ | with_reducible refine l_min ?_ | ((with_reducible apply w_var); rfl) | ((with_reducible apply w_varO); rfl) | ((with_reducible refine w_own (xs := []) ?_ ?_); exact ⟨_, rfl⟩) | ((with_reducible apply w_ownAt); rfl; rfl) | ((with_reducible apply w_ownAtD); rfl) | ((with_reducible apply w_xslotD); rfl) | ((with_reducible apply w_xslotO); rfl) | ((with_reducible refine l_mod ?_ ?_); (first | assumption | omega | exact ⟨by omega, by decide⟩)) | ((with_reducible refine l_div ?_ ?_); (first | assumption | omega | exact ⟨by omega, by decide⟩)) | ((with_reducible refine l_pow ?_ ?_); (first | assumption | omega | exact ⟨by omega, by decide⟩)) | ((with_reducible refine l_lrg ?_ ?_); (first | assumption | omega | exact ⟨by omega, by omega, by omega, by omega, by omega⟩)) | ((with_reducible refine l_mul ?_ ?_); (first | assumption | omega | exact ⟨by omega, by decide⟩)) | ((with_reducible apply c_t); rfl) | ((with_reducible apply c_f); rfl) | ((with_reducible apply s_lt); rfl) | ((with_reducible apply s_le); rfl) | ((with_reducible apply s_par); rfl; rfl; rfl) | ((with_reducible apply s_has); rfl) | ((with_reducible apply s_six); rfl; rfl; rfl) | ((with_reducible apply s_fl); rfl) | ((with_reducible apply s_lt2); rfl; rfl) | ((with_reducible apply s_pl); rfl) | ((with_reducible refine s_rb ?_ ?_); omega) | ((with_reducible apply w_lenO); rfl) | ((with_reducible apply s_sf); rfl; rfl) | ((with_reducible apply w_ownFldD); rfl; rfl) | ((with_reducible apply w_ownFldO); rfl; rfl; rfl) | ((with_reducible apply w_lenD); rfl) | ((with_reducible apply s_ex); rfl) | (rw [fz_dat]) | (rw [fz_own]) | ((with_reducible apply l_some); rfl)))
local macro_rules
  | `(tactic| clean_wf) => `(tactic| repeat (first | with_reducible refine w_nx ?_ | with_reducible refine w_if ?_ | with_reducible refine w_set ?_ | with_reducible refine w_retS ?_ | with_reducible refine w_exS ?_ | with_reducible refine w_raise ?_ | with_reducible refine w_par ?_ | with_reducible refine w_setIx ?_ | with_reducible refine w_tst ?_ | with_reducible refine w_tru ?_ | with_reducible refine w_not ?_ | with_reducible refine w_and ?_ | with_reducible refine w_or ?_ | with_reducible refine w_asD ?_ | with_reducible refine w_asO ?_ | with_reducible refine w_bin ?_ | with_reducible refine w_cmp ?_ | with_reducible refine w_ix ?_ | with_reducible refine w_neg ?_ | with_reducible refine w_cb ?_ | with_reducible refine w_andV ?_ | with_reducible refine w_orV ?_ | with_reducible refine w_notV ?_ | with_reducible refine w_nil ?_ | with_reducible refine w_cons ?_ | with_reducible refine w_lst ?_ | with_reducible refine w_tup ?_ | with_reducible refine w_xnil ?_ | with_reducible refine w_xcons ?_ | with_reducible refine w_for ?_ | with_reducible refine w_borT ?_ | with_reducible refine w_bor ?_ | with_reducible refine w_parO ?_ | with_reducible refine w_zip ?_ | with_reducible refine w_listO ?_ | with_reducible refine w_asgT ?_ | with_reducible refine w_sl ?_ | with_reducible refine w_nob ?_ | with_reducible refine w_b ?_ | with_reducible refine w_lc ?_ | with_reducible refine w_inK ?_ | with_reducible refine w_ixK ?_ | with_reducible refine w_join ?_ | with_reducible refine w_enum ?_ | with_reducible refine w_setFld ?_ | with_reducible refine w_fld ?_ | with_reducible refine w_raise0 ?_ | with_reducible refine w_lrg1 ?_ | with_reducible refine w_lrg2 ?_ | with_reducible refine w_ch ?_ | with_reducible refine w_chain1 ?_ | with_reducible refine w_chain2 ?_ | with_reducible refine w_items ?_ | with_reducible refine w_rng1 ?_ | with_reducible refine w_rng2 ?_ | with_reducible refine w_ret ?_ | with_reducible refine t_nx ?_ | with_reducible refine t_rt ?_ | with_reducible refine u_nx ?_ | with_reducible refine u_rt ?_ | with_reducible refine l_add ?_ | with_reducible refine l_sub ?_ | with_reducible refine l_neg ?_ | with_reducible refine l_lt ?_ | with_reducible refine l_le ?_ | with_reducible refine l_gt ?_ | with_reducible refine l_ge ?_ | with_reducible refine l_eqI ?_ | with_reducible refine l_neI ?_ | with_reducible refine l_eqS ?_ | with_reducible refine l_neS ?_ | with_reducible refine l_eqB ?_ | with_reducible refine l_neB ?_ | with_reducible refine l_int ?_ | with_reducible refine l_max ?_ | with_reducible refine l_min ?_ | ((with_reducible apply w_var); rfl) | ((with_reducible apply w_varO); rfl) | ((with_reducible refine w_own (xs := []) ?_ ?_); exact ⟨_, rfl⟩) | ((with_reducible apply w_ownAt); rfl; rfl) | ((with_reducible apply w_ownAtD); rfl) | ((with_reducible apply w_xslotD); rfl) | ((with_reducible apply w_xslotO); rfl) | ((with_reducible refine l_mod ?_ ?_); (first | assumption | omega | exact ⟨by omega, by decide⟩)) | ((with_reducible refine l_div ?_ ?_); (first | assumption | omega | exact ⟨by omega, by decide⟩)) | ((with_reducible refine l_pow ?_ ?_); (first | assumption | omega | exact ⟨by omega, by decide⟩)) | ((with_reducible refine l_lrg ?_ ?_); (first | assumption | omega | exact ⟨by omega, by omega, by omega, by omega, by omega⟩)) | ((with_reducible refine l_mul ?_ ?_); (first | assumption | omega | exact ⟨by omega, by decide⟩)) | ((with_reducible apply c_t); rfl) | ((with_reducible apply c_f); rfl) | ((with_reducible apply s_lt); rfl) | ((with_reducible apply s_le); rfl) | ((with_reducible apply s_par); rfl; rfl; rfl) | ((with_reducible apply s_has); rfl) | ((with_reducible apply s_six); rfl; rfl; rfl) | ((with_reducible apply s_fl); rfl) | ((with_reducible apply s_lt2); rfl; rfl) | ((with_reducible apply s_pl); rfl) | ((with_reducible refine s_rb ?_ ?_); omega) | ((with_reducible apply w_lenO); rfl) | ((with_reducible apply s_sf); rfl; rfl) | ((with_reducible apply w_ownFldD); rfl; rfl) | ((with_reducible apply w_ownFldO); rfl; rfl; rfl) | ((with_reducible apply w_lenD); rfl) | ((with_reducible apply s_ex); rfl) | (rw [fz_dat]) | (rw [fz_own]) | ((with_reducible apply l_some); rfl)))
section
variable {ρ : Rho} {QO : O → Rho → Prop} {E : Ex → Rho → Prop}
theorem takeK {i : Nat} {xs : List O} {n : Int} {fm : M D} (e : ρ[i]? = some (some (.own xs))) (hb : Bx xs n) (hn : n ≤ 100000)
    (h : wp (fm ρ) (fun y ρ' => ∃ m, y = .int m ∧ ρ'[i]? = some (some (.own xs)) ∧ (0 < m ∧ m < 2 ^ 200) ∧ ∀ r xs', 0 ≤ r → r < m → Bx xs' (n + 1) → QO (.dat (.int r)) (ρ'.set i (some (.own xs')))) E) : wp (mCall E__law_take (xSlot i (xCons fm xNil)) ρ) QO E :=
  w_takeN (c1 := 9473) (c2 := 271) (c3 := 72493) rfl rfl rfl (by decide) e hb hn h
theorem w_cell {fX : M (List Ar)} (h : wp (fX ρ) (fun as ρ' => ∃ zs k, as = [.d (.scr zs), .d (.int k)] ∧ 0 ≤ k ∧ ∀ c, QO (.dat (.int c)) ρ') E) : wp (mCall E__law_cell fX ρ) QO E := by
  refine w_callD (wp_mono h (fun as ρ' ⟨zs, k, e, hk, q⟩ => ⟨[.scr zs, .int k], e, ⟨Nat.le_refl 2, Nat.le_refl 2⟩, ?_⟩) fun _ _ k => k)
  unfold Call
  rw [show E__law_cell.F = bodyF 2 2 [] g__law_cell from rfl]
  (refine call_body ?_ ?_ ?_; rfl; rfl)
  show wp (g__law_cell [some (.dat (.scr zs)), some (.dat (.int k))]) _ _
  unfold g__law_cell
  simp_wf
  refine ⟨fun hc => ?_, fun hc => ?_⟩
  · simp_wf
    have hc' : k < zs.length := of_decide_eq_true hc
    obtain ⟨x, hx, e2⟩ := atI_in (xs := zs) hk hc'
    refine l_some (d := .int x) (by show (L2.atI zs k).map D.int = _; rw [e2]; rfl) ?_
    simp_wf
    exact ⟨rfl, .inr ⟨_, rfl, Nat.le_refl 2, q x⟩⟩
  · simp_wf
    exact ⟨rfl, .inr ⟨_, rfl, Nat.le_refl 2, q _⟩⟩
theorem w_box {fX : M (List Ar)} (h : wp (fX ρ) (fun as ρ' => ∃ c, as = [.d (.int c)] ∧ ∀ xs, Bx xs 0 → QO (.own xs) ρ') E) : wp (mCall E__law_box fX ρ) QO E := by
  refine w_callD (wp_mono h (fun as ρ' ⟨c, e, q⟩ => ⟨[.int c], e, ⟨Nat.le_refl 1, Nat.le_refl 1⟩, ?_⟩) fun _ _ k => k)
  unfold Call
  rw [show E__law_box.F = bodyF 1 1 [] g__law_box from rfl]
  (refine call_body ?_ ?_ ?_; rfl; rfl)
  show wp (g__law_box [some (.dat (.int c))]) _ _
  unfold g__law_box
  simp_wf
  refine ⟨rfl, .inr ⟨_, rfl, Nat.le_refl 1, q _ ⟨_, _, _, rfl, ?_, Int.emod_nonneg _ (by decide), ?_, by decide, by decide⟩⟩⟩
  · split <;> omega
  · have := Int.emod_lt_of_pos c (show (0 : Int) < 2147483629 by decide)
    omega
end
end K46

end
-- text P46a
section
set_option linter.all false
set_option maxRecDepth 100000
set_option maxHeartbeats 0
namespace K46
open PySem PySem.Spec PyProof.Rows L2 PL
local macro_rules
  | `(tactic| simp_wf) => `(tactic| repeat (first | with_reducible refine w_seq ?_ | with_reducible refine w_nx ?_ | with_reducible refine w_if ?_ | with_reducible refine w_set ?_ | with_reducible refine w_retS ?_ | with_reducible refine w_exS ?_ | with_reducible refine w_raise ?_ | with_reducible refine w_par ?_ | with_reducible refine w_setIx ?_ | with_reducible refine w_tst ?_ | with_reducible refine w_tru ?_ | with_reducible refine w_not ?_ | with_reducible refine w_and ?_ | with_reducible refine w_or ?_ | with_reducible refine w_asD ?_ | with_reducible refine w_asO ?_ | with_reducible refine w_bin ?_ | with_reducible refine w_cmp ?_ | with_reducible refine w_ix ?_ | with_reducible refine w_neg ?_ | with_reducible refine w_cb ?_ | with_reducible refine w_andV ?_ | with_reducible refine w_orV ?_ | with_reducible refine w_notV ?_ | with_reducible refine w_nil ?_ | with_reducible refine w_cons ?_ | with_reducible refine w_lst ?_ | with_reducible refine w_tup ?_ | with_reducible refine w_xnil ?_ | with_reducible refine w_xcons ?_ | with_reducible refine w_for ?_ | with_reducible refine w_borT ?_ | with_reducible refine w_bor ?_ | with_reducible refine w_parO ?_ | with_reducible refine w_zip ?_ | with_reducible refine w_listO ?_ | with_reducible refine w_asgT ?_ | with_reducible refine w_sl ?_ | with_reducible refine w_nob ?_ | with_reducible refine w_b ?_ | with_reducible refine w_lc ?_ | with_reducible refine w_inK ?_ | with_reducible refine w_ixK ?_ | with_reducible refine w_join ?_ | with_reducible refine w_enum ?_ | with_reducible refine w_setFld ?_ | with_reducible refine w_fld ?_ | with_reducible refine w_raise0 ?_ | with_reducible refine w_lrg1 ?_ | with_reducible refine w_lrg2 ?_ | with_reducible refine w_ch ?_ | with_reducible refine w_chain1 ?_ | with_reducible refine w_chain2 ?_ | with_reducible refine w_items ?_ | with_reducible refine w_rng1 ?_ | with_reducible refine w_rng2 ?_ | with_reducible refine w_ret ?_ | with_reducible refine t_nx ?_ | with_reducible refine t_rt ?_ | with_reducible refine u_nx ?_ | with_reducible refine u_rt ?_ | with_reducible refine l_add ?_ | with_reducible refine l_sub ?_ | with_reducible refine l_neg ?_ | with_reducible refine l_lt ?_ | with_reducible refine l_le ?_ | with_reducible refine l_gt ?_ | with_reducible refine l_ge ?_ | with_reducible refine l_eqI ?_ | with_reducible refine l_neI ?_ | with_reducible refine l_eqS ?_ | with_reducible refine l_neS ?_ | with_reducible refine l_eqB ?_ | with_reducible refine l_neB ?_ | with_reducible refine l_int ?_ | with_reducible refine l_max ?_ | with_reducible refine l_min ?_ | ((with_reducible apply w_var); rfl) | ((with_reducible apply w_varO); rfl) | ((with_reducible refine w_own (xs := []) ?_ ?_); exact ⟨_, rfl⟩) | ((with_reducible apply w_ownAt); rfl; rfl) | ((with_reducible apply w_ownAtD); rfl) | ((with_reducible apply w_xslotD); rfl) | ((with_reducible apply w_xslotO); rfl) | ((with_reducible refine l_mod ?_ ?_); (first | assumption | omega | exact ⟨by omega, by decide⟩)) | ((with_reducible refine l_div ?_ ?_); (first | assumption | omega | exact ⟨by omega, by decide⟩)) | ((with_reducible refine l_pow ?_ ?_); (first | assumption | omega | exact ⟨by omega, by decide⟩)) | ((with_reducible refine l_lrg ?_ ?_); (first | assumption | omega | exact ⟨by omega, by omega, by omega, by omega, by omega⟩)) | ((with_reducible refine l_mul ?_ ?_); (first | assumption | omega | exact ⟨by omega, by decide⟩)) | ((with_reducible apply c_t); rfl) | ((with_reducible apply c_f); rfl) | ((with_reducible apply s_lt); rfl) | ((with_reducible apply s_le); rfl) | ((with_reducible apply s_par); rfl; rfl; rfl) | ((with_reducible apply s_has); rfl) | ((with_reducible apply s_six); rfl; rfl; rfl) | ((with_reducible apply s_fl); rfl) | ((with_reducible apply s_lt2); rfl; rfl) | ((with_reducible apply s_pl); rfl) | ((with_reducible refine s_rb ?_ ?_); omega) | ((with_reducible apply w_lenO); rfl) | ((with_reducible apply s_sf); rfl; rfl) | ((with_reducible apply w_ownFldD); rfl; rfl) | ((with_reducible apply w_ownFldO); rfl; rfl; rfl) | ((with_reducible apply w_lenD); rfl) | ((with_reducible apply s_ex); rfl) | (rw [fz_dat]) | (rw [fz_own]) | ((with_reducible apply l_some); rfl)))
local macro_rules
  | `(tactic| clean_wf) => `(tactic| repeat (first | with_reducible refine w_nx ?_ | with_reducible refine w_if ?_ | with_reducible refine w_set ?_ | with_reducible refine w_retS ?_ | with_reducible refine w_exS ?_ | with_reducible refine w_raise ?_ | with_reducible refine w_par ?_ | with_reducible refine w_setIx ?_ | with_reducible refine w_tst ?_ | with_reducible refine w_tru ?_ | with_reducible refine w_not ?_ | with_reducible refine w_and ?_ | with_reducible refine w_or ?_ | with_reducible refine w_asD ?_ | with_reducible refine w_asO ?_ | with_reducible refine w_bin ?_ | with_reducible refine w_cmp ?_ | with_reducible refine w_ix ?_ | with_reducible refine w_neg ?_ | with_reducible refine w_cb ?_ | with_reducible refine w_andV ?_ | with_reducible refine w_orV ?_ | with_reducible refine w_notV ?_ | with_reducible refine w_nil ?_ | with_reducible refine w_cons ?_ | with_reducible refine w_lst ?_ | with_reducible refine w_tup ?_ | with_reducible refine w_xnil ?_ | with_reducible refine w_xcons ?_ | with_reducible refine w_for ?_ | with_reducible refine w_borT ?_ | with_reducible refine w_bor ?_ | with_reducible refine w_parO ?_ | with_reducible refine w_zip ?_ | with_reducible refine w_listO ?_ | with_reducible refine w_asgT ?_ | with_reducible refine w_sl ?_ | with_reducible refine w_nob ?_ | with_reducible refine w_b ?_ | with_reducible refine w_lc ?_ | with_reducible refine w_inK ?_ | with_reducible refine w_ixK ?_ | with_reducible refine w_join ?_ | with_reducible refine w_enum ?_ | with_reducible refine w_setFld ?_ | with_reducible refine w_fld ?_ | with_reducible refine w_raise0 ?_ | with_reducible refine w_lrg1 ?_ | with_reducible refine w_lrg2 ?_ | with_reducible refine w_ch ?_ | with_reducible refine w_chain1 ?_ | with_reducible refine w_chain2 ?_ | with_reducible refine w_items ?_ | with_reducible refine w_rng1 ?_ | with_reducible refine w_rng2 ?_ | with_reducible refine w_ret ?_ | with_reducible refine t_nx ?_ | with_reducible refine t_rt ?_ | with_reducible refine u_nx ?_ | with_reducible refine u_rt ?_ | with_reducible refine l_add ?_ | with_reducible refine l_sub ?_ | with_reducible refine l_neg ?_ | with_reducible refine l_lt ?_ | with_reducible refine l_le ?_ | with_reducible refine l_gt ?_ | with_reducible refine l_ge ?_ | with_reducible refine l_eqI ?_ | with_reducible refine l_neI ?_ | with_reducible refine l_eqS ?_ | with_reducible refine l_neS ?_ | with_reducible refine l_eqB ?_ | with_reducible refine l_neB ?_ | with_reducible refine l_int ?_ | with_reducible refine l_max ?_ | with_reducible refine l_min ?_ | ((with_reducible apply w_var); rfl) | ((with_reducible apply w_varO); rfl) | ((with_reducible refine w_own (xs := []) ?_ ?_); exact ⟨_, rfl⟩) | ((with_reducible apply w_ownAt); rfl; rfl) | ((with_reducible apply w_ownAtD); rfl) | ((with_reducible apply w_xslotD); rfl) | ((with_reducible apply w_xslotO); rfl) | ((with_reducible refine l_mod ?_ ?_); (first | assumption | omega | exact ⟨by omega, by decide⟩)) | ((with_reducible refine l_div ?_ ?_); (first | assumption | omega | exact ⟨by omega, by decide⟩)) | ((with_reducible refine l_pow ?_ ?_); (first | assumption | omega | exact ⟨by omega, by decide⟩)) | ((with_reducible refine l_lrg ?_ ?_); (first | assumption | omega | exact ⟨by omega, by omega, by omega, by omega, by omega⟩)) | ((with_reducible refine l_mul ?_ ?_); (first | assumption | omega | exact ⟨by omega, by decide⟩)) | ((with_reducible apply c_t); rfl) | ((with_reducible apply c_f); rfl) | ((with_reducible apply s_lt); rfl) | ((with_reducible apply s_le); rfl) | ((with_reducible apply s_par); rfl; rfl; rfl) | ((with_reducible apply s_has); rfl) | ((with_reducible apply s_six); rfl; rfl; rfl) | ((with_reducible apply s_fl); rfl) | ((with_reducible apply s_lt2); rfl; rfl) | ((with_reducible apply s_pl); rfl) | ((with_reducible refine s_rb ?_ ?_); omega) | ((with_reducible apply w_lenO); rfl) | ((with_reducible apply s_sf); rfl; rfl) | ((with_reducible apply w_ownFldD); rfl; rfl) | ((with_reducible apply w_ownFldO); rfl; rfl; rfl) | ((with_reducible apply w_lenD); rfl) | ((with_reducible apply s_ex); rfl) | (rw [fz_dat]) | (rw [fz_own]) | ((with_reducible apply l_some); rfl)))
theorem isint_ok (d lo hi : D) (h : okD d = true) (h1 : PL.bnd lo = true) (h2 : PL.bnd hi = true) {Q : O → Rho → Prop} {E : Ex → Rho → Prop} (k : ∀ ρ, 3 ≤ ρ.length → Q (.dat (.bl (isInt d && (lob lo d && hib hi d)))) ρ) : Call E_is_integer [.dat d, .dat lo, .dat hi] Q E := by
  unfold Call
  rw [show E_is_integer.F = bodyF 3 3 [] g_is_integer from rfl]
  (refine call_body ?_ ?_ ?_; rfl; rfl)
  show wp (g_is_integer [some (.dat d), some (.dat lo), some (.dat hi)]) _ _
  unfold g_is_integer
  cases d with
  | int v =>
    cases lo with
    | non =>
      cases hi with
      | non =>
        simp_wf
        exact ⟨rfl, .inr ⟨_, rfl, k _ (Nat.le_refl 3)⟩⟩
      | int b =>
        simp_wf
        exact ⟨rfl, .inr ⟨_, rfl, k _ (Nat.le_refl 3)⟩⟩
      | _ => cases h2
    | int a =>
      cases hi with
      | non =>
        simp_wf
        refine ⟨fun hc => ?_, fun hc => ?_⟩
        · have e : (isInt (.int v) && (lob (.int a) (.int v) && hib .non (.int v))) = true := by show (true && (decide (a ≤ v) && true)) = true; rw [hc]; rfl
          rw [e] at k
          simp_wf
          exact ⟨rfl, .inr ⟨_, rfl, k _ (Nat.le_refl 3)⟩⟩
        · have e : (isInt (.int v) && (lob (.int a) (.int v) && hib .non (.int v))) = decide (a ≤ v) := by show (true && (decide (a ≤ v) && true)) = _; simp
          rw [e] at k
          simp_wf
          exact ⟨rfl, .inr ⟨_, rfl, k _ (Nat.le_refl 3)⟩⟩
      | int b =>
        simp_wf
        refine ⟨fun hc => ?_, fun hc => ?_⟩
        · have e : (isInt (.int v) && (lob (.int a) (.int v) && hib (.int b) (.int v))) = decide (v ≤ b) := by show (true && (decide (a ≤ v) && decide (v ≤ b))) = _; rw [hc]; simp
          rw [e] at k
          simp_wf
          exact ⟨rfl, .inr ⟨_, rfl, k _ (Nat.le_refl 3)⟩⟩
        · have e : (isInt (.int v) && (lob (.int a) (.int v) && hib (.int b) (.int v))) = decide (a ≤ v) := by show (true && (decide (a ≤ v) && decide (v ≤ b))) = _; rw [hc]; simp
          rw [e] at k
          simp_wf
          exact ⟨rfl, .inr ⟨_, rfl, k _ (Nat.le_refl 3)⟩⟩
      | _ => cases h2
    | _ => cases h1
  | bl b =>
    simp_wf
    exact ⟨rfl, .inr ⟨_, rfl, k _ (Nat.le_refl 3)⟩⟩
  | ty _ => cases h
  | scr _ => cases h
  | obj _ _ => cases h
  | kls _ => cases h
  | _ =>
    simp_wf
    exact ⟨rfl, .inr ⟨_, rfl, k _ (Nat.le_refl 3)⟩⟩
section
variable {fX : M (List Ar)} {ρ : Rho} {QO : O → Rho → Prop} {E : Ex → Rho → Prop}
theorem w_isint1 (h : wp (fX ρ) (fun as ρ' => ∃ d, as = [.d d] ∧ okD d = true ∧ QO (.dat (.bl (isInt d))) ρ') E) : wp (mCall E_is_integer fX ρ) QO E :=
  w_callD (wp_mono h (fun as ρ' ⟨d, e, hd, q⟩ => ⟨[d], e, ⟨Nat.le_of_ble_eq_true rfl, Nat.le_of_ble_eq_true rfl⟩, isint_ok d .non .non hd rfl rfl fun ρ2 hl => ⟨Nat.le_trans (Nat.le_of_ble_eq_true rfl) hl, by
    have : (isInt d && (lob .non d && hib .non d)) = isInt d := by cases d <;> rfl
    rw [this]
    exact q⟩⟩) fun _ _ k => k)
end
/-! ### patterns -/
def arC (b : Bool) : Nat := if b then 62 else 60
def arS (a : List Bool) : Str := ⟨(a.map arC).toArray⟩
theorem arS_len {a : List Bool} : (arS a).length = a.length := by
  show (a.map arC).toArray.size = _
  simp
theorem arS_items {a : List Bool} : itemsD (.str (arS a)) = some (a.map fun b => chr1 (arC b)) := by
  show some ((a.map arC).toArray.toList.map chr1) = _
  simp [Function.comp_def]
theorem arS_map {a : List Bool} : List.map chr1 (arS a).cps.toList = a.map fun b => chr1 (arC b) := by simp [arS, Function.comp_def]
theorem at_nat {α : Type} {xs : List α} {k : Nat} (h : k < xs.length) : L2.atI xs (k : Int) = some xs[k] := by
  unfold L2.atI ixN
  rw [if_pos (by omega), if_pos (by omega)]
  simp [h]
theorem ix_ar {a : List Bool} {k : Nat} (h : k < a.length) (hl : a.length ≤ 1000) : ixD (.str (arS a)) (.int (k : Int)) = some (chr1 (arC (a.getD k false))) := by
  show (if (arS a).length ≤ big then (L2.atI (arS a).cps.toList (k : Int)).map chr1 else none) = _
  rw [if_pos (by rw [arS_len]; unfold big; omega)]
  have e : (arS a).cps.toList = a.map arC := by simp [arS]
  rw [e, at_nat (by simpa using h)]
  simp [h]
theorem len_ar {a : List Bool} (hl : a.length ≤ 1000) : lenD [.str (arS a)] = some (.int a.length) := by
  show (if (arS a).length ≤ big then some (D.int (arS a).length) else none) = _
  rw [if_pos (by rw [arS_len]; unfold big; omega), arS_len]
theorem arC_eq (b : Bool) : ((⟨#[arC b]⟩ : Str) == (">" : Str)) = b := by cases b <;> decide +kernel
section
variable {fX : M (List Ar)} {ρ : Rho} {QO : O → Rho → Prop} {E : Ex → Rho → Prop}
theorem w_ispat (h : wp (fX ρ) (fun as ρ' => ∃ a, as = [.d (.str (arS a))] ∧ a.length ≤ 6 ∧ QO (.dat (.bl true)) ρ') E) : wp (mCall E_is_pattern fX ρ) QO E := by
  refine w_callD (wp_mono h (fun as ρ' ⟨a, e, hl, q⟩ => ⟨[.str (arS a)], e, ⟨Nat.le_refl 1, Nat.le_refl 1⟩, ?_⟩) fun _ _ k => k)
  unfold Call
  rw [show E_is_pattern.F = bodyF 2 1 [] g_is_pattern from rfl]
  (refine call_body ?_ ?_ ?_; rfl; rfl)
  show wp (g_is_pattern [some (.dat (.str (arS a))), none]) _ _
  unfold g_is_pattern
  simp_wf
  refine l_some (len_ar (by omega)) ?_
  unfold c_MOST_ARROWS
  simp_wf
  refine ⟨fun hc => ?_, fun hc => absurd (of_decide_eq_false hc) (by omega)⟩
  simp_wf
  rw [arS_map]
  refine w_lcD a (fun b => chr1 (arC b)) (fun _ => .bl true) (by unfold big; omega) (fun b hb => ⟨_, rfl, ?_⟩) ?_
  · simp_wf
    have e1 : (T_OTHER.lookup ⟨#[arC b]⟩).isSome = true := by cases b <;> decide +kernel
    exact ⟨by rw [e1], rfl⟩
  · simp_wf
    refine l_some (all_of a fun _ => true) ?_
    simp_wf
    have : (a.all fun _ => true) = true := by simp
    rw [this]
    exact ⟨rfl, .inr ⟨_, rfl, Nat.le_of_ble_eq_true rfl, q⟩⟩
theorem w_needpat (h : wp (fX ρ) (fun as ρ' => ∃ a, as = [.d (.str (arS a))] ∧ a.length ≤ 6 ∧ QO (.dat .non) ρ') E) : wp (mCall E_need_pattern fX ρ) QO E := by
  refine w_callD (wp_mono h (fun as ρ' ⟨a, e, hl, q⟩ => ⟨[.str (arS a)], e, ⟨Nat.le_refl 1, Nat.le_refl 1⟩, ?_⟩) fun _ _ k => k)
  unfold Call
  rw [show E_need_pattern.F = bodyF 1 1 [] g_need_pattern from rfl]
  (refine call_body ?_ ?_ ?_; rfl; rfl)
  show wp (g_need_pattern [some (.dat (.str (arS a)))]) _ _
  unfold g_need_pattern
  simp_wf
  refine w_ispat ?_
  simp_wf
  refine ⟨hl, ?_⟩
  simp_wf
  exact ⟨rfl, .inl ⟨rfl, Nat.le_refl 1, q⟩⟩
end
theorem glue_ar : ∀ (bs : List Bool) (acc : List Nat), (bs.map fun b => (⟨#[arC b]⟩ : Str)).foldl (fun acc p => acc ++ ("" : Str).cps ++ p.cps) acc.toArray = (acc ++ bs.map arC).toArray
  | [], acc => by simp
  | b :: bs, acc => by
    have e : ((acc.toArray ++ ("" : Str).cps ++ (⟨#[arC b]⟩ : Str).cps)) = (acc ++ [arC b]).toArray := by
      have e0 : ("" : Str).cps = #[] := by decide
      rw [e0]; simp
    rw [List.map_cons, List.foldl_cons, e, glue_ar bs]
    simp
theorem arS_join {bs : List Bool} (h : bs.length ≤ 1000) : joinD (.str "") (.lst (bs.map fun b => chr1 (arC b))) = some (.str (arS bs)) := by
  have h1 : ∀ bs : List Bool, txts (bs.map fun b => chr1 (arC b)) = some (bs.map fun b => (⟨#[arC b]⟩ : Str)) := by
    intro bs
    induction bs with
    | nil => rfl
    | cons b bs ih =>
      show (txts (bs.map fun b => chr1 (arC b))).map _ = _
      rw [ih]; rfl
  show (match txts (bs.map fun b => chr1 (arC b)) with
    | some ys => if (ys.map fun y : Str => y.length).sum + ys.length * ("" : Str).length ≤ big then some (D.str (Txt.join "" ys)) else none
    | none => none) = _
  rw [h1]
  dsimp only
  have h2 : ((bs.map fun b => (⟨#[arC b]⟩ : Str)).map Str.length).sum = bs.length := by
    clear h
    induction bs with
    | nil => rfl
    | cons b bs ih =>
      simp only [List.map_cons, List.sum_cons, ih]
      show 1 + bs.length = _
      simp only [List.length_cons]; omega
  have h3 : (bs.map fun b => (⟨#[arC b]⟩ : Str)).length * ("" : Str).length = 0 := by
    have : ("" : Str).length = 0 := by decide
    rw [this]; rfl
  rw [if_pos (by rw [h2, h3]; unfold big; omega)]
  cases bs with
  | nil => rfl
  | cons b bs =>
    show some (D.str ⟨(bs.map fun b => (⟨#[arC b]⟩ : Str)).foldl (fun acc p => acc ++ ("" : Str).cps ++ p.cps) ([arC b]).toArray⟩) = _
    rw [glue_ar]
    rfl
section
variable {ρ : Rho} {QO : O → Rho → Prop} {E : Ex → Rho → Prop}
theorem w_pattern {i : Nat} {xs : List O} {n m : Int} (e : ρ[i]? = some (some (.own xs))) (hb : Bx xs n) (hn : n ≤ 80000) (hm : 0 ≤ m ∧ m ≤ 100) {fm : M D} (hf : wp (fm ρ) (fun y ρ' => y = .int m ∧ ρ' = ρ) E)
    (h : ∀ (bs : List Bool) xs', (bs.length : Int) ≤ m → Bx xs' (n + 200) → QO (.dat (.str (arS bs))) (ρ.set i (some (.own xs')))) : wp (mCall E__law_arrows (xSlot i (xCons fm xNil)) ρ) QO E := by
  refine w_callO (i := i) (w_xslotO e (w_xcons (wp_mono hf (fun y ρ' ⟨e1, e2⟩ => ?_) fun _ _ k => k)))
  subst e1 e2
  refine w_xnil ⟨[.int m], xs, rfl, e, rfl, rfl, ?_⟩
  unfold Call
  rw [show E__law_arrows.F = bodyF 3 2 [0] g__law_arrows from rfl]
  (refine call_body ?_ ?_ ?_; rfl; rfl)
  show wp (g__law_arrows [some (.own xs), some (.dat (.int m)), none]) _ _
  unfold g__law_arrows
  simp_wf
  refine takeK rfl hb (by omega) ?_
  simp_wf
  refine ⟨rfl, by omega, fun r xs' h0 h1 hb' => ?_⟩
  simp_wf
  refine w_lcT (lo := 0) (N := r.toNat) (c := 1) (n := n + 1) (xs := xs') (P := fun o => ∃ b : Bool, o = .dat (chr1 (arC b)) ∧ True) (fun z => [some (.own z), some (.dat (.int m)), none]) hb' (by unfold big; omega) (fun k xs2 n2 hk hb2 hn2 => ⟨_, rfl, ?_⟩) ?_
  · simp_wf
    refine takeK rfl hb2 (by omega) ?_
    simp_wf
    refine ⟨rfl, by decide, fun r2 xs3 h02 h12 hb3 => ?_⟩
    have hr : r2 = 0 ∨ r2 = 1 := by omega
    rcases hr with rfl | rfl
    · simp_wf
      exact ⟨⟨true, rfl, trivial⟩, xs3, hb3, rfl⟩
    · simp_wf
      exact ⟨⟨false, rfl, trivial⟩, xs3, hb3, rfl⟩
  · intro os xs2 hl ho hb2
    obtain ⟨bs, rfl, _⟩ := all_form ho
    rw [List.length_map] at hl
    have e3 : fz (.own (bs.map fun b => O.dat (chr1 (arC b)))) = .lst (bs.map fun b => chr1 (arC b)) := by
      have := fz_dats (ds := bs.map fun b => chr1 (arC b))
      rwa [List.map_map] at this
    simp_wf
    rw [e3]
    refine l_some (arS_join (by omega)) ?_
    simp_wf
    exact ⟨rfl, .inr ⟨_, rfl, _, _, rfl, Nat.le_of_ble_eq_true rfl, h bs xs2 (by omega) (hb2.up (by omega))⟩⟩
end
end K46

end
-- text P46b
section
set_option linter.all false
set_option maxRecDepth 100000
set_option maxHeartbeats 0
namespace K46
open PySem PySem.Spec PyProof.Rows L2 PL
local macro_rules
  | `(tactic| simp_wf) => `(tactic| repeat (first | with_reducible refine w_seq ?_ | with_reducible refine w_nx ?_ | with_reducible refine w_if ?_ | with_reducible refine w_set ?_ | with_reducible refine w_retS ?_ | with_reducible refine w_exS ?_ | with_reducible refine w_raise ?_ | with_reducible refine w_par ?_ | with_reducible refine w_setIx ?_ | with_reducible refine w_tst ?_ | with_reducible refine w_tru ?_ | with_reducible refine w_not ?_ | with_reducible refine w_and ?_ | with_reducible refine w_or ?_ | with_reducible refine w_asD ?_ | with_reducible refine w_asO ?_ | with_reducible refine w_bin ?_ | with_reducible refine w_cmp ?_ | with_reducible refine w_ix ?_ | with_reducible refine w_neg ?_ | with_reducible refine w_cb ?_ | with_reducible refine w_andV ?_ | with_reducible refine w_orV ?_ | with_reducible refine w_notV ?_ | with_reducible refine w_nil ?_ | with_reducible refine w_cons ?_ | with_reducible refine w_lst ?_ | with_reducible refine w_tup ?_ | with_reducible refine w_xnil ?_ | with_reducible refine w_xcons ?_ | with_reducible refine w_for ?_ | with_reducible refine w_borT ?_ | with_reducible refine w_bor ?_ | with_reducible refine w_parO ?_ | with_reducible refine w_zip ?_ | with_reducible refine w_listO ?_ | with_reducible refine w_asgT ?_ | with_reducible refine w_sl ?_ | with_reducible refine w_nob ?_ | with_reducible refine w_b ?_ | with_reducible refine w_lc ?_ | with_reducible refine w_inK ?_ | with_reducible refine w_ixK ?_ | with_reducible refine w_join ?_ | with_reducible refine w_enum ?_ | with_reducible refine w_setFld ?_ | with_reducible refine w_fld ?_ | with_reducible refine w_raise0 ?_ | with_reducible refine w_lrg1 ?_ | with_reducible refine w_lrg2 ?_ | with_reducible refine w_ch ?_ | with_reducible refine w_chain1 ?_ | with_reducible refine w_chain2 ?_ | with_reducible refine w_items ?_ | with_reducible refine w_rng1 ?_ | with_reducible refine w_rng2 ?_ | with_reducible refine w_ret ?_ | with_reducible refine t_nx ?_ | with_reducible refine t_rt ?_ | with_reducible refine u_nx ?_ | with_reducible refine u_rt ?_ | with_reducible refine l_add ?_ | with_reducible refine l_sub ?_ | with_reducible refine l_neg ?_ | with_reducible refine l_lt ?_ | with_reducible refine l_le ?_ | with_reducible refine l_gt ?_ | with_reducible refine l_ge ?_ | with_reducible refine l_eqI ?_ | with_reducible refine l_neI ?_ | with_reducible refine l_eqS ?_ | with_reducible refine l_neS ?_ | with_reducible refine l_eqB ?_ | with_reducible refine l_neB ?_ | with_reducible refine l_int ?_ | with_reducible refine l_max ?_ | with_reducible refine l_min ?_ | ((with_reducible apply w_var); rfl) | ((with_reducible apply w_varO); rfl) | ((with_reducible refine w_own (xs := []) ?_ ?_); exact ⟨_, rfl⟩) | ((with_reducible apply w_ownAt); rfl; rfl) | ((with_reducible apply w_ownAtD); rfl) | ((with_reducible apply w_xslotD); rfl) | ((with_reducible apply w_xslotO); rfl) | ((with_reducible refine l_mod ?_ ?_); (first | assumption | omega | exact ⟨by omega, by decide⟩)) | ((with_reducible refine l_div ?_ ?_); (first | assumption | omega | exact ⟨by omega, by decide⟩)) | ((with_reducible refine l_pow ?_ ?_); (first | assumption | omega | exact ⟨by omega, by decide⟩)) | ((with_reducible refine l_lrg ?_ ?_); (first | assumption | omega | exact ⟨by omega, by omega, by omega, by omega, by omega⟩)) | ((with_reducible refine l_mul ?_ ?_); (first | assumption | omega | exact ⟨by omega, by decide⟩)) | ((with_reducible apply c_t); rfl) | ((with_reducible apply c_f); rfl) | ((with_reducible apply s_lt); rfl) | ((with_reducible apply s_le); rfl) | ((with_reducible apply s_par); rfl; rfl; rfl) | ((with_reducible apply s_has); rfl) | ((with_reducible apply s_six); rfl; rfl; rfl) | ((with_reducible apply s_fl); rfl) | ((with_reducible apply s_lt2); rfl; rfl) | ((with_reducible apply s_pl); rfl) | ((with_reducible refine s_rb ?_ ?_); omega) | ((with_reducible apply w_lenO); rfl) | ((with_reducible apply s_sf); rfl; rfl) | ((with_reducible apply w_ownFldD); rfl; rfl) | ((with_reducible apply w_ownFldO); rfl; rfl; rfl) | ((with_reducible apply w_lenD); rfl) | ((with_reducible apply s_ex); rfl) | (rw [fz_dat]) | (rw [fz_own]) | ((with_reducible apply l_some); rfl)))
local macro_rules
  | `(tactic| clean_wf) => `(tactic| repeat (first | with_reducible refine w_nx ?_ | with_reducible refine w_if ?_ | with_reducible refine w_set ?_ | with_reducible refine w_retS ?_ | with_reducible refine w_exS ?_ | with_reducible refine w_raise ?_ | with_reducible refine w_par ?_ | with_reducible refine w_setIx ?_ | with_reducible refine w_tst ?_ | with_reducible refine w_tru ?_ | with_reducible refine w_not ?_ | with_reducible refine w_and ?_ | with_reducible refine w_or ?_ | with_reducible refine w_asD ?_ | with_reducible refine w_asO ?_ | with_reducible refine w_bin ?_ | with_reducible refine w_cmp ?_ | with_reducible refine w_ix ?_ | with_reducible refine w_neg ?_ | with_reducible refine w_cb ?_ | with_reducible refine w_andV ?_ | with_reducible refine w_orV ?_ | with_reducible refine w_notV ?_ | with_reducible refine w_nil ?_ | with_reducible refine w_cons ?_ | with_reducible refine w_lst ?_ | with_reducible refine w_tup ?_ | with_reducible refine w_xnil ?_ | with_reducible refine w_xcons ?_ | with_reducible refine w_for ?_ | with_reducible refine w_borT ?_ | with_reducible refine w_bor ?_ | with_reducible refine w_parO ?_ | with_reducible refine w_zip ?_ | with_reducible refine w_listO ?_ | with_reducible refine w_asgT ?_ | with_reducible refine w_sl ?_ | with_reducible refine w_nob ?_ | with_reducible refine w_b ?_ | with_reducible refine w_lc ?_ | with_reducible refine w_inK ?_ | with_reducible refine w_ixK ?_ | with_reducible refine w_join ?_ | with_reducible refine w_enum ?_ | with_reducible refine w_setFld ?_ | with_reducible refine w_fld ?_ | with_reducible refine w_raise0 ?_ | with_reducible refine w_lrg1 ?_ | with_reducible refine w_lrg2 ?_ | with_reducible refine w_ch ?_ | with_reducible refine w_chain1 ?_ | with_reducible refine w_chain2 ?_ | with_reducible refine w_items ?_ | with_reducible refine w_rng1 ?_ | with_reducible refine w_rng2 ?_ | with_reducible refine w_ret ?_ | with_reducible refine t_nx ?_ | with_reducible refine t_rt ?_ | with_reducible refine u_nx ?_ | with_reducible refine u_rt ?_ | with_reducible refine l_add ?_ | with_reducible refine l_sub ?_ | with_reducible refine l_neg ?_ | with_reducible refine l_lt ?_ | with_reducible refine l_le ?_ | with_reducible refine l_gt ?_ | with_reducible refine l_ge ?_ | with_reducible refine l_eqI ?_ | with_reducible refine l_neI ?_ | with_reducible refine l_eqS ?_ | with_reducible refine l_neS ?_ | with_reducible refine l_eqB ?_ | with_reducible refine l_neB ?_ | with_reducible refine l_int ?_ | with_reducible refine l_max ?_ | with_reducible refine l_min ?_ | ((with_reducible apply w_var); rfl) | ((with_reducible apply w_varO); rfl) | ((with_reducible refine w_own (xs := []) ?_ ?_); exact ⟨_, rfl⟩) | ((with_reducible apply w_ownAt); rfl; rfl) | ((with_reducible apply w_ownAtD); rfl) | ((with_reducible apply w_xslotD); rfl) | ((with_reducible apply w_xslotO); rfl) | ((with_reducible refine l_mod ?_ ?_); (first | assumption | omega | exact ⟨by omega, by decide⟩)) | ((with_reducible refine l_div ?_ ?_); (first | assumption | omega | exact ⟨by omega, by decide⟩)) | ((with_reducible refine l_pow ?_ ?_); (first | assumption | omega | exact ⟨by omega, by decide⟩)) | ((with_reducible refine l_lrg ?_ ?_); (first | assumption | omega | exact ⟨by omega, by omega, by omega, by omega, by omega⟩)) | ((with_reducible refine l_mul ?_ ?_); (first | assumption | omega | exact ⟨by omega, by decide⟩)) | ((with_reducible apply c_t); rfl) | ((with_reducible apply c_f); rfl) | ((with_reducible apply s_lt); rfl) | ((with_reducible apply s_le); rfl) | ((with_reducible apply s_par); rfl; rfl; rfl) | ((with_reducible apply s_has); rfl) | ((with_reducible apply s_six); rfl; rfl; rfl) | ((with_reducible apply s_fl); rfl) | ((with_reducible apply s_lt2); rfl; rfl) | ((with_reducible apply s_pl); rfl) | ((with_reducible refine s_rb ?_ ?_); omega) | ((with_reducible apply w_lenO); rfl) | ((with_reducible apply s_sf); rfl; rfl) | ((with_reducible apply w_ownFldD); rfl; rfl) | ((with_reducible apply w_ownFldO); rfl; rfl; rfl) | ((with_reducible apply w_lenD); rfl) | ((with_reducible apply s_ex); rfl) | (rw [fz_dat]) | (rw [fz_own]) | ((with_reducible apply l_some); rfl)))
def tp (i j : Nat) : D := .tup [.int i, .int j]
def hasM (a : List Bool) (b0 b1 o0 o1 : Nat) : Bool :=
  if min b1 o1 < max b0 o0 then false
  else if b0 ≠ o0 ∧ a.getD (max b0 o0 - 1) false ≠ decide (o0 < b0) then false
  else decide (b1 = o1) || (a.getD (min b1 o1) false == decide (o1 < b1))
theorem arC_eq2 (b : Bool) : ((⟨#[arC b]⟩ : Str) == ("<" : Str)) = !b := by cases b <;> decide +kernel
theorem max_nat (x y : Nat) : (if (y : Int) > (x : Int) then (y : Int) else (x : Int)) = ((max x y : Nat) : Int) := by split <;> omega
theorem min_nat (x y : Nat) : (if (y : Int) < (x : Int) then (y : Int) else (x : Int)) = ((min x y : Nat) : Int) := by split <;> omega
theorem ne_chr (b : Bool) : cmpD .NotEq (chr1 (arC b)) (.str ">") = some (.bl (!b)) := by cases b <;> rfl
theorem ne_chr2 (b : Bool) : cmpD .NotEq (chr1 (arC b)) (.str "<") = some (.bl b) := by cases b <;> rfl
theorem eq_chr (b : Bool) : cmpD .Eq (chr1 (arC b)) (.str ">") = some (.bl b) := by cases b <;> rfl
theorem eq_chr2 (b : Bool) : cmpD .Eq (chr1 (arC b)) (.str "<") = some (.bl (!b)) := by cases b <;> rfl
section
variable {fX : M (List Ar)} {ρ : Rho} {QO : O → Rho → Prop} {E : Ex → Rho → Prop}
theorem w_hasmap (h : wp (fX ρ) (fun as ρ' => ∃ a b0 b1 o0 o1, as = [.d (.str (arS a)), .d (tp b0 b1), .d (tp o0 o1)] ∧ a.length ≤ 6 ∧ (b0 ≤ b1 ∧ b1 ≤ a.length) ∧ (o0 ≤ o1 ∧ o1 ≤ a.length) ∧ QO (.dat (.bl (hasM a b0 b1 o0 o1))) ρ') E) : wp (mCall E_has_map fX ρ) QO E := by
  refine w_callD (wp_mono h (fun as ρ' ⟨a, b0, b1, o0, o1, e, la, hb, ho, q⟩ => ⟨[.str (arS a), tp b0 b1, tp o0 o1], e, ⟨Nat.le_refl 3, Nat.le_refl 3⟩, ?_⟩) fun _ _ k => k)
  unfold Call
  rw [show E_has_map.F = bodyF 5 3 [] g_has_map from rfl]
  (refine call_body ?_ ?_ ?_; rfl; rfl)
  show wp (g_has_map [some (.dat (.str (arS a))), some (.dat (tp b0 b1)), some (.dat (tp o0 o1)), none, none]) _ _
  unfold g_has_map
  simp_wf
  rw [max_nat, min_nat]
  refine ⟨fun hc => ?_, fun hc => ?_⟩
  · have c : min b1 o1 < max b0 o0 := by simpa using hc
    simp_wf
    refine ⟨rfl, .inr ⟨_, rfl, Nat.le_of_ble_eq_true rfl, ?_⟩⟩
    unfold hasM at q
    rw [if_pos c] at q
    exact q
  · have c : ¬ min b1 o1 < max b0 o0 := by simpa using hc
    unfold hasM at q
    rw [if_neg c] at q
    clean_wf
    refine w_cut (fun ρ => ¬(b0 ≠ o0 ∧ a.getD (max b0 o0 - 1) false ≠ decide (o0 < b0)) ∧ ρ = [some (.dat (.str (arS a))), some (.dat (tp b0 b1)), some (.dat (tp o0 o1)), some (.dat (.int ((max b0 o0 : Nat) : Int))), some (.dat (.int ((min b1 o1 : Nat) : Int)))]) ?_ ?_
    · clean_wf
      refine ⟨fun h1 => ?_, fun h1 => ?_⟩
      · have h1' : b0 ≠ o0 := by
          intro z
          rw [z] at h1
          simp at h1
        clean_wf
        rw [show (((max b0 o0 : Nat) : Int)) - 1 = ((max b0 o0 - 1 : Nat) : Int) by omega]
        refine l_some (ix_ar (by omega) (by omega)) ?_
        clean_wf
        generalize hx : a.getD (max b0 o0 - 1) false = x at q ⊢
        refine ⟨fun h2 => ?_, fun h2 => ?_⟩
        · have h2' : o0 < b0 := by simpa using h2
          refine w_ret ?_
          refine l_some (ne_chr x) ?_
          clean_wf
          cases x with
          | true =>
            clean_wf
            exact ⟨fun z => z.2 (by simp [h2']), rfl⟩
          | false =>
            rw [if_pos ⟨h1', by simp [h2']⟩] at q
            simp_wf
            exact ⟨rfl, .inr ⟨_, rfl, Nat.le_of_ble_eq_true rfl, q⟩⟩
        · have h2' : ¬ o0 < b0 := by simpa using h2
          refine w_ret ?_
          refine l_some (ne_chr2 x) ?_
          clean_wf
          cases x with
          | false =>
            clean_wf
            exact ⟨fun z => z.2 (by simp [h2']), rfl⟩
          | true =>
            rw [if_pos ⟨h1', by simp [h2']⟩] at q
            simp_wf
            exact ⟨rfl, .inr ⟨_, rfl, Nat.le_of_ble_eq_true rfl, q⟩⟩
      · clean_wf
        refine ⟨fun z => z.1 ?_, rfl⟩
        simp at h1
        omega
    · rintro ρ ⟨hn, rfl⟩
      rw [if_neg hn] at q
      simp_wf
      refine ⟨fun h1 => ?_, fun h1 => ?_⟩
      · have h1' : b1 = o1 := by
          have := beq_iff_eq.mp h1
          omega
        rw [h1]
        refine ⟨rfl, ?_⟩
        simp_wf
        rw [decide_eq_true h1'] at q
        exact ⟨rfl, .inr ⟨_, rfl, Nat.le_of_ble_eq_true rfl, q⟩⟩
      · have h1' : b1 ≠ o1 := by
          intro z
          rw [z] at h1
          simp at h1
        rw [decide_eq_false h1', Bool.false_or] at q
        simp_wf
        refine l_some (ix_ar (by omega) (by omega)) ?_
        simp_wf
        generalize hx : a.getD (min b1 o1) false = x at q ⊢
        refine ⟨fun h2 => ?_, fun h2 => ?_⟩
        · have h2' : o1 < b1 := by simpa using h2
          refine w_ret ?_
          refine l_some (eq_chr x) ?_
          simp_wf
          rw [decide_eq_true h2'] at q
          exact ⟨rfl, .inr ⟨_, rfl, Nat.le_of_ble_eq_true rfl, by simpa using q⟩⟩
        · have h2' : ¬ o1 < b1 := by simpa using h2
          refine w_ret ?_
          refine l_some (eq_chr2 x) ?_
          simp_wf
          rw [decide_eq_false h2'] at q
          exact ⟨rfl, .inr ⟨_, rfl, Nat.le_of_ble_eq_true rfl, by simpa using q⟩⟩
end
end K46

end
-- text P46c
section
set_option linter.all false
set_option maxRecDepth 100000
set_option maxHeartbeats 0
namespace K46
open PySem PySem.Spec PyProof.Rows L2 PL
local macro_rules
  | `(tactic| simp_wf) => `(tactic| repeat (first | with_reducible refine w_seq ?_ | with_reducible refine w_nx ?_ | with_reducible refine w_if ?_ | with_reducible refine w_set ?_ | with_reducible refine w_retS ?_ | with_reducible refine w_exS ?_ | with_reducible refine w_raise ?_ | with_reducible refine w_par ?_ | with_reducible refine w_setIx ?_ | with_reducible refine w_tst ?_ | with_reducible refine w_tru ?_ | with_reducible refine w_not ?_ | with_reducible refine w_and ?_ | with_reducible refine w_or ?_ | with_reducible refine w_asD ?_ | with_reducible refine w_asO ?_ | with_reducible refine w_bin ?_ | with_reducible refine w_cmp ?_ | with_reducible refine w_ix ?_ | with_reducible refine w_neg ?_ | with_reducible refine w_cb ?_ | with_reducible refine w_andV ?_ | with_reducible refine w_orV ?_ | with_reducible refine w_notV ?_ | with_reducible refine w_nil ?_ | with_reducible refine w_cons ?_ | with_reducible refine w_lst ?_ | with_reducible refine w_tup ?_ | with_reducible refine w_xnil ?_ | with_reducible refine w_xcons ?_ | with_reducible refine w_for ?_ | with_reducible refine w_borT ?_ | with_reducible refine w_bor ?_ | with_reducible refine w_parO ?_ | with_reducible refine w_zip ?_ | with_reducible refine w_listO ?_ | with_reducible refine w_asgT ?_ | with_reducible refine w_sl ?_ | with_reducible refine w_nob ?_ | with_reducible refine w_b ?_ | with_reducible refine w_lc ?_ | with_reducible refine w_inK ?_ | with_reducible refine w_ixK ?_ | with_reducible refine w_join ?_ | with_reducible refine w_enum ?_ | with_reducible refine w_setFld ?_ | with_reducible refine w_fld ?_ | with_reducible refine w_raise0 ?_ | with_reducible refine w_lrg1 ?_ | with_reducible refine w_lrg2 ?_ | with_reducible refine w_ch ?_ | with_reducible refine w_chain1 ?_ | with_reducible refine w_chain2 ?_ | with_reducible refine w_items ?_ | with_reducible refine w_rng1 ?_ | with_reducible refine w_rng2 ?_ | with_reducible refine w_ret ?_ | with_reducible refine t_nx ?_ | with_reducible refine t_rt ?_ | with_reducible refine u_nx ?_ | with_reducible refine u_rt ?_ | with_reducible refine l_add ?_ | with_reducible refine l_sub ?_ | with_reducible refine l_neg ?_ | with_reducible refine l_lt ?_ | with_reducible refine l_le ?_ | with_reducible refine l_gt ?_ | with_reducible refine l_ge ?_ | with_reducible refine l_eqI ?_ | with_reducible refine l_neI ?_ | with_reducible refine l_eqS ?_ | with_reducible refine l_neS ?_ | with_reducible refine l_eqB ?_ | with_reducible refine l_neB ?_ | with_reducible refine l_int ?_ | with_reducible refine l_max ?_ | with_reducible refine l_min ?_ | ((with_reducible apply w_var); rfl) | ((with_reducible apply w_varO); rfl) | ((with_reducible refine w_own (xs := []) ?_ ?_); exact ⟨_, rfl⟩) | ((with_reducible apply w_ownAt); rfl; rfl) | ((with_reducible apply w_ownAtD); rfl) | ((with_reducible apply w_xslotD); rfl) | ((with_reducible apply w_xslotO); rfl) | ((with_reducible refine l_mod ?_ ?_); (first | assumption | omega | exact ⟨by omega, by decide⟩)) | ((with_reducible refine l_div ?_ ?_); (first | assumption | omega | exact ⟨by omega, by decide⟩)) | ((with_reducible refine l_pow ?_ ?_); (first | assumption | omega | exact ⟨by omega, by decide⟩)) | ((with_reducible refine l_lrg ?_ ?_); (first | assumption | omega | exact ⟨by omega, by omega, by omega, by omega, by omega⟩)) | ((with_reducible refine l_mul ?_ ?_); (first | assumption | omega | exact ⟨by omega, by decide⟩)) | ((with_reducible apply c_t); rfl) | ((with_reducible apply c_f); rfl) | ((with_reducible apply s_lt); rfl) | ((with_reducible apply s_le); rfl) | ((with_reducible apply s_par); rfl; rfl; rfl) | ((with_reducible apply s_has); rfl) | ((with_reducible apply s_six); rfl; rfl; rfl) | ((with_reducible apply s_fl); rfl) | ((with_reducible apply s_lt2); rfl; rfl) | ((with_reducible apply s_pl); rfl) | ((with_reducible refine s_rb ?_ ?_); omega) | ((with_reducible apply w_lenO); rfl) | ((with_reducible apply s_sf); rfl; rfl) | ((with_reducible apply w_ownFldD); rfl; rfl) | ((with_reducible apply w_ownFldO); rfl; rfl; rfl) | ((with_reducible apply w_lenD); rfl) | ((with_reducible apply s_ex); rfl) | (rw [fz_dat]) | (rw [fz_own]) | ((with_reducible apply l_some); rfl)))
local macro_rules
  | `(tactic| clean_wf) => `(tactic| repeat (first | with_reducible refine w_nx ?_ | with_reducible refine w_if ?_ | with_reducible refine w_set ?_ | with_reducible refine w_retS ?_ | with_reducible refine w_exS ?_ | with_reducible refine w_raise ?_ | with_reducible refine w_par ?_ | with_reducible refine w_setIx ?_ | with_reducible refine w_tst ?_ | with_reducible refine w_tru ?_ | with_reducible refine w_not ?_ | with_reducible refine w_and ?_ | with_reducible refine w_or ?_ | with_reducible refine w_asD ?_ | with_reducible refine w_asO ?_ | with_reducible refine w_bin ?_ | with_reducible refine w_cmp ?_ | with_reducible refine w_ix ?_ | with_reducible refine w_neg ?_ | with_reducible refine w_cb ?_ | with_reducible refine w_andV ?_ | with_reducible refine w_orV ?_ | with_reducible refine w_notV ?_ | with_reducible refine w_nil ?_ | with_reducible refine w_cons ?_ | with_reducible refine w_lst ?_ | with_reducible refine w_tup ?_ | with_reducible refine w_xnil ?_ | with_reducible refine w_xcons ?_ | with_reducible refine w_for ?_ | with_reducible refine w_borT ?_ | with_reducible refine w_bor ?_ | with_reducible refine w_parO ?_ | with_reducible refine w_zip ?_ | with_reducible refine w_listO ?_ | with_reducible refine w_asgT ?_ | with_reducible refine w_sl ?_ | with_reducible refine w_nob ?_ | with_reducible refine w_b ?_ | with_reducible refine w_lc ?_ | with_reducible refine w_inK ?_ | with_reducible refine w_ixK ?_ | with_reducible refine w_join ?_ | with_reducible refine w_enum ?_ | with_reducible refine w_setFld ?_ | with_reducible refine w_fld ?_ | with_reducible refine w_raise0 ?_ | with_reducible refine w_lrg1 ?_ | with_reducible refine w_lrg2 ?_ | with_reducible refine w_ch ?_ | with_reducible refine w_chain1 ?_ | with_reducible refine w_chain2 ?_ | with_reducible refine w_items ?_ | with_reducible refine w_rng1 ?_ | with_reducible refine w_rng2 ?_ | with_reducible refine w_ret ?_ | with_reducible refine t_nx ?_ | with_reducible refine t_rt ?_ | with_reducible refine u_nx ?_ | with_reducible refine u_rt ?_ | with_reducible refine l_add ?_ | with_reducible refine l_sub ?_ | with_reducible refine l_neg ?_ | with_reducible refine l_lt ?_ | with_reducible refine l_le ?_ | with_reducible refine l_gt ?_ | with_reducible refine l_ge ?_ | with_reducible refine l_eqI ?_ | with_reducible refine l_neI ?_ | with_reducible refine l_eqS ?_ | with_reducible refine l_neS ?_ | with_reducible refine l_eqB ?_ | with_reducible refine l_neB ?_ | with_reducible refine l_int ?_ | with_reducible refine l_max ?_ | with_reducible refine l_min ?_ | ((with_reducible apply w_var); rfl) | ((with_reducible apply w_varO); rfl) | ((with_reducible refine w_own (xs := []) ?_ ?_); exact ⟨_, rfl⟩) | ((with_reducible apply w_ownAt); rfl; rfl) | ((with_reducible apply w_ownAtD); rfl) | ((with_reducible apply w_xslotD); rfl) | ((with_reducible apply w_xslotO); rfl) | ((with_reducible refine l_mod ?_ ?_); (first | assumption | omega | exact ⟨by omega, by decide⟩)) | ((with_reducible refine l_div ?_ ?_); (first | assumption | omega | exact ⟨by omega, by decide⟩)) | ((with_reducible refine l_pow ?_ ?_); (first | assumption | omega | exact ⟨by omega, by decide⟩)) | ((with_reducible refine l_lrg ?_ ?_); (first | assumption | omega | exact ⟨by omega, by omega, by omega, by omega, by omega⟩)) | ((with_reducible refine l_mul ?_ ?_); (first | assumption | omega | exact ⟨by omega, by decide⟩)) | ((with_reducible apply c_t); rfl) | ((with_reducible apply c_f); rfl) | ((with_reducible apply s_lt); rfl) | ((with_reducible apply s_le); rfl) | ((with_reducible apply s_par); rfl; rfl; rfl) | ((with_reducible apply s_has); rfl) | ((with_reducible apply s_six); rfl; rfl; rfl) | ((with_reducible apply s_fl); rfl) | ((with_reducible apply s_lt2); rfl; rfl) | ((with_reducible apply s_pl); rfl) | ((with_reducible refine s_rb ?_ ?_); omega) | ((with_reducible apply w_lenO); rfl) | ((with_reducible apply s_sf); rfl; rfl) | ((with_reducible apply w_ownFldD); rfl; rfl) | ((with_reducible apply w_ownFldO); rfl; rfl; rfl) | ((with_reducible apply w_lenD); rfl) | ((with_reducible apply s_ex); rfl) | (rw [fz_dat]) | (rw [fz_own]) | ((with_reducible apply l_some); rfl)))
def barsU (n k : Nat) : List (Nat × Nat) := (List.range k).flatMap fun i => (List.range (n + 1 - i)).map fun j => (i, i + j)
def barsL (n : Nat) : List (Nat × Nat) := barsU n (n + 1)
def tq (q : Nat × Nat) : D := tp q.1 q.2
theorem barsU_succ (n k : Nat) : barsU n (k + 1) = barsU n k ++ (List.range (n + 1 - k)).map fun j => (k, k + j) := by
  unfold barsU
  rw [List.range_succ, List.flatMap_append]
  simp
theorem bars_mem {n : Nat} {q : Nat × Nat} (h : q ∈ barsL n) : q.1 ≤ q.2 ∧ q.2 ≤ n := by
  unfold barsL barsU at h
  obtain ⟨i, hi, hq⟩ := List.mem_flatMap.mp h
  obtain ⟨j, hj, rfl⟩ := List.mem_map.mp hq
  simp at hi hj
  dsimp only
  omega
theorem bars_len (n k : Nat) (hn : n ≤ 6) (hk : k ≤ 7) : (barsU n k).length ≤ 7 * k := by
  induction k with
  | zero => simp [barsU]
  | succ k ih =>
    rw [barsU_succ, List.length_append, List.length_map, List.length_range]
    have := ih (by omega)
    omega
section
variable {fX : M (List Ar)} {ρ : Rho} {QO : O → Rho → Prop} {E : Ex → Rho → Prop}
theorem w_bars (h : wp (fX ρ) (fun as ρ' => ∃ a, as = [.d (.str (arS a))] ∧ a.length ≤ 6 ∧ QO (.dat (.lst ((barsL a.length).map tq))) ρ') E) : wp (mCall E__law_bars fX ρ) QO E := by
  refine w_callD (wp_mono h (fun as ρ' ⟨a, e, la, q⟩ => ⟨[.str (arS a)], e, ⟨Nat.le_refl 1, Nat.le_refl 1⟩, ?_⟩) fun _ _ k => k)
  unfold Call
  rw [show E__law_bars.F = bodyF 4 1 [] g__law_bars from rfl]
  (refine call_body ?_ ?_ ?_; rfl; rfl)
  show wp (g__law_bars [some (.dat (.str (arS a))), none, none, none]) _ _
  unfold g__law_bars
  simp_wf
  refine l_some (len_ar (by omega)) ?_
  simp_wf
  refine w_forL _ (fun k ρ => ∃ (o : O) (y2 : Option O), fz o = .lst ((barsU a.length k).map tq) ∧ ρ = [some (.dat (.str (arS a))), some o, y2, none]) ⟨_, _, rfl, rfl⟩ ?_ ?_
  · rintro k d ρ hk ⟨o, y2, eo, rfl⟩
    obtain ⟨rfl, hk2⟩ := rngL_get hk
    have hk3 : k ≤ a.length := by omega
    refine ⟨_, rfl, ?_⟩
    simp_wf
    refine w_varX rfl ?_
    rw [eo]
    simp_wf
    refine l_some (len_ar (by omega)) ?_
    simp_wf
    refine ⟨0 + (k : Int), (a.length : Int) + 1, rfl, ⟨by omega, by omega, by omega, by omega⟩, rfl, ?_⟩
    rw [rngL_map, show (((a.length : Int) + 1 - (0 + (k : Int))).toNat) = a.length + 1 - k by omega]
    refine w_lcD (List.range (a.length + 1 - k)) (fun j => D.int (0 + (k : Int) + (j : Nat))) (fun j => tq (k, k + j)) (by simp; unfold big; omega) (fun j hj => ⟨_, rfl, ?_⟩) ?_
    · simp_wf
      refine ⟨?_, rfl⟩
      show O.dat (.tup [.int (0 + (k : Int)), .int (0 + (k : Int) + (j : Nat))]) = .dat (.tup [.int ((k : Nat) : Int), .int ((k + j : Nat) : Int)])
      rw [show (0 + (k : Int) + (j : Nat)) = ((k + j : Nat) : Int) by omega, show 0 + (k : Int) = (k : Int) by omega]
    · rw [fz_dats]
      have e2 : ((List.range (a.length + 1 - k)).map fun j => tq (k, k + j)) = ((List.range (a.length + 1 - k)).map fun j => (k, k + j)).map tq := by rw [List.map_map]; rfl
      have l2 := bars_len a.length (k + 1) la (by omega)
      rw [e2]
      refine l_some (show _ = some (D.lst ((barsU a.length (k + 1)).map tq)) from ?_) ?_
      · rw [barsU_succ, List.map_append]
        exact if_pos (by rw [← List.length_append, ← List.map_append, ← barsU_succ, List.length_map]; unfold big; omega)
      · simp_wf
        exact ⟨_, _, rfl, rfl⟩
  · rintro ρ ⟨o, y2, eo, rfl⟩
    simp_wf
    refine w_varX rfl ?_
    rw [eo]
    simp_wf
    refine ⟨rfl, .inr ⟨_, rfl, Nat.le_of_ble_eq_true rfl, ?_⟩⟩
    rw [rngL_len] 
    exact q
end
end K46

end
-- text P46d
section
set_option linter.all false
set_option maxRecDepth 100000
set_option maxHeartbeats 0
namespace K46
open PySem PySem.Spec PyProof.Rows L2 PL
local macro_rules
  | `(tactic| simp_wf) => `(tactic| repeat (first | with_reducible refine w_seq ?_ | with_reducible refine w_nx ?_ | with_reducible refine w_if ?_ | with_reducible refine w_set ?_ | with_reducible refine w_retS ?_ | with_reducible refine w_exS ?_ | with_reducible refine w_raise ?_ | with_reducible refine w_par ?_ | with_reducible refine w_setIx ?_ | with_reducible refine w_tst ?_ | with_reducible refine w_tru ?_ | with_reducible refine w_not ?_ | with_reducible refine w_and ?_ | with_reducible refine w_or ?_ | with_reducible refine w_asD ?_ | with_reducible refine w_asO ?_ | with_reducible refine w_bin ?_ | with_reducible refine w_cmp ?_ | with_reducible refine w_ix ?_ | with_reducible refine w_neg ?_ | with_reducible refine w_cb ?_ | with_reducible refine w_andV ?_ | with_reducible refine w_orV ?_ | with_reducible refine w_notV ?_ | with_reducible refine w_nil ?_ | with_reducible refine w_cons ?_ | with_reducible refine w_lst ?_ | with_reducible refine w_tup ?_ | with_reducible refine w_xnil ?_ | with_reducible refine w_xcons ?_ | with_reducible refine w_for ?_ | with_reducible refine w_borT ?_ | with_reducible refine w_bor ?_ | with_reducible refine w_parO ?_ | with_reducible refine w_zip ?_ | with_reducible refine w_listO ?_ | with_reducible refine w_asgT ?_ | with_reducible refine w_sl ?_ | with_reducible refine w_nob ?_ | with_reducible refine w_b ?_ | with_reducible refine w_lc ?_ | with_reducible refine w_inK ?_ | with_reducible refine w_ixK ?_ | with_reducible refine w_join ?_ | with_reducible refine w_enum ?_ | with_reducible refine w_setFld ?_ | with_reducible refine w_fld ?_ | with_reducible refine w_raise0 ?_ | with_reducible refine w_lrg1 ?_ | with_reducible refine w_lrg2 ?_ | with_reducible refine w_ch ?_ | with_reducible refine w_chain1 ?_ | with_reducible refine w_chain2 ?_ | with_reducible refine w_items ?_ | with_reducible refine w_rng1 ?_ | with_reducible refine w_rng2 ?_ | with_reducible refine w_ret ?_ | with_reducible refine t_nx ?_ | with_reducible refine t_rt ?_ | with_reducible refine u_nx ?_ | with_reducible refine u_rt ?_ | with_reducible refine l_add ?_ | with_reducible refine l_sub ?_ | with_reducible refine l_neg ?_ | with_reducible refine l_lt ?_ | with_reducible refine l_le ?_ | with_reducible refine l_gt ?_ | with_reducible refine l_ge ?_ | with_reducible refine l_eqI ?_ | with_reducible refine l_neI ?_ | with_reducible refine l_eqS ?_ | with_reducible refine l_neS ?_ | with_reducible refine l_eqB ?_ | with_reducible refine l_neB ?_ | with_reducible refine l_int ?_ | with_reducible refine l_max ?_ | with_reducible refine l_min ?_ | ((with_reducible apply w_var); rfl) | ((with_reducible apply w_varO); rfl) | ((with_reducible refine w_own (xs := []) ?_ ?_); exact ⟨_, rfl⟩) | ((with_reducible apply w_ownAt); rfl; rfl) | ((with_reducible apply w_ownAtD); rfl) | ((with_reducible apply w_xslotD); rfl) | ((with_reducible apply w_xslotO); rfl) | ((with_reducible refine l_mod ?_ ?_); (first | assumption | omega | exact ⟨by omega, by decide⟩)) | ((with_reducible refine l_div ?_ ?_); (first | assumption | omega | exact ⟨by omega, by decide⟩)) | ((with_reducible refine l_pow ?_ ?_); (first | assumption | omega | exact ⟨by omega, by decide⟩)) | ((with_reducible refine l_lrg ?_ ?_); (first | assumption | omega | exact ⟨by omega, by omega, by omega, by omega, by omega⟩)) | ((with_reducible refine l_mul ?_ ?_); (first | assumption | omega | exact ⟨by omega, by decide⟩)) | ((with_reducible apply c_t); rfl) | ((with_reducible apply c_f); rfl) | ((with_reducible apply s_lt); rfl) | ((with_reducible apply s_le); rfl) | ((with_reducible apply s_par); rfl; rfl; rfl) | ((with_reducible apply s_has); rfl) | ((with_reducible apply s_six); rfl; rfl; rfl) | ((with_reducible apply s_fl); rfl) | ((with_reducible apply s_lt2); rfl; rfl) | ((with_reducible apply s_pl); rfl) | ((with_reducible refine s_rb ?_ ?_); omega) | ((with_reducible apply w_lenO); rfl) | ((with_reducible apply s_sf); rfl; rfl) | ((with_reducible apply w_ownFldD); rfl; rfl) | ((with_reducible apply w_ownFldO); rfl; rfl; rfl) | ((with_reducible apply w_lenD); rfl) | ((with_reducible apply s_ex); rfl) | (rw [fz_dat]) | (rw [fz_own]) | ((with_reducible apply l_some); rfl)))
local macro_rules
  | `(tactic| clean_wf) => `(tactic| repeat (first | with_reducible refine w_nx ?_ | with_reducible refine w_if ?_ | with_reducible refine w_set ?_ | with_reducible refine w_retS ?_ | with_reducible refine w_exS ?_ | with_reducible refine w_raise ?_ | with_reducible refine w_par ?_ | with_reducible refine w_setIx ?_ | with_reducible refine w_tst ?_ | with_reducible refine w_tru ?_ | with_reducible refine w_not ?_ | with_reducible refine w_and ?_ | with_reducible refine w_or ?_ | with_reducible refine w_asD ?_ | with_reducible refine w_asO ?_ | with_reducible refine w_bin ?_ | with_reducible refine w_cmp ?_ | with_reducible refine w_ix ?_ | with_reducible refine w_neg ?_ | with_reducible refine w_cb ?_ | with_reducible refine w_andV ?_ | with_reducible refine w_orV ?_ | with_reducible refine w_notV ?_ | with_reducible refine w_nil ?_ | with_reducible refine w_cons ?_ | with_reducible refine w_lst ?_ | with_reducible refine w_tup ?_ | with_reducible refine w_xnil ?_ | with_reducible refine w_xcons ?_ | with_reducible refine w_for ?_ | with_reducible refine w_borT ?_ | with_reducible refine w_bor ?_ | with_reducible refine w_parO ?_ | with_reducible refine w_zip ?_ | with_reducible refine w_listO ?_ | with_reducible refine w_asgT ?_ | with_reducible refine w_sl ?_ | with_reducible refine w_nob ?_ | with_reducible refine w_b ?_ | with_reducible refine w_lc ?_ | with_reducible refine w_inK ?_ | with_reducible refine w_ixK ?_ | with_reducible refine w_join ?_ | with_reducible refine w_enum ?_ | with_reducible refine w_setFld ?_ | with_reducible refine w_fld ?_ | with_reducible refine w_raise0 ?_ | with_reducible refine w_lrg1 ?_ | with_reducible refine w_lrg2 ?_ | with_reducible refine w_ch ?_ | with_reducible refine w_chain1 ?_ | with_reducible refine w_chain2 ?_ | with_reducible refine w_items ?_ | with_reducible refine w_rng1 ?_ | with_reducible refine w_rng2 ?_ | with_reducible refine w_ret ?_ | with_reducible refine t_nx ?_ | with_reducible refine t_rt ?_ | with_reducible refine u_nx ?_ | with_reducible refine u_rt ?_ | with_reducible refine l_add ?_ | with_reducible refine l_sub ?_ | with_reducible refine l_neg ?_ | with_reducible refine l_lt ?_ | with_reducible refine l_le ?_ | with_reducible refine l_gt ?_ | with_reducible refine l_ge ?_ | with_reducible refine l_eqI ?_ | with_reducible refine l_neI ?_ | with_reducible refine l_eqS ?_ | with_reducible refine l_neS ?_ | with_reducible refine l_eqB ?_ | with_reducible refine l_neB ?_ | with_reducible refine l_int ?_ | with_reducible refine l_max ?_ | with_reducible refine l_min ?_ | ((with_reducible apply w_var); rfl) | ((with_reducible apply w_varO); rfl) | ((with_reducible refine w_own (xs := []) ?_ ?_); exact ⟨_, rfl⟩) | ((with_reducible apply w_ownAt); rfl; rfl) | ((with_reducible apply w_ownAtD); rfl) | ((with_reducible apply w_xslotD); rfl) | ((with_reducible apply w_xslotO); rfl) | ((with_reducible refine l_mod ?_ ?_); (first | assumption | omega | exact ⟨by omega, by decide⟩)) | ((with_reducible refine l_div ?_ ?_); (first | assumption | omega | exact ⟨by omega, by decide⟩)) | ((with_reducible refine l_pow ?_ ?_); (first | assumption | omega | exact ⟨by omega, by decide⟩)) | ((with_reducible refine l_lrg ?_ ?_); (first | assumption | omega | exact ⟨by omega, by omega, by omega, by omega, by omega⟩)) | ((with_reducible refine l_mul ?_ ?_); (first | assumption | omega | exact ⟨by omega, by decide⟩)) | ((with_reducible apply c_t); rfl) | ((with_reducible apply c_f); rfl) | ((with_reducible apply s_lt); rfl) | ((with_reducible apply s_le); rfl) | ((with_reducible apply s_par); rfl; rfl; rfl) | ((with_reducible apply s_has); rfl) | ((with_reducible apply s_six); rfl; rfl; rfl) | ((with_reducible apply s_fl); rfl) | ((with_reducible apply s_lt2); rfl; rfl) | ((with_reducible apply s_pl); rfl) | ((with_reducible refine s_rb ?_ ?_); omega) | ((with_reducible apply w_lenO); rfl) | ((with_reducible apply s_sf); rfl; rfl) | ((with_reducible apply w_ownFldD); rfl; rfl) | ((with_reducible apply w_ownFldO); rfl; rfl; rfl) | ((with_reducible apply w_lenD); rfl) | ((with_reducible apply s_ex); rfl) | (rw [fz_dat]) | (rw [fz_own]) | ((with_reducible apply l_some); rfl)))
def held (b0 b1 o0 o1 i : Nat) : Bool := (decide (b0 ≤ i) && decide (i ≤ b1)) && (decide (o0 ≤ i) && decide (i ≤ o1))
def b2i (b : Bool) : Int := if b then 1 else 0
def stepM (a : List Bool) (b0 b1 o0 o1 k : Nat) : Bool :=
  ((decide (b0 ≤ k) && decide (k + 1 ≤ b1)) && held b0 b1 o0 o1 (if a.getD k false then k + 1 else k)) == (held b0 b1 o0 o1 (if a.getD k false then k else k + 1) && (decide (o0 ≤ k) && decide (k + 1 ≤ o1)))
def isM (a : List Bool) (b0 b1 o0 o1 : Nat) : Bool := ((List.range a.length).all fun k => stepM a b0 b1 o0 o1 k) && (List.range (a.length + 1)).any fun i => held b0 b1 o0 o1 i
theorem enu_get {a : List Bool} {k : Nat} {d : D} (h : (enuL (a.map fun b => chr1 (arC b)))[k]? = some d) : d = .tup [.int (k : Nat), chr1 (arC (a.getD k false))] ∧ k < a.length := by
  have hk := (List.getElem?_eq_some_iff.mp h).1
  rw [enuL_len, List.length_map] at hk
  refine ⟨?_, hk⟩
  unfold enuL at h
  rw [List.getElem?_zipWith, List.getElem?_range (by simpa using hk), List.getElem?_map] at h
  simp [hk] at h
  rw [← h]
  simp [hk]
theorem at_held {f : Nat → D} {n v : Nat} (h : v < n) : L2.atI (((List.range n).map f).map O.dat) (v : Int) = some (.dat (f v)) := by
  rw [at_nat (by simpa using h)]
  simp
theorem ix_held {f : Nat → D} {n v : Nat} (h : v < n) : ixD (.lst ((List.range n).map f)) (.int (v : Int)) = some (f v) := by
  show L2.atI ((List.range n).map f) (v : Int) = _
  rw [at_nat (by simpa using h)]
  simp
theorem mul_b (x y : Bool) : binD .Mult (.int (if x = true then 1 else 0)) (.int (b2i y)) = some (.int (b2i (x && y))) := by cases x <;> cases y <;> rfl
theorem mul_i (x y : Bool) : (b2i x * if y = true then 1 else 0) = b2i (x && y) := by cases x <;> cases y <;> rfl
theorem b2i_eq (x y : Bool) : (b2i x == b2i y) = (x == y) := by cases x <;> cases y <;> rfl
theorem in_held (f : Nat → Bool) (n : Nat) : cmpD .In (.int 1) (.lst ((List.range n).map fun i => D.int (b2i (f i)))) = some (.bl ((List.range n).any f)) := by
  show (if flatX (.int 1) && ((List.range n).map fun i => D.int (b2i (f i))).all flatX then some (D.bl (anyE (.int 1) ((List.range n).map fun i => D.int (b2i (f i))))) else none) = _
  have e1 : ((List.range n).map fun i => D.int (b2i (f i))).all flatX = true := by
    rw [List.all_eq_true]
    intro d hd
    obtain ⟨i, _, rfl⟩ := List.mem_map.mp hd
    rfl
  have e2 : ∀ l : List Nat, anyE (.int 1) (l.map fun i => D.int (b2i (f i))) = l.any f := by
    intro l
    induction l with
    | nil => rfl
    | cons i l ih =>
      rw [List.map_cons, List.any_cons, ← ih]
      show ((flatE (.int (b2i (f i))) (.int 1) == some true) || anyE (.int 1) (l.map fun i => D.int (b2i (f i)))) = _
      cases f i <;> rfl
  rw [e1, e2]
  rfl
section
variable {fX : M (List Ar)} {ρ : Rho} {QO : O → Rho → Prop} {E : Ex → Rho → Prop}
theorem w_ismap (h : wp (fX ρ) (fun as ρ' => ∃ a b0 b1 o0 o1, as = [.d (.str (arS a)), .d (tp b0 b1), .d (tp o0 o1)] ∧ a.length ≤ 6 ∧ (b0 ≤ b1 ∧ b1 ≤ a.length) ∧ (o0 ≤ o1 ∧ o1 ≤ a.length) ∧ QO (.dat (.bl (isM a b0 b1 o0 o1))) ρ') E) : wp (mCall E__law_is_map fX ρ) QO E := by
  refine w_callD (wp_mono h (fun as ρ' ⟨a, b0, b1, o0, o1, e, la, hb, ho, q⟩ => ⟨[.str (arS a), tp b0 b1, tp o0 o1], e, ⟨Nat.le_refl 3, Nat.le_refl 3⟩, ?_⟩) fun _ _ k => k)
  unfold Call
  rw [show E__law_is_map.F = bodyF 10 3 [] g__law_is_map from rfl]
  (refine call_body ?_ ?_ ?_; rfl; rfl)
  show wp (g__law_is_map [some (.dat (.str (arS a))), some (.dat (tp b0 b1)), some (.dat (tp o0 o1)), none, none, none, none, none, none, none]) _ _
  unfold g__law_is_map
  clean_wf
  refine w_seq ?_
  clean_wf
  refine l_some (len_ar (by omega)) ?_
  clean_wf
  rw [rngL_map, show (((a.length : Int) + 1).toNat) = a.length + 1 by omega]
  refine w_lcD (List.range (a.length + 1)) (fun i => D.int (0 + (i : Nat))) (fun i => .int (b2i (held b0 b1 o0 o1 i))) (by simp; unfold big; omega) (fun i hi => ⟨_, rfl, ?_⟩) ?_
  · clean_wf
    refine ⟨fun h0 => ?_, fun h0 => ?_⟩
    · clean_wf
      refine ⟨fun h1 => ?_, fun h1 => ?_⟩
      · clean_wf
        refine ⟨fun h2 => ?_, fun h2 => ?_⟩
        · clean_wf
          exact ⟨congrArg (fun z => O.dat (.int (b2i z))) (by unfold held; simp only [decide_eq_true_eq, decide_eq_false_iff_not] at h0 h1 h2; rw [Bool.eq_iff_iff]; simp; omega), rfl⟩
        · clean_wf
          exact ⟨congrArg (fun z => O.dat (.int (b2i z))) (by unfold held; simp only [decide_eq_true_eq, decide_eq_false_iff_not] at h0 h1 h2; rw [Bool.eq_iff_iff]; simp; omega), rfl⟩
      · clean_wf
        exact ⟨congrArg (fun z => O.dat (.int (b2i z))) (by unfold held; simp only [decide_eq_true_eq, decide_eq_false_iff_not] at h0 h1; rw [Bool.eq_iff_iff]; simp; omega), rfl⟩
    · clean_wf
      refine ⟨fun h1 => absurd h1 (by rw [h0]; decide), fun h1 => ?_⟩
      clean_wf
      exact ⟨congrArg (fun z => O.dat (.int (b2i z))) (by unfold held; simp only [decide_eq_true_eq, decide_eq_false_iff_not] at h0; rw [Bool.eq_iff_iff]; simp; omega), rfl⟩
  · clean_wf
    refine w_cut (fun ρ => ((List.range a.length).all fun k => stepM a b0 b1 o0 o1 k) = true ∧ ∃ y5 y6 y7 y8 y9, ρ = [some (.dat (.str (arS a))), some (.dat (tp b0 b1)), some (.dat (tp o0 o1)), some (.own (((List.range (a.length + 1)).map fun i => D.int (b2i (held b0 b1 o0 o1 i))).map .dat)), none, y5, y6, y7, y8, y9]) ?_ ?_
    · clean_wf
      rw [arS_map]
      refine w_forL _ (fun k ρ => ((List.range k).all fun k => stepM a b0 b1 o0 o1 k) = true ∧ ∃ y5 y6 y7 y8 y9, ρ = [some (.dat (.str (arS a))), some (.dat (tp b0 b1)), some (.dat (tp o0 o1)), some (.own (((List.range (a.length + 1)).map fun i => D.int (b2i (held b0 b1 o0 o1 i))).map .dat)), none, y5, y6, y7, y8, y9]) ⟨rfl, _, _, _, _, _, rfl⟩ ?_ ?_
      · rintro k d ρ hk ⟨hall, y5, y6, y7, y8, y9, rfl⟩
        obtain ⟨rfl, hk2⟩ := enu_get hk
        refine ⟨_, rfl, ?_⟩
        generalize hx : a.getD k false = x at *
        refine w_cut (fun ρ => ρ = [some (.dat (.str (arS a))), some (.dat (tp b0 b1)), some (.dat (tp o0 o1)), some (.own (((List.range (a.length + 1)).map fun i => D.int (b2i (held b0 b1 o0 o1 i))).map .dat)), none, some (.dat (.int (k : Nat))), some (.dat (chr1 (arC x))), some (.dat (.int ((if x then k else k + 1 : Nat) : Int))), some (.dat (.int ((if x then k + 1 else k : Nat) : Int))), y9]) ?_ ?_
        · clean_wf
          rw [arC_eq]
          cases x with
          | true =>
            clean_wf
            rfl
          | false =>
            clean_wf
            rfl
        · rintro ρ rfl
          have hu : (if x then k else k + 1) ≤ a.length := by split <;> omega
          have hv : (if x then k + 1 else k) ≤ a.length := by split <;> omega
          have hst : stepM a b0 b1 o0 o1 k = (((decide (b0 ≤ k) && decide (k + 1 ≤ b1)) && held b0 b1 o0 o1 (if x then k + 1 else k)) == (held b0 b1 o0 o1 (if x then k else k + 1) && (decide (o0 ≤ k) && decide (k + 1 ≤ o1)))) := by
            unfold stepM
            rw [hx]
          generalize (if x then k else k + 1) = u at *
          generalize (if x then k + 1 else k) = v at *
          refine w_cut (fun ρ => ρ = [some (.dat (.str (arS a))), some (.dat (tp b0 b1)), some (.dat (tp o0 o1)), some (.own (((List.range (a.length + 1)).map fun i => D.int (b2i (held b0 b1 o0 o1 i))).map .dat)), none, some (.dat (.int (k : Nat))), some (.dat (chr1 (arC x))), some (.dat (.int (u : Nat))), some (.dat (.int (v : Nat))), some (.dat (.int (b2i ((decide (b0 ≤ k) && decide (k + 1 ≤ b1)) && held b0 b1 o0 o1 v))))]) ?_ ?_
          · clean_wf
            refine ⟨fun h0 => ?_, fun h0 => ?_⟩
            · clean_wf
              refine w_ownAt (d := .int (b2i (held b0 b1 o0 o1 v))) rfl (at_held (n := a.length + 1) (f := fun i => D.int (b2i (held b0 b1 o0 o1 i))) (by omega)) ?_
              refine l_some (show _ = some (D.int (b2i ((decide (b0 ≤ k) && decide (k + 1 ≤ b1)) && held b0 b1 o0 o1 v))) from ?_) ?_
              · simp only [decide_eq_true_eq] at h0
                rw [show (decide ((k : Int) + 1 ≤ b1)) = decide (k + 1 ≤ b1) by rw [Bool.eq_iff_iff]; simp; omega, decide_eq_true (show b0 ≤ k by omega), Bool.true_and]
                exact mul_b _ _
              · clean_wf
                rfl
            · clean_wf
              refine w_ownAt (d := .int (b2i (held b0 b1 o0 o1 v))) rfl (at_held (n := a.length + 1) (f := fun i => D.int (b2i (held b0 b1 o0 o1 i))) (by omega)) ?_
              refine l_some (show _ = some (D.int (b2i ((decide (b0 ≤ k) && decide (k + 1 ≤ b1)) && held b0 b1 o0 o1 v))) from ?_) ?_
              · rw [h0]
                simp only [decide_eq_false_iff_not] at h0
                rw [decide_eq_false (show ¬ b0 ≤ k by omega), Bool.false_and]
                exact mul_b _ _
              · clean_wf
                rfl
          · rintro ρ rfl
            refine w_seq ?_
            clean_wf
            refine l_some (ix_held (by omega)) ?_
            clean_wf
            refine ⟨fun h0 => ?_, fun h0 => ?_⟩
            · clean_wf
              rw [show (decide ((k : Int) + 1 ≤ o1)) = (decide (o0 ≤ k) && decide (k + 1 ≤ o1)) by (simp only [decide_eq_true_eq] at h0; rw [Bool.eq_iff_iff]; simp; omega), mul_i, b2i_eq, ← hst]
              cases hs : stepM a b0 b1 o0 o1 k with
              | false =>
                have hf : isM a b0 b1 o0 o1 = false := by
                  unfold isM
                  have : ((List.range a.length).all fun k => stepM a b0 b1 o0 o1 k) = false := by
                    rw [List.all_eq_false]
                    exact ⟨k, by simpa using hk2, by rw [hs]; decide⟩
                  rw [this]; rfl
                rw [hf] at q
                simp_wf
                exact ⟨rfl, .inr ⟨_, rfl, Nat.le_of_ble_eq_true rfl, q⟩⟩
              | true =>
                simp_wf
                refine ⟨?_, _, _, _, _, _, rfl⟩
                rw [List.range_succ, List.all_append, hall]
                simp [hs]
            · clean_wf
              rw [show (decide ((o0 : Int) ≤ k)) = (decide (o0 ≤ k) && decide (k + 1 ≤ o1)) by (simp only [decide_eq_false_iff_not] at h0; rw [Bool.eq_iff_iff]; simp; omega), mul_i, b2i_eq, ← hst]
              cases hs : stepM a b0 b1 o0 o1 k with
              | false =>
                have hf : isM a b0 b1 o0 o1 = false := by
                  unfold isM
                  have : ((List.range a.length).all fun k => stepM a b0 b1 o0 o1 k) = false := by
                    rw [List.all_eq_false]
                    exact ⟨k, by simpa using hk2, by rw [hs]; decide⟩
                  rw [this]; rfl
                rw [hf] at q
                simp_wf
                exact ⟨rfl, .inr ⟨_, rfl, Nat.le_of_ble_eq_true rfl, q⟩⟩
              | true =>
                simp_wf
                refine ⟨?_, _, _, _, _, _, rfl⟩
                rw [List.range_succ, List.all_append, hall]
                simp [hs]
      · rintro ρ ⟨hall, y5, y6, y7, y8, y9, rfl⟩
        rw [enuL_len, List.length_map] at hall
        exact ⟨hall, _, _, _, _, _, rfl⟩
    · rintro ρ ⟨hall, y5, y6, y7, y8, y9, rfl⟩
      simp_wf
      refine l_some (in_held (fun i => held b0 b1 o0 o1 i) (a.length + 1)) ?_
      refine ⟨rfl, ?_⟩
      simp_wf
      unfold isM at q
      rw [hall, Bool.true_and] at q
      exact ⟨rfl, .inr ⟨_, rfl, Nat.le_of_ble_eq_true rfl, q⟩⟩
end
end K46

end
-- text P46e
section
set_option linter.all false
set_option maxRecDepth 100000
set_option maxHeartbeats 0
namespace K46
open PySem PySem.Spec PyProof.Rows L2 PL
local macro_rules
  | `(tactic| simp_wf) => `(tactic| repeat (first | with_reducible refine w_seq ?_ | with_reducible refine w_nx ?_ | with_reducible refine w_if ?_ | with_reducible refine w_set ?_ | with_reducible refine w_retS ?_ | with_reducible refine w_exS ?_ | with_reducible refine w_raise ?_ | with_reducible refine w_par ?_ | with_reducible refine w_setIx ?_ | with_reducible refine w_tst ?_ | with_reducible refine w_tru ?_ | with_reducible refine w_not ?_ | with_reducible refine w_and ?_ | with_reducible refine w_or ?_ | with_reducible refine w_asD ?_ | with_reducible refine w_asO ?_ | with_reducible refine w_bin ?_ | with_reducible refine w_cmp ?_ | with_reducible refine w_ix ?_ | with_reducible refine w_neg ?_ | with_reducible refine w_cb ?_ | with_reducible refine w_andV ?_ | with_reducible refine w_orV ?_ | with_reducible refine w_notV ?_ | with_reducible refine w_nil ?_ | with_reducible refine w_cons ?_ | with_reducible refine w_lst ?_ | with_reducible refine w_tup ?_ | with_reducible refine w_xnil ?_ | with_reducible refine w_xcons ?_ | with_reducible refine w_for ?_ | with_reducible refine w_borT ?_ | with_reducible refine w_bor ?_ | with_reducible refine w_parO ?_ | with_reducible refine w_zip ?_ | with_reducible refine w_listO ?_ | with_reducible refine w_asgT ?_ | with_reducible refine w_sl ?_ | with_reducible refine w_nob ?_ | with_reducible refine w_b ?_ | with_reducible refine w_lc ?_ | with_reducible refine w_inK ?_ | with_reducible refine w_ixK ?_ | with_reducible refine w_join ?_ | with_reducible refine w_enum ?_ | with_reducible refine w_setFld ?_ | with_reducible refine w_fld ?_ | with_reducible refine w_raise0 ?_ | with_reducible refine w_lrg1 ?_ | with_reducible refine w_lrg2 ?_ | with_reducible refine w_ch ?_ | with_reducible refine w_chain1 ?_ | with_reducible refine w_chain2 ?_ | with_reducible refine w_items ?_ | with_reducible refine w_rng1 ?_ | with_reducible refine w_rng2 ?_ | with_reducible refine w_ret ?_ | with_reducible refine t_nx ?_ | with_reducible refine t_rt ?_ | with_reducible refine u_nx ?_ | with_reducible refine u_rt ?_ | with_reducible refine l_add ?_ | with_reducible refine l_sub ?_ | with_reducible refine l_neg ?_ | with_reducible refine l_lt ?_ | with_reducible refine l_le ?_ | with_reducible refine l_gt ?_ | with_reducible refine l_ge ?_ | with_reducible refine l_eqI ?_ | with_reducible refine l_neI ?_ | with_reducible refine l_eqS ?_ | with_reducible refine l_neS ?_ | with_reducible refine l_eqB ?_ | with_reducible refine l_neB ?_ | with_reducible refine l_int ?_ | with_reducible refine l_max ?_ | with_reducible refine l_min ?_ | ((with_reducible apply w_var); rfl) | ((with_reducible apply w_varO); rfl) | ((with_reducible refine w_own (xs := []) ?_ ?_); exact ⟨_, rfl⟩) | ((with_reducible apply w_ownAt); rfl; rfl) | ((with_reducible apply w_ownAtD); rfl) | ((with_reducible apply w_xslotD); rfl) | ((with_reducible apply w_xslotO); rfl) | ((with_reducible refine l_mod ?_ ?_); (first | assumption | omega | exact ⟨by omega, by decide⟩)) | ((with_reducible refine l_div ?_ ?_); (first | assumption | omega | exact ⟨by omega, by decide⟩)) | ((with_reducible refine l_pow ?_ ?_); (first | assumption | omega | exact ⟨by omega, by decide⟩)) | ((with_reducible refine l_lrg ?_ ?_); (first | assumption | omega | exact ⟨by omega, by omega, by omega, by omega, by omega⟩)) | ((with_reducible refine l_mul ?_ ?_); (first | assumption | omega | exact ⟨by omega, by decide⟩)) | ((with_reducible apply c_t); rfl) | ((with_reducible apply c_f); rfl) | ((with_reducible apply s_lt); rfl) | ((with_reducible apply s_le); rfl) | ((with_reducible apply s_par); rfl; rfl; rfl) | ((with_reducible apply s_has); rfl) | ((with_reducible apply s_six); rfl; rfl; rfl) | ((with_reducible apply s_fl); rfl) | ((with_reducible apply s_lt2); rfl; rfl) | ((with_reducible apply s_pl); rfl) | ((with_reducible refine s_rb ?_ ?_); omega) | ((with_reducible apply w_lenO); rfl) | ((with_reducible apply s_sf); rfl; rfl) | ((with_reducible apply w_ownFldD); rfl; rfl) | ((with_reducible apply w_ownFldO); rfl; rfl; rfl) | ((with_reducible apply w_lenD); rfl) | ((with_reducible apply s_ex); rfl) | (rw [fz_dat]) | (rw [fz_own]) | ((with_reducible apply l_some); rfl)))
local macro_rules
  | `(tactic| clean_wf) => `(tactic| repeat (first | with_reducible refine w_nx ?_ | with_reducible refine w_if ?_ | with_reducible refine w_set ?_ | with_reducible refine w_retS ?_ | with_reducible refine w_exS ?_ | with_reducible refine w_raise ?_ | with_reducible refine w_par ?_ | with_reducible refine w_setIx ?_ | with_reducible refine w_tst ?_ | with_reducible refine w_tru ?_ | with_reducible refine w_not ?_ | with_reducible refine w_and ?_ | with_reducible refine w_or ?_ | with_reducible refine w_asD ?_ | with_reducible refine w_asO ?_ | with_reducible refine w_bin ?_ | with_reducible refine w_cmp ?_ | with_reducible refine w_ix ?_ | with_reducible refine w_neg ?_ | with_reducible refine w_cb ?_ | with_reducible refine w_andV ?_ | with_reducible refine w_orV ?_ | with_reducible refine w_notV ?_ | with_reducible refine w_nil ?_ | with_reducible refine w_cons ?_ | with_reducible refine w_lst ?_ | with_reducible refine w_tup ?_ | with_reducible refine w_xnil ?_ | with_reducible refine w_xcons ?_ | with_reducible refine w_for ?_ | with_reducible refine w_borT ?_ | with_reducible refine w_bor ?_ | with_reducible refine w_parO ?_ | with_reducible refine w_zip ?_ | with_reducible refine w_listO ?_ | with_reducible refine w_asgT ?_ | with_reducible refine w_sl ?_ | with_reducible refine w_nob ?_ | with_reducible refine w_b ?_ | with_reducible refine w_lc ?_ | with_reducible refine w_inK ?_ | with_reducible refine w_ixK ?_ | with_reducible refine w_join ?_ | with_reducible refine w_enum ?_ | with_reducible refine w_setFld ?_ | with_reducible refine w_fld ?_ | with_reducible refine w_raise0 ?_ | with_reducible refine w_lrg1 ?_ | with_reducible refine w_lrg2 ?_ | with_reducible refine w_ch ?_ | with_reducible refine w_chain1 ?_ | with_reducible refine w_chain2 ?_ | with_reducible refine w_items ?_ | with_reducible refine w_rng1 ?_ | with_reducible refine w_rng2 ?_ | with_reducible refine w_ret ?_ | with_reducible refine t_nx ?_ | with_reducible refine t_rt ?_ | with_reducible refine u_nx ?_ | with_reducible refine u_rt ?_ | with_reducible refine l_add ?_ | with_reducible refine l_sub ?_ | with_reducible refine l_neg ?_ | with_reducible refine l_lt ?_ | with_reducible refine l_le ?_ | with_reducible refine l_gt ?_ | with_reducible refine l_ge ?_ | with_reducible refine l_eqI ?_ | with_reducible refine l_neI ?_ | with_reducible refine l_eqS ?_ | with_reducible refine l_neS ?_ | with_reducible refine l_eqB ?_ | with_reducible refine l_neB ?_ | with_reducible refine l_int ?_ | with_reducible refine l_max ?_ | with_reducible refine l_min ?_ | ((with_reducible apply w_var); rfl) | ((with_reducible apply w_varO); rfl) | ((with_reducible refine w_own (xs := []) ?_ ?_); exact ⟨_, rfl⟩) | ((with_reducible apply w_ownAt); rfl; rfl) | ((with_reducible apply w_ownAtD); rfl) | ((with_reducible apply w_xslotD); rfl) | ((with_reducible apply w_xslotO); rfl) | ((with_reducible refine l_mod ?_ ?_); (first | assumption | omega | exact ⟨by omega, by decide⟩)) | ((with_reducible refine l_div ?_ ?_); (first | assumption | omega | exact ⟨by omega, by decide⟩)) | ((with_reducible refine l_pow ?_ ?_); (first | assumption | omega | exact ⟨by omega, by decide⟩)) | ((with_reducible refine l_lrg ?_ ?_); (first | assumption | omega | exact ⟨by omega, by omega, by omega, by omega, by omega⟩)) | ((with_reducible refine l_mul ?_ ?_); (first | assumption | omega | exact ⟨by omega, by decide⟩)) | ((with_reducible apply c_t); rfl) | ((with_reducible apply c_f); rfl) | ((with_reducible apply s_lt); rfl) | ((with_reducible apply s_le); rfl) | ((with_reducible apply s_par); rfl; rfl; rfl) | ((with_reducible apply s_has); rfl) | ((with_reducible apply s_six); rfl; rfl; rfl) | ((with_reducible apply s_fl); rfl) | ((with_reducible apply s_lt2); rfl; rfl) | ((with_reducible apply s_pl); rfl) | ((with_reducible refine s_rb ?_ ?_); omega) | ((with_reducible apply w_lenO); rfl) | ((with_reducible apply s_sf); rfl; rfl) | ((with_reducible apply w_ownFldD); rfl; rfl) | ((with_reducible apply w_ownFldO); rfl; rfl; rfl) | ((with_reducible apply w_lenD); rfl) | ((with_reducible apply s_ex); rfl) | (rw [fz_dat]) | (rw [fz_own]) | ((with_reducible apply l_some); rfl)))
def allL : Nat → List (List Bool)
  | 0 => [[]]
  | n + 1 => [] :: ((allL n).map (true :: ·) ++ (allL n).map (false :: ·))
theorem mem_allL : ∀ {n : Nat} {a : List Bool}, a.length ≤ n → a ∈ allL n
  | 0, [], _ => List.mem_singleton.mpr rfl
  | 0, _ :: _, h => absurd h (by simp)
  | n + 1, [], _ => List.mem_cons_self
  | n + 1, b :: a, h => by
    have m := mem_allL (n := n) (a := a) (by simpa using h)
    refine List.mem_cons_of_mem _ (List.mem_append.mpr ?_)
    cases b
    · exact .inr (List.mem_map_of_mem m)
    · exact .inl (List.mem_map_of_mem m)
def duo (a : List Bool) : List Bool := a.map (!·)
def chkM (a : List Bool) : Bool := (barsL a.length).all fun q => (barsL a.length).all fun r =>
  (hasM a q.1 q.2 r.1 r.2 == isM a q.1 q.2 r.1 r.2) && ((hasM (duo a) r.1 r.2 q.1 q.2 == isM a q.1 q.2 r.1 r.2) && (hasM (duo a).reverse (a.length - q.2) (a.length - q.1) (a.length - r.2) (a.length - r.1) == isM a q.1 q.2 r.1 r.2))
def allE : Nat → List (List Bool)
  | 0 => [[]]
  | n + 1 => (allE n).map (true :: ·) ++ (allE n).map (false :: ·)
theorem mem_allE : ∀ {n : Nat} {a : List Bool}, a.length = n → a ∈ allE n
  | 0, [], _ => List.mem_singleton.mpr rfl
  | 0, _ :: _, h => absurd h (by simp)
  | n + 1, [], h => absurd h (by simp)
  | n + 1, b :: a, h => by
    have m := mem_allE (n := n) (a := a) (by simpa using h)
    refine List.mem_append.mpr ?_
    cases b
    · exact .inr (List.mem_map_of_mem m)
    · exact .inl (List.mem_map_of_mem m)
theorem chk4 : (allL 4).all chkM = true := by decide +kernel
theorem c5_ttt : ((allE 2).all fun r => chkM (true :: true :: true :: r)) = true := by decide +kernel
theorem c5_ttf : ((allE 2).all fun r => chkM (true :: true :: false :: r)) = true := by decide +kernel
theorem c5_tft : ((allE 2).all fun r => chkM (true :: false :: true :: r)) = true := by decide +kernel
theorem c5_tff : ((allE 2).all fun r => chkM (true :: false :: false :: r)) = true := by decide +kernel
theorem c5_ftt : ((allE 2).all fun r => chkM (false :: true :: true :: r)) = true := by decide +kernel
theorem c5_ftf : ((allE 2).all fun r => chkM (false :: true :: false :: r)) = true := by decide +kernel
theorem c5_fft : ((allE 2).all fun r => chkM (false :: false :: true :: r)) = true := by decide +kernel
theorem c5_fff : ((allE 2).all fun r => chkM (false :: false :: false :: r)) = true := by decide +kernel
theorem chk5 {a : List Bool} (h : a.length = 5) : chkM a = true := by
  match a, h with
  | b0 :: b1 :: b2 :: r, h =>
    have m := mem_allE (n := 2) (a := r) (by simpa using h)
    revert m
    generalize hE : allE 2 = E
    intro m
    cases b0 <;> cases b1 <;> cases b2 <;> first
      | exact List.all_eq_true.mp (hE ▸ c5_ttt) r m
      | exact List.all_eq_true.mp (hE ▸ c5_ttf) r m
      | exact List.all_eq_true.mp (hE ▸ c5_tft) r m
      | exact List.all_eq_true.mp (hE ▸ c5_tff) r m
      | exact List.all_eq_true.mp (hE ▸ c5_ftt) r m
      | exact List.all_eq_true.mp (hE ▸ c5_ftf) r m
      | exact List.all_eq_true.mp (hE ▸ c5_fft) r m
      | exact List.all_eq_true.mp (hE ▸ c5_fff) r m
theorem c6_tttt : ((allE 2).all fun r => chkM (true :: true :: true :: true :: r)) = true := by decide +kernel
theorem c6_tttf : ((allE 2).all fun r => chkM (true :: true :: true :: false :: r)) = true := by decide +kernel
theorem c6_ttft : ((allE 2).all fun r => chkM (true :: true :: false :: true :: r)) = true := by decide +kernel
theorem c6_ttff : ((allE 2).all fun r => chkM (true :: true :: false :: false :: r)) = true := by decide +kernel
theorem c6_tftt : ((allE 2).all fun r => chkM (true :: false :: true :: true :: r)) = true := by decide +kernel
theorem c6_tftf : ((allE 2).all fun r => chkM (true :: false :: true :: false :: r)) = true := by decide +kernel
theorem c6_tfft : ((allE 2).all fun r => chkM (true :: false :: false :: true :: r)) = true := by decide +kernel
theorem c6_tfff : ((allE 2).all fun r => chkM (true :: false :: false :: false :: r)) = true := by decide +kernel
theorem c6_fttt : ((allE 2).all fun r => chkM (false :: true :: true :: true :: r)) = true := by decide +kernel
theorem c6_fttf : ((allE 2).all fun r => chkM (false :: true :: true :: false :: r)) = true := by decide +kernel
theorem c6_ftft : ((allE 2).all fun r => chkM (false :: true :: false :: true :: r)) = true := by decide +kernel
theorem c6_ftff : ((allE 2).all fun r => chkM (false :: true :: false :: false :: r)) = true := by decide +kernel
theorem c6_fftt : ((allE 2).all fun r => chkM (false :: false :: true :: true :: r)) = true := by decide +kernel
theorem c6_fftf : ((allE 2).all fun r => chkM (false :: false :: true :: false :: r)) = true := by decide +kernel
theorem c6_ffft : ((allE 2).all fun r => chkM (false :: false :: false :: true :: r)) = true := by decide +kernel
theorem c6_ffff : ((allE 2).all fun r => chkM (false :: false :: false :: false :: r)) = true := by decide +kernel
theorem chk6 {a : List Bool} (h : a.length = 6) : chkM a = true := by
  match a, h with
  | b0 :: b1 :: b2 :: b3 :: r, h =>
    have m := mem_allE (n := 2) (a := r) (by simpa using h)
    revert m
    generalize hE : allE 2 = E
    intro m
    cases b0 <;> cases b1 <;> cases b2 <;> cases b3 <;> first
      | exact List.all_eq_true.mp (hE ▸ c6_tttt) r m
      | exact List.all_eq_true.mp (hE ▸ c6_tttf) r m
      | exact List.all_eq_true.mp (hE ▸ c6_ttft) r m
      | exact List.all_eq_true.mp (hE ▸ c6_ttff) r m
      | exact List.all_eq_true.mp (hE ▸ c6_tftt) r m
      | exact List.all_eq_true.mp (hE ▸ c6_tftf) r m
      | exact List.all_eq_true.mp (hE ▸ c6_tfft) r m
      | exact List.all_eq_true.mp (hE ▸ c6_tfff) r m
      | exact List.all_eq_true.mp (hE ▸ c6_fttt) r m
      | exact List.all_eq_true.mp (hE ▸ c6_fttf) r m
      | exact List.all_eq_true.mp (hE ▸ c6_ftft) r m
      | exact List.all_eq_true.mp (hE ▸ c6_ftff) r m
      | exact List.all_eq_true.mp (hE ▸ c6_fftt) r m
      | exact List.all_eq_true.mp (hE ▸ c6_fftf) r m
      | exact List.all_eq_true.mp (hE ▸ c6_ffft) r m
      | exact List.all_eq_true.mp (hE ▸ c6_ffff) r m
theorem chk_any {a : List Bool} (h : a.length ≤ 6) : chkM a = true := by
  by_cases h4 : a.length ≤ 4
  · exact List.all_eq_true.mp chk4 a (mem_allL h4)
  · by_cases h5 : a.length = 5
    · exact chk5 h5
    · exact chk6 (by omega)
theorem rep_all : (allL 6).all (fun a => (Txt.replace (Txt.replace (Txt.replace (arS a) ">" "x") "<" ">") "x" "<" == arS (duo a)) && (revS (arS (duo a)) == arS (duo a).reverse)) = true := by decide +kernel
theorem chk_of {a : List Bool} (h : a.length ≤ 6) {q r : Nat × Nat} (hq : q ∈ barsL a.length) (hr : r ∈ barsL a.length) : hasM a q.1 q.2 r.1 r.2 = isM a q.1 q.2 r.1 r.2 ∧ hasM (duo a) r.1 r.2 q.1 q.2 = isM a q.1 q.2 r.1 r.2 ∧ hasM (duo a).reverse (a.length - q.2) (a.length - q.1) (a.length - r.2) (a.length - r.1) = isM a q.1 q.2 r.1 r.2 := by
  have e := List.all_eq_true.mp (List.all_eq_true.mp (chk_any h) q hq) r hr
  simpa using e
theorem rep_of {a : List Bool} (h : a.length ≤ 6) : Txt.replace (Txt.replace (Txt.replace (arS a) ">" "x") "<" ">") "x" "<" = arS (duo a) ∧ revS (arS (duo a)) = arS (duo a).reverse := by
  have e := List.all_eq_true.mp rep_all a (mem_allL h)
  rw [Bool.and_eq_true] at e
  exact ⟨eq_of_beq e.1, eq_of_beq e.2⟩
end K46

end
-- text P46f
section
set_option linter.all false
set_option maxRecDepth 100000
set_option maxHeartbeats 0
namespace K46
open PySem PySem.Spec PyProof.Rows L2 PL
local macro_rules
  | `(tactic| simp_wf) => `(tactic| repeat (first | with_reducible refine w_seq ?_ | with_reducible refine w_nx ?_ | with_reducible refine w_if ?_ | with_reducible refine w_set ?_ | with_reducible refine w_retS ?_ | with_reducible refine w_exS ?_ | with_reducible refine w_raise ?_ | with_reducible refine w_par ?_ | with_reducible refine w_setIx ?_ | with_reducible refine w_tst ?_ | with_reducible refine w_tru ?_ | with_reducible refine w_not ?_ | with_reducible refine w_and ?_ | with_reducible refine w_or ?_ | with_reducible refine w_asD ?_ | with_reducible refine w_asO ?_ | with_reducible refine w_bin ?_ | with_reducible refine w_cmp ?_ | with_reducible refine w_ix ?_ | with_reducible refine w_neg ?_ | with_reducible refine w_cb ?_ | with_reducible refine w_andV ?_ | with_reducible refine w_orV ?_ | with_reducible refine w_notV ?_ | with_reducible refine w_nil ?_ | with_reducible refine w_cons ?_ | with_reducible refine w_lst ?_ | with_reducible refine w_tup ?_ | with_reducible refine w_xnil ?_ | with_reducible refine w_xcons ?_ | with_reducible refine w_for ?_ | with_reducible refine w_borT ?_ | with_reducible refine w_bor ?_ | with_reducible refine w_parO ?_ | with_reducible refine w_zip ?_ | with_reducible refine w_listO ?_ | with_reducible refine w_asgT ?_ | with_reducible refine w_sl ?_ | with_reducible refine w_nob ?_ | with_reducible refine w_b ?_ | with_reducible refine w_lc ?_ | with_reducible refine w_inK ?_ | with_reducible refine w_ixK ?_ | with_reducible refine w_join ?_ | with_reducible refine w_enum ?_ | with_reducible refine w_setFld ?_ | with_reducible refine w_fld ?_ | with_reducible refine w_raise0 ?_ | with_reducible refine w_lrg1 ?_ | with_reducible refine w_lrg2 ?_ | with_reducible refine w_ch ?_ | with_reducible refine w_chain1 ?_ | with_reducible refine w_chain2 ?_ | with_reducible refine w_items ?_ | with_reducible refine w_rng1 ?_ | with_reducible refine w_rng2 ?_ | with_reducible refine w_ret ?_ | with_reducible refine t_nx ?_ | with_reducible refine t_rt ?_ | with_reducible refine u_nx ?_ | with_reducible refine u_rt ?_ | with_reducible refine l_add ?_ | with_reducible refine l_sub ?_ | with_reducible refine l_neg ?_ | with_reducible refine l_lt ?_ | with_reducible refine l_le ?_ | with_reducible refine l_gt ?_ | with_reducible refine l_ge ?_ | with_reducible refine l_eqI ?_ | with_reducible refine l_neI ?_ | with_reducible refine l_eqS ?_ | with_reducible refine l_neS ?_ | with_reducible refine l_eqB ?_ | with_reducible refine l_neB ?_ | with_reducible refine l_int ?_ | with_reducible refine l_max ?_ | with_reducible refine l_min ?_ | ((with_reducible apply w_var); rfl) | ((with_reducible apply w_varO); rfl) | ((with_reducible refine w_own (xs := []) ?_ ?_); exact ⟨_, rfl⟩) | ((with_reducible apply w_ownAt); rfl; rfl) | ((with_reducible apply w_ownAtD); rfl) | ((with_reducible apply w_xslotD); rfl) | ((with_reducible apply w_xslotO); rfl) | ((with_reducible refine l_mod ?_ ?_); (first | assumption | omega | exact ⟨by omega, by decide⟩)) | ((with_reducible refine l_div ?_ ?_); (first | assumption | omega | exact ⟨by omega, by decide⟩)) | ((with_reducible refine l_pow ?_ ?_); (first | assumption | omega | exact ⟨by omega, by decide⟩)) | ((with_reducible refine l_lrg ?_ ?_); (first | assumption | omega | exact ⟨by omega, by omega, by omega, by omega, by omega⟩)) | ((with_reducible refine l_mul ?_ ?_); (first | assumption | omega | exact ⟨by omega, by decide⟩)) | ((with_reducible apply c_t); rfl) | ((with_reducible apply c_f); rfl) | ((with_reducible apply s_lt); rfl) | ((with_reducible apply s_le); rfl) | ((with_reducible apply s_par); rfl; rfl; rfl) | ((with_reducible apply s_has); rfl) | ((with_reducible apply s_six); rfl; rfl; rfl) | ((with_reducible apply s_fl); rfl) | ((with_reducible apply s_lt2); rfl; rfl) | ((with_reducible apply s_pl); rfl) | ((with_reducible refine s_rb ?_ ?_); omega) | ((with_reducible apply w_lenO); rfl) | ((with_reducible apply s_sf); rfl; rfl) | ((with_reducible apply w_ownFldD); rfl; rfl) | ((with_reducible apply w_ownFldO); rfl; rfl; rfl) | ((with_reducible apply w_lenD); rfl) | ((with_reducible apply s_ex); rfl) | (rw [fz_dat]) | (rw [fz_own]) | ((with_reducible apply l_some); rfl)))
local macro_rules
  | `(tactic| clean_wf) => `(tactic| repeat (first | with_reducible refine w_nx ?_ | with_reducible refine w_if ?_ | with_reducible refine w_set ?_ | with_reducible refine w_retS ?_ | with_reducible refine w_exS ?_ | with_reducible refine w_raise ?_ | with_reducible refine w_par ?_ | with_reducible refine w_setIx ?_ | with_reducible refine w_tst ?_ | with_reducible refine w_tru ?_ | with_reducible refine w_not ?_ | with_reducible refine w_and ?_ | with_reducible refine w_or ?_ | with_reducible refine w_asD ?_ | with_reducible refine w_asO ?_ | with_reducible refine w_bin ?_ | with_reducible refine w_cmp ?_ | with_reducible refine w_ix ?_ | with_reducible refine w_neg ?_ | with_reducible refine w_cb ?_ | with_reducible refine w_andV ?_ | with_reducible refine w_orV ?_ | with_reducible refine w_notV ?_ | with_reducible refine w_nil ?_ | with_reducible refine w_cons ?_ | with_reducible refine w_lst ?_ | with_reducible refine w_tup ?_ | with_reducible refine w_xnil ?_ | with_reducible refine w_xcons ?_ | with_reducible refine w_for ?_ | with_reducible refine w_borT ?_ | with_reducible refine w_bor ?_ | with_reducible refine w_parO ?_ | with_reducible refine w_zip ?_ | with_reducible refine w_listO ?_ | with_reducible refine w_asgT ?_ | with_reducible refine w_sl ?_ | with_reducible refine w_nob ?_ | with_reducible refine w_b ?_ | with_reducible refine w_lc ?_ | with_reducible refine w_inK ?_ | with_reducible refine w_ixK ?_ | with_reducible refine w_join ?_ | with_reducible refine w_enum ?_ | with_reducible refine w_setFld ?_ | with_reducible refine w_fld ?_ | with_reducible refine w_raise0 ?_ | with_reducible refine w_lrg1 ?_ | with_reducible refine w_lrg2 ?_ | with_reducible refine w_ch ?_ | with_reducible refine w_chain1 ?_ | with_reducible refine w_chain2 ?_ | with_reducible refine w_items ?_ | with_reducible refine w_rng1 ?_ | with_reducible refine w_rng2 ?_ | with_reducible refine w_ret ?_ | with_reducible refine t_nx ?_ | with_reducible refine t_rt ?_ | with_reducible refine u_nx ?_ | with_reducible refine u_rt ?_ | with_reducible refine l_add ?_ | with_reducible refine l_sub ?_ | with_reducible refine l_neg ?_ | with_reducible refine l_lt ?_ | with_reducible refine l_le ?_ | with_reducible refine l_gt ?_ | with_reducible refine l_ge ?_ | with_reducible refine l_eqI ?_ | with_reducible refine l_neI ?_ | with_reducible refine l_eqS ?_ | with_reducible refine l_neS ?_ | with_reducible refine l_eqB ?_ | with_reducible refine l_neB ?_ | with_reducible refine l_int ?_ | with_reducible refine l_max ?_ | with_reducible refine l_min ?_ | ((with_reducible apply w_var); rfl) | ((with_reducible apply w_varO); rfl) | ((with_reducible refine w_own (xs := []) ?_ ?_); exact ⟨_, rfl⟩) | ((with_reducible apply w_ownAt); rfl; rfl) | ((with_reducible apply w_ownAtD); rfl) | ((with_reducible apply w_xslotD); rfl) | ((with_reducible apply w_xslotO); rfl) | ((with_reducible refine l_mod ?_ ?_); (first | assumption | omega | exact ⟨by omega, by decide⟩)) | ((with_reducible refine l_div ?_ ?_); (first | assumption | omega | exact ⟨by omega, by decide⟩)) | ((with_reducible refine l_pow ?_ ?_); (first | assumption | omega | exact ⟨by omega, by decide⟩)) | ((with_reducible refine l_lrg ?_ ?_); (first | assumption | omega | exact ⟨by omega, by omega, by omega, by omega, by omega⟩)) | ((with_reducible refine l_mul ?_ ?_); (first | assumption | omega | exact ⟨by omega, by decide⟩)) | ((with_reducible apply c_t); rfl) | ((with_reducible apply c_f); rfl) | ((with_reducible apply s_lt); rfl) | ((with_reducible apply s_le); rfl) | ((with_reducible apply s_par); rfl; rfl; rfl) | ((with_reducible apply s_has); rfl) | ((with_reducible apply s_six); rfl; rfl; rfl) | ((with_reducible apply s_fl); rfl) | ((with_reducible apply s_lt2); rfl; rfl) | ((with_reducible apply s_pl); rfl) | ((with_reducible refine s_rb ?_ ?_); omega) | ((with_reducible apply w_lenO); rfl) | ((with_reducible apply s_sf); rfl; rfl) | ((with_reducible apply w_ownFldD); rfl; rfl) | ((with_reducible apply w_ownFldO); rfl; rfl; rfl) | ((with_reducible apply w_lenD); rfl) | ((with_reducible apply s_ex); rfl) | (rw [fz_dat]) | (rw [fz_own]) | ((with_reducible apply l_some); rfl)))
def isBr (n : Nat) : D → Bool
  | .tup [.int i, .int j] => (decide (0 ≤ i) && decide (i ≤ j)) && decide (j ≤ n)
  | _ => false
def okB2 : D → Bool
  | .tup ds => decide (ds.length ≤ 100) && ds.all okD
  | d => okD d
theorem br_of {n : Nat} {d : D} (h : isBr n d = true) : ∃ i j : Nat, d = tp i j ∧ i ≤ j ∧ j ≤ n := by
  unfold isBr at h
  split at h
  · rename_i i j
    simp only [Bool.and_eq_true, decide_eq_true_eq] at h
    obtain ⟨⟨h1, h2⟩, h3⟩ := h
    refine ⟨i.toNat, j.toNat, ?_, by omega, by omega⟩
    unfold tp
    rw [Int.toNat_of_nonneg h1, Int.toNat_of_nonneg (by omega)]
  · cases h
def isStr : D → Bool
  | .str _ => true
  | _ => false
section
variable {fX : M (List Ar)} {ρ : Rho} {QO : O → Rho → Prop} {E : Ex → Rho → Prop}
theorem w_isbar (h : wp (fX ρ) (fun as ρ' => ∃ a d, as = [.d (.str (arS a)), .d d] ∧ a.length ≤ 6 ∧ okB2 d = true ∧ QO (.dat (.bl (isBr a.length d))) ρ') E) : wp (mCall E_is_bar fX ρ) QO E := by
  refine w_callD (wp_mono h (fun as ρ' ⟨a, d, e, la, hd, q⟩ => ⟨[.str (arS a), d], e, ⟨Nat.le_refl 2, Nat.le_refl 2⟩, ?_⟩) fun _ _ k => k)
  unfold Call
  rw [show E_is_bar.F = bodyF 3 2 [] g_is_bar from rfl]
  (refine call_body ?_ ?_ ?_; rfl; rfl)
  show wp (g_is_bar [some (.dat (.str (arS a))), some (.dat d), none]) _ _
  unfold g_is_bar
  cases d with
  | tup ds =>
    have hl : ds.length ≤ 100 := (Bool.and_eq_true_iff.mp hd).1 |> of_decide_eq_true
    have ho : ∀ x ∈ ds, okD x = true := List.all_eq_true.mp (Bool.and_eq_true_iff.mp hd).2
    simp_wf
    refine ⟨fun h0 => ?_, fun h0 => ?_⟩
    · simp_wf
      refine ⟨rfl, .inr ⟨_, rfl, Nat.le_of_ble_eq_true rfl, ?_⟩⟩
      have : isBr a.length (.tup ds) = false := by
        unfold isBr
        split
        · rename_i e; cases e; simp at h0
        · rfl
      rw [this] at q
      exact q
    · simp_wf
      refine w_lcI ds (fun x => .bl (isInt x)) (by unfold big; omega) (fun x hx => ⟨_, rfl, ?_⟩) ?_
      · refine w_isint1 ?_
        simp_wf
        exact ⟨ho x hx, rfl, rfl⟩
      · simp_wf
        refine l_some (all_of ds isInt) ?_
        cases hall : ds.all isInt with
        | false =>
          simp_wf
          refine ⟨rfl, .inr ⟨_, rfl, Nat.le_of_ble_eq_true rfl, ?_⟩⟩
          have : isBr a.length (.tup ds) = false := by
            unfold isBr
            split
            · rename_i e; cases e; cases hall
            · rfl
          rw [this] at q
          exact q
        | true =>
          have h2 : ds.length = 2 := by
            simp at h0
            omega
          match ds, h2, hall with
          | [x, y], _, hall =>
            cases x with
            | int i =>
              cases y with
              | int j =>
                simp_wf
                have eb : isBr a.length (.tup [.int i, .int j]) = ((decide (0 ≤ i) && decide (i ≤ j)) && decide (j ≤ a.length)) := rfl
                rw [eb] at q
                refine ⟨fun k0 => ?_, fun k0 => ?_⟩
                · rw [k0] at q
                  simp_wf
                  refine ⟨fun k1 => ?_, fun k1 => ?_⟩
                  · rw [k1] at q
                    simp_wf
                    refine l_some (len_ar (by omega)) ?_
                    simp_wf
                    exact ⟨rfl, .inr ⟨_, rfl, Nat.le_of_ble_eq_true rfl, q⟩⟩
                  · rw [k1] at q
                    simp_wf
                    rw [k1]
                    exact ⟨rfl, .inr ⟨_, rfl, Nat.le_of_ble_eq_true rfl, q⟩⟩
                · rw [k0] at q
                  simp_wf
                  rw [k0]
                  exact ⟨rfl, .inr ⟨_, rfl, Nat.le_of_ble_eq_true rfl, q⟩⟩
              | _ => cases hall
            | _ => cases hall
  | ty _ => cases hd
  | scr _ => cases hd
  | obj _ _ => cases hd
  | kls _ => cases hd
  | _ =>
    simp_wf
    exact ⟨rfl, .inr ⟨_, rfl, Nat.le_of_ble_eq_true rfl, q⟩⟩
theorem w_leads (h : wp (fX ρ) (fun as ρ' => ∃ a d1 d2, as = [.d (.str (arS a)), .d d1, .d d2] ∧ a.length ≤ 6 ∧ okB2 d1 = true ∧ okB2 d2 = true ∧ (isBr a.length d1 = false → E ⟨"InvalidBar", some ("value", d1)⟩ ρ') ∧ (isBr a.length d1 = true → isBr a.length d2 = false → E ⟨"InvalidBar", some ("value", d2)⟩ ρ') ∧
      ∀ b0 b1 o0 o1 : Nat, d1 = tp b0 b1 → d2 = tp o0 o1 → (b0 ≤ b1 ∧ b1 ≤ a.length) → (o0 ≤ o1 ∧ o1 ≤ a.length) → QO (.dat (.bl (hasM a b0 b1 o0 o1))) ρ') E) : wp (mCall E_leads_into fX ρ) QO E := by
  refine w_callD (wp_mono h (fun as ρ' ⟨a, d1, d2, e, la, k1, k2, q1, q2, q3⟩ => ⟨[.str (arS a), d1, d2], e, ⟨Nat.le_refl 3, Nat.le_refl 3⟩, ?_⟩) fun _ _ k => k)
  unfold Call
  rw [show E_leads_into.F = bodyF 4 3 [] g_leads_into from rfl]
  (refine call_body ?_ ?_ ?_; rfl; rfl)
  show wp (g_leads_into [some (.dat (.str (arS a))), some (.dat d1), some (.dat d2), none]) _ _
  unfold g_leads_into
  refine w_seq ?_
  clean_wf
  refine w_needpat ?_
  clean_wf
  refine ⟨la, ?_⟩
  clean_wf
  refine w_cut (fun ρ => isBr a.length d1 = true ∧ isBr a.length d2 = true ∧ ∃ y, ρ = [some (.dat (.str (arS a))), some (.dat d1), some (.dat d2), y]) ?_ ?_
  · clean_wf
    refine w_forL _ (fun k ρ => (0 < k → isBr a.length d1 = true) ∧ (1 < k → isBr a.length d2 = true) ∧ ∃ y, ρ = [some (.dat (.str (arS a))), some (.dat d1), some (.dat d2), y]) ⟨fun z => absurd z (by decide), fun z => absurd z (by decide), _, rfl⟩ ?_ ?_
    · rintro k d ρ hk ⟨i1, i2, y, rfl⟩
      refine ⟨_, rfl, ?_⟩
      match k, hk with
      | 0, hk =>
        cases hk
        simp_wf
        refine w_isbar ?_
        simp_wf
        refine ⟨a, d1, rfl, la, k1, ?_⟩
        cases c : isBr a.length d1 with
        | false =>
          simp_wf
          exact ⟨rfl, Nat.le_of_ble_eq_true rfl, q1 c⟩
        | true =>
          simp_wf
          exact ⟨fun _ => rfl, fun z => absurd z (by decide), _, rfl⟩
      | 1, hk =>
        cases hk
        simp_wf
        refine w_isbar ?_
        simp_wf
        refine ⟨a, d2, rfl, la, k2, ?_⟩
        cases c : isBr a.length d2 with
        | false =>
          simp_wf
          exact ⟨rfl, Nat.le_of_ble_eq_true rfl, q2 (i1 (by decide)) c⟩
        | true =>
          simp_wf
          exact ⟨fun _ => i1 (by decide), fun _ => rfl, _, rfl⟩
      | k + 2, hk => cases hk
    · rintro ρ ⟨i1, i2, y, rfl⟩
      exact ⟨i1 (Nat.le_of_ble_eq_true rfl), i2 (Nat.le_of_ble_eq_true rfl), _, rfl⟩
  · rintro ρ ⟨i1, i2, y, rfl⟩
    obtain ⟨b0, b1, rfl, hb⟩ := br_of i1
    obtain ⟨o0, o1, rfl, ho⟩ := br_of i2
    simp_wf
    refine w_hasmap ?_
    simp_wf
    refine ⟨a, b0, b1, o0, o1, rfl, la, hb, ho, ?_⟩
    simp_wf
    exact ⟨rfl, .inr ⟨_, rfl, Nat.le_of_ble_eq_true rfl, q3 _ _ _ _ rfl rfl hb ho⟩⟩
/-- what is no pattern -/
inductive BadP : D → Prop
  | no {d : D} (h : okD d = true) (h2 : isStr d = false) : BadP d
  | long {s : Str} (h : 6 < s.length) (h2 : s.length ≤ 1000) : BadP (.str s)
  | more {a : List Bool} (h : a.length ≤ 5) : BadP (.str ⟨(a.map arC ++ [120]).toArray⟩)
theorem w_ispatF (h : wp (fX ρ) (fun as ρ' => ∃ d, as = [.d d] ∧ BadP d ∧ QO (.dat (.bl false)) ρ') E) : wp (mCall E_is_pattern fX ρ) QO E := by
  refine w_callD (wp_mono h (fun as ρ' ⟨d, e, hd, q⟩ => ⟨[d], e, ⟨Nat.le_refl 1, Nat.le_refl 1⟩, ?_⟩) fun _ _ k => k)
  unfold Call
  rw [show E_is_pattern.F = bodyF 2 1 [] g_is_pattern from rfl]
  (refine call_body ?_ ?_ ?_; rfl; rfl)
  show wp (g_is_pattern [some (.dat d), none]) _ _
  unfold g_is_pattern
  cases hd with
  | no h1 h2 =>
    cases d with
    | ty _ => cases h1
    | scr _ => cases h1
    | obj _ _ => cases h1
    | kls _ => cases h1
    | str _ => cases h2
    | _ =>
      simp_wf
      exact ⟨rfl, .inr ⟨_, rfl, Nat.le_of_ble_eq_true rfl, q⟩⟩
  | @long s h1 h2 =>
    simp_wf
    refine l_some (show lenD [.str s] = some (.int s.length) from if_pos (by unfold big; omega)) ?_
    unfold c_MOST_ARROWS
    simp_wf
    refine ⟨fun hc => absurd (of_decide_eq_true hc) (by omega), fun hc => ?_⟩
    simp_wf
    rw [hc]
    exact ⟨rfl, .inr ⟨_, rfl, Nat.le_of_ble_eq_true rfl, q⟩⟩
  | @more a h1 =>
    have hl : (⟨(a.map arC ++ [120]).toArray⟩ : Str).length = a.length + 1 := by
      show (a.map arC ++ [120]).toArray.size = _
      simp
    simp_wf
    refine l_some (show lenD [.str ⟨(a.map arC ++ [120]).toArray⟩] = some (.int ((a.length + 1 : Nat) : Int)) from by rw [← hl]; exact if_pos (by rw [hl]; unfold big; omega)) ?_
    unfold c_MOST_ARROWS
    simp_wf
    refine ⟨fun hc => ?_, fun hc => absurd (of_decide_eq_false hc) (by omega)⟩
    simp_wf
    rw [List.toList_toArray]
    refine w_lcD (a.map arC ++ [120]) chr1 (fun c => D.bl (T_OTHER.lookup (⟨#[c]⟩ : Str)).isSome) (by simp; unfold big; omega) (fun c hc => ⟨_, rfl, ?_⟩) ?_
    · simp_wf
      exact ⟨rfl, rfl⟩
    · simp_wf
      refine l_some (all_of (a.map arC ++ [120]) fun c => (T_OTHER.lookup (⟨#[c]⟩ : Str)).isSome) ?_
      have e0 : ((a.map arC ++ [120]).all fun c => (T_OTHER.lookup (⟨#[c]⟩ : Str)).isSome) = false := by
        rw [List.all_append]
        have : ([120].all fun c => (T_OTHER.lookup (⟨#[c]⟩ : Str)).isSome) = false := by decide +kernel
        rw [this, Bool.and_false]
      rw [e0]
      simp_wf
      exact ⟨rfl, .inr ⟨_, rfl, Nat.le_of_ble_eq_true rfl, q⟩⟩
theorem w_leadsF (h : wp (fX ρ) (fun as ρ' => ∃ d d1 d2, as = [.d d, .d d1, .d d2] ∧ BadP d ∧ E ⟨"InvalidPattern", some ("value", d)⟩ ρ') E) : wp (mCall E_leads_into fX ρ) QO E := by
  refine w_callD (wp_mono h (fun as ρ' ⟨d, d1, d2, e, hd, q⟩ => ⟨[d, d1, d2], e, ⟨Nat.le_refl 3, Nat.le_refl 3⟩, ?_⟩) fun _ _ k => k)
  unfold Call
  rw [show E_leads_into.F = bodyF 4 3 [] g_leads_into from rfl]
  (refine call_body ?_ ?_ ?_; rfl; rfl)
  show wp (g_leads_into [some (.dat d), some (.dat d1), some (.dat d2), none]) _ _
  unfold g_leads_into
  refine w_seq ?_
  clean_wf
  refine w_callD ?_
  clean_wf
  refine ⟨[d], rfl, ⟨Nat.le_refl 1, Nat.le_refl 1⟩, ?_⟩
  unfold Call
  rw [show E_need_pattern.F = bodyF 1 1 [] g_need_pattern from rfl]
  (refine call_body ?_ ?_ ?_; rfl; rfl)
  show wp (g_need_pattern [some (.dat d)]) _ _
  unfold g_need_pattern
  simp_wf
  refine w_ispatF ?_
  simp_wf
  refine ⟨hd, ?_⟩
  simp_wf
  exact ⟨rfl, Nat.le_refl 1, rfl, Nat.le_of_ble_eq_true rfl, q⟩
end
end K46

end
-- text P46g
section
set_option linter.all false
set_option maxRecDepth 100000
set_option maxHeartbeats 0
namespace K46
open PySem PySem.Spec PyProof.Rows L2 PL
local macro_rules
  | `(tactic| simp_wf) => `(tactic| repeat (first | with_reducible refine w_seq ?_ | with_reducible refine w_nx ?_ | with_reducible refine w_if ?_ | with_reducible refine w_set ?_ | with_reducible refine w_retS ?_ | with_reducible refine w_exS ?_ | with_reducible refine w_raise ?_ | with_reducible refine w_par ?_ | with_reducible refine w_setIx ?_ | with_reducible refine w_tst ?_ | with_reducible refine w_tru ?_ | with_reducible refine w_not ?_ | with_reducible refine w_and ?_ | with_reducible refine w_or ?_ | with_reducible refine w_asD ?_ | with_reducible refine w_asO ?_ | with_reducible refine w_bin ?_ | with_reducible refine w_cmp ?_ | with_reducible refine w_ix ?_ | with_reducible refine w_neg ?_ | with_reducible refine w_cb ?_ | with_reducible refine w_andV ?_ | with_reducible refine w_orV ?_ | with_reducible refine w_notV ?_ | with_reducible refine w_nil ?_ | with_reducible refine w_cons ?_ | with_reducible refine w_lst ?_ | with_reducible refine w_tup ?_ | with_reducible refine w_xnil ?_ | with_reducible refine w_xcons ?_ | with_reducible refine w_for ?_ | with_reducible refine w_borT ?_ | with_reducible refine w_bor ?_ | with_reducible refine w_parO ?_ | with_reducible refine w_zip ?_ | with_reducible refine w_listO ?_ | with_reducible refine w_asgT ?_ | with_reducible refine w_sl ?_ | with_reducible refine w_nob ?_ | with_reducible refine w_b ?_ | with_reducible refine w_lc ?_ | with_reducible refine w_inK ?_ | with_reducible refine w_ixK ?_ | with_reducible refine w_join ?_ | with_reducible refine w_enum ?_ | with_reducible refine w_setFld ?_ | with_reducible refine w_fld ?_ | with_reducible refine w_raise0 ?_ | with_reducible refine w_lrg1 ?_ | with_reducible refine w_lrg2 ?_ | with_reducible refine w_ch ?_ | with_reducible refine w_chain1 ?_ | with_reducible refine w_chain2 ?_ | with_reducible refine w_items ?_ | with_reducible refine w_rng1 ?_ | with_reducible refine w_rng2 ?_ | with_reducible refine w_ret ?_ | with_reducible refine t_nx ?_ | with_reducible refine t_rt ?_ | with_reducible refine u_nx ?_ | with_reducible refine u_rt ?_ | with_reducible refine l_add ?_ | with_reducible refine l_sub ?_ | with_reducible refine l_neg ?_ | with_reducible refine l_lt ?_ | with_reducible refine l_le ?_ | with_reducible refine l_gt ?_ | with_reducible refine l_ge ?_ | with_reducible refine l_eqI ?_ | with_reducible refine l_neI ?_ | with_reducible refine l_eqS ?_ | with_reducible refine l_neS ?_ | with_reducible refine l_eqB ?_ | with_reducible refine l_neB ?_ | with_reducible refine l_int ?_ | with_reducible refine l_max ?_ | with_reducible refine l_min ?_ | ((with_reducible apply w_var); rfl) | ((with_reducible apply w_varO); rfl) | ((with_reducible refine w_own (xs := []) ?_ ?_); exact ⟨_, rfl⟩) | ((with_reducible apply w_ownAt); rfl; rfl) | ((with_reducible apply w_ownAtD); rfl) | ((with_reducible apply w_xslotD); rfl) | ((with_reducible apply w_xslotO); rfl) | ((with_reducible refine l_mod ?_ ?_); (first | assumption | omega | exact ⟨by omega, by decide⟩)) | ((with_reducible refine l_div ?_ ?_); (first | assumption | omega | exact ⟨by omega, by decide⟩)) | ((with_reducible refine l_pow ?_ ?_); (first | assumption | omega | exact ⟨by omega, by decide⟩)) | ((with_reducible refine l_lrg ?_ ?_); (first | assumption | omega | exact ⟨by omega, by omega, by omega, by omega, by omega⟩)) | ((with_reducible refine l_mul ?_ ?_); (first | assumption | omega | exact ⟨by omega, by decide⟩)) | ((with_reducible apply c_t); rfl) | ((with_reducible apply c_f); rfl) | ((with_reducible apply s_lt); rfl) | ((with_reducible apply s_le); rfl) | ((with_reducible apply s_par); rfl; rfl; rfl) | ((with_reducible apply s_has); rfl) | ((with_reducible apply s_six); rfl; rfl; rfl) | ((with_reducible apply s_fl); rfl) | ((with_reducible apply s_lt2); rfl; rfl) | ((with_reducible apply s_pl); rfl) | ((with_reducible refine s_rb ?_ ?_); omega) | ((with_reducible apply w_lenO); rfl) | ((with_reducible apply s_sf); rfl; rfl) | ((with_reducible apply w_ownFldD); rfl; rfl) | ((with_reducible apply w_ownFldO); rfl; rfl; rfl) | ((with_reducible apply w_lenD); rfl) | ((with_reducible apply s_ex); rfl) | (rw [fz_dat]) | (rw [fz_own]) | ((with_reducible apply l_some); rfl)))
local macro_rules
  | `(tactic| clean_wf) => `(tactic| repeat (first | with_reducible refine w_nx ?_ | with_reducible refine w_if ?_ | with_reducible refine w_set ?_ | with_reducible refine w_retS ?_ | with_reducible refine w_exS ?_ | with_reducible refine w_raise ?_ | with_reducible refine w_par ?_ | with_reducible refine w_setIx ?_ | with_reducible refine w_tst ?_ | with_reducible refine w_tru ?_ | with_reducible refine w_not ?_ | with_reducible refine w_and ?_ | with_reducible refine w_or ?_ | with_reducible refine w_asD ?_ | with_reducible refine w_asO ?_ | with_reducible refine w_bin ?_ | with_reducible refine w_cmp ?_ | with_reducible refine w_ix ?_ | with_reducible refine w_neg ?_ | with_reducible refine w_cb ?_ | with_reducible refine w_andV ?_ | with_reducible refine w_orV ?_ | with_reducible refine w_notV ?_ | with_reducible refine w_nil ?_ | with_reducible refine w_cons ?_ | with_reducible refine w_lst ?_ | with_reducible refine w_tup ?_ | with_reducible refine w_xnil ?_ | with_reducible refine w_xcons ?_ | with_reducible refine w_for ?_ | with_reducible refine w_borT ?_ | with_reducible refine w_bor ?_ | with_reducible refine w_parO ?_ | with_reducible refine w_zip ?_ | with_reducible refine w_listO ?_ | with_reducible refine w_asgT ?_ | with_reducible refine w_sl ?_ | with_reducible refine w_nob ?_ | with_reducible refine w_b ?_ | with_reducible refine w_lc ?_ | with_reducible refine w_inK ?_ | with_reducible refine w_ixK ?_ | with_reducible refine w_join ?_ | with_reducible refine w_enum ?_ | with_reducible refine w_setFld ?_ | with_reducible refine w_fld ?_ | with_reducible refine w_raise0 ?_ | with_reducible refine w_lrg1 ?_ | with_reducible refine w_lrg2 ?_ | with_reducible refine w_ch ?_ | with_reducible refine w_chain1 ?_ | with_reducible refine w_chain2 ?_ | with_reducible refine w_items ?_ | with_reducible refine w_rng1 ?_ | with_reducible refine w_rng2 ?_ | with_reducible refine w_ret ?_ | with_reducible refine t_nx ?_ | with_reducible refine t_rt ?_ | with_reducible refine u_nx ?_ | with_reducible refine u_rt ?_ | with_reducible refine l_add ?_ | with_reducible refine l_sub ?_ | with_reducible refine l_neg ?_ | with_reducible refine l_lt ?_ | with_reducible refine l_le ?_ | with_reducible refine l_gt ?_ | with_reducible refine l_ge ?_ | with_reducible refine l_eqI ?_ | with_reducible refine l_neI ?_ | with_reducible refine l_eqS ?_ | with_reducible refine l_neS ?_ | with_reducible refine l_eqB ?_ | with_reducible refine l_neB ?_ | with_reducible refine l_int ?_ | with_reducible refine l_max ?_ | with_reducible refine l_min ?_ | ((with_reducible apply w_var); rfl) | ((with_reducible apply w_varO); rfl) | ((with_reducible refine w_own (xs := []) ?_ ?_); exact ⟨_, rfl⟩) | ((with_reducible apply w_ownAt); rfl; rfl) | ((with_reducible apply w_ownAtD); rfl) | ((with_reducible apply w_xslotD); rfl) | ((with_reducible apply w_xslotO); rfl) | ((with_reducible refine l_mod ?_ ?_); (first | assumption | omega | exact ⟨by omega, by decide⟩)) | ((with_reducible refine l_div ?_ ?_); (first | assumption | omega | exact ⟨by omega, by decide⟩)) | ((with_reducible refine l_pow ?_ ?_); (first | assumption | omega | exact ⟨by omega, by decide⟩)) | ((with_reducible refine l_lrg ?_ ?_); (first | assumption | omega | exact ⟨by omega, by omega, by omega, by omega, by omega⟩)) | ((with_reducible refine l_mul ?_ ?_); (first | assumption | omega | exact ⟨by omega, by decide⟩)) | ((with_reducible apply c_t); rfl) | ((with_reducible apply c_f); rfl) | ((with_reducible apply s_lt); rfl) | ((with_reducible apply s_le); rfl) | ((with_reducible apply s_par); rfl; rfl; rfl) | ((with_reducible apply s_has); rfl) | ((with_reducible apply s_six); rfl; rfl; rfl) | ((with_reducible apply s_fl); rfl) | ((with_reducible apply s_lt2); rfl; rfl) | ((with_reducible apply s_pl); rfl) | ((with_reducible refine s_rb ?_ ?_); omega) | ((with_reducible apply w_lenO); rfl) | ((with_reducible apply s_sf); rfl; rfl) | ((with_reducible apply w_ownFldD); rfl; rfl) | ((with_reducible apply w_ownFldO); rfl; rfl; rfl) | ((with_reducible apply w_lenD); rfl) | ((with_reducible apply s_ex); rfl) | (rw [fz_dat]) | (rw [fz_own]) | ((with_reducible apply l_some); rfl)))
theorem br_tp {n i j : Nat} (h : i ≤ j ∧ j ≤ n) : isBr n (tp i j) = true := by
  show ((decide ((0 : Int) ≤ i) && decide ((i : Int) ≤ j)) && decide ((j : Int) ≤ n)) = true
  simp
  omega
theorem w_repl {y z : Str} {f : M D} {ρ : Rho} {Q : D → Rho → Prop} {E : Ex → Rho → Prop} (h : wp (f ρ) (fun x ρ' => wp (lift (repD y z x) ρ') Q E) E) : wp (mRepl y z f ρ) Q E := w_bnd h
theorem w_rev {f : M D} {ρ : Rho} {Q : D → Rho → Prop} {E : Ex → Rho → Prop} (h : wp (f ρ) (fun x ρ' => wp (lift (revD x) ρ') Q E) E) : wp (mRev f ρ) Q E := w_bnd h
theorem rep_len {x y z : Str} (h : x.length + (x.length + 1) * z.length ≤ 16777216) : repD y z (.str x) = some (.str (Txt.replace x y z)) := if_pos h
theorem rep3 (b : Bool) : ∃ s, reprD (.lst [.bl b, .bl b, .bl b]) = some (.str s) := repr_ok (by cases b <;> rfl) (by cases b <;> decide) (by cases b <;> decide)
theorem duo_len {a : List Bool} : (duo a).length = a.length := List.length_map ..
theorem rev_ar {a : List Bool} (la : a.length ≤ 6) (ev : revS (arS (duo a)) = arS (duo a).reverse) : revD (.str (arS (duo a))) = some (.str (arS (duo a).reverse)) := by
  show (if (revS (arS (duo a))).length ≤ big then some (D.str (revS (arS (duo a)))) else none) = _
  rw [ev, if_pos (by rw [arS_len, List.length_reverse, duo_len]; unfold big; omega)]
theorem app_ok {xs : List O} {d : D} (h : xs.length < big) : effApp xs [d] = some (.non, xs ++ [.dat d]) := if_pos h
section
variable {fX : M (List Ar)} {ρ : Rho} {QO : O → Rho → Prop} {E : Ex → Rho → Prop}
theorem w_leadsT (h : wp (fX ρ) (fun as ρ' => ∃ a b0 b1 o0 o1, as = [.d (.str (arS a)), .d (tp b0 b1), .d (tp o0 o1)] ∧ a.length ≤ 6 ∧ (b0 ≤ b1 ∧ b1 ≤ a.length) ∧ (o0 ≤ o1 ∧ o1 ≤ a.length) ∧ QO (.dat (.bl (hasM a b0 b1 o0 o1))) ρ') E) : wp (mCall E_leads_into fX ρ) QO E := by
  refine w_leads (wp_mono h (fun as ρ' ⟨a, b0, b1, o0, o1, e, la, hb, ho, q⟩ => ?_) fun _ _ k => k)
  refine ⟨a, tp b0 b1, tp o0 o1, e, la, rfl, rfl, fun c => ?_, fun _ c => ?_, fun x0 x1 z0 z1 e1 e2 _ _ => ?_⟩
  · rw [br_tp hb] at c; cases c
  · rw [br_tp ho] at c; cases c
  · unfold tp at e1 e2
    simp only [D.tup.injEq, List.cons.injEq, D.int.injEq, Int.ofNat_inj, and_true] at e1 e2
    obtain ⟨rfl, rfl⟩ := e1
    obtain ⟨rfl, rfl⟩ := e2
    exact q
theorem w_caughtP (h : wp (fX ρ) (fun as ρ' => ∃ d d1 d2, as = [.d d, .d d1, .d d2] ∧ BadP d ∧ ∀ o, fz o = .lst [.str "pattern", d] → QO o ρ') E) : wp (mCall E__law_caught fX ρ) QO E := by
  refine w_callD (wp_mono h (fun as ρ' ⟨d, d1, d2, e, hd, q⟩ => ⟨[d, d1, d2], e, ⟨Nat.le_refl 3, Nat.le_refl 3⟩, ?_⟩) fun _ _ k => k)
  unfold Call
  rw [show E__law_caught.F = bodyF 4 3 [] g__law_caught from rfl]
  (refine call_body ?_ ?_ ?_; rfl; rfl)
  show wp (g__law_caught [some (.dat d), some (.dat d1), some (.dat d2), none]) _ _
  unfold g__law_caught
  refine w_seq ?_
  refine w_try ?_
  simp_wf
  refine w_leadsF ?_
  simp_wf
  refine ⟨d, d1, d2, rfl, hd, ?_⟩
  refine wp_eq (a := .rt (.own [.dat (.str "pattern"), .dat d])) rfl ?_
  refine t_rt ?_
  exact ⟨rfl, .inr ⟨_, rfl, Nat.le_of_ble_eq_true rfl, q _ rfl⟩⟩
theorem w_caughtB (h : wp (fX ρ) (fun as ρ' => ∃ a d1 d2 d, as = [.d (.str (arS a)), .d d1, .d d2] ∧ a.length ≤ 6 ∧ okB2 d1 = true ∧ okB2 d2 = true ∧ ((isBr a.length d1 = false ∧ d = d1) ∨ (isBr a.length d1 = true ∧ isBr a.length d2 = false ∧ d = d2)) ∧ ∀ o, fz o = .lst [.str "bar", d] → QO o ρ') E) : wp (mCall E__law_caught fX ρ) QO E := by
  refine w_callD (wp_mono h (fun as ρ' ⟨a, d1, d2, d, e, la, k1, k2, hd, q⟩ => ⟨[.str (arS a), d1, d2], e, ⟨Nat.le_refl 3, Nat.le_refl 3⟩, ?_⟩) fun _ _ k => k)
  unfold Call
  rw [show E__law_caught.F = bodyF 4 3 [] g__law_caught from rfl]
  (refine call_body ?_ ?_ ?_; rfl; rfl)
  show wp (g__law_caught [some (.dat (.str (arS a))), some (.dat d1), some (.dat d2), none]) _ _
  unfold g__law_caught
  refine w_seq ?_
  refine w_try ?_
  simp_wf
  refine w_leads ?_
  simp_wf
  refine ⟨a, d1, d2, rfl, la, k1, k2, fun c1 => ?_, fun c1 c2 => ?_, fun b0 b1 o0 o1 e1 e2 hb ho => ?_⟩
  · refine wp_eq (a := .rt (.own [.dat (.str "bar"), .dat d1])) rfl ?_
    refine t_rt ?_
    refine ⟨rfl, .inr ⟨_, rfl, Nat.le_of_ble_eq_true rfl, q _ ?_⟩⟩
    rcases hd with ⟨_, rfl⟩ | ⟨z, _⟩
    · rfl
    · rw [c1] at z; cases z
  · refine wp_eq (a := .rt (.own [.dat (.str "bar"), .dat d2])) rfl ?_
    refine t_rt ?_
    refine ⟨rfl, .inr ⟨_, rfl, Nat.le_of_ble_eq_true rfl, q _ ?_⟩⟩
    rcases hd with ⟨z, _⟩ | ⟨_, _, rfl⟩
    · rw [c1] at z; cases z
    · rfl
  · exfalso
    have g1 : isBr a.length d1 = true := by rw [e1]; exact br_tp hb
    have g2 : isBr a.length d2 = true := by rw [e2]; exact br_tp ho
    rcases hd with ⟨z, _⟩ | ⟨_, z, _⟩
    · rw [g1] at z; cases z
    · rw [g2] at z; cases z
theorem w_right (h : wp (fX ρ) (fun as ρ' => ∃ a, as = [.d (.str (arS a))] ∧ a.length ≤ 6 ∧ QO (.dat (.bl true)) ρ') E) : wp (mCall E__law_right fX ρ) QO E := by
  refine w_callD (wp_mono h (fun as ρ' ⟨a, e, la, q⟩ => ⟨[.str (arS a)], e, ⟨Nat.le_refl 1, Nat.le_refl 1⟩, ?_⟩) fun _ _ k => k)
  obtain ⟨er, ev⟩ := rep_of la
  unfold Call
  rw [show E__law_right.F = bodyF 9 1 [] g__law_right from rfl]
  (refine call_body ?_ ?_ ?_; rfl; rfl)
  show wp (g__law_right [some (.dat (.str (arS a))), none, none, none, none, none, none, none, none]) _ _
  unfold g__law_right
  refine w_seq ?_
  clean_wf
  refine l_some (len_ar (by omega)) ?_
  clean_wf
  refine w_seq ?_
  clean_wf
  refine w_repl (w_repl (w_repl ?_))
  clean_wf
  have z1 : ("x" : Str).length = 1 := by decide
  have z2 : (">" : Str).length = 1 := by decide
  have z3 : ("<" : Str).length = 1 := by decide
  have b1 := TK.replace_len (arS a) ">" "x"
  have b2 := TK.replace_len (Txt.replace (arS a) ">" "x") "<" ">"
  rw [z1, arS_len] at b1
  rw [z2] at b2
  refine l_some (rep_len (by rw [z1, arS_len]; omega)) ?_
  refine l_some (rep_len (by rw [z2]; omega)) ?_
  refine l_some (rep_len (by rw [z3]; omega)) ?_
  rw [er]
  clean_wf
  refine w_cut (fun ρ => ∃ y3 y4 y5 y6 y8, ρ = [some (.dat (.str (arS a))), some (.dat (.int a.length)), some (.dat (.str (arS (duo a)))), y3, y4, y5, y6, none, y8]) ?_ ?_
  · clean_wf
    refine w_bars ?_
    clean_wf
    refine ⟨la, ?_⟩
    clean_wf
    refine w_forL _ (fun _ ρ => ∃ y3 y4 y5 y6 y8, ρ = [some (.dat (.str (arS a))), some (.dat (.int a.length)), some (.dat (.str (arS (duo a)))), y3, y4, y5, y6, none, y8]) ⟨_, _, _, _, _, rfl⟩ ?_ ?_
    · rintro k d ρ hk ⟨y3, y4, y5, y6, y8, rfl⟩
      obtain ⟨u, hu, rfl⟩ := List.mem_map.mp (List.mem_of_getElem? hk)
      have u1 := bars_mem hu
      refine ⟨_, rfl, ?_⟩
      refine w_cut (fun ρ => ∃ y4 y5 y6 y8, ρ = [some (.dat (.str (arS a))), some (.dat (.int a.length)), some (.dat (.str (arS (duo a)))), some (.dat (tq u)), y4, y5, y6, none, y8]) ?_ ?_
      · clean_wf
        refine w_bars ?_
        clean_wf
        refine ⟨la, ?_⟩
        clean_wf
        refine w_forL _ (fun _ ρ => ∃ y4 y5 y6 y8, ρ = [some (.dat (.str (arS a))), some (.dat (.int a.length)), some (.dat (.str (arS (duo a)))), some (.dat (tq u)), y4, y5, y6, none, y8]) ⟨_, _, _, _, rfl⟩ ?_ ?_
        · rintro k2 d ρ hk2 ⟨y4, y5, y6, y8, rfl⟩
          obtain ⟨v, hv, rfl⟩ := List.mem_map.mp (List.mem_of_getElem? hk2)
          have v1 := bars_mem hv
          obtain ⟨c1, c2, c3⟩ := chk_of la hu hv
          obtain ⟨s, hs⟩ := rep3 (isM a u.1 u.2 v.1 v.2)
          refine ⟨_, rfl, ?_⟩
          refine w_seq ?_
          clean_wf
          refine w_ismap ?_
          clean_wf
          refine ⟨a, u.1, u.2, v.1, v.2, rfl, la, u1, v1, ?_⟩
          clean_wf
          refine w_seq ?_
          clean_wf
          refine w_lcD [u, v] tq (fun q => tp (a.length - q.2) (a.length - q.1)) (Nat.le_of_ble_eq_true rfl) (fun q hq => ⟨_, rfl, ?_⟩) ?_
          · have q1 : q.1 ≤ q.2 ∧ q.2 ≤ a.length := by
              simp only [List.mem_cons, List.not_mem_nil, or_false] at hq
              rcases hq with rfl | rfl
              · exact u1
              · exact v1
            clean_wf
            refine ⟨?_, rfl⟩
            show O.dat (.tup [.int ((a.length : Int) - (q.2 : Int)), .int ((a.length : Int) - (q.1 : Int))]) = .dat (.tup [.int ((a.length - q.2 : Nat) : Int), .int ((a.length - q.1 : Nat) : Int)])
            rw [Int.ofNat_sub q1.2, Int.ofNat_sub (Nat.le_trans q1.1 q1.2)]
          clean_wf
          refine w_seq ?_
          clean_wf
          refine w_leadsT ?_
          clean_wf
          refine ⟨a, u.1, u.2, v.1, v.2, rfl, la, u1, v1, ?_⟩
          clean_wf
          refine w_leadsT ?_
          clean_wf
          refine ⟨duo a, v.1, v.2, u.1, u.2, rfl, by rw [duo_len]; exact la, by rw [duo_len]; exact v1, by rw [duo_len]; exact u1, ?_⟩
          clean_wf
          rw [c1, c2]
          refine w_seq ?_
          clean_wf
          refine w_met rfl ?_
          clean_wf
          refine w_leadsT ?_
          clean_wf
          refine w_rev ?_
          clean_wf
          refine l_some (rev_ar la ev) ?_
          clean_wf
          refine ⟨(duo a).reverse, a.length - u.2, a.length - u.1, a.length - v.2, a.length - v.1, rfl, by rw [List.length_reverse, duo_len]; exact la, by rw [List.length_reverse, duo_len]; omega, by rw [List.length_reverse, duo_len]; omega, ?_⟩
          clean_wf
          rw [c3]
          refine ⟨_, _, _, rfl, app_ok (Nat.le_of_ble_eq_true rfl), ?_⟩
          clean_wf
          refine w_seq ?_
          clean_wf
          refine l_some hs ?_
          clean_wf
          refine l_some hs ?_
          clean_wf
          refine c_f (by simp) ?_
          clean_wf
          exact ⟨_, _, _, _, rfl⟩
        · rintro ρ ⟨y4, y5, y6, y8, rfl⟩
          exact ⟨_, _, _, _, rfl⟩
      · rintro ρ ⟨y4, y5, y6, y8, rfl⟩
        clean_wf
        exact ⟨_, _, _, _, _, rfl⟩
    · rintro ρ ⟨y3, y4, y5, y6, y8, rfl⟩
      exact ⟨_, _, _, _, _, rfl⟩
  · rintro ρ ⟨y3, y4, y5, y6, y8, rfl⟩
    simp_wf
    exact ⟨rfl, .inr ⟨_, rfl, Nat.le_of_ble_eq_true rfl, q⟩⟩
end
end K46

end
-- text P46h
section
set_option linter.all false
set_option maxRecDepth 100000
set_option maxHeartbeats 0
namespace K46
open PySem PySem.Spec PyProof.Rows L2 PL
local macro_rules
  | `(tactic| simp_wf) => `(tactic| repeat (first | with_reducible refine w_seq ?_ | with_reducible refine w_nx ?_ | with_reducible refine w_if ?_ | with_reducible refine w_set ?_ | with_reducible refine w_retS ?_ | with_reducible refine w_exS ?_ | with_reducible refine w_raise ?_ | with_reducible refine w_par ?_ | with_reducible refine w_setIx ?_ | with_reducible refine w_tst ?_ | with_reducible refine w_tru ?_ | with_reducible refine w_not ?_ | with_reducible refine w_and ?_ | with_reducible refine w_or ?_ | with_reducible refine w_asD ?_ | with_reducible refine w_asO ?_ | with_reducible refine w_bin ?_ | with_reducible refine w_cmp ?_ | with_reducible refine w_ix ?_ | with_reducible refine w_neg ?_ | with_reducible refine w_cb ?_ | with_reducible refine w_andV ?_ | with_reducible refine w_orV ?_ | with_reducible refine w_notV ?_ | with_reducible refine w_nil ?_ | with_reducible refine w_cons ?_ | with_reducible refine w_lst ?_ | with_reducible refine w_tup ?_ | with_reducible refine w_xnil ?_ | with_reducible refine w_xcons ?_ | with_reducible refine w_for ?_ | with_reducible refine w_borT ?_ | with_reducible refine w_bor ?_ | with_reducible refine w_parO ?_ | with_reducible refine w_zip ?_ | with_reducible refine w_listO ?_ | with_reducible refine w_asgT ?_ | with_reducible refine w_sl ?_ | with_reducible refine w_nob ?_ | with_reducible refine w_b ?_ | with_reducible refine w_lc ?_ | with_reducible refine w_inK ?_ | with_reducible refine w_ixK ?_ | with_reducible refine w_join ?_ | with_reducible refine w_enum ?_ | with_reducible refine w_setFld ?_ | with_reducible refine w_fld ?_ | with_reducible refine w_raise0 ?_ | with_reducible refine w_lrg1 ?_ | with_reducible refine w_lrg2 ?_ | with_reducible refine w_ch ?_ | with_reducible refine w_chain1 ?_ | with_reducible refine w_chain2 ?_ | with_reducible refine w_items ?_ | with_reducible refine w_rng1 ?_ | with_reducible refine w_rng2 ?_ | with_reducible refine w_ret ?_ | with_reducible refine t_nx ?_ | with_reducible refine t_rt ?_ | with_reducible refine u_nx ?_ | with_reducible refine u_rt ?_ | with_reducible refine l_add ?_ | with_reducible refine l_sub ?_ | with_reducible refine l_neg ?_ | with_reducible refine l_lt ?_ | with_reducible refine l_le ?_ | with_reducible refine l_gt ?_ | with_reducible refine l_ge ?_ | with_reducible refine l_eqI ?_ | with_reducible refine l_neI ?_ | with_reducible refine l_eqS ?_ | with_reducible refine l_neS ?_ | with_reducible refine l_eqB ?_ | with_reducible refine l_neB ?_ | with_reducible refine l_int ?_ | with_reducible refine l_max ?_ | with_reducible refine l_min ?_ | ((with_reducible apply w_var); rfl) | ((with_reducible apply w_varO); rfl) | ((with_reducible refine w_own (xs := []) ?_ ?_); exact ⟨_, rfl⟩) | ((with_reducible apply w_ownAt); rfl; rfl) | ((with_reducible apply w_ownAtD); rfl) | ((with_reducible apply w_xslotD); rfl) | ((with_reducible apply w_xslotO); rfl) | ((with_reducible refine l_mod ?_ ?_); (first | assumption | omega | exact ⟨by omega, by decide⟩)) | ((with_reducible refine l_div ?_ ?_); (first | assumption | omega | exact ⟨by omega, by decide⟩)) | ((with_reducible refine l_pow ?_ ?_); (first | assumption | omega | exact ⟨by omega, by decide⟩)) | ((with_reducible refine l_lrg ?_ ?_); (first | assumption | omega | exact ⟨by omega, by omega, by omega, by omega, by omega⟩)) | ((with_reducible refine l_mul ?_ ?_); (first | assumption | omega | exact ⟨by omega, by decide⟩)) | ((with_reducible apply c_t); rfl) | ((with_reducible apply c_f); rfl) | ((with_reducible apply s_lt); rfl) | ((with_reducible apply s_le); rfl) | ((with_reducible apply s_par); rfl; rfl; rfl) | ((with_reducible apply s_has); rfl) | ((with_reducible apply s_six); rfl; rfl; rfl) | ((with_reducible apply s_fl); rfl) | ((with_reducible apply s_lt2); rfl; rfl) | ((with_reducible apply s_pl); rfl) | ((with_reducible refine s_rb ?_ ?_); omega) | ((with_reducible apply w_lenO); rfl) | ((with_reducible apply s_sf); rfl; rfl) | ((with_reducible apply w_ownFldD); rfl; rfl) | ((with_reducible apply w_ownFldO); rfl; rfl; rfl) | ((with_reducible apply w_lenD); rfl) | ((with_reducible apply s_ex); rfl) | (rw [fz_dat]) | (rw [fz_own]) | ((with_reducible apply l_some); rfl)))
local macro_rules
  | `(tactic| clean_wf) => `(tactic| repeat (first | with_reducible refine w_nx ?_ | with_reducible refine w_if ?_ | with_reducible refine w_set ?_ | with_reducible refine w_retS ?_ | with_reducible refine w_exS ?_ | with_reducible refine w_raise ?_ | with_reducible refine w_par ?_ | with_reducible refine w_setIx ?_ | with_reducible refine w_tst ?_ | with_reducible refine w_tru ?_ | with_reducible refine w_not ?_ | with_reducible refine w_and ?_ | with_reducible refine w_or ?_ | with_reducible refine w_asD ?_ | with_reducible refine w_asO ?_ | with_reducible refine w_bin ?_ | with_reducible refine w_cmp ?_ | with_reducible refine w_ix ?_ | with_reducible refine w_neg ?_ | with_reducible refine w_cb ?_ | with_reducible refine w_andV ?_ | with_reducible refine w_orV ?_ | with_reducible refine w_notV ?_ | with_reducible refine w_nil ?_ | with_reducible refine w_cons ?_ | with_reducible refine w_lst ?_ | with_reducible refine w_tup ?_ | with_reducible refine w_xnil ?_ | with_reducible refine w_xcons ?_ | with_reducible refine w_for ?_ | with_reducible refine w_borT ?_ | with_reducible refine w_bor ?_ | with_reducible refine w_parO ?_ | with_reducible refine w_zip ?_ | with_reducible refine w_listO ?_ | with_reducible refine w_asgT ?_ | with_reducible refine w_sl ?_ | with_reducible refine w_nob ?_ | with_reducible refine w_b ?_ | with_reducible refine w_lc ?_ | with_reducible refine w_inK ?_ | with_reducible refine w_ixK ?_ | with_reducible refine w_join ?_ | with_reducible refine w_enum ?_ | with_reducible refine w_setFld ?_ | with_reducible refine w_fld ?_ | with_reducible refine w_raise0 ?_ | with_reducible refine w_lrg1 ?_ | with_reducible refine w_lrg2 ?_ | with_reducible refine w_ch ?_ | with_reducible refine w_chain1 ?_ | with_reducible refine w_chain2 ?_ | with_reducible refine w_items ?_ | with_reducible refine w_rng1 ?_ | with_reducible refine w_rng2 ?_ | with_reducible refine w_ret ?_ | with_reducible refine t_nx ?_ | with_reducible refine t_rt ?_ | with_reducible refine u_nx ?_ | with_reducible refine u_rt ?_ | with_reducible refine l_add ?_ | with_reducible refine l_sub ?_ | with_reducible refine l_neg ?_ | with_reducible refine l_lt ?_ | with_reducible refine l_le ?_ | with_reducible refine l_gt ?_ | with_reducible refine l_ge ?_ | with_reducible refine l_eqI ?_ | with_reducible refine l_neI ?_ | with_reducible refine l_eqS ?_ | with_reducible refine l_neS ?_ | with_reducible refine l_eqB ?_ | with_reducible refine l_neB ?_ | with_reducible refine l_int ?_ | with_reducible refine l_max ?_ | with_reducible refine l_min ?_ | ((with_reducible apply w_var); rfl) | ((with_reducible apply w_varO); rfl) | ((with_reducible refine w_own (xs := []) ?_ ?_); exact ⟨_, rfl⟩) | ((with_reducible apply w_ownAt); rfl; rfl) | ((with_reducible apply w_ownAtD); rfl) | ((with_reducible apply w_xslotD); rfl) | ((with_reducible apply w_xslotO); rfl) | ((with_reducible refine l_mod ?_ ?_); (first | assumption | omega | exact ⟨by omega, by decide⟩)) | ((with_reducible refine l_div ?_ ?_); (first | assumption | omega | exact ⟨by omega, by decide⟩)) | ((with_reducible refine l_pow ?_ ?_); (first | assumption | omega | exact ⟨by omega, by decide⟩)) | ((with_reducible refine l_lrg ?_ ?_); (first | assumption | omega | exact ⟨by omega, by omega, by omega, by omega, by omega⟩)) | ((with_reducible refine l_mul ?_ ?_); (first | assumption | omega | exact ⟨by omega, by decide⟩)) | ((with_reducible apply c_t); rfl) | ((with_reducible apply c_f); rfl) | ((with_reducible apply s_lt); rfl) | ((with_reducible apply s_le); rfl) | ((with_reducible apply s_par); rfl; rfl; rfl) | ((with_reducible apply s_has); rfl) | ((with_reducible apply s_six); rfl; rfl; rfl) | ((with_reducible apply s_fl); rfl) | ((with_reducible apply s_lt2); rfl; rfl) | ((with_reducible apply s_pl); rfl) | ((with_reducible refine s_rb ?_ ?_); omega) | ((with_reducible apply w_lenO); rfl) | ((with_reducible apply s_sf); rfl; rfl) | ((with_reducible apply w_ownFldD); rfl; rfl) | ((with_reducible apply w_ownFldO); rfl; rfl; rfl) | ((with_reducible apply w_lenD); rfl) | ((with_reducible apply s_ex); rfl) | (rw [fz_dat]) | (rw [fz_own]) | ((with_reducible apply l_some); rfl)))
def arX (a : List Bool) : Str := ⟨(a.map arC ++ [120]).toArray⟩
theorem add_x {a : List Bool} (la : a.length ≤ 6) : binD .Add (.str (arS a)) (.str "x") = some (.str (arX a)) := by
  have e : ("x" : Str).length = 1 := by decide
  show (if (arS a).length + ("x" : Str).length ≤ big then some (D.str (arS a ++ "x")) else none) = _
  rw [if_pos (by rw [e, arS_len]; unfold big; omega)]
  have : arS a ++ "x" = arX a := by
    show (⟨(a.map arC).toArray ++ ("x" : Str).cps⟩ : Str) = _
    have e0 : ("x" : Str).cps = #[120] := by decide
    rw [e0]
    unfold arX
    simp
  rw [this]
theorem rep2 {t : Str} {d : D} (ht : (reprText t).length ≤ 100) (h : okR d = true) (hw : wt d ≤ 100) (hd : dp d ≤ 5) : ∃ s, reprD (.lst [.str t, d]) = some (.str s) := by
  refine repr_ok ?_ ?_ ?_
  · show (true && (okR d && true)) = true
    rw [h]; rfl
  · show 2 + ((reprText t).length + 2 + (wt d + 2 + 0)) ≤ 1000000
    omega
  · show max 0 (max (dp d) 0) + 1 ≤ 40
    omega
theorem bad_all {a : List Bool} (la : a.length ≤ 6) {k : Nat} {d : D} (h : [D.non, D.int 3, D.bl true, D.lst [D.str ">"], D.dic [], D.str (arX a), D.str (repS 7 ">")][k]? = some d) : BadP d ∧ ∃ s, reprD (.lst [.str "pattern", d]) = some (.str s) := by
  match k, h with
  | 0, h => cases h; exact ⟨.no rfl rfl, rep2 (by decide +kernel) rfl (by decide) (by decide)⟩
  | 1, h => cases h; exact ⟨.no rfl rfl, rep2 (by decide +kernel) rfl (by decide) (by decide)⟩
  | 2, h => cases h; exact ⟨.no rfl rfl, rep2 (by decide +kernel) rfl (by decide) (by decide)⟩
  | 3, h => cases h; exact ⟨.no rfl rfl, rep2 (by decide +kernel) rfl (by decide +kernel) (by decide)⟩
  | 4, h => cases h; exact ⟨.no rfl rfl, rep2 (by decide +kernel) rfl (by decide) (by decide)⟩
  | 5, h =>
    cases h
    refine ⟨?_, rep2 (by decide +kernel) rfl ?_ (Nat.zero_le _)⟩
    · by_cases c : a.length ≤ 5
      · exact .more c
      · have e : (arX a).length = a.length + 1 := by
          show (a.map arC ++ [120]).toArray.size = _
          simp
        exact .long (by omega) (by omega)
    · have k : ((allL 6).all fun a => decide ((reprText (arX a)).length ≤ 100)) = true := by decide +kernel
      exact of_decide_eq_true (List.all_eq_true.mp k a (mem_allL la))
  | 6, h => cases h; exact ⟨.long (by decide +kernel) (by decide +kernel), rep2 (by decide +kernel) rfl (by decide +kernel) (by decide)⟩
  | _ + 7, h => cases h
theorem rep4 {d : D} (h : okR d = true) (hw : wt d ≤ 200) (hd : dp d ≤ 5) : ∃ s, reprD (.lst [.lst [.str "bar", d], .lst [.str "bar", d]]) = some (.str s) := by
  have ht : (reprText "bar").length ≤ 100 := by decide +kernel
  refine repr_ok ?_ ?_ ?_
  · show ((true && (okR d && true)) && ((true && (okR d && true)) && true)) = true
    rw [h]; rfl
  · show 2 + (2 + ((reprText "bar").length + 2 + (wt d + 2 + 0)) + 2 + (2 + ((reprText "bar").length + 2 + (wt d + 2 + 0)) + 2 + 0)) ≤ 1000000
    omega
  · show max (max 0 (max (dp d) 0) + 1) (max (max 0 (max (dp d) 0) + 1) 0) + 1 ≤ 40
    omega
theorem odd_all {a : List Bool} (la : a.length ≤ 6) {k : Nat} {d : D} (h : [D.non, D.int 3, D.str "01", D.lst [D.int 0, D.int 0], D.tup [D.int 0], D.tup [D.int 0, D.int 0, D.int 0], D.tup [D.int 0, D.int ((a.length : Int) + 1)], D.tup [D.int (-1), D.int 0], D.tup [D.int 1, D.int 0], D.tup [D.bl false, D.int 0], D.tup [D.int 0, D.str "0"], D.tup []][k]? = some d) :
    okB2 d = true ∧ isBr a.length d = false ∧ ∃ s, reprD (.lst [.lst [.str "bar", d], .lst [.str "bar", d]]) = some (.str s) := by
  match k, h with
  | 0, h => cases h; exact ⟨rfl, rfl, rep4 (by decide +kernel) (by decide +kernel) (by decide +kernel)⟩
  | 1, h => cases h; exact ⟨rfl, rfl, rep4 (by decide +kernel) (by decide +kernel) (by decide +kernel)⟩
  | 2, h => cases h; exact ⟨rfl, rfl, rep4 (by decide +kernel) (by decide +kernel) (by decide +kernel)⟩
  | 3, h => cases h; exact ⟨rfl, rfl, rep4 (by decide +kernel) (by decide +kernel) (by decide +kernel)⟩
  | 4, h => cases h; exact ⟨rfl, rfl, rep4 (by decide +kernel) (by decide +kernel) (by decide +kernel)⟩
  | 5, h => cases h; exact ⟨rfl, rfl, rep4 (by decide +kernel) (by decide +kernel) (by decide +kernel)⟩
  | 6, h =>
    cases h
    refine ⟨rfl, ?_, rep4 ?_ (Nat.le_of_ble_eq_true rfl) (Nat.le_of_ble_eq_true rfl)⟩
    · show ((decide ((0 : Int) ≤ 0) && decide ((0 : Int) ≤ (a.length : Int) + 1)) && decide ((a.length : Int) + 1 ≤ a.length)) = false
      rw [decide_eq_false (show ¬ ((a.length : Int) + 1 ≤ a.length) by omega), Bool.and_false]
    · show (true && (decide (((a.length : Int) + 1).natAbs < 10 ^ 40) && true)) = true
      rw [decide_eq_true (by omega)]; rfl
  | 7, h => cases h; exact ⟨rfl, rfl, rep4 (by decide +kernel) (by decide +kernel) (by decide +kernel)⟩
  | 8, h => cases h; exact ⟨rfl, rfl, rep4 (by decide +kernel) (by decide +kernel) (by decide +kernel)⟩
  | 9, h => cases h; exact ⟨rfl, rfl, rep4 (by decide +kernel) (by decide +kernel) (by decide +kernel)⟩
  | 10, h => cases h; exact ⟨rfl, rfl, rep4 (by decide +kernel) (by decide +kernel) (by decide +kernel)⟩
  | 11, h => cases h; exact ⟨rfl, rfl, rep4 (by decide +kernel) (by decide +kernel) (by decide +kernel)⟩
  | _ + 12, h => cases h
theorem law_ok (zs : List Int) (hl : zs.length ≤ 63) : wp (E_law.F [.dat (.scr zs)]) (fun o _ => o = .dat (.bl true)) (fun _ _ => False) := by
  rw [show E_law.F = bodyF 7 1 [] g_law from rfl]
  (refine call_body ?_ ?_ ?_; rfl; rfl)
  show wp (g_law [some (.dat (.scr zs)), none, none, none, none, none, none]) _ _
  unfold g_law
  refine w_cut (fun ρ => ∃ y1 y2 y3 y4 y5 y6, ρ = [some (.dat (.scr zs)), y1, y2, y3, y4, y5, y6]) ?_ ?_
  · clean_wf
    have hm : ∃ m : Int, (if (if (zs.length : Int) < 8 then (zs.length : Int) else 8) > 2 then (if (zs.length : Int) < 8 then (zs.length : Int) else 8) else 2) = m ∧ 0 ≤ m ∧ m ≤ 8 := ⟨_, rfl, by split <;> split <;> omega, by split <;> split <;> omega⟩
    obtain ⟨m, em, hm0, hm1⟩ := hm
    rw [em]
    refine w_forL _ (fun _ ρ => ∃ y1 y2 y3 y4 y5 y6, ρ = [some (.dat (.scr zs)), y1, y2, y3, y4, y5, y6]) ⟨_, _, _, _, _, _, rfl⟩ ?_ ?_
    · rintro i d ρ hi ⟨y1, y2, y3, y4, y5, y6, rfl⟩
      obtain ⟨rfl, hi⟩ := rngL_get hi
      refine ⟨_, rfl, ?_⟩
      refine w_seq ?_
      clean_wf
      refine w_box ?_
      clean_wf
      refine w_cell ?_
      clean_wf
      refine ⟨_, _, rfl, by omega, fun c => ?_⟩
      clean_wf
      refine fun xs hb => ?_
      clean_wf
      refine w_seq ?_
      clean_wf
      refine w_pattern rfl hb (by omega) (m := 6) (by decide) (w_ret ⟨rfl, rfl⟩) fun a xs1 ha hb1 => ?_
      have la : a.length ≤ 6 := by omega
      clean_wf
      refine w_seq ?_
      clean_wf
      refine w_right ?_
      clean_wf
      refine ⟨la, ?_⟩
      clean_wf
      refine w_cut (fun ρ => ∃ y4 y5 y6, ρ = [some (.dat (.scr zs)), some (.dat (.int (0 + (i : Nat)))), some (.own xs1), some (.dat (.str (arS a))), y4, y5, y6]) ?_ ?_
      · clean_wf
        refine l_some (add_x la) ?_
        clean_wf
        refine w_forL _ (fun _ ρ => ∃ y4 y5 y6, ρ = [some (.dat (.scr zs)), some (.dat (.int (0 + (i : Nat)))), some (.own xs1), some (.dat (.str (arS a))), y4, y5, y6]) ⟨_, _, _, rfl⟩ ?_ ?_
        · rintro k d ρ hk ⟨y4, y5, y6, rfl⟩
          have hd : BadP d ∧ ∃ s, reprD (.lst [.str "pattern", d]) = some (.str s) := bad_all la hk
          obtain ⟨hd, s, hs⟩ := hd
          refine ⟨_, rfl, ?_⟩
          refine w_seq ?_
          clean_wf
          refine w_caughtP ?_
          clean_wf
          refine ⟨d, d, d, rfl, hd, fun o eo => ?_⟩
          clean_wf
          rw [eo]
          refine l_some hs ?_
          clean_wf
          refine l_some hs ?_
          clean_wf
          refine c_f (by simp) ?_
          clean_wf
          exact ⟨_, _, _, rfl⟩
        · rintro ρ ⟨y4, y5, y6, rfl⟩
          exact ⟨_, _, _, rfl⟩
      rintro ρ ⟨y4, y5, y6, rfl⟩
      refine w_seq ?_
      clean_wf
      refine l_some (len_ar (by omega)) ?_
      clean_wf
      refine w_cut (fun ρ => ∃ y1 y2 y3 y4 y5 y6, ρ = [some (.dat (.scr zs)), y1, y2, y3, y4, y5, y6]) ?_ ?_
      · clean_wf
        refine w_forL _ (fun _ ρ => ∃ y4 y6, ρ = [some (.dat (.scr zs)), some (.dat (.int (0 + (i : Nat)))), some (.own xs1), some (.dat (.str (arS a))), y4, some (.dat (.int a.length)), y6]) ⟨_, _, rfl⟩ ?_ ?_
        · rintro k d ρ hk ⟨y4, y6, rfl⟩
          obtain ⟨g1, g2, s, hs⟩ := odd_all la hk
          refine ⟨_, rfl, ?_⟩
          refine w_seq ?_
          clean_wf
          refine w_caughtB ?_
          clean_wf
          refine ⟨a, d, .non, d, rfl, la, g1, rfl, .inl ⟨g2, rfl⟩, fun o1 e1 => ?_⟩
          clean_wf
          refine w_caughtB ?_
          clean_wf
          refine ⟨a, .tup [.int 0, .int a.length], d, d, rfl, la, rfl, g1, .inr ⟨br_tp (i := 0) (j := a.length) ⟨Nat.zero_le _, Nat.le_refl _⟩, g2, rfl⟩, fun o2 e2 => ?_⟩
          clean_wf
          rw [e1, e2]
          refine w_seq ?_
          clean_wf
          refine l_some hs ?_
          clean_wf
          refine l_some hs ?_
          clean_wf
          refine c_f (by simp) ?_
          clean_wf
          exact ⟨_, _, rfl⟩
        · rintro ρ ⟨y4, y6, rfl⟩
          exact ⟨_, _, _, _, _, _, rfl⟩
      · rintro ρ ⟨y1, y2, y3, y4, y5, y6, rfl⟩
        clean_wf
        exact ⟨_, _, _, _, _, _, rfl⟩
    · rintro ρ ⟨y1, y2, y3, y4, y5, y6, rfl⟩
      exact ⟨_, _, _, _, _, _, rfl⟩
  · rintro ρ ⟨y1, y2, y3, y4, y5, y6, rfl⟩
    simp_wf
    exact ⟨rfl, .inr ⟨_, rfl, rfl⟩⟩
end K46

end
-- text L46
section
set_option linter.all false
set_option maxRecDepth 100000
set_option maxHeartbeats 0
namespace K46
open PySem PySem.Spec PyProof.Rows L2 PL
theorem plain (zs : List Int) (hl : zs.length ≤ 63) (hb : ∀ z ∈ zs, Builtin.Int.intBits z ≤ 1048576) : ∃ ρ, E_law.F [.dat (.scr zs)] = .ok (.dat (.bl true)) ρ := by
  obtain ⟨a, ρ, e, rfl⟩ := wp_get (law_ok zs hl)
  exact ⟨ρ, e⟩
end K46
open PySem PySem.W PySem.Calls PyProof.Rows
theorem PySem.Challenge.cw_maprows_k46_maps_between_bars_holds : PySem.Challenge.rw_maprows_k46_maps_between_bars.Holds := by
  w_on; o_law
  refine HandSHeadRun.head_any (r := K46.R) (q := view K46.R.prog [24]) (H := K46.hk) (ob := K46.ob) (M := 4000) (loose := K46.names) (d := HandSHeadRun.topDef K46.R.prog 24) (kwd := []) K46.ob_eq
    (by kernel_rfl) (fun s => by kernel_rfl) K46.run (by kernel_rfl) (by kernel_rfl) (by kernel_rfl) (by rfl) (by first | assumption | decide +kernel) (by decide +kernel) ⟨rfl, rfl, rfl, rfl, rfl, by decide +kernel⟩ ?hw ?hc
  case hw => w_witness2
  case hc =>
    refine PL.walkG (l := PySem.Challenge.rw_maprows_k46_maps_between_bars) (n := 63) (k := 6) (x := "_law_script") rfl (by decide) (by kernel_rfl) ⟨rfl, by decide, by decide⟩ fun w mg fa h ⟨K, KX, c⟩ G hmg0 => ?_
    have hmg : mg ("law" : PySem.Str) = some (.ref fa) := by
      have e : (HandSHeadRun.topDef K46.R.prog 24).name = ("law" : PySem.Str) := by kernel_rfl
      rw [← e]
      exact hmg0
    obtain ⟨fd, hb, hF⟩ := K46.facts (P := (PySem.Challenge.rw_maprows_k46_maps_between_bars).prog) (w := w) KX G c
    have e := hmg.symm.trans (PySem.W.mg_of KX G (He.eqO_ok (List.all_eq_true.mp (List.all_eq_true.mp (PL.seesQ_chk c) _ (List.mem_of_getElem? (i := 2) rfl)) "law" (by decide +kernel))))
    cases e
    exact ⟨K, _, fd, K46.E_law.F, KX, hb, K46.plain, hF⟩

end
