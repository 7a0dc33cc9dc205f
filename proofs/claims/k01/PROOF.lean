import PyProof.Rows.All
import Wide.All
import OpenK.AllK
import Wide.FinOn
import HandS.ForMost
import HandS.Wide
import HandS.TupAny
import HandS.IsInst
import HandS.Deep
import KE.DataMinMax
import KE.SortData
import KE.DataCmp
import HandS.Style
import HandS.Conv
import HandS.Defaults
import KE.KStateDown
import HandS.Head0
import HandS.Head1
import HandS.Head2
import HandS.HeadEnd
import HandS.HeadHook1
import HandS.HeadHook2
import PySem.Challenge.RW_skein_k01_whole_differences_of_texts
set_option Elab.async false
set_option linter.all false
set_option maxRecDepth 100000
set_option maxHeartbeats 0
namespace DL
open PySem PySem.Spec PyProof.Rows L2
/-! ### data in the abstract heap -/
def keyD : Key → PyData
  | .inl i => .int i
  | .inr x => .str x
mutual
inductive Rp (K : PySem.W.Frag) (G : Hp) : V → PyData → Prop
  | non : Rp K G .non .none
  | bl (b : Bool) : Rp K G (.bl b) (.bool b)
  | int (i : Int) : Rp K G (.int i) (.int i)
  | str (x : Str) : Rp K G (.str x) (.str x)
  | lst {a : Addr} {xs : List V} {ds : List PyData} : G a = some (.lst xs) → RpAll K G xs ds → Rp K G (.ref a) (.list ds)
  | scr {a : Addr} {xs : List V} {ds : List PyData} : SqL K G a xs → RpAll K G xs ds → Rp K G (.ref a) (.dict [(.list ds, .none)])
  | tup {a : Addr} {xs : List V} {ds : List PyData} : SqT K G a xs → RpAll K G xs ds → Rp K G (.ref a) (.tuple ds)
  | dK {a : Addr} {kvs : List (Key × V)} {ks ds : List PyData} : Rd G a (.dK kvs) → ks = kvs.map (fun p => keyD p.1) → RpAll K G (kvs.map (·.2)) ds → Rp K G (.ref a) (.dict (ks.zip ds))
  | dT {a : Addr} {kvs : List (List Key × V)} {ks ds : List PyData} : Rd G a (.dT kvs) → ks = kvs.map (fun p => PyData.tuple (p.1.map keyD)) → RpAll K G (kvs.map (·.2)) ds → Rp K G (.ref a) (.dict ((.none, .none) :: ks.zip ds))
inductive RpAll (K : PySem.W.Frag) (G : Hp) : List V → List PyData → Prop
  | nil : RpAll K G [] []
  | cons {v : V} {vs : List V} {d : PyData} {ds : List PyData} : Rp K G v d → RpAll K G vs ds → RpAll K G (v :: vs) (d :: ds)
end
theorem Same.rd {H H' : Hp} {a : Addr} {o : HO} (e : Same H H') (h : Rd H a o) : Rd H' a o := by
  rcases h with h | ⟨q, h⟩
  · exact .inl (e _ _ h)
  · exact .inr ⟨q, e _ _ h⟩
theorem Same.sqT {K : PySem.W.Frag} {H H' : Hp} {a : Addr} {xs : List V} (e : Same H H') (h : SqT K H a xs) : SqT K H' a xs := by
  rcases h with h | h
  · exact .inl (Same.rd e h)
  · exact .inr h
section
variable {K : PySem.W.Frag} {G G' H H' : Hp}
mutual
theorem Rp.mono (s : Same G G') : ∀ {v : V} {d : PyData}, Rp K G v d → Rp K G' v d
  | _, _, .non => .non
  | _, _, .bl b => .bl b
  | _, _, .int i => .int i
  | _, _, .str x => .str x
  | _, _, .lst h t => .lst (s _ _ h) (RpAll.mono s t)
  | _, _, .scr h t => .scr (s.seq h) (RpAll.mono s t)
  | _, _, .tup h t => .tup (Same.sqT s h) (RpAll.mono s t)
  | _, _, .dK h e t => .dK (Same.rd s h) e (RpAll.mono s t)
  | _, _, .dT h e t => .dT (Same.rd s h) e (RpAll.mono s t)
theorem RpAll.mono (s : Same G G') : ∀ {vs : List V} {ds : List PyData}, RpAll K G vs ds → RpAll K G' vs ds
  | _, _, .nil => .nil
  | _, _, .cons h t => .cons (Rp.mono s h) (RpAll.mono s t)
end
theorem RpAll.length : ∀ {vs : List V} {ds : List PyData}, RpAll K G vs ds → vs.length = ds.length
  | _, _, .nil => rfl
  | _, _, .cons _ t => by rw [List.length_cons, List.length_cons, RpAll.length t]
theorem RpAll.get : ∀ {vs : List V} {ds : List PyData} {i : Nat} {d : PyData}, RpAll K G vs ds → ds[i]? = some d → ∃ v, vs[i]? = some v ∧ Rp K G v d
  | _, _, _, _, .nil, e => by simp at e
  | _, _, 0, _, .cons h _, e => by simp at e; subst e; exact ⟨_, rfl, h⟩
  | _, _, i + 1, d, .cons _ t, e => by
    obtain ⟨v, h1, h2⟩ := RpAll.get (i := i) (d := d) t (by simpa using e)
    exact ⟨v, by simpa using h1, h2⟩
theorem RpAll.getV : ∀ {vs : List V} {ds : List PyData} {i : Nat} {v : V}, RpAll K G vs ds → vs[i]? = some v → ∃ d, ds[i]? = some d ∧ Rp K G v d
  | _, _, _, _, .nil, e => by simp at e
  | _, _, 0, _, .cons h _, e => by simp at e; subst e; exact ⟨_, rfl, h⟩
  | _, _, i + 1, d, .cons _ t, e => by
    obtain ⟨v, h1, h2⟩ := RpAll.getV (i := i) (v := d) t (by simpa using e)
    exact ⟨v, by simpa using h1, h2⟩
theorem RpAll.append : ∀ {vs ws : List V} {ds es : List PyData}, RpAll K G vs ds → RpAll K G ws es → RpAll K G (vs ++ ws) (ds ++ es)
  | _, _, _, _, .nil, q => q
  | _, _, _, _, .cons h t, q => .cons h (RpAll.append t q)
theorem RpAll.take : ∀ {vs : List V} {ds : List PyData} (n : Nat), RpAll K G vs ds → RpAll K G (vs.take n) (ds.take n)
  | _, _, 0, _ => .nil
  | _, _, _ + 1, .nil => .nil
  | _, _, n + 1, .cons r t => .cons r (RpAll.take n t)
theorem RpAll.drop : ∀ {vs : List V} {ds : List PyData} (n : Nat), RpAll K G vs ds → RpAll K G (vs.drop n) (ds.drop n)
  | _, _, 0, r => r
  | _, _, _ + 1, .nil => .nil
  | _, _, n + 1, .cons _ t => RpAll.drop n t
theorem RpAll.set {v : V} {d : PyData} (r : Rp K G v d) : ∀ {vs : List V} {ds : List PyData} (i : Nat), RpAll K G vs ds → RpAll K G (vs.set i v) (ds.set i d)
  | _, _, _, .nil => .nil
  | _, _, 0, .cons _ t => .cons r t
  | _, _, i + 1, .cons q t => .cons q (RpAll.set r i t)
theorem RpAll.reverse : ∀ {vs : List V} {ds : List PyData}, RpAll K G vs ds → RpAll K G vs.reverse ds.reverse
  | _, _, .nil => .nil
  | _, _, .cons h t => by
    rw [List.reverse_cons, List.reverse_cons]
    exact RpAll.append (RpAll.reverse t) (.cons h .nil)
theorem RpAll.replicate {v : V} {d : PyData} (r : Rp K G v d) : ∀ n : Nat, RpAll K G (List.replicate n v) (List.replicate n d)
  | 0 => .nil
  | n + 1 => .cons r (RpAll.replicate r n)
theorem RpAll.flatRep {vs : List V} {ds : List PyData} (r : RpAll K G vs ds) : ∀ n : Nat, RpAll K G (List.replicate n vs).flatten (List.replicate n ds).flatten
  | 0 => .nil
  | n + 1 => by
    rw [List.replicate_succ, List.replicate_succ, List.flatten_cons, List.flatten_cons]
    exact RpAll.append r (RpAll.flatRep r n)
/-! no dict within -/
mutual
def plain : PyData → Bool
  | .none => true
  | .bool _ => true
  | .int _ => true
  | .str _ => true
  | .list xs => plainAll xs
  | .tuple xs => plainAll xs
  | .dict _ => false
def plainAll : List PyData → Bool
  | [] => true
  | x :: xs => plain x && plainAll xs
end
mutual
theorem Rp.dp : ∀ {v : V} {d : PyData}, Rp K G v d → plain d = true → Dp K G v d
  | _, _, .non, _ => .non
  | _, _, .bl b, _ => .bl b
  | _, _, .int i, _ => .int i
  | _, _, .str x, _ => .str x
  | _, _, .lst h t, p => .lst (.inl (.inl h)) (RpAll.dp t (by simpa [plain] using p))
  | _, _, .scr _ _, p => by simp [plain] at p
  | _, _, .tup h t, p => .tup h (RpAll.dp t (by simpa [plain] using p))
  | _, _, .dK _ _ _, p => by simp [plain] at p
  | _, _, .dT _ _ _, p => by simp [plain] at p
theorem RpAll.dp : ∀ {vs : List V} {ds : List PyData}, RpAll K G vs ds → plainAll ds = true → DpAll K G vs ds
  | _, _, .nil, _ => .nil
  | _, _, .cons (d := d) (ds := ds) h t, p => by
    have p' : plain d = true ∧ plainAll ds = true := by simpa [plainAll] using p
    exact .cons (Rp.dp h p'.1) (RpAll.dp t p'.2)
end
end
/-! ### inversion -/
section
variable {K : PySem.W.Frag} {G : Hp} {v : V}
theorem Rp.none_inv (h : Rp K G v .none) : v = .non := by cases h; rfl
theorem Rp.bool_inv {b : Bool} (h : Rp K G v (.bool b)) : v = .bl b := by cases h; rfl
theorem Rp.int_inv {i : Int} (h : Rp K G v (.int i)) : v = .int i := by cases h; rfl
theorem Rp.str_inv {x : Str} (h : Rp K G v (.str x)) : v = .str x := by cases h; rfl
theorem Rp.lst_inv {ds : List PyData} (h : Rp K G v (.list ds)) : ∃ a xs, v = .ref a ∧ G a = some (.lst xs) ∧ RpAll K G xs ds := by
  cases h with
  | lst h t => exact ⟨_, _, rfl, h, t⟩
theorem Rp.tup_inv {ds : List PyData} (h : Rp K G v (.tuple ds)) : ∃ a xs, v = .ref a ∧ SqT K G a xs ∧ RpAll K G xs ds := by
  cases h with
  | tup h t => exact ⟨_, _, rfl, h, t⟩
theorem Rp.scr_inv {ds : List PyData} (h : Rp K G v (.dict [(.list ds, .none)])) : ∃ a xs, v = .ref a ∧ SqL K G a xs ∧ RpAll K G xs ds := by
  generalize e : PyData.dict [(.list ds, .none)] = d at h
  cases h with
  | scr h t => cases e; exact ⟨_, _, rfl, h, t⟩
  | @dK a kvs ks es h ek t =>
    subst ek
    cases kvs with
    | nil => cases es <;> cases e
    | cons p r =>
      cases es with
      | nil => cases e
      | cons q qs =>
        obtain ⟨k, w⟩ := p
        cases k <;> cases e
  | dT h ek t => cases e
  | _ => cases e
end
/-! ### what is owned -/
inductive OwAll (R : V → PyData → List Addr → Prop) : List V → List PyData → List Addr → Prop
  | nil : OwAll R [] [] []
  | cons {v : V} {vs : List V} {d : PyData} {ds : List PyData} {A B : List Addr} : R v d A → OwAll R vs ds B → OwAll R (v :: vs) (d :: ds) (A ++ B)
/-- a value whose containers down to a depth n are owned (tracked in H, not in G); the rest stands in G -/
def Ow (K : PySem.W.Frag) (G H : Hp) : Nat → V → PyData → List Addr → Prop
  | 0, v, d, A => Rp K G v d ∧ A = []
  | n + 1, v, d, A => (∃ a xs ds B, v = .ref a ∧ d = .list ds ∧ H a = some (.lst xs) ∧ OwAll (Ow K G H n) xs ds B ∧ A = a :: B) ∨
      (∃ a kvs ks ds B, v = .ref a ∧ d = .dict (ks.zip ds) ∧ H a = some (.dK kvs) ∧ ks = kvs.map (fun p => keyD p.1) ∧ OwAll (Ow K G H n) (kvs.map (·.2)) ds B ∧ A = a :: B) ∨
      (∃ a kvs ks ds B, v = .ref a ∧ d = .dict ((.none, .none) :: ks.zip ds) ∧ H a = some (.dT kvs) ∧ ks = kvs.map (fun p => PyData.tuple (p.1.map keyD)) ∧ OwAll (Ow K G H n) (kvs.map (·.2)) ds B ∧ A = a :: B)
theorem OwAll.imp {R S : V → PyData → List Addr → Prop} : ∀ {vs : List V} {ds : List PyData} {A : List Addr}, OwAll R vs ds A → (∀ v d B, (∀ a ∈ B, a ∈ A) → R v d B → S v d B) → OwAll S vs ds A
  | _, _, _, .nil, _ => .nil
  | _, _, _, .cons h t, f => .cons (f _ _ _ (fun a m => List.mem_append_left _ m) h) (OwAll.imp t fun v d B hB r => f v d B (fun a m => List.mem_append_right _ (hB a m)) r)
section
variable {K : PySem.W.Frag} {G G' H H' : Hp}
theorem Ow.keep : ∀ {n : Nat} {v : V} {d : PyData} {A : List Addr}, Same G G' → (∀ a ∈ A, ∀ o, H a = some o → H' a = some o) → Ow K G H n v d A → Ow K G' H' n v d A
  | 0, _, _, _, s, _, ⟨h, e⟩ => ⟨h.mono s, e⟩
  | n + 1, _, _, _, s, k, h => by
    rcases h with ⟨a, xs, ds, B, rfl, rfl, e, t, rfl⟩ | ⟨a, kvs, ks, ds, B, rfl, rfl, e, ek, t, rfl⟩ | ⟨a, kvs, ks, ds, B, rfl, rfl, e, ek, t, rfl⟩
    · exact .inl ⟨a, xs, ds, B, rfl, rfl, k a List.mem_cons_self _ e, t.imp fun v d C hC r => Ow.keep s (fun b hb => k b (List.mem_cons_of_mem _ (hC b hb))) r, rfl⟩
    · exact .inr (.inl ⟨a, kvs, ks, ds, B, rfl, rfl, k a List.mem_cons_self _ e, ek, t.imp fun v d C hC r => Ow.keep s (fun b hb => k b (List.mem_cons_of_mem _ (hC b hb))) r, rfl⟩)
    · exact .inr (.inr ⟨a, kvs, ks, ds, B, rfl, rfl, k a List.mem_cons_self _ e, ek, t.imp fun v d C hC r => Ow.keep s (fun b hb => k b (List.mem_cons_of_mem _ (hC b hb))) r, rfl⟩)
theorem Ow.zero {v : V} {d : PyData} (h : Rp K G v d) : Ow K G H 0 v d [] := ⟨h, rfl⟩
theorem OwAll.of_rp : ∀ {vs : List V} {ds : List PyData}, RpAll K G vs ds → OwAll (Ow K G H 0) vs ds []
  | _, _, .nil => .nil
  | _, _, .cons h t => OwAll.cons (A := []) (B := []) (Ow.zero h) (OwAll.of_rp t)
theorem OwAll.to_rp : ∀ {vs : List V} {ds : List PyData} {A : List Addr}, OwAll (Ow K G H 0) vs ds A → RpAll K G vs ds ∧ A = []
  | _, _, _, .nil => ⟨.nil, rfl⟩
  | _, _, _, .cons ⟨h, e⟩ t => by
    obtain ⟨t', e'⟩ := OwAll.to_rp t
    exact ⟨.cons h t', by rw [e, e']; rfl⟩
/-- the addresses of what is owned are tracked -/
theorem Ow.there : ∀ {n : Nat} {v : V} {d : PyData} {A : List Addr}, Ow K G H n v d A → ∀ a ∈ A, H a ≠ none
  | 0, _, _, _, ⟨_, e⟩ => by subst e; intro a h; cases h
  | n + 1, _, _, _, h => by
    have all : ∀ {vs : List V} {ds : List PyData} {B : List Addr}, OwAll (Ow K G H n) vs ds B → ∀ a ∈ B, H a ≠ none := by
      intro vs ds B t
      induction t with
      | nil => intro a h; cases h
      | cons r _ ih =>
        intro a h
        rcases List.mem_append.mp h with h | h
        · exact Ow.there r a h
        · exact ih a h
    rcases h with ⟨a, xs, ds, B, rfl, rfl, e, t, rfl⟩ | ⟨a, kvs, ks, ds, B, rfl, rfl, e, ek, t, rfl⟩ | ⟨a, kvs, ks, ds, B, rfl, rfl, e, ek, t, rfl⟩ <;>
    · intro b hb
      rcases List.mem_cons.mp hb with rfl | hb
      · rw [e]; exact fun z => nomatch z
      · exact all t b hb
theorem ow_list {a : Addr} {xs : List V} {ds : List PyData} (e : H a = some (.lst xs)) (t : RpAll K G xs ds) : Ow K G H 1 (.ref a) (.list ds) [a] := .inl ⟨a, xs, ds, [], rfl, rfl, e, OwAll.of_rp t, rfl⟩
theorem ow_list_inv {v : V} {ds : List PyData} {A : List Addr} (h : Ow K G H 1 v (.list ds) A) : ∃ a xs, v = .ref a ∧ H a = some (.lst xs) ∧ RpAll K G xs ds ∧ A = [a] := by
  rcases h with ⟨a, xs, ds', B, rfl, e0, e, t, rfl⟩ | ⟨a, kvs, ks, ds', B, rfl, e0, e, ek, t, rfl⟩ | ⟨a, kvs, ks, ds', B, rfl, e0, e, ek, t, rfl⟩
  · cases e0
    obtain ⟨t', rfl⟩ := OwAll.to_rp t
    exact ⟨a, xs, rfl, e, t', rfl⟩
  · cases e0
  · cases e0
end
end DL
namespace DL
open PySem PySem.Spec PyProof.Rows L2
abbrev DEnv := List (Option PyData)
/-- the io cell's content: the one dict that a def may be handed and change -/
abbrev Io := Option PyData
inductive EnvA (K : PySem.W.Frag) (G H : Hp) : List Nat → L2.St → DEnv → List Addr → Prop
  | nil : EnvA K G H [] [] [] []
  | no {n : Nat} {κ : List Nat} {x : Option V} {σ : L2.St} {ρ : DEnv} {A : List Addr} : EnvA K G H κ σ ρ A → EnvA K G H (n :: κ) (x :: σ) (none :: ρ) A
  | so {n : Nat} {κ : List Nat} {v : V} {d : PyData} {σ : L2.St} {ρ : DEnv} {A B : List Addr} : Ow K G H n v d A → EnvA K G H κ σ ρ B → EnvA K G H (n :: κ) (some v :: σ) (some d :: ρ) (A ++ B)
def IoA (K : PySem.W.Frag) (G H : Hp) (io : Option Nat) (σ : L2.St) : Io → List Addr → Prop
  | none, B => B = []
  | some d, B => ∃ i a, io = some i ∧ σ[i]? = some (some (.ref a)) ∧ Ow K G H 1 (.ref a) d [a] ∧ B = [a]
structure Env (K : PySem.W.Frag) (κ : List Nat) (io : Option Nat) (G H : Hp) (σ : L2.St) (ρ : DEnv) (m : Io) (A B : List Addr) : Prop where
  env : EnvA K G H κ σ ρ A
  iom : IoA K G H io σ m B
  nd : (A ++ B).Nodup
  sub : Same G H
  free : ∀ a ∈ A ++ B, G a = none
/-- one step on: B may have changed -/
structure Stp (B : List Addr) (G H G' H' : Hp) : Prop where
  gg : Same G G'
  hh : ∀ b o, b ∉ B → H b = some o → H' b = some o
  fr : ∀ b, H b ≠ none → G b = none → G' b = none
  th : ∀ b, H b ≠ none → H' b ≠ none
section
variable {K : PySem.W.Frag} {G G' G1 G2 H H' H1 H2 : Hp} {A B C : List Addr} {κ : List Nat} {io : Option Nat} {σ : L2.St} {ρ : DEnv} {m m' : Io}
theorem Stp.refl : Stp B G H G H := ⟨fun _ _ h => h, fun _ _ _ h => h, fun _ _ h => h, fun _ h => h⟩
theorem Stp.trans (a : Stp B G H G1 H1) (b : Stp B G1 H1 G2 H2) : Stp B G H G2 H2 :=
  ⟨a.gg.trans b.gg, fun c o n h => b.hh c o n (a.hh c o n h), fun c h n => b.fr c (a.th c h) (a.fr c h n), fun c h => b.th c (a.th c h)⟩
theorem Stp.mono (h : ∀ b ∈ B, b ∈ C) (a : Stp B G H G1 H1) : Stp C G H G1 H1 := ⟨a.gg, fun c o n => a.hh c o fun z => n (h c z), a.fr, a.th⟩
theorem Stp.any (a : Stp [] G H G1 H1) : Stp C G H G1 H1 := Stp.mono (fun _ z => by cases z) a
theorem Stp.same (a : Stp [] G H G1 H1) : Same H H1 := fun b o h => a.hh b o (fun z => nomatch z) h
theorem EnvA.keep (s : Same G G') {κ : List Nat} {σ : L2.St} {ρ : DEnv} {A : List Addr} (k : ∀ a ∈ A, ∀ o, H a = some o → H' a = some o) (e : EnvA K G H κ σ ρ A) : EnvA K G' H' κ σ ρ A := by
  induction e with
  | nil => exact .nil
  | no _ ih => exact .no (ih k)
  | so o _ ih => exact .so (o.keep s fun a m => k a (List.mem_append_left _ m)) (ih fun a m => k a (List.mem_append_right _ m))
theorem EnvA.there : ∀ {κ : List Nat} {σ : L2.St} {ρ : DEnv} {A : List Addr}, EnvA K G H κ σ ρ A → ∀ a ∈ A, H a ≠ none
  | _, _, _, _, .nil => fun _ z => nomatch z
  | _, _, _, _, .no t => EnvA.there t
  | _, _, _, _, .so o t => fun a m => (List.mem_append.mp m).elim (o.there a) (EnvA.there t a)
theorem IoA.keep (s : Same G G') : ∀ {m : Io} {B : List Addr}, (∀ a ∈ B, ∀ o, H a = some o → H' a = some o) → IoA K G H io σ m B → IoA K G' H' io σ m B
  | none, _, _, h => h
  | some d, B, k, ⟨i, a, e1, e2, o, e3⟩ => ⟨i, a, e1, e2, o.keep s fun b hb => k b (by rw [e3]; exact hb), e3⟩
theorem IoA.there : ∀ {m : Io} {B : List Addr}, IoA K G H io σ m B → ∀ a ∈ B, H a ≠ none
  | none, _, h => by cases (show _ = _ from h); exact fun _ z => nomatch z
  | some d, B, ⟨i, a, e1, e2, o, e3⟩ => by rw [e3]; exact o.there
theorem Env.thereA (E : Env K κ io G H σ ρ m A B) : ∀ a ∈ A ++ B, H a ≠ none := fun a h => (List.mem_append.mp h).elim (E.env.there a) (E.iom.there a)
theorem Env.nAB (E : Env K κ io G H σ ρ m A B) {a : Addr} (h : a ∈ A) : a ∉ B := fun z => (List.nodup_append.mp E.nd).2.2 a h a z rfl
/-- the io's cell as it is -/
theorem Env.keep (E : Env K κ io G H σ ρ m A B) (s : Stp [] G H G' H') (gh : Same G' H') : Env K κ io G' H' σ ρ m A B :=
  ⟨E.env.keep s.gg fun a _ o h => s.same a o h, E.iom.keep s.gg fun a _ o h => s.same a o h, E.nd, gh, fun a h => s.fr a (E.thereA a h) (E.free a h)⟩
theorem EnvA.get : ∀ {κ : List Nat} {σ : L2.St} {ρ : DEnv} {A : List Addr} {i n : Nat} {d : PyData}, EnvA K G H κ σ ρ A → κ[i]? = some n → ρ[i]? = some (some d) → ∃ v C, σ[i]? = some (some v) ∧ Ow K G H n v d C ∧ (∀ a ∈ C, a ∈ A)
  | _, _, _, _, _, _, _, .nil, e, _ => by simp at e
  | _, _, _, _, 0, _, _, .no t, _, e => by simp at e
  | _, _, _, _, i + 1, _, _, .no t, e, e' => EnvA.get (i := i) t (by simpa using e) (by simpa using e')
  | _, _, _, _, 0, _, _, .so o t, e, e' => by
    simp at e e'
    subst e e'
    exact ⟨_, _, rfl, o, fun a m => List.mem_append_left _ m⟩
  | _, _, _, _, i + 1, _, _, .so o t, e, e' => by
    obtain ⟨v, C, h1, h2, h3⟩ := EnvA.get (i := i) t (by simpa using e) (by simpa using e')
    exact ⟨v, C, by simpa using h1, h2, fun a m => List.mem_append_right _ (h3 a m)⟩
theorem EnvA.len : ∀ {κ : List Nat} {σ : L2.St} {ρ : DEnv} {A : List Addr}, EnvA K G H κ σ ρ A → κ.length = σ.length ∧ κ.length = ρ.length
  | _, _, _, _, .nil => ⟨rfl, rfl⟩
  | _, _, _, _, .no t => by
    obtain ⟨a, b⟩ := EnvA.len t
    exact ⟨by simp [a], by simp [b]⟩
  | _, _, _, _, .so _ t => by
    obtain ⟨a, b⟩ := EnvA.len t
    exact ⟨by simp [a], by simp [b]⟩
end
/-! ### what may be read: the top n levels in H, the rest in G -/
inductive RkAll (R : V → PyData → Prop) : List V → List PyData → Prop
  | nil : RkAll R [] []
  | cons {v : V} {vs : List V} {d : PyData} {ds : List PyData} : R v d → RkAll R vs ds → RkAll R (v :: vs) (d :: ds)
def Rk (K : PySem.W.Frag) (B : List Addr) (G H : Hp) : Nat → V → PyData → Prop
  | 0, v, d => Rp K G v d
  | n + 1, v, d => Rp K G v d ∨ (∃ a xs ds, v = .ref a ∧ d = .list ds ∧ a ∉ B ∧ H a = some (.lst xs) ∧ RkAll (Rk K B G H n) xs ds) ∨
      (∃ a kvs ks ds, v = .ref a ∧ d = .dict (ks.zip ds) ∧ a ∉ B ∧ H a = some (.dK kvs) ∧ ks = kvs.map (fun p => keyD p.1) ∧ RkAll (Rk K B G H n) (kvs.map (·.2)) ds) ∨
      (∃ a kvs ks ds, v = .ref a ∧ d = .dict ((.none, .none) :: ks.zip ds) ∧ a ∉ B ∧ H a = some (.dT kvs) ∧ ks = kvs.map (fun p => PyData.tuple (p.1.map keyD)) ∧ RkAll (Rk K B G H n) (kvs.map (·.2)) ds)
section
variable {K : PySem.W.Frag} {G G' G1 G2 H H' H1 H2 : Hp} {A B C : List Addr}
theorem RkAll.imp {R S : V → PyData → Prop} (f : ∀ v d, R v d → S v d) : ∀ {vs : List V} {ds : List PyData}, RkAll R vs ds → RkAll S vs ds
  | _, _, .nil => .nil
  | _, _, .cons h t => .cons (f _ _ h) (RkAll.imp f t)
theorem RkAll.of_rp {R : V → PyData → Prop} (f : ∀ v d, Rp K G v d → R v d) : ∀ {vs : List V} {ds : List PyData}, RpAll K G vs ds → RkAll R vs ds
  | _, _, .nil => .nil
  | _, _, .cons h t => .cons (f _ _ h) (RkAll.of_rp f t)
theorem RkAll.length {R : V → PyData → Prop} : ∀ {vs : List V} {ds : List PyData}, RkAll R vs ds → vs.length = ds.length
  | _, _, .nil => rfl
  | _, _, .cons _ t => by rw [List.length_cons, List.length_cons, RkAll.length t]
theorem RkAll.get {R : V → PyData → Prop} : ∀ {vs : List V} {ds : List PyData} {i : Nat} {d : PyData}, RkAll R vs ds → ds[i]? = some d → ∃ v, vs[i]? = some v ∧ R v d
  | _, _, _, _, .nil, e => by simp at e
  | _, _, 0, _, .cons h _, e => by simp at e; subst e; exact ⟨_, rfl, h⟩
  | _, _, i + 1, d, .cons _ t, e => by
    obtain ⟨v, h1, h2⟩ := RkAll.get (i := i) (d := d) t (by simpa using e)
    exact ⟨v, by simpa using h1, h2⟩
theorem RkAll.to_rp : ∀ {vs : List V} {ds : List PyData}, RkAll (Rp K G) vs ds → RpAll K G vs ds
  | _, _, .nil => .nil
  | _, _, .cons h t => .cons h (RkAll.to_rp t)
theorem Rk.of_rp : ∀ {n : Nat} {v : V} {d : PyData}, Rp K G v d → Rk K B G H n v d
  | 0, _, _, h => h
  | _ + 1, _, _, h => .inl h
theorem Rk.step (s : Stp B G H G' H') : ∀ {n : Nat} {v : V} {d : PyData}, Rk K B G H n v d → Rk K B G' H' n v d
  | 0, _, _, h => Rp.mono s.gg h
  | n + 1, _, _, h => by
    rcases h with h | ⟨a, xs, ds, e1, e2, hB, e3, t⟩ | ⟨a, kvs, ks, ds, e1, e2, hB, e3, e4, t⟩ | ⟨a, kvs, ks, ds, e1, e2, hB, e3, e4, t⟩
    · exact .inl (h.mono s.gg)
    · exact .inr (.inl ⟨a, xs, ds, e1, e2, hB, s.hh a _ hB e3, t.imp fun _ _ => Rk.step s⟩)
    · exact .inr (.inr (.inl ⟨a, kvs, ks, ds, e1, e2, hB, s.hh a _ hB e3, e4, t.imp fun _ _ => Rk.step s⟩))
    · exact .inr (.inr (.inr ⟨a, kvs, ks, ds, e1, e2, hB, s.hh a _ hB e3, e4, t.imp fun _ _ => Rk.step s⟩))
theorem Rk.up : ∀ {n : Nat} {v : V} {d : PyData}, Rk K B G H n v d → Rk K B G H (n + 1) v d
  | 0, _, _, h => .inl h
  | n + 1, _, _, h => by
    rcases h with h | ⟨a, xs, ds, e1, e2, hB, e3, t⟩ | ⟨a, kvs, ks, ds, e1, e2, hB, e3, e4, t⟩ | ⟨a, kvs, ks, ds, e1, e2, hB, e3, e4, t⟩
    · exact .inl h
    · exact .inr (.inl ⟨a, xs, ds, e1, e2, hB, e3, t.imp fun _ _ => Rk.up⟩)
    · exact .inr (.inr (.inl ⟨a, kvs, ks, ds, e1, e2, hB, e3, e4, t.imp fun _ _ => Rk.up⟩))
    · exact .inr (.inr (.inr ⟨a, kvs, ks, ds, e1, e2, hB, e3, e4, t.imp fun _ _ => Rk.up⟩))
theorem Ow.rk : ∀ {n : Nat} {v : V} {d : PyData} {A : List Addr}, Ow K G H n v d A → (∀ a ∈ A, a ∉ B) → Rk K B G H n v d
  | 0, _, _, _, h, _ => h.1
  | n + 1, _, _, _, h, hd => by
    have all : ∀ {vs : List V} {ds : List PyData} {C : List Addr}, OwAll (Ow K G H n) vs ds C → (∀ a ∈ C, a ∉ B) → RkAll (Rk K B G H n) vs ds := by
      intro vs ds C t
      induction t with
      | nil => intro _; exact .nil
      | cons r _ ih => exact fun hd => .cons (Ow.rk r fun a m => hd a (List.mem_append_left _ m)) (ih fun a m => hd a (List.mem_append_right _ m))
    rcases h with ⟨a, xs, ds, C, rfl, rfl, e, t, rfl⟩ | ⟨a, kvs, ks, ds, C, rfl, rfl, e, ek, t, rfl⟩ | ⟨a, kvs, ks, ds, C, rfl, rfl, e, ek, t, rfl⟩
    · exact .inr (.inl ⟨a, xs, ds, rfl, rfl, hd a List.mem_cons_self, e, all t fun b m => hd b (List.mem_cons_of_mem _ m)⟩)
    · exact .inr (.inr (.inl ⟨a, kvs, ks, ds, rfl, rfl, hd a List.mem_cons_self, e, ek, all t fun b m => hd b (List.mem_cons_of_mem _ m)⟩))
    · exact .inr (.inr (.inr ⟨a, kvs, ks, ds, rfl, rfl, hd a List.mem_cons_self, e, ek, all t fun b m => hd b (List.mem_cons_of_mem _ m)⟩))
theorem Rk.lst {n : Nat} {v : V} {ds : List PyData} (gh : Same G H) (h : Rk K B G H (n + 1) v (.list ds)) : ∃ a xs, v = .ref a ∧ H a = some (.lst xs) ∧ RkAll (Rk K B G H n) xs ds := by
  rcases h with h | ⟨a, xs, ds', e1, e2, _, e3, t⟩ | ⟨a, kvs, ks, ds', e1, e2, _, e3, e4, t⟩ | ⟨a, kvs, ks, ds', e1, e2, _, e3, e4, t⟩
  · obtain ⟨a, xs, rfl, h1, h2⟩ := h.lst_inv
    exact ⟨a, xs, rfl, gh _ _ h1, RkAll.of_rp (fun _ _ => Rk.of_rp) h2⟩
  · cases e2
    exact ⟨a, xs, e1, e3, t⟩
  · cases e2
  · cases e2
theorem Rk.tup {n : Nat} {v : V} {ds : List PyData} (h : Rk K B G H n v (.tuple ds)) : ∃ a xs, v = .ref a ∧ SqT K G a xs ∧ RpAll K G xs ds := by
  cases n with
  | zero => exact Rp.tup_inv h
  | succ n =>
    rcases h with h | ⟨a, xs, ds', e1, e2, _, e3, t⟩ | ⟨a, kvs, ks, ds', e1, e2, _, e3, e4, t⟩ | ⟨a, kvs, ks, ds', e1, e2, _, e3, e4, t⟩
    · exact h.tup_inv
    · cases e2
    · cases e2
    · cases e2
theorem Rk.rpOf {n : Nat} {v : V} {d : PyData} (h : Rk K B G H n v d) (h1 : ∀ ds, d ≠ .list ds) (h2 : ∀ ds, d ≠ .dict ds) : Rp K G v d := by
  cases n with
  | zero => exact h
  | succ n =>
    rcases h with h | ⟨a, xs, ds', e1, e2, _, e3, t⟩ | ⟨a, kvs, ks, ds', e1, e2, _, e3, e4, t⟩ | ⟨a, kvs, ks, ds', e1, e2, _, e3, e4, t⟩
    · exact h
    · exact absurd e2 (h1 _)
    · exact absurd e2 (h2 _)
    · exact absurd e2 (h2 _)
theorem Rk.int {n : Nat} {v : V} {i : Int} (h : Rk K B G H n v (.int i)) : v = .int i := (h.rpOf (fun _ z => nomatch z) fun _ z => nomatch z).int_inv
theorem Rk.bool {n : Nat} {v : V} {b : Bool} (h : Rk K B G H n v (.bool b)) : v = .bl b := (h.rpOf (fun _ z => nomatch z) fun _ z => nomatch z).bool_inv
theorem Rk.str {n : Nat} {v : V} {x : Str} (h : Rk K B G H n v (.str x)) : v = .str x := (h.rpOf (fun _ z => nomatch z) fun _ z => nomatch z).str_inv
theorem Rk.none {n : Nat} {v : V} (h : Rk K B G H n v .none) : v = .non := (h.rpOf (fun _ z => nomatch z) fun _ z => nomatch z).none_inv
/-- all of it in H -/
theorem Rk.inH (gh : Same G H) : ∀ {n : Nat} {v : V} {d : PyData}, Rk K B G H n v d → Rp K H v d
  | 0, _, _, h => Rp.mono gh h
  | n + 1, _, _, h => by
    have all : ∀ {vs : List V} {ds : List PyData}, RkAll (Rk K B G H n) vs ds → RpAll K H vs ds := by
      intro vs ds t
      induction t with
      | nil => exact .nil
      | cons r _ ih => exact .cons (Rk.inH gh r) ih
    rcases h with h | ⟨a, xs, ds, rfl, rfl, hB, e3, t⟩ | ⟨a, kvs, ks, ds, rfl, rfl, hB, e3, e4, t⟩ | ⟨a, kvs, ks, ds, rfl, rfl, hB, e3, e4, t⟩
    · exact h.mono gh
    · exact .lst e3 (all t)
    · exact .dK (.inl e3) e4 (all t)
    · exact .dT (.inl e3) e4 (all t)
end
/-! ### the judgement of an expression -/
abbrev EF := DEnv → Io → Option (PyData × Io)
abbrev TF := DEnv → Io → Option (Bool × Io)
abbrev AF := DEnv → Io → Option (List PyData × Io)
def DEt (K : PySem.W.Frag) (κ : List Nat) (io : Option Nat) (n : Nat) (t : TE) (f : EF) : Prop :=
  ∀ (G H : Hp) (σ : L2.St) (ρ : DEnv) (m : Io) (A B : List Addr) (Q : VK) (d : PyData) (m' : Io), Env K κ io G H σ ρ m A B → f ρ m = some (d, m') →
    (∀ v G' H', Env K κ io G' H' σ ρ m' A B → Stp B G H G' H' → Rk K B G' H' n v d → Q v H') → t σ H Q
structure DE (X : Cx) (κ : List Nat) (io : Option Nat) (n : Nat) (e : Expr) (t : TE) (f : EF) : Prop where
  pe : PE X e t
  sem : DEt X.K κ io n t f
def DTt (K : PySem.W.Frag) (κ : List Nat) (io : Option Nat) (t : TT) (f : TF) : Prop :=
  ∀ (G H : Hp) (σ : L2.St) (ρ : DEnv) (m : Io) (A B : List Addr) (Q : Bool → Hp → Prop) (b : Bool) (m' : Io), Env K κ io G H σ ρ m A B → f ρ m = some (b, m') →
    (∀ G' H', Env K κ io G' H' σ ρ m' A B → Stp B G H G' H' → Q b H') → t σ H Q
structure DT (X : Cx) (κ : List Nat) (io : Option Nat) (e : Expr) (t : TT) (f : TF) : Prop where
  pt : PT X e t
  sem : DTt X.K κ io t f
structure DW (X : Cx) (κ : List Nat) (io : Option Nat) (e : Expr) (t : TT) (f : TF) : Prop where
  pw : PW X e t
  sem : DTt X.K κ io t f
/-- arguments -/
def DAt (K : PySem.W.Frag) (κ : List Nat) (io : Option Nat) (n : Nat) (t : TA) (f : AF) : Prop :=
  ∀ (G H : Hp) (σ : L2.St) (ρ : DEnv) (m : Io) (A B : List Addr) (Q : List V → Hp → Prop) (ds : List PyData) (m' : Io), Env K κ io G H σ ρ m A B → f ρ m = some (ds, m') →
    (∀ vs G' H', Env K κ io G' H' σ ρ m' A B → Stp B G H G' H' → RkAll (Rk K B G' H' n) vs ds → Q vs H') → t σ H Q
structure DA (X : Cx) (κ : List Nat) (io : Option Nat) (n : Nat) (es : List Expr) (t : TA) (f : AF) : Prop where
  pa : PA X es t
  sem : DAt X.K κ io n t f
section
variable {X : Cx} {κ : List Nat} {io : Option Nat} {n n1 n2 : Nat} {e a b : Expr} {es : List Expr} {t ta tb : TE} {f g : EF} {pos : Pos}
theorem DE.up (h : DE X κ io n e t f) : DE X κ io (n + 1) e t f := ⟨h.pe, fun G H σ ρ m A B Q d m' E hf q => h.sem G H σ ρ m A B Q d m' E hf fun v G' H' E' s r => q v G' H' E' s r.up⟩
def fC (d : PyData) : EF := fun _ m => some (d, m)
theorem de_int {i j} : DE X κ io n (.Constant (.int i) j pos) (tC (.int i)) (fC (.int i)) := ⟨pe_int, fun G H σ ρ m A B Q d m' E hf q => by cases hf; exact q _ G H E .refl (.of_rp (.int _))⟩
theorem de_bl {b j} : DE X κ io n (.Constant (.bool b) j pos) (tC (.bl b)) (fC (.bool b)) := ⟨pe_bl, fun G H σ ρ m A B Q d m' E hf q => by cases hf; exact q _ G H E .refl (.of_rp (.bl _))⟩
theorem de_non {j} : DE X κ io n (.Constant .none j pos) (tC .non) (fC .none) := ⟨pe_non, fun G H σ ρ m A B Q d m' E hf q => by cases hf; exact q _ G H E .refl (.of_rp .non)⟩
theorem de_str {x j} : DE X κ io n (.Constant (.str x) j pos) (tC (.str x)) (fC (.str x)) := ⟨pe_str, fun G H σ ρ m A B Q d m' E hf q => by cases hf; exact q _ G H E .refl (.of_rp (.str _))⟩
/-- a name of the def -/
def fV (i : Nat) : EF := fun ρ m => match ρ[i]? with
  | some (some d) => some (d, m)
  | _ => none
theorem sem_var {K : PySem.W.Frag} {i : Nat} (hk : κ[i]? = some n) : DEt K κ io n (tVar i) (fV i) := fun G H σ ρ m A B Q d m' E hf q => by
  unfold fV at hf
  split at hf
  · rename_i d' e
    cases hf
    obtain ⟨v, C, h1, h2, h3⟩ := E.env.get hk e
    exact ⟨v, h1, q v G H E .refl (h2.rk fun a m => E.nAB (h3 a m))⟩
  · cases hf
theorem dv (i : Nat) {x : Str} {pos : Pos} (hk : κ[i]? = some n := by rfl) (hN : X.N[i]? = some x := by rfl) (hv : Vis X.env.scope x := by first | exact Or.inl rfl | exact Or.inr (Or.inl rfl) | exact Or.inr (Or.inr rfl)) (hd : (x == ("__debug__" : Str)) = false := by decide)
    (hcd : (x == ("__classdict__" : Str)) = false := by decide) : DE X κ io n (.Name x pos) (tVar i) (fV i) := ⟨pe_var hN hv hd hcd, sem_var hk⟩
/-- the value of the io cell's address cannot be handed on: it is read by its rules alone -/
def fIf (c : TF) (f g : EF) : EF := fun ρ m => (c ρ m).bind fun p => if p.1 = true then f ρ p.2 else g ρ p.2
theorem de_if {c : Expr} {tc : TT} {fc : TF} (hc : DT X κ io c tc fc) (ha : DE X κ io n a ta f) (hb : DE X κ io n b tb g) : DE X κ io n (.IfExp c a b pos) (tIf tc ta tb) (fIf fc f g) := by
  refine ⟨pe_ifExp hc.pt ha.pe hb.pe, fun G H σ ρ m A B Q d m' E hf q => ?_⟩
  obtain ⟨⟨k, m1⟩, e1, e2⟩ := Option.bind_eq_some_iff.mp (show (fc ρ m).bind (fun p => if p.1 = true then f ρ p.2 else g ρ p.2) = some (d, m') from hf)
  refine hc.sem G H σ ρ m A B _ k m1 E e1 fun G' H' E' s => ?_
  cases k with
  | true => exact ha.sem G' H' σ ρ m1 A B Q d m' E' e2 fun v G2 H2 E2 s2 r => q v G2 H2 E2 (s.trans s2) r
  | false => exact hb.sem G' H' σ ρ m1 A B Q d m' E' e2 fun v G2 H2 E2 s2 r => q v G2 H2 E2 (s.trans s2) r
/-! ### operators, by values -/
def Op2 (K : PySem.W.Frag) (n1 n2 n : Nat) (r : R2) (op : PyData → PyData → Option PyData) : Prop :=
  ∀ (B : List Addr) (G H : Hp) (x y : V) (d e z : PyData) (Q : VK), Same G H → Rk K B G H n1 x d → Rk K B G H n2 y e → op d e = some z → (∀ v G' H', Stp [] G H G' H' → Same G' H' → Rk K B G' H' n v z → Q v H') → r x y H Q
def fOp (op : PyData → PyData → Option PyData) (f g : EF) : EF := fun ρ m => (f ρ m).bind fun p => (g ρ p.2).bind fun q => (op p.1 q.1).map fun z => (z, q.2)
theorem sem_op {K : PySem.W.Frag} {r : R2} {op : PyData → PyData → Option PyData} (h : Op2 K n1 n2 n r op) (ha : DEt K κ io n1 ta f) (hb : DEt K κ io n2 tb g) : DEt K κ io n (tOp r ta tb) (fOp op f g) := fun G H σ ρ m A B Q d m' E hf q => by
  obtain ⟨⟨x, m1⟩, e1, h1⟩ := Option.bind_eq_some_iff.mp (show (f ρ m).bind (fun p => (g ρ p.2).bind fun q => (op p.1 q.1).map fun z => (z, q.2)) = some (d, m') from hf)
  obtain ⟨⟨y, m2⟩, e2, h2⟩ := Option.bind_eq_some_iff.mp h1
  obtain ⟨z, e3, h3⟩ := Option.map_eq_some_iff.mp h2
  cases h3
  refine ha G H σ ρ m A B _ x m1 E e1 fun v G1 H1 E1 s1 r1 => ?_
  refine hb G1 H1 σ ρ m1 A B _ y m2 E1 e2 fun u G2 H2 E2 s2 r2 => ?_
  exact h B G2 H2 v u x y _ Q E2.sub (r1.step s2) r2 e3 fun w G3 H3 s3 gh r3 => q w G3 H3 (E2.keep s3 gh) ((s1.trans s2).trans s3.any) r3
theorem de_op {o : Operator} {r : R2} {op : PyData → PyData → Option PyData} (ho : OpR X (binaryOp o) r) (h : Op2 X.K n1 n2 n r op) (ha : DE X κ io n1 a ta f) (hb : DE X κ io n2 b tb g) : DE X κ io n (.BinOp a o b pos) (tOp r ta tb) (fOp op f g) :=
  ⟨pe_op ho ha.pe hb.pe, sem_op h ha.sem hb.sem⟩
theorem de_cmp {o : CmpOp} {r : R2} {op : PyData → PyData → Option PyData} (ho : OpR X (compareOp o) r) (h : Op2 X.K n1 n2 n r op) (ha : DE X κ io n1 a ta f) (hb : DE X κ io n2 b tb g) (hm : behindInMarks o b = false := by first | exact nomark _ | rfl) :
    DE X κ io n (.Compare a [o] [b] pos) (tOp r ta tb) (fOp op f g) := ⟨pe_cmpR ho ha.pe hb.pe hm, sem_op h ha.sem hb.sem⟩
/-- a value that is a bool, as a test -/
def fT (f : EF) : TF := fun ρ m => (f ρ m).bind fun p => match p.1 with
  | .bool b => some (b, p.2)
  | _ => none
theorem sem_test {K : PySem.W.Frag} (h : DEt K κ io n t f) : DTt K κ io (tTest t) (fT f) := fun G H σ ρ m A B Q b m' E hf q => by
  obtain ⟨⟨x, m1⟩, e1, h1⟩ := Option.bind_eq_some_iff.mp (show (f ρ m).bind (fun p => match p.1 with | .bool b => some (b, p.2) | _ => none) = some (b, m') from hf)
  have h2 : x = .bool b ∧ m1 = m' := by
    dsimp only at h1
    split at h1
    · cases h1; exact ⟨rfl, rfl⟩
    · cases h1
  obtain ⟨rfl, rfl⟩ := h2
  exact h G H σ ρ m A B _ _ _ E e1 fun v G1 H1 E1 s1 r1 => ⟨b, r1.bool, q G1 H1 E1 s1⟩
theorem dt_cmp {o : CmpOp} {r : R2} {op : PyData → PyData → Option PyData} (ho : OpR X (compareOp o) r) (h : Op2 X.K n1 n2 0 r op) (ha : DE X κ io n1 a ta f) (hb : DE X κ io n2 b tb g) (hm : behindInMarks o b = false := by first | exact nomark _ | rfl) :
    DT X κ io (.Compare a [o] [b] pos) (tTest (tOp r ta tb)) (fT (fOp op f g)) := ⟨pt_cmpR ho ha.pe hb.pe hm, sem_test (sem_op h ha.sem hb.sem)⟩
theorem dt_val (h : DE X κ io n e t f) (he : ∀ whole, isTrue e X.env whole = (do let v ← whole; standAt e.pos; holding [v] (truthy v)) := by intro _; rfl) : DT X κ io e (tB t) (fT f) := ⟨pt_val h.pe he, sem_test h.sem⟩
/-! ### and, or, not -/
variable {tA tB' : TT} {c d : TF} {rest : List Expr}
def fAnd (c d : TF) : TF := fun ρ m => (c ρ m).bind fun p => if p.1 = true then d ρ p.2 else some (false, p.2)
def fOr (c d : TF) : TF := fun ρ m => (c ρ m).bind fun p => if p.1 = true then some (true, p.2) else d ρ p.2
def fNot (c : TF) : TF := fun ρ m => (c ρ m).map fun p => (!p.1, p.2)
theorem sem_and {K : PySem.W.Frag} (ha : DTt K κ io tA c) (hb : DTt K κ io tB' d) : DTt K κ io (tAnd tA tB') (fAnd c d) := fun G H σ ρ m A B Q b m' E hf q => by
  obtain ⟨⟨k, m1⟩, e1, h1⟩ := Option.bind_eq_some_iff.mp (show (c ρ m).bind (fun p => if p.1 = true then d ρ p.2 else some (false, p.2)) = some (b, m') from hf)
  refine ha G H σ ρ m A B _ k m1 E e1 fun G1 H1 E1 s1 => ?_
  cases k with
  | true => exact hb G1 H1 σ ρ m1 A B Q b m' E1 h1 fun G2 H2 E2 s2 => q G2 H2 E2 (s1.trans s2)
  | false => cases h1; exact q G1 H1 E1 s1
theorem sem_or {K : PySem.W.Frag} (ha : DTt K κ io tA c) (hb : DTt K κ io tB' d) : DTt K κ io (tOr tA tB') (fOr c d) := fun G H σ ρ m A B Q b m' E hf q => by
  obtain ⟨⟨k, m1⟩, e1, h1⟩ := Option.bind_eq_some_iff.mp (show (c ρ m).bind (fun p => if p.1 = true then some (true, p.2) else d ρ p.2) = some (b, m') from hf)
  refine ha G H σ ρ m A B _ k m1 E e1 fun G1 H1 E1 s1 => ?_
  cases k with
  | false => exact hb G1 H1 σ ρ m1 A B Q b m' E1 h1 fun G2 H2 E2 s2 => q G2 H2 E2 (s1.trans s2)
  | true => cases h1; exact q G1 H1 E1 s1
theorem sem_not {K : PySem.W.Frag} (ha : DTt K κ io tA c) : DTt K κ io (tNot tA) (fNot c) := fun G H σ ρ m A B Q b m' E hf q => by
  obtain ⟨⟨k, m1⟩, e1, h1⟩ := Option.map_eq_some_iff.mp (show (c ρ m).map (fun p => (!p.1, p.2)) = some (b, m') from hf)
  cases h1
  exact ha G H σ ρ m A B _ k _ E e1 fun G1 H1 E1 s1 => q G1 H1 E1 s1
theorem dw_and1 (ha : DT X κ io a tA c) : DW X κ io (.BoolOp .And [a] pos) tA c := ⟨pw_and1 ha.pt, ha.sem⟩
theorem dw_or1 (ha : DT X κ io a tA c) : DW X κ io (.BoolOp .Or [a] pos) tA c := ⟨pw_or1 ha.pt, ha.sem⟩
theorem dw_and (ha : DT X κ io a tA c) (hb : DW X κ io (.BoolOp .And (b :: rest) pos) tB' d) : DW X κ io (.BoolOp .And (a :: b :: rest) pos) (tAnd tA tB') (fAnd c d) := ⟨pw_and ha.pt hb.pw, sem_and ha.sem hb.sem⟩
theorem dw_or (ha : DT X κ io a tA c) (hb : DW X κ io (.BoolOp .Or (b :: rest) pos) tB' d) : DW X κ io (.BoolOp .Or (a :: b :: rest) pos) (tOr tA tB') (fOr c d) := ⟨pw_or ha.pt hb.pw, sem_or ha.sem hb.sem⟩
theorem DW.dt (h : DW X κ io e tA c) : DT X κ io e tA c := ⟨h.pw.pt, h.sem⟩
theorem dt_not (ha : DT X κ io a tA c) : DT X κ io (.UnaryOp .Not a pos) (tNot tA) (fNot c) := ⟨pt_not ha.pt, sem_not ha.sem⟩
/-- as values -/
def fOf (f : EF) (k : Bool → Io → DEnv → Option (PyData × Io)) : EF := fun ρ m => (fT f ρ m).bind fun p => k p.1 p.2 ρ
def fAndV (f g : EF) : EF := fun ρ m => (fT f ρ m).bind fun p => if p.1 = true then g ρ p.2 else some (.bool false, p.2)
def fOrV (f g : EF) : EF := fun ρ m => (fT f ρ m).bind fun p => if p.1 = true then some (.bool true, p.2) else g ρ p.2
def fNotV (f : EF) : EF := fun ρ m => (fT f ρ m).map fun p => (.bool (!p.1), p.2)
theorem fT_inv {f : EF} {ρ : DEnv} {m m1 : Io} {k : Bool} (h : fT f ρ m = some (k, m1)) : f ρ m = some (.bool k, m1) := by
  obtain ⟨⟨x, m2⟩, e1, h1⟩ := Option.bind_eq_some_iff.mp (show (f ρ m).bind (fun p => match p.1 with | .bool b => some (b, p.2) | _ => none) = some (k, m1) from h)
  dsimp only at h1
  split at h1
  · cases h1; exact e1
  · cases h1
theorem de_one {op} (h : DE X κ io n a t f) : DE X κ io n (.BoolOp op [a] pos) t f := ⟨pe_one h.pe, h.sem⟩
theorem de_and (ha : DE X κ io n1 a ta f) (hb : DE X κ io n (.BoolOp .And (b :: rest) pos) tb g) : DE X κ io n (.BoolOp .And (a :: b :: rest) pos) (tAndV ta tb) (fAndV f g) := by
  refine ⟨pe_and ha.pe hb.pe, fun G H σ ρ m A B Q d m' E hf q => ?_⟩
  obtain ⟨⟨k, m1⟩, e1, h1⟩ := Option.bind_eq_some_iff.mp (show (fT f ρ m).bind (fun p => if p.1 = true then g ρ p.2 else some (.bool false, p.2)) = some (d, m') from hf)
  refine ha.sem G H σ ρ m A B _ _ m1 E (fT_inv e1) fun v G1 H1 E1 s1 r1 => ⟨k, r1.bool, ?_⟩
  cases k with
  | true => exact hb.sem G1 H1 σ ρ m1 A B Q d m' E1 h1 fun v G2 H2 E2 s2 r => q v G2 H2 E2 (s1.trans s2) r
  | false => cases h1; exact q _ G1 H1 E1 s1 (.of_rp (.bl _))
theorem de_or (ha : DE X κ io n1 a ta f) (hb : DE X κ io n (.BoolOp .Or (b :: rest) pos) tb g) : DE X κ io n (.BoolOp .Or (a :: b :: rest) pos) (tOrV ta tb) (fOrV f g) := by
  refine ⟨pe_or ha.pe hb.pe, fun G H σ ρ m A B Q d m' E hf q => ?_⟩
  obtain ⟨⟨k, m1⟩, e1, h1⟩ := Option.bind_eq_some_iff.mp (show (fT f ρ m).bind (fun p => if p.1 = true then some (.bool true, p.2) else g ρ p.2) = some (d, m') from hf)
  refine ha.sem G H σ ρ m A B _ _ m1 E (fT_inv e1) fun v G1 H1 E1 s1 r1 => ⟨k, r1.bool, ?_⟩
  cases k with
  | false => exact hb.sem G1 H1 σ ρ m1 A B Q d m' E1 h1 fun v G2 H2 E2 s2 r => q v G2 H2 E2 (s1.trans s2) r
  | true => cases h1; exact q _ G1 H1 E1 s1 (.of_rp (.bl _))
theorem de_not (ha : DE X κ io n1 a ta f) : DE X κ io n (.UnaryOp .Not a pos) (tNotV ta) (fNotV f) := by
  refine ⟨pe_not ha.pe, fun G H σ ρ m A B Q d m' E hf q => ?_⟩
  obtain ⟨⟨k, m1⟩, e1, h1⟩ := Option.map_eq_some_iff.mp (show (fT f ρ m).map (fun p => (PyData.bool (!p.1), p.2)) = some (d, m') from hf)
  cases h1
  exact ha.sem G H σ ρ m A B _ _ _ E (fT_inv e1) fun v G1 H1 E1 s1 r1 => ⟨k, r1.bool, q _ G1 H1 E1 s1 (.of_rp (.bl _))⟩
/-! ### arguments, displays -/
variable {tr : TA} {h : AF}
def fNil : AF := fun _ m => some ([], m)
def fCons (f : EF) (h : AF) : AF := fun ρ m => (f ρ m).bind fun p => (h ρ p.2).map fun q => (p.1 :: q.1, q.2)
theorem da_nil : DA X κ io n [] tNil fNil := ⟨pa_nil, fun G H σ ρ m A B Q ds m' E hf q => by cases hf; exact q _ G H E .refl .nil⟩
theorem da_cons (ha : DE X κ io n e t f) (hr : DA X κ io n es tr h) (hs : starEach (e :: es) X.env = (false, eval e X.env) :: starEach es X.env := by rfl) : DA X κ io n (e :: es) (tCons t tr) (fCons f h) := by
  refine ⟨pa_cons ha.pe hr.pa hs, fun G H σ ρ m A B Q ds m' E hf q => ?_⟩
  obtain ⟨⟨x, m1⟩, e1, h1⟩ := Option.bind_eq_some_iff.mp (show (f ρ m).bind (fun p => (h ρ p.2).map fun q => (p.1 :: q.1, q.2)) = some (ds, m') from hf)
  obtain ⟨⟨xs, m2⟩, e2, h2⟩ := Option.map_eq_some_iff.mp h1
  cases h2
  refine ha.sem G H σ ρ m A B _ _ m1 E e1 fun v G1 H1 E1 s1 r1 => ?_
  exact hr.sem G1 H1 σ ρ m1 A B _ _ m2 E1 e2 fun vs G2 H2 E2 s2 r2 => q _ G2 H2 E2 (s1.trans s2) (.cons (r1.step s2) r2)
end
/-! ### new objects -/
section
variable {K : PySem.W.Frag} {G H : Hp} {p : Addr} {o : HO}
theorem sub_none (gh : Same G H) (h : H p = none) : G p = none := gh.free h
/-- laid, not yet in G -/
theorem stp_new (h : H p = none) : Stp [] G H G (upd H p o) where
  gg := Same.refl _
  hh := fun b q _ e => by rw [upd_ne (ne_of_none e h)]; exact e
  fr := fun _ _ e => e
  th := fun b e => by
    by_cases z : b = p
    · subst z; exact absurd h e
    · rw [upd_ne z]; exact e
theorem same_new (gh : Same G H) (h : H p = none) : Same G (upd H p o) := fun b q e => by
  have e' := gh b q e
  rw [upd_ne (ne_of_none e' h)]
  exact e'
/-- laid and taken into G -/
theorem stp_pub (gh : Same G H) (h : H p = none) : Stp [] G H (upd G p o) (upd H p o) where
  gg := fun b q e => by rw [upd_ne (ne_of_none e (sub_none gh h))]; exact e
  hh := fun b q _ e => by rw [upd_ne (ne_of_none e h)]; exact e
  fr := fun b e n => by
    by_cases z : b = p
    · subst z; exact absurd h e
    · rw [upd_ne z]; exact n
  th := fun b e => by
    by_cases z : b = p
    · subst z; exact absurd h e
    · rw [upd_ne z]; exact e
theorem same_pub (gh : Same G H) : Same (upd G p o) (upd H p o) := fun b q e => by
  by_cases z : b = p
  · subst z; rw [upd_same] at e ⊢; exact e
  · rw [upd_ne z] at e ⊢; exact gh b q e
end
section
variable {X : Cx} {κ : List Nat} {io : Option Nat} {n : Nat} {es : List Expr} {tr : TA} {h : AF} {pos : Pos}
def szOk (n : Nat) : Bool := decide (n ≤ sizeLine)
def fTup (h : AF) : EF := fun ρ m => (h ρ m).bind fun p => if szOk p.1.length then some (.tuple p.1, p.2) else none
def fLst (h : AF) : EF := fun ρ m => (h ρ m).bind fun p => if szOk p.1.length then some (.list p.1, p.2) else none
theorem de_tup {x1} (ha : DA X κ io 0 es tr h) : DE X κ io n (.Tuple es x1 pos) (tTup tr) (fTup h) := by
  refine ⟨pe_tup ha.pa, fun G H σ ρ m A B Q d m' E hf q => ?_⟩
  obtain ⟨⟨ds, m1⟩, e1, h1⟩ := Option.bind_eq_some_iff.mp (show (h ρ m).bind (fun p => if szOk p.1.length then some (PyData.tuple p.1, p.2) else none) = some (d, m') from hf)
  dsimp only at h1
  split at h1
  · rename_i hz
    cases h1
    refine ha.sem G H σ ρ m A B _ _ _ E e1 fun vs G1 H1 E1 s1 r1 => ⟨by rw [r1.length]; exact of_decide_eq_true hz, fun p hp => ?_⟩
    have s2 : Stp [] G1 H1 (upd G1 p (.tup vs)) (upd H1 p (.tup vs)) := stp_pub E1.sub hp
    exact q _ _ _ (E1.keep s2 (same_pub E1.sub)) (s1.trans s2.any) (.of_rp (.tup (.inl (.inl upd_same)) ((RkAll.to_rp r1).mono s2.gg)))
  · cases h1
theorem de_lst (ha : DA X κ io 0 es tr h) : DE X κ io n (.List es pos) (tLst tr) (fLst h) := by
  refine ⟨pe_lst ha.pa, fun G H σ ρ m A B Q d m' E hf q => ?_⟩
  obtain ⟨⟨ds, m1⟩, e1, h1⟩ := Option.bind_eq_some_iff.mp (show (h ρ m).bind (fun p => if szOk p.1.length then some (PyData.list p.1, p.2) else none) = some (d, m') from hf)
  dsimp only at h1
  split at h1
  · rename_i hz
    cases h1
    refine ha.sem G H σ ρ m A B _ _ _ E e1 fun vs G1 H1 E1 s1 r1 => ⟨by rw [r1.length]; exact of_decide_eq_true hz, fun p hp => ?_⟩
    have s2 : Stp [] G1 H1 (upd G1 p (.lst vs)) (upd H1 p (.lst vs)) := stp_pub E1.sub hp
    exact q _ _ _ (E1.keep s2 (same_pub E1.sub)) (s1.trans s2.any) (.of_rp (.lst upd_same ((RkAll.to_rp r1).mono s2.gg)))
  · cases h1
end
end DL
namespace DL
open PySem PySem.Spec PyProof.Rows L2
/-! ### + - * // % ** -/
def addD : PyData → PyData → Option PyData
  | .int i, .int j => some (.int (i + j))
  | .str x, .str y => if szOk (x.length + y.length) then some (.str (x ++ y)) else none
  | .list xs, .list ys => if szOk (xs.length + ys.length) then some (.list (xs ++ ys)) else none
  | .tuple xs, .tuple ys => if szOk (xs.length + ys.length) then some (.tuple (xs ++ ys)) else none
  | _, _ => none
def subD : PyData → PyData → Option PyData
  | .int i, .int j => some (.int (i - j))
  | _, _ => none
def mulD : PyData → PyData → Option PyData
  | .int i, .int j => if i.natAbs.log2 + j.natAbs.log2 < 1000000 then some (.int (i * j)) else none
  | .list xs, .int k => if decide (-(2 ^ 63) ≤ k) && decide (k < 2 ^ 63) && szOk (xs.length * k.toNat) then some (.list (List.replicate k.toNat xs).flatten) else none
  | _, _ => none
def fdivD : PyData → PyData → Option PyData
  | .int i, .int j => if decide (0 < j) && decide (j.natAbs.log2 < 9000) then some (.int (i / j)) else none
  | _, _ => none
def modD : PyData → PyData → Option PyData
  | .int i, .int j => if 0 < j then some (.int (i % j)) else none
  | _, _ => none
def powD : PyData → PyData → Option PyData
  | .int i, .int j => if decide (0 ≤ j) && decide (j ≤ 1000000) && decide (i.natAbs < 2 ^ 64) then some (.int (i ^ j.toNat)) else none
  | _, _ => none
def rStrAdd : R2 := fun x y H Q => ∃ i j, x = .str i ∧ y = .str j ∧ i.length + j.length ≤ sizeLine ∧ Q (.str (i ++ j)) H
def rAddD (K : PySem.W.Frag) : R2 := fun x y H Q => (((rI0 fun i j => .int (i + j)) x y H Q ∨ rStrAdd x y H Q) ∨ rCat x y H Q) ∨ rCatA K x y H Q
def rMulD : R2 := fun x y H Q => (rI CMulW fun i j => .int (i * j)) x y H Q ∨ rRep x y H Q
section
variable {X : Cx}
theorem op_addD : OpR X (binaryOp .Add) (rAddD X.K) := OpR.or (OpR.or (OpR.or op_add op_add_str) op_cat) op_catA
theorem op_mulD : OpR X (binaryOp .Mult) rMulD := OpR.or op_mulW op_rep
end
section
variable {K : PySem.W.Frag} {n1 n2 n : Nat}
theorem ok2_add : Op2 K 1 1 n (rAddD K) addD := by
  intro B G H x y d e z Q gh rx ry hz q
  unfold addD at hz
  split at hz
  · cases hz
    exact .inl (.inl (.inl ⟨_, _, rx.int, ry.int, q _ G H .refl gh (.of_rp (.int _))⟩))
  · split at hz
    · rename_i h
      cases hz
      exact .inl (.inl (.inr ⟨_, _, rx.str, ry.str, of_decide_eq_true h, q _ G H .refl gh (.of_rp (.str _))⟩))
    · cases hz
  · split at hz
    · rename_i xs ys h
      cases hz
      obtain ⟨a, vs, rfl, h1, t1⟩ := rx.lst gh
      obtain ⟨b, ws, rfl, h2, t2⟩ := ry.lst gh
      refine .inl (.inr ⟨a, b, vs, ws, rfl, rfl, h1, h2, by rw [t1.length, t2.length]; exact of_decide_eq_true h, fun p hp => ?_⟩)
      have s2 : Stp [] G H (upd G p (.lst (vs ++ ws))) (upd H p (.lst (vs ++ ws))) := stp_pub gh hp
      exact q _ _ _ s2 (same_pub gh) (.of_rp (.lst upd_same (((RkAll.to_rp t1).append (RkAll.to_rp t2)).mono s2.gg)))
    · cases hz
  · split at hz
    · rename_i xs ys h
      cases hz
      obtain ⟨a, vs, rfl, h1, t1⟩ := rx.tup
      obtain ⟨b, ws, rfl, h2, t2⟩ := ry.tup
      refine .inr ⟨a, b, vs, ws, rfl, rfl, Same.sqT gh h1, Same.sqT gh h2, by rw [t1.length, t2.length]; exact of_decide_eq_true h, fun e => ?_, fun _ e => ?_, fun _ _ p hp => ?_⟩
      · subst e
        cases t1
        exact q _ G H .refl gh (.of_rp (.tup h2 t2))
      · subst e
        cases t2
        rw [List.append_nil] at q
        exact q _ G H .refl gh (.of_rp (.tup h1 t1))
      · have s2 : Stp [] G H (upd G p (.tup (vs ++ ws))) (upd H p (.tup (vs ++ ws))) := stp_pub gh hp
        exact q _ _ _ s2 (same_pub gh) (.of_rp (.tup (.inl (.inl upd_same)) ((t1.append t2).mono s2.gg)))
    · cases hz
  · cases hz
theorem ok2_sub : Op2 K n1 n2 n (rI0 fun i j => .int (i - j)) subD := by
  intro B G H x y d e z Q gh rx ry hz q
  unfold subD at hz
  split at hz
  · cases hz
    exact ⟨_, _, rx.int, ry.int, q _ G H .refl gh (.of_rp (.int _))⟩
  · cases hz
theorem ok2_mul : Op2 K 1 n2 n rMulD mulD := by
  intro B G H x y d e z Q gh rx ry hz q
  unfold mulD at hz
  split at hz
  · split at hz
    · rename_i h
      cases hz
      exact .inl ⟨_, _, rx.int, ry.int, h, q _ G H .refl gh (.of_rp (.int _))⟩
    · cases hz
  · split at hz
    · rename_i xs k h
      cases hz
      obtain ⟨h1, h2⟩ := Bool.and_eq_true_iff.mp h
      obtain ⟨h0, h1⟩ := Bool.and_eq_true_iff.mp h1
      obtain ⟨a, vs, rfl, e1, t1⟩ := rx.lst gh
      refine .inr ⟨a, k, vs, rfl, ry.int, e1, of_decide_eq_true h0, of_decide_eq_true h1, by rw [t1.length]; exact of_decide_eq_true h2, fun p hp => ?_⟩
      have s2 : Stp [] G H (upd G p (.lst (List.replicate k.toNat vs).flatten)) (upd H p (.lst (List.replicate k.toNat vs).flatten)) := stp_pub gh hp
      exact q _ _ _ s2 (same_pub gh) (.of_rp (.lst upd_same (((RkAll.to_rp t1).flatRep _).mono s2.gg)))
    · cases hz
  · cases hz
theorem ok2_fdiv : Op2 K n1 n2 n (rI CDivW fun i j => .int (i / j)) fdivD := by
  intro B G H x y d e z Q gh rx ry hz q
  unfold fdivD at hz
  split at hz
  · split at hz
    · rename_i h
      cases hz
      obtain ⟨h1, h2⟩ := Bool.and_eq_true_iff.mp h
      exact ⟨_, _, rx.int, ry.int, ⟨of_decide_eq_true h1, of_decide_eq_true h2⟩, q _ G H .refl gh (.of_rp (.int _))⟩
    · cases hz
  · cases hz
theorem ok2_mod : Op2 K n1 n2 n (rI (fun _ j => 0 < j) fun i j => .int (i % j)) modD := by
  intro B G H x y d e z Q gh rx ry hz q
  unfold modD at hz
  split at hz
  · split at hz
    · rename_i h
      cases hz
      exact ⟨_, _, rx.int, ry.int, h, q _ G H .refl gh (.of_rp (.int _))⟩
    · cases hz
  · cases hz
theorem ok2_pow : Op2 K n1 n2 n (rI CPow fun i j => .int (i ^ j.toNat)) powD := by
  intro B G H x y d e z Q gh rx ry hz q
  unfold powD at hz
  split at hz
  · split at hz
    · rename_i h
      cases hz
      obtain ⟨h1, h2⟩ := Bool.and_eq_true_iff.mp h
      obtain ⟨h0, h1⟩ := Bool.and_eq_true_iff.mp h1
      exact ⟨_, _, rx.int, ry.int, ⟨of_decide_eq_true h0, of_decide_eq_true h1, of_decide_eq_true h2⟩, q _ G H .refl gh (.of_rp (.int _))⟩
    · cases hz
  · cases hz
end
/-! ### comparisons -/
def ordOk (d e : PyData) : Bool := plain d && (plain e && (PySem.W.alike d e && (decide (d.depth ≤ 60) && (match d with | .none => false | _ => true))))
def ltD (d e : PyData) : Option PyData := if ordOk d e then some (.bool (PySem.W.dataLt d e)) else none
def gtD (d e : PyData) : Option PyData := if ordOk d e then some (.bool (PySem.W.dataLt e d)) else none
def leD (d e : PyData) : Option PyData := if ordOk d e then some (.bool (!PySem.W.dataLt e d)) else none
def geD (d e : PyData) : Option PyData := if ordOk d e then some (.bool (!PySem.W.dataLt d e)) else none
def rOrd (K : PySem.W.Frag) (g : PyData → PyData → Bool) : R2 := fun x y H Q => ∃ d e, Dp K H x d ∧ Dp K H y e ∧ PySem.W.alike d e = true ∧ d ≠ .none ∧ d.depth ≤ 60 ∧ Q (.bl (g d e)) H
section
variable {X : Cx}
theorem op_ltD (hu : X.A.units + 64 < cLine) : OpR X (compareOp .Lt) (rOrd X.K PySem.W.dataLt) := by
  intro pins s σ H x y v u Q I rx ry h
  obtain ⟨d, e, hd, he, ha, hn, hz, q⟩ := h
  obtain ⟨as, r1⟩ := Dp.reads I d x v hd rx
  obtain ⟨bs, r2⟩ := Dp.reads I e y u he ry
  exact PySem.W.lt_data r1 r2 ha hn (by have := Nat.min_le_left d.depth e.depth; omega) ⟨.bl _, H, I, rfl, q⟩
theorem op_gtD (hu : X.A.units + 64 < cLine) : OpR X (compareOp .Gt) (rOrd X.K fun d e => PySem.W.dataLt e d) := by
  intro pins s σ H x y v u Q I rx ry h
  obtain ⟨d, e, hd, he, ha, hn, hz, q⟩ := h
  obtain ⟨as, r1⟩ := Dp.reads I d x v hd rx
  obtain ⟨bs, r2⟩ := Dp.reads I e y u he ry
  exact PySem.W.gt_data r1 r2 ha hn (by have := Nat.min_le_left d.depth e.depth; omega) ⟨.bl _, H, I, rfl, q⟩
theorem op_leD (hu : X.A.units + 64 < cLine) : OpR X (compareOp .LtE) (rOrd X.K fun d e => !PySem.W.dataLt e d) := by
  intro pins s σ H x y v u Q I rx ry h
  obtain ⟨d, e, hd, he, ha, hn, hz, q⟩ := h
  obtain ⟨as, r1⟩ := Dp.reads I d x v hd rx
  obtain ⟨bs, r2⟩ := Dp.reads I e y u he ry
  exact PySem.W.le_data r1 r2 ha hn (by have := Nat.min_le_left d.depth e.depth; omega) ⟨.bl _, H, I, rfl, q⟩
theorem op_geD (hu : X.A.units + 64 < cLine) : OpR X (compareOp .GtE) (rOrd X.K fun d e => !PySem.W.dataLt d e) := by
  intro pins s σ H x y v u Q I rx ry h
  obtain ⟨d, e, hd, he, ha, hn, hz, q⟩ := h
  obtain ⟨as, r1⟩ := Dp.reads I d x v hd rx
  obtain ⟨bs, r2⟩ := Dp.reads I e y u he ry
  exact PySem.W.ge_data r1 r2 ha hn (by have := Nat.min_le_left d.depth e.depth; omega) ⟨.bl _, H, I, rfl, q⟩
end
section
variable {X : Cx} {K : PySem.W.Frag}
theorem opK_add (h : X.K = K) : OpR X (binaryOp .Add) (rAddD K) := h ▸ op_addD
theorem opK_lt (h : X.K = K) (hu : X.A.units + 64 < cLine) : OpR X (compareOp .Lt) (rOrd K PySem.W.dataLt) := h ▸ op_ltD hu
theorem opK_gt (h : X.K = K) (hu : X.A.units + 64 < cLine) : OpR X (compareOp .Gt) (rOrd K fun d e => PySem.W.dataLt e d) := h ▸ op_gtD hu
theorem opK_le (h : X.K = K) (hu : X.A.units + 64 < cLine) : OpR X (compareOp .LtE) (rOrd K fun d e => !PySem.W.dataLt e d) := h ▸ op_leD hu
theorem opK_ge (h : X.K = K) (hu : X.A.units + 64 < cLine) : OpR X (compareOp .GtE) (rOrd K fun d e => !PySem.W.dataLt d e) := h ▸ op_geD hu
theorem opK_eq (h : X.K = K) (hu : X.A.units + 64 < cLine) : OpR X (compareOp .Eq) (rEqD K) := h ▸ op_eqD hu
theorem opK_ne (h : X.K = K) (hu : X.A.units + 64 < cLine) : OpR X (compareOp .NotEq) (rNeD K) := h ▸ op_neD hu
end
def eqD (d e : PyData) : Option PyData := if plain d && (plain e && (SeqAt.shaped d && SeqAt.shaped e)) then some (.bool (PyData.eqv d e)) else none
def neD (d e : PyData) : Option PyData := if plain d && (plain e && (SeqAt.shaped d && SeqAt.shaped e)) then some (.bool (!PyData.eqv d e)) else none
section
variable {K : PySem.W.Frag} {n1 n2 n : Nat}
theorem ok2_ord {g : PyData → PyData → Bool} : Op2 K n1 n2 n (rOrd K g) (fun d e => if ordOk d e then some (.bool (g d e)) else none) := by
  intro B G H x y d e z Q gh rx ry hz q
  dsimp only at hz
  split at hz
  · rename_i h
    cases hz
    unfold ordOk at h
    simp only [Bool.and_eq_true] at h
    obtain ⟨h1, h2, h3, h4, h5⟩ := h
    exact ⟨d, e, Rp.dp (rx.inH gh) h1, Rp.dp (ry.inH gh) h2, h3, (by rintro rfl; cases h5), of_decide_eq_true h4, q _ G H .refl gh (.of_rp (.bl _))⟩
  · cases hz
theorem ok2_lt : Op2 K n1 n2 n (rOrd K PySem.W.dataLt) ltD := ok2_ord
theorem ok2_gt : Op2 K n1 n2 n (rOrd K fun d e => PySem.W.dataLt e d) gtD := ok2_ord
theorem ok2_le : Op2 K n1 n2 n (rOrd K fun d e => !PySem.W.dataLt e d) leD := ok2_ord
theorem ok2_ge : Op2 K n1 n2 n (rOrd K fun d e => !PySem.W.dataLt d e) geD := ok2_ord
theorem ok2_eq : Op2 K n1 n2 n (rEqD K) eqD := by
  intro B G H x y d e z Q gh rx ry hz q
  unfold eqD at hz
  split at hz
  · rename_i h
    cases hz
    simp only [Bool.and_eq_true] at h
    obtain ⟨h1, h2, h3, h4⟩ := h
    exact ⟨d, e, Rp.dp (rx.inH gh) h1, Rp.dp (ry.inH gh) h2, h3, h4, q _ G H .refl gh (.of_rp (.bl _))⟩
  · cases hz
theorem ok2_ne : Op2 K n1 n2 n (rNeD K) neD := by
  intro B G H x y d e z Q gh rx ry hz q
  unfold neD at hz
  split at hz
  · rename_i h
    cases hz
    simp only [Bool.and_eq_true] at h
    obtain ⟨h1, h2, h3, h4⟩ := h
    exact ⟨d, e, Rp.dp (rx.inH gh) h1, Rp.dp (ry.inH gh) h2, h3, h4, q _ G H .refl gh (.of_rp (.bl _))⟩
  · cases hz
end
/-! ### is None -/
def isND (d : PyData) : Bool := match d with
  | .none => true
  | _ => false
theorem Rp.isN {K : PySem.W.Frag} {G : Hp} {v : V} {d : PyData} (h : Rp K G v d) : decide (v = V.non) = isND d := by
  cases h <;> simp [isND]
def fIsN (f : EF) : EF := fun ρ m => (f ρ m).map fun p => (.bool (isND p.1), p.2)
def fNotN (f : EF) : EF := fun ρ m => (f ρ m).map fun p => (.bool (!isND p.1), p.2)
section
variable {X : Cx} {κ : List Nat} {io : Option Nat} {n n1 : Nat} {a : Expr} {ta : TE} {f : EF} {pos : Pos}
theorem de_isN {j p2} (ha : DE X κ io n1 a ta f) : DE X κ io n (.Compare a [.Is] [.Constant .none j p2] pos) (tIsN ta) (fIsN f) := by
  refine ⟨pe_cmp (pc_isN ha.pe), fun G H σ ρ m A B Q d m' E hf q => ?_⟩
  obtain ⟨⟨x, m1⟩, e1, h1⟩ := Option.map_eq_some_iff.mp (show (f ρ m).map (fun p => (PyData.bool (isND p.1), p.2)) = some (d, m') from hf)
  cases h1
  refine ha.sem G H σ ρ m A B _ _ _ E e1 fun v G1 H1 E1 s1 r1 => ?_
  rw [Rp.isN (r1.inH E1.sub)]
  exact q _ G1 H1 E1 s1 (.of_rp (.bl _))
theorem de_notN {j p2} (ha : DE X κ io n1 a ta f) : DE X κ io n (.Compare a [.IsNot] [.Constant .none j p2] pos) (tNotN ta) (fNotN f) := by
  refine ⟨pe_cmp (pc_notN ha.pe), fun G H σ ρ m A B Q d m' E hf q => ?_⟩
  obtain ⟨⟨x, m1⟩, e1, h1⟩ := Option.map_eq_some_iff.mp (show (f ρ m).map (fun p => (PyData.bool (!isND p.1), p.2)) = some (d, m') from hf)
  cases h1
  refine ha.sem G H σ ρ m A B _ _ _ E e1 fun v G1 H1 E1 s1 r1 => ?_
  rw [Rp.isN (r1.inH E1.sub)]
  exact q _ G1 H1 E1 s1 (.of_rp (.bl _))
theorem dt_isN {j p2} (ha : DE X κ io n1 a ta f) : DT X κ io (.Compare a [.Is] [.Constant .none j p2] pos) (tTest (tIsN ta)) (fT (fIsN f)) := ⟨pt_cmp (pc_isN ha.pe), sem_test (n := 0) (de_isN (pos := pos) (j := j) (p2 := p2) ha).sem⟩
theorem dt_notN {j p2} (ha : DE X κ io n1 a ta f) : DT X κ io (.Compare a [.IsNot] [.Constant .none j p2] pos) (tTest (tNotN ta)) (fT (fNotN f)) := ⟨pt_cmp (pc_notN ha.pe), sem_test (n := 0) (de_notN (pos := pos) (j := j) (p2 := p2) ha).sem⟩
/-! ### unary minus -/
def negD : PyData → Option PyData
  | .int i => some (.int (-i))
  | _ => none
def fUn (op : PyData → Option PyData) (f : EF) : EF := fun ρ m => (f ρ m).bind fun p => (op p.1).map fun z => (z, p.2)
theorem de_neg (ha : DE X κ io n1 a ta f) : DE X κ io n (.UnaryOp .USub a pos) (tUn (rU fun i => .int (-i)) ta) (fUn negD f) := by
  refine ⟨pe_un un_neg ha.pe, fun G H σ ρ m A B Q d m' E hf q => ?_⟩
  obtain ⟨⟨x, m1⟩, e1, h1⟩ := Option.bind_eq_some_iff.mp (show (f ρ m).bind (fun p => (negD p.1).map fun z => (z, p.2)) = some (d, m') from hf)
  obtain ⟨z, e2, h2⟩ := Option.map_eq_some_iff.mp h1
  cases h2
  unfold negD at e2
  split at e2
  · rename_i i e3
    cases e2
    dsimp only at e3
    subst e3
    exact ha.sem G H σ ρ m A B _ _ _ E e1 fun v G1 H1 E1 s1 r1 => ⟨i, r1.int, q _ G1 H1 E1 s1 (.of_rp (.int _))⟩
  · cases e2
end
/-! ### subscripts -/
def dhas (kvs : List (PyData × PyData)) (k : PyData) : Bool := kvs.any fun p => PyData.eqv p.1 k
def dgetD (kvs : List (PyData × PyData)) (k : PyData) : Option PyData := (kvs.find? fun p => PyData.eqv p.1 k).map (·.2)
def dputD (kvs : List (PyData × PyData)) (k v : PyData) : List (PyData × PyData) := if dhas kvs k = true then kvs.map (fun p => if PyData.eqv p.1 k = true then (p.1, v) else p) else kvs ++ [(k, v)]
theorem eqv_keyD (a b : Key) : PyData.eqv (keyD a) (keyD b) = decide (a = b) := by
  cases a with
  | inl i =>
    cases b with
    | inl j => rw [key_ll]; simp [keyD, PyData.eqv]
    | inr y => rw [key_lr]; simp [keyD, PyData.eqv]
  | inr x =>
    cases b with
    | inl j => rw [key_rl]; simp [keyD, PyData.eqv]
    | inr y => rw [key_rr]; simp only [keyD, PyData.eqv]; exact Bool.beq_eq_decide_eq x y
theorem eqv_keyDs : ∀ a b : List Key, PyData.eqvAll (a.map keyD) (b.map keyD) = decide (a = b)
  | [], [] => by simp [PyData.eqvAll]
  | [], _ :: _ => by simp [PyData.eqvAll]
  | _ :: _, [] => by simp [PyData.eqvAll]
  | x :: a, y :: b => by
    rw [List.map_cons, List.map_cons, PyData.eqvAll, eqv_keyD, eqv_keyDs a b]
    by_cases h : x = y
    · subst h; simp
    · simp [h]
theorem eqv_keyT (a b : List Key) : PyData.eqv (.tuple (a.map keyD)) (.tuple (b.map keyD)) = decide (a = b) := by
  rw [PyData.eqv]; exact eqv_keyDs a b
section
variable {κ : Type} [DecidableEq κ] {enc : κ → PyData} {R : V → PyData → Prop}
theorem dget_all (he : ∀ a b, PyData.eqv (enc a) (enc b) = decide (a = b)) (k : κ) : ∀ {kvs : List (κ × V)} {ds : List PyData} {d : PyData}, RkAll R (kvs.map (·.2)) ds → dgetD ((kvs.map fun p => enc p.1).zip ds) (enc k) = some d → ∃ v, valV kvs k = some v ∧ R v d
  | [], _, d, _, h => by
    have e : dgetD ([] : List (PyData × PyData)) (enc k) = some d := by simpa using h
    cases e
  | p :: r, [], d, t, _ => by cases t
  | p :: r, e :: es, d, .cons h t, hd => by
    by_cases z : p.1 = k
    · refine ⟨p.2, valV_pos z, ?_⟩
      have e1 : dgetD ((enc p.1, e) :: (r.map fun p => enc p.1).zip es) (enc k) = some d := hd
      have e2 : PyData.eqv (enc p.1) (enc k) = true := by rw [he]; exact decide_eq_true z
      unfold dgetD at e1
      rw [List.find?_cons] at e1
      dsimp only at e1
      rw [e2] at e1
      cases e1
      exact h
    · have e1 : dgetD ((enc p.1, e) :: (r.map fun p => enc p.1).zip es) (enc k) = some d := hd
      have e2 : PyData.eqv (enc p.1) (enc k) = false := by rw [he]; exact decide_eq_false z
      unfold dgetD at e1
      rw [List.find?_cons] at e1
      dsimp only at e1
      rw [e2] at e1
      obtain ⟨v, h1, h2⟩ := dget_all he k t (show dgetD ((r.map fun p => enc p.1).zip es) (enc k) = some d from e1)
      exact ⟨v, by rw [valV_neg z]; exact h1, h2⟩
theorem dhas_all (he : ∀ a b, PyData.eqv (enc a) (enc b) = decide (a = b)) (k : κ) : ∀ {kvs : List (κ × V)} {ds : List PyData}, RkAll R (kvs.map (·.2)) ds → dhas ((kvs.map fun p => enc p.1).zip ds) (enc k) = kvs.any fun kv => decide (kv.1 = k)
  | [], _, _ => by simp [dhas]
  | p :: r, [], t => by cases t
  | p :: r, e :: es, .cons h t => by
    have ih := dhas_all he k t
    unfold dhas at ih ⊢
    rw [List.map_cons, List.zip_cons_cons, List.any_cons, List.any_cons, ih, he]
theorem dput_all (he : ∀ a b, PyData.eqv (enc a) (enc b) = decide (a = b)) (k : κ) {v : V} {d : PyData} {kvs : List (κ × V)} {ds : List PyData} (t : RkAll R (kvs.map (·.2)) ds) (hv : R v d) :
    ∃ es, dputD ((kvs.map fun p => enc p.1).zip ds) (enc k) d = ((putK kvs k v).map fun p => enc p.1).zip es ∧ RkAll R ((putK kvs k v).map (·.2)) es := by
  unfold dputD putK
  rw [dhas_all he k t]
  split
  · have key : ∀ {kvs : List (κ × V)} {ds : List PyData}, RkAll R (kvs.map (·.2)) ds → ∃ es, ((kvs.map fun p => enc p.1).zip ds).map (fun p => if PyData.eqv p.1 (enc k) = true then (p.1, d) else p) = ((kvs.map fun kv => if kv.1 = k then (kv.1, v) else kv).map fun p => enc p.1).zip es ∧ RkAll R ((kvs.map fun kv => if kv.1 = k then (kv.1, v) else kv).map (·.2)) es := by
      intro kvs
      induction kvs with
      | nil => intro ds t; exact ⟨[], by simp, .nil⟩
      | cons p r ih =>
        intro ds t
        cases ds with
        | nil => cases t
        | cons e es =>
          cases t with
          | cons h t =>
            obtain ⟨es', e1, e2⟩ := ih t
            by_cases z : p.1 = k
            · refine ⟨d :: es', ?_, ?_⟩
              · rw [List.map_cons, List.zip_cons_cons, List.map_cons, List.map_cons, List.map_cons, e1, if_pos (by dsimp only; rw [he]; exact decide_eq_true z), if_pos z, List.zip_cons_cons]
              · rw [List.map_cons, List.map_cons, if_pos z]
                exact .cons hv e2
            · refine ⟨e :: es', ?_, ?_⟩
              · rw [List.map_cons, List.zip_cons_cons, List.map_cons, List.map_cons, List.map_cons, e1, if_neg (by dsimp only; rw [he, decide_eq_false z]; exact Bool.false_ne_true), if_neg z, List.zip_cons_cons]
              · rw [List.map_cons, List.map_cons, if_neg z]
                exact .cons h e2
    exact key t
  · have key : ∀ {kvs : List (κ × V)} {ds : List PyData}, RkAll R (kvs.map (·.2)) ds → ((kvs.map fun p => enc p.1).zip ds) ++ [(enc k, d)] = ((kvs ++ [(k, v)]).map fun p => enc p.1).zip (ds ++ [d]) ∧ RkAll R ((kvs ++ [(k, v)]).map (·.2)) (ds ++ [d]) := by
      intro kvs
      induction kvs with
      | nil => intro ds t; cases t; exact ⟨rfl, .cons hv .nil⟩
      | cons p r ih =>
        intro ds t
        cases ds with
        | nil => cases t
        | cons e es =>
          cases t with
          | cons h t =>
            obtain ⟨e1, e2⟩ := ih t
            refine ⟨?_, .cons h e2⟩
            rw [List.map_cons, List.zip_cons_cons, List.cons_append, e1]
            rfl
    exact ⟨_, (key t).1, (key t).2⟩
end
/-- a key's value: an int, a text -/
def keyOf : PyData → Option Key
  | .int i => some (.inl i)
  | .str x => some (.inr x)
  | _ => none
theorem keyOf_eq {d : PyData} {k : Key} (h : keyOf d = some k) : d = keyD k := by
  cases d <;> cases h <;> rfl
theorem Rp.key {K : PySem.W.Frag} {G : Hp} {v : V} {k : Key} (h : Rp K G v (keyD k)) : v = kV k := by
  cases k with
  | inl i => exact h.int_inv
  | inr x => exact h.str_inv
def ixD : PyData → PyData → Option PyData
  | .list xs, .int i => atI xs i
  | .tuple xs, .int i => atI xs i
  | .dict [(.list xs, .none)], .int i => atI xs i
  | .dict kvs, k => (keyOf k).bind fun _ => dgetD kvs k
  | _, _ => none
def rIxG : R2 := fun x y H Q => ∃ a v, x = .ref a ∧ DGet H a y (some v) ∧ Q v H
def rIxD (K : PySem.W.Frag) : R2 := fun x y H Q => (rIxL K x y H Q ∨ rIxT K x y H Q) ∨ rIxG x y H Q
section
variable {X : Cx} {K : PySem.W.Frag} {n n1 n2 : Nat}
theorem ix_dict (hu : X.A.units + 1 < cLine) : IxR X rIxG := by
  intro value slice pins s σ H x y v u Q I rx ry h hs
  obtain ⟨a, w, rfl, g, q⟩ := h
  obtain rfl : v = Value.ref a := rx
  unfold subscriptTail
  refine wpAny_bind ?_
  rw [getitemInPython_of_ne (dict_typeIs I g).not_modules]
  refine wpAny_bind (wpAny_specialOf (dict_typeIs I g) PySem.F.slot_dict_getitem.lookup ?_)
  have fin : wpAny (model X.prog X.w) X.A (subscripted slice false (.ref a) u) (fun r s₃ => wpAny (model X.prog X.w) X.A (letTemporaryGo value (.ref a) r >>= fun _ => pure r) (EP X pins σ Q) X.xe s₃) X.xe s := by
    rw [hs]
    exact wpAny_operating (wpAny_mono (d_getItem (Q := EP X pins σ Q) hu I g ry fun w' s3 I3 rw' => ⟨w, H, I3, rw', q⟩) (fun r s₃ h₃ => wpAny_bind (wpAny_letTemporaryGo (wpAny_pure h₃))) fun _ _ x => x)
  first
    | exact wpAny_pure (wpAny_bind fin)
    | exact fin
    | exact wpAny_bind fin
theorem ix_D (hu : X.A.units + 1 < cLine) : IxR X (rIxD X.K) := IxR.or (IxR.or ix_list ix_tup) (ix_dict hu)
theorem atI_get {α : Type} {xs : List α} {i : Int} {d : α} (h : atI xs i = some d) : ∃ j, ixN xs.length i = some j ∧ xs[j]? = some d := by
  unfold atI at h
  obtain ⟨j, h1, h2⟩ := Option.bind_eq_some_iff.mp h
  exact ⟨j, h1, h2⟩
theorem atI_of {α : Type} {xs : List α} {i : Int} {j : Nat} {d : α} (h1 : ixN xs.length i = some j) (h2 : xs[j]? = some d) : atI xs i = some d := by
  unfold atI
  rw [h1]
  exact h2
theorem Rk.scr {B : List Addr} {G H : Hp} {n : Nat} {x : V} {xs : List PyData} (rx : Rk K B G H n x (.dict [(.list xs, .none)])) : Rp K G x (.dict [(.list xs, .none)]) := by
  cases n with
  | zero => exact rx
  | succ n =>
    rcases rx with h | ⟨a, xs, ds', e1, e2, _, e3, t⟩ | ⟨a, kvs, ks, ds', e1, e2, _, e3, e4, t⟩ | ⟨a, kvs, ks, ds', e1, e2, _, e3, e4, t⟩
    · exact h
    · cases e2
    · exfalso
      subst e4
      cases kvs with
      | nil => cases ds' <;> cases e2
      | cons p r =>
        cases ds' with
        | nil => cases e2
        | cons q qs =>
          obtain ⟨k, w⟩ := p
          cases k <;> cases e2
    · cases e2
theorem Rk.dct {B : List Addr} {G H : Hp} {n : Nat} {x : V} {kvs : List (PyData × PyData)} (gh : Same G H) (rx : Rk K B G H (n + 1) x (.dict kvs)) :
    (∃ xs, kvs = [(.list xs, .none)]) ∨ (∃ a kv ds, x = .ref a ∧ kvs = (kv.map fun p => keyD p.1).zip ds ∧ Rd H a (.dK kv) ∧ RkAll (Rk K B G H n) (kv.map (·.2)) ds) ∨
      ∃ a kv ds, x = .ref a ∧ kvs = (.none, .none) :: (kv.map fun p => PyData.tuple (p.1.map keyD)).zip ds ∧ Rd H a (.dT kv) ∧ RkAll (Rk K B G H n) (kv.map (·.2)) ds := by
  rcases rx with h | ⟨a, xs, ds', e1, e2, _, e3, t⟩ | ⟨a, kvs, ks, ds', e1, e2, _, e3, e4, t⟩ | ⟨a, kvs, ks, ds', e1, e2, _, e3, e4, t⟩
  · cases h with
    | scr h t => exact .inl ⟨_, rfl⟩
    | dK h e t => subst e; exact .inr (.inl ⟨_, _, _, rfl, rfl, Same.rd gh h, RkAll.of_rp (fun _ _ => Rk.of_rp) t⟩)
    | dT h e t => subst e; exact .inr (.inr ⟨_, _, _, rfl, rfl, Same.rd gh h, RkAll.of_rp (fun _ _ => Rk.of_rp) t⟩)
  · cases e2
  · cases e2; subst e4; exact .inr (.inl ⟨a, kvs, ds', e1, rfl, .inl e3, t⟩)
  · cases e2; subst e4; exact .inr (.inr ⟨a, kvs, ds', e1, rfl, .inl e3, t⟩)
theorem ok2_ix : Op2 K (n + 1) n2 n (rIxD K) ixD := by
  intro B G H x y d e z Q gh rx ry hz q
  unfold ixD at hz
  split at hz
  · obtain ⟨j, h1, h2⟩ := atI_get hz
    obtain ⟨a, vs, rfl, e1, t1⟩ := rx.lst gh
    obtain ⟨v, h3, r⟩ := t1.get h2
    exact .inl (.inl ⟨a, vs, _, v, rfl, ry.int, SqL.of e1, atI_of (by rw [t1.length]; exact h1) h3, q _ G H .refl gh r⟩)
  · obtain ⟨j, h1, h2⟩ := atI_get hz
    obtain ⟨a, vs, rfl, e1, t1⟩ := rx.tup
    obtain ⟨v, h3, r⟩ := t1.get h2
    exact .inl (.inr ⟨a, vs, _, v, rfl, ry.int, Same.sqT gh e1, atI_of (by rw [t1.length]; exact h1) h3, q _ G H .refl gh (.of_rp r)⟩)
  · obtain ⟨j, h1, h2⟩ := atI_get hz
    have rx' := Rk.scr rx
    obtain ⟨a, vs, rfl, e1, t1⟩ := rx'.scr_inv
    obtain ⟨v, h3, r⟩ := t1.get h2
    exact .inl (.inl ⟨a, vs, _, v, rfl, ry.int, gh.seq e1, atI_of (by rw [t1.length]; exact h1) h3, q _ G H .refl gh (.of_rp r)⟩)
  · rename_i kvs _ hne
    obtain ⟨k, e1, e2⟩ := Option.bind_eq_some_iff.mp hz
    have e3 := keyOf_eq e1
    subst e3
    have ey : y = kV k := (ry.inH gh).key
    subst ey
    rcases Rk.dct gh rx with ⟨xs, ez⟩ | ⟨a, kv, ds, rfl, rfl, hd, t⟩ | ⟨a, kv, ds, rfl, rfl, hd, t⟩
    · exfalso
      subst ez
      cases k <;> simp [dgetD, keyD, PyData.eqv] at e2
    · obtain ⟨v, h1, h2⟩ := dget_all eqv_keyD k t e2
      exact .inr ⟨a, v, rfl, .inl ⟨kv, k, hd, rfl, h1.symm⟩, q _ G H .refl gh h2⟩
    · exfalso
      have nk : ∀ (kv : List (List Key × V)) (ds : List PyData), dgetD ((kv.map fun p => PyData.tuple (p.1.map keyD)).zip ds) (keyD k) = none := by
        intro kv
        induction kv with
        | nil => intro ds; simp [dgetD]
        | cons p r ih =>
          intro ds
          cases ds with
          | nil => simp [dgetD]
          | cons d ds =>
            have h := ih ds
            unfold dgetD at h ⊢
            rw [List.map_cons, List.zip_cons_cons, List.find?_cons]
            have e : PyData.eqv (PyData.tuple (p.1.map keyD)) (keyD k) = false := by cases k <;> simp [keyD, PyData.eqv]
            dsimp only
            rw [e]
            exact h
      have e5 : PyData.eqv .none (keyD k) = false := by cases k <;> simp [keyD, PyData.eqv]
      have e6 := nk kv ds
      unfold dgetD at e2 e6
      rw [List.find?_cons] at e2
      dsimp only at e2
      rw [e5] at e2
      have e7 : (none : Option PyData) = some z := e6.symm.trans e2
      cases e7
  · cases hz
end
section
variable {X : Cx} {κ : List Nat} {io : Option Nat} {n n1 n2 : Nat} {a b : Expr} {ta tb : TE} {f g : EF} {pos : Pos}
theorem de_ix (ha : DE X κ io (n + 1) a ta f) (hb : DE X κ io n2 b tb g) (hu : X.A.units + 1 < cLine) {K : PySem.W.Frag} (hK : X.K = K) (hs : PlainIx b := by exact fun _ _ => rfl) : DE X κ io n (.Subscript a b pos) (tOp (rIxD K) ta tb) (fOp ixD f g) := by subst hK; exact ⟨pe_ix (ix_D hu) ha.pe hb.pe hs, sem_op ok2_ix ha.sem hb.sem⟩
/-! slices -/
end
end DL
namespace DL
open PySem PySem.Spec PyProof.Rows L2
/-! ### calls of built-ins, by values -/
def Op1 (K : PySem.W.Frag) (n1 n : Nat) (r : List V → Hp → VK → Prop) (op : List PyData → Option PyData) : Prop :=
  ∀ (B : List Addr) (G H : Hp) (xs : List V) (ds : List PyData) (z : PyData) (Q : VK), Same G H → RkAll (Rk K B G H n1) xs ds → op ds = some z → (∀ v G' H', Stp [] G H G' H' → Same G' H' → Rk K B G' H' n v z → Q v H') → r xs H Q
def fCall (op : List PyData → Option PyData) (h : AF) : EF := fun ρ m => (h ρ m).bind fun p => (op p.1).map fun z => (z, p.2)
section
variable {X : Cx} {κ : List Nat} {io : Option Nat} {n n1 : Nat} {e : Expr} {es : List Expr} {t : TA} {h : AF} {pos p : Pos} {x : Str} {id T : String} {r : List V → Hp → VK → Prop} {op : List PyData → Option PyData}
theorem sem_call {K : PySem.W.Frag} (ho : Op1 K n1 n r op) (ha : DAt K κ io n1 t h) : DEt K κ io n (tCB r t) (fCall op h) := fun G H σ ρ m A B Q d m' E hf q => by
  obtain ⟨⟨ds, m1⟩, e1, h1⟩ := Option.bind_eq_some_iff.mp (show (h ρ m).bind (fun p => (op p.1).map fun z => (z, p.2)) = some (d, m') from hf)
  obtain ⟨z, e2, h2⟩ := Option.map_eq_some_iff.mp h1
  cases h2
  exact ha G H σ ρ m A B _ ds _ E e1 fun vs G1 H1 E1 s1 r1 => ho B G1 H1 vs ds _ Q E1.sub r1 e2 fun v G2 H2 s2 gh r2 => q v G2 H2 (E1.keep s2 gh) (s1.trans s2.any) r2
theorem de_callB (hc : CallR X (.builtin id) r) (ho : Op1 X.K n1 n r op) (hm : X.mg x = none) (hv : bootBuiltins x = some (.builtin id)) (ha : DA X κ io n1 (e :: es) t h) (hg : Gl X x := by rfl) (hn : x ≠ "__name__" := by decide) (hdb : (x == ("__debug__" : Str)) = false := by decide)
    (he : starEach (e :: es) X.env = (false, eval e X.env) :: starEach es X.env := by rfl) (hpl : (backTo pos (starEach es X.env)).any (·.1) = false := by rfl) : DE X κ io n (.Call (.Name x p) (e :: es) [] pos) (tCB r t) (fCall op h) :=
  ⟨pe_callB hc hg hm hv ha.pa hn hdb he hpl, sem_call ho ha.sem⟩
theorem de_callTy (hc : CallR X (.type T) r) (ho : Op1 X.K n1 n r op) (hm : X.mg x = none) (hv : bootBuiltins x = some (.type T)) (ha : DA X κ io n1 (e :: es) t h) (hg : Gl X x := by rfl) (hn : x ≠ "__name__" := by decide) (hdb : (x == ("__debug__" : Str)) = false := by decide)
    (he : starEach (e :: es) X.env = (false, eval e X.env) :: starEach es X.env := by rfl) (hpl : (backTo pos (starEach es X.env)).any (·.1) = false := by rfl) : DE X κ io n (.Call (.Name x p) (e :: es) [] pos) (tCB r t) (fCall op h) :=
  ⟨pe_callTy hc hg hm hv ha.pa hn hdb he hpl, sem_call ho ha.sem⟩
end
/-! ### the ops -/
def lenD : List PyData → Option PyData
  | [.list xs] => some (.int xs.length)
  | [.tuple xs] => some (.int xs.length)
  | [.str x] => if szOk x.length then some (.int x.length) else none
  | [.dict [(.list xs, .none)]] => some (.int xs.length)
  | _ => none
def rLen (K : PySem.W.Frag) : List V → Hp → VK → Prop := fun xs H Q => ∃ x n, xs = [x] ∧ LenV K x H n ∧ Q (.int n) H
def rTupOf (K : PySem.W.Frag) : List V → Hp → VK → Prop := fun xs H Q => ∃ p ys, xs = [.ref p] ∧ ((SqL K H p ys ∧ ∀ l, H l = none → Q (.ref l) (upd H l (.tup ys))) ∨ (SqT K H p ys ∧ Q (.ref p) H))
def rLstOf (K : PySem.W.Frag) : List V → Hp → VK → Prop := fun xs H Q => ∃ p ys, xs = [.ref p] ∧ (SqL K H p ys ∨ SqT K H p ys) ∧ ∀ l, H l = none → Q (.ref l) (upd H l (.lst ys))
def absD : List PyData → Option PyData
  | [.int i] => some (.int (if i < 0 then -i else i))
  | _ => none
def max2D : List PyData → Option PyData
  | [.int i, .int j] => some (.int (if j > i then j else i))
  | _ => none
def min2D : List PyData → Option PyData
  | [.int i, .int j] => some (.int (if j < i then j else i))
  | _ => none
def intD : List PyData → Option PyData
  | [.int i] => some (.int i)
  | [.bool b] => some (.int (if b then 1 else 0))
  | _ => none
def tupleD : List PyData → Option PyData
  | [.list xs] => some (.tuple xs)
  | [.tuple xs] => some (.tuple xs)
  | _ => none
def listD : List PyData → Option PyData
  | [.list xs] => some (.list xs)
  | [.tuple xs] => some (.list xs)
  | _ => none
def boolsD : List PyData → Option (List Bool)
  | [] => some []
  | .bool b :: r => (boolsD r).map (b :: ·)
  | _ :: _ => none
def allD : List PyData → Option PyData
  | [.list xs] => (boolsD xs).map fun bs => .bool (bs.all id)
  | _ => none
def anyD : List PyData → Option PyData
  | [.list xs] => (boolsD xs).map fun bs => .bool (bs.any id)
  | _ => none
section
variable {K : PySem.W.Frag} {n1 n : Nat}
theorem RkAll.one {R : V → PyData → Prop} {xs : List V} {d : PyData} (t : RkAll R xs [d]) : ∃ v, xs = [v] ∧ R v d := by
  cases t with
  | cons h t => cases t; exact ⟨_, rfl, h⟩
theorem RkAll.two {R : V → PyData → Prop} {xs : List V} {d e : PyData} (t : RkAll R xs [d, e]) : ∃ v w, xs = [v, w] ∧ R v d ∧ R w e := by
  cases t with
  | cons h t =>
    obtain ⟨w, rfl, h2⟩ := t.one
    exact ⟨_, w, rfl, h, h2⟩
theorem bools_of {G : Hp} : ∀ {xs : List V} {ds : List PyData} {bs : List Bool}, RpAll K G xs ds → boolsD ds = some bs → xs = bs.map V.bl
  | _, _, bs, .nil, h => by cases h; rfl
  | _, .bool b :: r, bs, .cons h t, e => by
    obtain ⟨cs, e1, e2⟩ := Option.map_eq_some_iff.mp (show (boolsD r).map (b :: ·) = some bs from e)
    subst e2
    rw [h.bool_inv, bools_of t e1]
    rfl
  | _, .none :: _, _, _, e => by cases e
  | _, .int _ :: _, _, _, e => by cases e
  | _, .str _ :: _, _, _, e => by cases e
  | _, .list _ :: _, _, _, e => by cases e
  | _, .tuple _ :: _, _, _, e => by cases e
  | _, .dict _ :: _, _, _, e => by cases e
theorem ok1_len : Op1 K 1 n (rLen K) lenD := by
  intro B G H xs ds z Q gh t hz q
  unfold lenD at hz
  split at hz
  · cases hz
    obtain ⟨v, rfl, r⟩ := t.one
    obtain ⟨a, vs, rfl, e1, t1⟩ := r.lst gh
    exact ⟨_, _, rfl, .inl ⟨vs, SqL.of e1, rfl⟩, by rw [t1.length]; exact q _ G H .refl gh (.of_rp (.int _))⟩
  · cases hz
    obtain ⟨v, rfl, r⟩ := t.one
    obtain ⟨a, vs, rfl, e1, t1⟩ := r.tup
    exact ⟨_, _, rfl, .inr ⟨vs, Same.sqT gh e1, rfl⟩, by rw [t1.length]; exact q _ G H .refl gh (.of_rp (.int _))⟩
  · split at hz
    · rename_i x h
      cases hz
      obtain ⟨v, rfl, r⟩ := t.one
      rw [r.str]
      exact ⟨_, _, rfl, ⟨of_decide_eq_true h, rfl⟩, q _ G H .refl gh (.of_rp (.int _))⟩
    · cases hz
  · cases hz
    obtain ⟨v, rfl, r⟩ := t.one
    obtain ⟨a, vs, rfl, e1, t1⟩ := (Rk.scr r).scr_inv
    exact ⟨_, _, rfl, .inl ⟨vs, gh.seq e1, rfl⟩, by rw [t1.length]; exact q _ G H .refl gh (.of_rp (.int _))⟩
  · cases hz
theorem ok1_abs : Op1 K n1 n (fun xs H Q => ∃ i, xs = [.int i] ∧ Q (.int (if i < 0 then -i else i)) H) absD := by
  intro B G H xs ds z Q gh t hz q
  unfold absD at hz
  split at hz
  · cases hz
    obtain ⟨v, rfl, r⟩ := t.one
    rw [r.int]
    exact ⟨_, rfl, q _ G H .refl gh (.of_rp (.int _))⟩
  · cases hz
theorem ok1_max2 : Op1 K n1 n (fun xs H Q => ∃ i j, xs = [.int i, .int j] ∧ Q (.int (if j > i then j else i)) H) max2D := by
  intro B G H xs ds z Q gh t hz q
  unfold max2D at hz
  split at hz
  · cases hz
    obtain ⟨v, w, rfl, r, r'⟩ := t.two
    rw [r.int, r'.int]
    exact ⟨_, _, rfl, q _ G H .refl gh (.of_rp (.int _))⟩
  · cases hz
theorem ok1_min2 : Op1 K n1 n (fun xs H Q => ∃ i j, xs = [.int i, .int j] ∧ Q (.int (if j < i then j else i)) H) min2D := by
  intro B G H xs ds z Q gh t hz q
  unfold min2D at hz
  split at hz
  · cases hz
    obtain ⟨v, w, rfl, r, r'⟩ := t.two
    rw [r.int, r'.int]
    exact ⟨_, _, rfl, q _ G H .refl gh (.of_rp (.int _))⟩
  · cases hz
theorem ok1_int : Op1 K n1 n (fun xs H Q => (∃ i, xs = [.int i] ∧ Q (.int i) H) ∨ ∃ k, xs = [.bl k] ∧ Q (.int (if k then 1 else 0)) H) intD := by
  intro B G H xs ds z Q gh t hz q
  unfold intD at hz
  split at hz
  · cases hz
    obtain ⟨v, rfl, r⟩ := t.one
    rw [r.int]
    exact .inl ⟨_, rfl, q _ G H .refl gh (.of_rp (.int _))⟩
  · cases hz
    obtain ⟨v, rfl, r⟩ := t.one
    rw [r.bool]
    exact .inr ⟨_, rfl, q _ G H .refl gh (.of_rp (.int _))⟩
  · cases hz
theorem ok1_tuple : Op1 K 1 n (rTupOf K) tupleD := by
  intro B G H xs ds z Q gh t hz q
  unfold tupleD at hz
  split at hz
  · cases hz
    obtain ⟨v, rfl, r⟩ := t.one
    obtain ⟨a, vs, rfl, e1, t1⟩ := r.lst gh
    refine ⟨a, vs, rfl, .inl ⟨SqL.of e1, fun p hp => ?_⟩⟩
    have s2 : Stp [] G H (upd G p (.tup vs)) (upd H p (.tup vs)) := stp_pub gh hp
    exact q _ _ _ s2 (same_pub gh) (.of_rp (.tup (.inl (.inl upd_same)) ((RkAll.to_rp t1).mono s2.gg)))
  · cases hz
    obtain ⟨v, rfl, r⟩ := t.one
    obtain ⟨a, vs, rfl, e1, t1⟩ := r.tup
    exact ⟨a, vs, rfl, .inr ⟨Same.sqT gh e1, q _ G H .refl gh (.of_rp (.tup e1 t1))⟩⟩
  · cases hz
theorem ok1_list : Op1 K 1 n (rLstOf K) listD := by
  intro B G H xs ds z Q gh t hz q
  unfold listD at hz
  split at hz
  · cases hz
    obtain ⟨v, rfl, r⟩ := t.one
    obtain ⟨a, vs, rfl, e1, t1⟩ := r.lst gh
    refine ⟨a, vs, rfl, .inl (SqL.of e1), fun p hp => ?_⟩
    have s2 : Stp [] G H (upd G p (.lst vs)) (upd H p (.lst vs)) := stp_pub gh hp
    exact q _ _ _ s2 (same_pub gh) (.of_rp (.lst upd_same ((RkAll.to_rp t1).mono s2.gg)))
  · cases hz
    obtain ⟨v, rfl, r⟩ := t.one
    obtain ⟨a, vs, rfl, e1, t1⟩ := r.tup
    refine ⟨a, vs, rfl, .inr (Same.sqT gh e1), fun p hp => ?_⟩
    have s2 : Stp [] G H (upd G p (.lst vs)) (upd H p (.lst vs)) := stp_pub gh hp
    exact q _ _ _ s2 (same_pub gh) (.of_rp (.lst upd_same (t1.mono s2.gg)))
  · cases hz
theorem ok1_all : Op1 K 1 n (rAll K) allD := by
  intro B G H xs ds z Q gh t hz q
  unfold allD at hz
  split at hz
  · obtain ⟨bs, e1, e2⟩ := Option.map_eq_some_iff.mp hz
    cases e2
    obtain ⟨v, rfl, r⟩ := t.one
    obtain ⟨a, vs, rfl, e3, t1⟩ := r.lst gh
    have e4 := bools_of (RkAll.to_rp t1) e1
    subst e4
    exact ⟨a, bs, rfl, SqL.of e3, q _ G H .refl gh (.of_rp (.bl _))⟩
  · cases hz
theorem ok1_any : Op1 K 1 n (rAny K) anyD := by
  intro B G H xs ds z Q gh t hz q
  unfold anyD at hz
  split at hz
  · obtain ⟨bs, e1, e2⟩ := Option.map_eq_some_iff.mp hz
    cases e2
    obtain ⟨v, rfl, r⟩ := t.one
    obtain ⟨a, vs, rfl, e3, t1⟩ := r.lst gh
    have e4 := bools_of (RkAll.to_rp t1) e1
    subst e4
    exact ⟨a, bs, rfl, SqL.of e3, q _ G H .refl gh (.of_rp (.bl _))⟩
  · cases hz
end
/-! ### min of a list of alike data -/
def alikeL (xs : List PyData) : Bool := xs.all fun x => plain x && (decide (x.depth ≤ 60) && ((match x with | .none => false | _ => true) && xs.all fun y => PySem.W.alike x y))
def minLD : List PyData → Option PyData
  | [.list (x :: xs)] => if alikeL (x :: xs) then some (PySem.W.minD x xs) else none
  | _ => none
def maxLD : List PyData → Option PyData
  | [.list (x :: xs)] => if alikeL (x :: xs) then some (PySem.W.maxD x xs) else none
  | _ => none
theorem alikeL_all {xs : List PyData} (h : alikeL xs = true) : PySem.W.AlikeAll xs ∧ plainAll xs = true ∧ PyData.depthAll xs ≤ 60 := by
  have h' := List.all_eq_true.mp h
  have hp : ∀ x ∈ xs, plain x = true ∧ x.depth ≤ 60 ∧ x ≠ .none ∧ ∀ y ∈ xs, PySem.W.alike x y = true := fun x hx => by
    have h1 := h' x hx
    simp only [Bool.and_eq_true] at h1
    obtain ⟨h1, h2, h3, h4⟩ := h1
    exact ⟨h1, of_decide_eq_true h2, (by rintro rfl; cases h3), fun y hy => List.all_eq_true.mp h4 y hy⟩
  refine ⟨⟨fun x hx y hy => (hp x hx).2.2.2 y hy, fun x hx => (hp x hx).2.2.1⟩, ?_, ?_⟩
  · clear h h'
    induction xs with
    | nil => simp [plainAll]
    | cons x r ih =>
      simp only [plainAll, Bool.and_eq_true]
      exact ⟨(hp x List.mem_cons_self).1, ih fun y hy => ⟨(hp y (List.mem_cons_of_mem _ hy)).1, (hp y (List.mem_cons_of_mem _ hy)).2.1, (hp y (List.mem_cons_of_mem _ hy)).2.2.1, fun z hz => (hp y (List.mem_cons_of_mem _ hy)).2.2.2 z (List.mem_cons_of_mem _ hz)⟩⟩
  · clear h h'
    induction xs with
    | nil => simp [PyData.depthAll]
    | cons x r ih =>
      have i1 := ih fun y hy => ⟨(hp y (List.mem_cons_of_mem _ hy)).1, (hp y (List.mem_cons_of_mem _ hy)).2.1, (hp y (List.mem_cons_of_mem _ hy)).2.2.1, fun z hz => (hp y (List.mem_cons_of_mem _ hy)).2.2.2 z (List.mem_cons_of_mem _ hz)⟩
      have i2 := (hp x List.mem_cons_self).2.1
      simp only [PyData.depthAll]
      omega
theorem foldl_mem {f : PyData → PyData → PyData} (hf : ∀ a b, f a b = a ∨ f a b = b) : ∀ (xs : List PyData) (x : PyData), xs.foldl f x ∈ x :: xs
  | [], x => List.mem_cons_self
  | y :: r, x => by
    have h := foldl_mem hf r (f x y)
    rw [List.foldl_cons]
    rcases List.mem_cons.mp h with h | h
    · rw [h]
      rcases hf x y with e | e
      · rw [e]; exact List.mem_cons_self
      · rw [e]; exact List.mem_cons_of_mem _ List.mem_cons_self
    · exact List.mem_cons_of_mem _ (List.mem_cons_of_mem _ h)
theorem minD_mem (x : PyData) (xs : List PyData) : PySem.W.minD x xs ∈ x :: xs := foldl_mem (fun a b => by by_cases h : PySem.W.dataLt b a = true <;> simp [h]) xs x
theorem maxD_mem (x : PyData) (xs : List PyData) : PySem.W.maxD x xs ∈ x :: xs := foldl_mem (fun a b => by by_cases h : PySem.W.dataLt a b = true <;> simp [h]) xs x
/-- min(l): the item that is least, as it stands in the list -/
def rMinD (K : PySem.W.Frag) (f : PyData → List PyData → PyData) : List V → Hp → VK → Prop := fun vs H Q => ∃ (a : Addr) (xs : List V) (d : PyData) (ds : List PyData), vs = [.ref a] ∧ SqL K H a xs ∧ DpAll K H xs (d :: ds) ∧ PySem.W.AlikeAll (d :: ds) ∧ PyData.depthAll (d :: ds) ≤ 60 ∧
  ∀ (i : Nat) (v : V), xs[i]? = some v → (d :: ds)[i]? = some (f d ds) → Q v H
theorem DpAll.length {K : PySem.W.Frag} {H : Hp} : ∀ {xs : List V} {ds : List PyData}, DpAll K H xs ds → xs.length = ds.length
  | _, _, .nil => rfl
  | _, _, .cons _ t => by rw [List.length_cons, List.length_cons, DpAll.length t]
section
variable {X : Cx}
theorem cr_minD (hc : X.calm = true) (hu : X.A.units + 100 < cLine) : CallR X (.builtin "min") (rMinD X.K PySem.W.minD) := by
  intro pins s σ H vs us Q I r h
  obtain ⟨a, xs, d, ds, rfl, hs, hd, ha, hz, q⟩ := h
  obtain ⟨its, rv, hl, _⟩ := I.list hs
  rw [Vals.ref1 r]
  obtain ⟨as, hr⟩ := Dp.readsAll I (d :: ds) xs its hd rv
  refine PySem.W.min_list_data (I.ok.hd hc) hl.isList (show ReadsAll s.heap its.toArray.toList (d :: ds) as from hr) ha (by omega) fun i v h' tk bs hv hrd hk => ?_
  have hv' : its[i]? = some v := by simpa using hv
  have hi : i < its.length := (List.getElem?_eq_some_iff.mp hv').1
  have hl2 := rv.length
  obtain ⟨w, hw⟩ : ∃ w, xs[i]? = some w := ⟨xs[i]'(by omega), List.getElem?_eq_getElem _⟩
  obtain ⟨u, e1, e2⟩ := rv.get hw
  rw [hv'] at e1
  cases e1
  have hld : xs.length = (d :: ds).length := DpAll.length hd
  have hid : i < (d :: ds).length := by omega
  have hri := PySem.W.readsAll_atA (show ReadsAll s.heap its.toArray.toList (d :: ds) as from hr) i v (by simpa using hv')
  obtain ⟨bs2, hr2, _, hm, _⟩ := hri
  have eD : (d :: ds).getD i .none = PySem.W.minD d ds := PySem.W.alike_unique _ _ v _ _ (ha.1 _ hm _ (minD_mem d ds)) (PySem.W.reads_keeps hk hr2) hrd
  refine ⟨w, H, I.kept (t' := tk) hk, e2, q i w hw ?_⟩
  rw [List.getElem?_eq_getElem hid, ← eD, List.getD_eq_getElem?_getD, List.getElem?_eq_getElem hid]
  rfl
theorem cr_maxD (hc : X.calm = true) (hu : X.A.units + 100 < cLine) : CallR X (.builtin "max") (rMinD X.K PySem.W.maxD) := by
  intro pins s σ H vs us Q I r h
  obtain ⟨a, xs, d, ds, rfl, hs, hd, ha, hz, q⟩ := h
  obtain ⟨its, rv, hl, _⟩ := I.list hs
  rw [Vals.ref1 r]
  obtain ⟨as, hr⟩ := Dp.readsAll I (d :: ds) xs its hd rv
  refine PySem.W.max_list_data (I.ok.hd hc) hl.isList (show ReadsAll s.heap its.toArray.toList (d :: ds) as from hr) ha (by omega) fun i v h' tk bs hv hrd hk => ?_
  have hv' : its[i]? = some v := by simpa using hv
  have hi : i < its.length := (List.getElem?_eq_some_iff.mp hv').1
  have hl2 := rv.length
  obtain ⟨w, hw⟩ : ∃ w, xs[i]? = some w := ⟨xs[i]'(by omega), List.getElem?_eq_getElem _⟩
  obtain ⟨u, e1, e2⟩ := rv.get hw
  rw [hv'] at e1
  cases e1
  have hld : xs.length = (d :: ds).length := DpAll.length hd
  have hid : i < (d :: ds).length := by omega
  have hri := PySem.W.readsAll_atA (show ReadsAll s.heap its.toArray.toList (d :: ds) as from hr) i v (by simpa using hv')
  obtain ⟨bs2, hr2, _, hm, _⟩ := hri
  have eD : (d :: ds).getD i .none = PySem.W.maxD d ds := PySem.W.alike_unique _ _ v _ _ (ha.1 _ hm _ (maxD_mem d ds)) (PySem.W.reads_keeps hk hr2) hrd
  refine ⟨w, H, I.kept (t' := tk) hk, e2, q i w hw ?_⟩
  rw [List.getElem?_eq_getElem hid, ← eD, List.getD_eq_getElem?_getD, List.getElem?_eq_getElem hid]
  rfl
end
section
variable {X : Cx} {K : PySem.W.Frag}
theorem cK_len (h : X.K = K) : CallR X (.builtin "len") (rLen K) := by subst h; exact call_len
theorem cK_tuple (h : X.K = K) : CallR X (.type "tuple") (rTupOf K) := by subst h; exact call_tuple_of
theorem cK_list (h : X.K = K) : CallR X (.type "list") (rLstOf K) := by subst h; exact call_list_of
theorem cK_all (h : X.K = K) (hc : X.calm = true) : CallR X (.builtin "all") (rAll K) := by subst h; exact cr_all hc
theorem cK_any (h : X.K = K) (hc : X.calm = true) : CallR X (.builtin "any") (rAny K) := by subst h; exact cr_any hc
theorem cK_min (h : X.K = K) (hc : X.calm = true) (hu : X.A.units + 100 < cLine) : CallR X (.builtin "min") (rMinD K PySem.W.minD) := by subst h; exact cr_minD hc hu
theorem cK_max (h : X.K = K) (hc : X.calm = true) (hu : X.A.units + 100 < cLine) : CallR X (.builtin "max") (rMinD K PySem.W.maxD) := by subst h; exact cr_maxD hc hu
end
section
variable {K : PySem.W.Frag} {n1 n : Nat}
theorem ok1_best {f : PyData → List PyData → PyData} (hm : ∀ x xs, f x xs ∈ x :: xs) : Op1 K 1 n (rMinD K f) (fun ds => match ds with
    | [.list (x :: xs)] => if alikeL (x :: xs) then some (f x xs) else none
    | _ => none) := by
  intro B G H xs ds z Q gh t hz q
  dsimp only at hz
  split at hz
  · split at hz
    · rename_i d ds h
      cases hz
      obtain ⟨v, rfl, r⟩ := t.one
      obtain ⟨a, vs, rfl, e1, t1⟩ := r.lst gh
      obtain ⟨h1, h2, h3⟩ := alikeL_all h
      refine ⟨a, vs, d, ds, rfl, SqL.of e1, RpAll.dp ((RkAll.to_rp t1).mono gh) h2, h1, h3, fun i v hv hd => ?_⟩
      obtain ⟨d', e2, r2⟩ := RpAll.getV (RkAll.to_rp t1) hv
      rw [hd] at e2
      cases e2
      exact q v G H .refl gh (.of_rp r2)
    · cases hz
  · cases hz
theorem ok1_minL : Op1 K 1 n (rMinD K PySem.W.minD) minLD := fun B G H xs ds z Q gh t hz q => ok1_best minD_mem B G H xs ds z Q gh t (by unfold minLD at hz; exact hz) q
theorem ok1_maxL : Op1 K 1 n (rMinD K PySem.W.maxD) maxLD := fun B G H xs ds z Q gh t hz q => ok1_best maxD_mem B G H xs ds z Q gh t (by unfold maxLD at hz; exact hz) q
end
end DL
namespace DL
open PySem PySem.Spec PyProof.Rows L2
/-! ### isinstance(x, T) -/
def tyName : PyData → String
  | .none => "NoneType"
  | .bool _ => "bool"
  | .int _ => "int"
  | .str _ => "str"
  | .list _ => "list"
  | .tuple _ => "tuple"
  | .dict [(.list _, .none)] => "list"
  | .dict _ => "dict"
theorem Rp.ty {K : PySem.W.Frag} {H : Hp} {v : V} {d : PyData} (h : Rp K H v d) (hp : plain d = true) : TyX K H v (.type (tyName d)) := by
  cases h with
  | non => exact .base .non
  | bl b => exact .base (.bl b)
  | int i => exact .base (.int i)
  | str x => exact .base (.str x)
  | lst e t => exact .base (.lst e)
  | tup e t =>
    rcases e with (e | ⟨o, e⟩) | ⟨o, its, n, e, c, _⟩
    · exact .base (.tup e)
    · exact .fTuple e
    · exact .kTuple e c
  | scr _ _ => simp [plain] at hp
  | dK _ _ _ => simp [plain] at hp
  | dT _ _ _ => simp [plain] at hp
def fIsi (T : String) (f : EF) : EF := fun ρ m => (f ρ m).bind fun p => if plain p.1 then (kitB (tyName p.1) T).map fun b => (.bool b, p.2) else none
section
variable {X : Cx} {κ : List Nat} {io : Option Nat} {n n1 n2 : Nat} {e a b c : Expr} {es : List Expr} {t ta tb : TE} {f g : EF} {pos p p2 p3 : Pos} {x y : Str}
theorem de_isi {T : String} {K : PySem.W.Frag} (hK : X.K = K) (hm : X.mg "isinstance" = none) (hm2 : X.mg y = none) (hv : bootBuiltins y = some (.type T)) (ha : DE X κ io n1 e t f) (hg : Gl X "isinstance" := by rfl) (hg2 : Gl X y := by rfl) (hn2 : y ≠ "__name__" := by decide) (hdb2 : (y == ("__debug__" : Str)) = false := by decide)
    (hs1 : starEach [e, .Name y p2] X.env = (false, eval e X.env) :: starEach [.Name y p2] X.env := by rfl) (hs2 : starEach [.Name y p2] X.env = (false, eval (.Name y p2) X.env) :: starEach [] X.env := by rfl) (hpl : (backTo pos (starEach [.Name y p2] X.env)).any (·.1) = false := by rfl) :
    DE X κ io n (.Call (.Name "isinstance" p) [e, .Name y p2] [] pos) (tCB (rIsi K) (tCons t (tCons (tC (.ty T)) tNil))) (fIsi T f) := by
  subst hK
  refine ⟨pe_callB call_isi hg hm (by first | rfl | decide +kernel) (pa_cons ha.pe (pa_cons (pe_bltn hg2 hm2 hv rfl hn2 hdb2) pa_nil hs2) hs1) (by decide) (by decide) hs1 hpl, fun G H σ ρ m A B Q d m' E hf q => ?_⟩
  obtain ⟨⟨z, m1⟩, e1, h1⟩ := Option.bind_eq_some_iff.mp (show (f ρ m).bind (fun p => if plain p.1 then (kitB (tyName p.1) T).map fun b => (PyData.bool b, p.2) else none) = some (d, m') from hf)
  dsimp only at h1
  split at h1
  · rename_i hp
    obtain ⟨k, e2, e3⟩ := Option.map_eq_some_iff.mp h1
    cases e3
    refine ha.sem G H σ ρ m A B _ _ _ E e1 fun v G1 H1 E1 s1 r1 => ?_
    exact ⟨v, .ty T, _, _, k, rfl, .ty T, Rp.ty (r1.inH E1.sub) hp, kit_ty e2, q _ G1 H1 E1 s1 (.of_rp (.bl _))⟩
  · cases h1
/-! ### slices -/
abbrev OF := DEnv → Io → Option (Option Int × Io)
def DOt (K : PySem.W.Frag) (κ : List Nat) (io : Option Nat) (t : TO) (f : OF) : Prop :=
  ∀ (G H : Hp) (σ : L2.St) (ρ : DEnv) (m : Io) (A B : List Addr) (Q : Option Int → Hp → Prop) (d : Option Int) (m' : Io), Env K κ io G H σ ρ m A B → f ρ m = some (d, m') →
    (∀ G' H', Env K κ io G' H' σ ρ m' A B → Stp B G H G' H' → Q d H') → t σ H Q
structure DO (X : Cx) (κ : List Nat) (io : Option Nat) (e : Option Expr) (t : TO) (f : OF) : Prop where
  po : PO X e t
  sem : DOt X.K κ io t f
def fNoPart : OF := fun _ m => some (none, m)
def fPart (f : EF) : OF := fun ρ m => (f ρ m).bind fun p => match p.1 with
  | .int i => some (some i, p.2)
  | _ => none
theorem do_none : DO X κ io none tNoPart fNoPart := ⟨po_none, fun G H σ ρ m A B Q d m' E hf q => by cases hf; exact q G H E .refl⟩
theorem do_some (h : DE X κ io n1 e t f) : DO X κ io (some e) (tPart t) (fPart f) := by
  refine ⟨po_some h.pe, fun G H σ ρ m A B Q d m' E hf q => ?_⟩
  obtain ⟨⟨z, m1⟩, e1, h1⟩ := Option.bind_eq_some_iff.mp (show (f ρ m).bind (fun p => match p.1 with | .int i => some (some i, p.2) | _ => none) = some (d, m') from hf)
  dsimp only at h1
  split at h1
  · cases h1
    exact h.sem G H σ ρ m A B _ _ _ E e1 fun v G1 H1 E1 s1 r1 => ⟨_, r1.int, q G1 H1 E1 s1⟩
  · cases h1
/-- the items of xs[lo:hi] -/
def cutD {α : Type} (xs : List α) (lo hi : Option Int) : List α := (xs.drop (HT.sIx xs.length 0 lo)).take (HT.sIx xs.length xs.length hi - HT.sIx xs.length 0 lo)
theorem RpAll.cut {K : PySem.W.Frag} {G : Hp} {vs : List V} {ds : List PyData} (t : RpAll K G vs ds) (lo hi : Option Int) : RpAll K G (cutV vs lo hi) (cutD ds lo hi) := by
  unfold cutV cutD
  rw [t.length]
  exact (t.drop _).take _
theorem cutD_all {α : Type} {xs : List α} {lo hi : Option Int} (h1 : HT.sIx xs.length 0 lo = 0) (h2 : HT.sIx xs.length xs.length hi = xs.length) : cutD xs lo hi = xs := by
  unfold cutD
  rw [h1, h2]
  simp
def slD (d : PyData) (lo hi : Option Int) : Option PyData := match d with
  | .list xs => some (.list (cutD xs lo hi))
  | .tuple xs => some (.tuple (cutD xs lo hi))
  | _ => none
def fSl (f : EF) (g h : OF) : EF := fun ρ m => (f ρ m).bind fun p => (g ρ p.2).bind fun q => (h ρ q.2).bind fun r => (slD p.1 q.1 r.1).map fun z => (z, r.2)
def rSlD (K : PySem.W.Frag) : V → Option Int → Option Int → Hp → VK → Prop := fun x lo hi H Q => rSlL K x lo hi H Q ∨ rSlA K x lo hi H Q
theorem sl_D : SlR X (rSlD X.K) := SlR.or sl_list sl_tupA
variable {lo hi : Option Expr} {tl th : TO} {fl fh : OF}
theorem de_slice {K : PySem.W.Frag} (hK : X.K = K) (ha : DE X κ io 1 e t f) (hl : DO X κ io lo tl fl) (hh : DO X κ io hi th fh) : DE X κ io n (.Subscript e (.Slice lo hi none p2) pos) (tSl (rSlD K) t tl th) (fSl f fl fh) := by
  subst hK
  refine ⟨pe_slice sl_D ha.pe hl.po hh.po, fun G H σ ρ m A B Q d m' E hf q => ?_⟩
  obtain ⟨⟨z, m1⟩, e1, h1⟩ := Option.bind_eq_some_iff.mp (show (f ρ m).bind (fun p => (fl ρ p.2).bind fun q => (fh ρ q.2).bind fun r => (slD p.1 q.1 r.1).map fun z => (z, r.2)) = some (d, m') from hf)
  obtain ⟨⟨i, m2⟩, e2, h2⟩ := Option.bind_eq_some_iff.mp h1
  obtain ⟨⟨j, m3⟩, e3, h3⟩ := Option.bind_eq_some_iff.mp h2
  obtain ⟨w, e4, h4⟩ := Option.map_eq_some_iff.mp h3
  cases h4
  refine ha.sem G H σ ρ m A B _ _ _ E e1 fun v G1 H1 E1 s1 r1 => ?_
  refine hl.sem G1 H1 σ ρ m1 A B _ _ _ E1 e2 fun G2 H2 E2 s2 => ?_
  refine hh.sem G2 H2 σ ρ m2 A B _ _ _ E2 e3 fun G3 H3 E3 s3 => ?_
  have r3 := (r1.step s2).step s3
  have ss := (s1.trans s2).trans s3
  unfold slD at e4
  dsimp only at e4
  split at e4
  · cases e4
    obtain ⟨a, vs, rfl, h1, t1⟩ := r3.lst E3.sub
    refine .inl ⟨a, vs, rfl, SqL.of h1, fun p hp => ?_⟩
    have s4 : Stp [] G3 H3 (upd G3 p (.lst (cutV vs i j))) (upd H3 p (.lst (cutV vs i j))) := stp_pub E3.sub hp
    exact q _ _ _ (E3.keep s4 (same_pub E3.sub)) (ss.trans s4.any) (.of_rp (.lst upd_same (((RkAll.to_rp t1).cut i j).mono s4.gg)))
  · cases e4
    obtain ⟨a, vs, rfl, h1, t1⟩ := r3.tup
    refine .inr ⟨a, vs, rfl, Same.sqT E3.sub h1, fun hw => ?_, fun _ p hp => ?_⟩
    · rw [t1.length] at hw
      rw [cutD_all hw.1 hw.2] at q
      exact q _ G3 H3 E3 ss (.of_rp (.tup h1 t1))
    · have s4 : Stp [] G3 H3 (upd G3 p (.tup (cutV vs i j))) (upd H3 p (.tup (cutV vs i j))) := stp_pub E3.sub hp
      exact q _ _ _ (E3.keep s4 (same_pub E3.sub)) (ss.trans s4.any) (.of_rp (.tup (.inl (.inl upd_same)) ((t1.cut i j).mono s4.gg)))
  · cases e4
/-- xs[::-1] of a list -/
def revD : PyData → Option PyData
  | .list xs => some (.list xs.reverse)
  | _ => none
theorem de_rev {k : Nat} {p4 : Pos} {K : PySem.W.Frag} (hK : X.K = K) (ha : DE X κ io 1 e t f) : DE X κ io n (.Subscript e (.Slice none none (some (.UnaryOp .USub (.Constant (.int 1) k p2) p3)) p4) pos) (tRevL K t) (fUn revD f) := by
  subst hK
  refine ⟨pe_revL ha.pe, fun G H σ ρ m A B Q d m' E hf q => ?_⟩
  obtain ⟨⟨z, m1⟩, e1, h1⟩ := Option.bind_eq_some_iff.mp (show (f ρ m).bind (fun p => (revD p.1).map fun z => (z, p.2)) = some (d, m') from hf)
  obtain ⟨w, e2, h2⟩ := Option.map_eq_some_iff.mp h1
  cases h2
  unfold revD at e2
  dsimp only at e2
  split at e2
  · cases e2
    refine ha.sem G H σ ρ m A B _ _ _ E e1 fun v G1 H1 E1 s1 r1 => ?_
    obtain ⟨a, vs, rfl, h1, t1⟩ := r1.lst E1.sub
    refine ⟨a, vs, rfl, SqL.of h1, fun p hp => ?_⟩
    have s4 : Stp [] G1 H1 (upd G1 p (.lst vs.reverse)) (upd H1 p (.lst vs.reverse)) := stp_pub E1.sub hp
    exact q _ _ _ (E1.keep s4 (same_pub E1.sub)) (s1.trans s4.any) (.of_rp (.lst upd_same ((RkAll.to_rp t1).reverse.mono s4.gg)))
  · cases e2
/-! ### list(range(n)) -/
def rgD (n : Nat) : List PyData := (List.range n).map fun i => PyData.int (i : Nat)
def listRg : PyData → Option PyData
  | .int i => if decide (0 ≤ i) && decide (i ≤ 16777216) then some (.list (rgD i.toNat)) else none
  | _ => none
theorem rp_rg {K : PySem.W.Frag} {G : Hp} (i : Int) (h : 0 ≤ i) : RpAll K G (rgV 0 i) (rgD i.toNat) := by
  unfold rgV rgD
  have e : (i - 0).toNat = i.toNat := by omega
  rw [e]
  generalize List.range i.toNat = l
  induction l with
  | nil => exact .nil
  | cons x r ih =>
    refine .cons ?_ ih
    have e2 : (0 : Int) + (x : Nat) = (x : Nat) := by omega
    dsimp only
    rw [e2]
    exact .int _
theorem de_listRg (hc : X.calm = true) (hm : X.mg "list" = none) (hm2 : X.mg "range" = none) (ha : DE X κ io n1 a ta f) (hg : Gl X "list" := by rfl) (hg2 : Gl X "range" := by rfl)
    (na : starEach [a] X.env = (false, eval a X.env) :: starEach [] X.env := by rfl)
    (na2 : starEach [.Call (.Name "range" p2) [a] [] p3] X.env = (false, eval (.Call (.Name "range" p2) [a] [] p3) X.env) :: starEach [] X.env := by rfl) :
    DE X κ io n (.Call (.Name "list" p) [.Call (.Name "range" p2) [a] [] p3] [] pos) (tLstRg (tRg1 ta)) (fUn listRg f) := by
  refine ⟨pe_listRg hc hg hm (prg_1 hg2 hm2 ha.pe na) na2, fun G H σ ρ m A B Q d m' E hf q => ?_⟩
  obtain ⟨⟨z, m1⟩, e1, h1⟩ := Option.bind_eq_some_iff.mp (show (f ρ m).bind (fun p => (listRg p.1).map fun z => (z, p.2)) = some (d, m') from hf)
  obtain ⟨w, e2, h2⟩ := Option.map_eq_some_iff.mp h1
  cases h2
  unfold listRg at e2
  dsimp only at e2
  split at e2
  · split at e2
    · rename_i i hz
      cases e2
      obtain ⟨z1, z2⟩ := Bool.and_eq_true_iff.mp hz
      have z1 := of_decide_eq_true z1
      have z2 := of_decide_eq_true z2
      refine ha.sem G H σ ρ m A B _ _ _ E e1 fun v G1 H1 E1 s1 r1 => ?_
      refine ⟨i, r1.int, RgOk.of_le (by omega) (by omega) (by omega) (by omega), fun p hp => ?_⟩
      have s4 : Stp [] G1 H1 (upd G1 p (.lst (rgV 0 i))) (upd H1 p (.lst (rgV 0 i))) := stp_pub E1.sub hp
      exact q _ _ _ (E1.keep s4 (same_pub E1.sub)) (s1.trans s4.any) (.of_rp (.lst upd_same (rp_rg i z1)))
    · cases e2
  · cases e2
end
/-! ### defs -/
/-- a def's promise by a function over data -/
def spP (K : PySem.W.Frag) (M : List PyData → Option PyData) : Sp := fun vs H Q _ => ∃ (ds : List PyData) (d : PyData) (G : Hp), RpAll K G vs ds ∧ Same G H ∧ M ds = some d ∧
  ∀ v G' H', Stp [] G H G' H' → Same G' H' → Rp K G' v d → Q v H'
/-- .. of a def whose first parameter is a dict that it may change -/
def spI (K : PySem.W.Frag) (M : PyData → List PyData → Option (PyData × PyData)) : Sp := fun vs H Q _ => ∃ (a : Addr) (ws : List V) (c : PyData) (ds : List PyData) (d c' : PyData) (G : Hp), vs = .ref a :: ws ∧ G a = none ∧ Ow K G H 1 (.ref a) c [a] ∧
  RpAll K G ws ds ∧ Same G H ∧ M c ds = some (d, c') ∧ ∀ v G' H', Stp [a] G H G' H' → Same G' H' → Ow K G' H' 1 (.ref a) c' [a] → Rp K G' v d → Q v H'
def fCallI (M : PyData → List PyData → Option (PyData × PyData)) (h : AF) : EF := fun ρ m => m.bind fun _ => (h ρ m).bind fun p => p.2.bind fun c => (M c p.1).map fun q => (q.1, some q.2)
section
variable {X : Cx} {κ : List Nat} {io : Option Nat} {n n1 k : Nat} {e : Expr} {es : List Expr} {t : TA} {h : AF} {pos p p2 : Pos} {x y : Str} {f : Addr} {fd : FuncData} {ps : List Str}
theorem de_call {M : List PyData → Option PyData} (F : FnOk X.prog X.w X.K X.mg X.base CX0 k f fd ps (spP X.K M)) (hr : Room k X.A) (hm : X.mg x = some (.ref f)) (hk : PySem.W.keepIn X.K (.ref f) = true) (hb : Binds X.K fd ps [])
    (ha : DA X κ io 0 (e :: es) t h) (hg : Gl X x := by rfl) (hdb : (x == ("__debug__" : Str)) = false := by decide) (he : starEach (e :: es) X.env = (false, eval e X.env) :: starEach es X.env := by rfl) (hpl : (backTo pos (starEach es X.env)).any (·.1) = false := by rfl) :
    DE X κ io n (.Call (.Name x p) (e :: es) [] pos) (tCall (spP X.K M) [] E0 t) (fCall M h) := by
  refine ⟨pe_call F hr hg hm hk hb .nil pass0 ha.pa hdb he hpl, fun G H σ ρ m A B Q d m' E hf q => ?_⟩
  obtain ⟨⟨ds, m1⟩, e1, h1⟩ := Option.bind_eq_some_iff.mp (show (h ρ m).bind (fun p => (M p.1).map fun z => (z, p.2)) = some (d, m') from hf)
  obtain ⟨z, e2, h2⟩ := Option.map_eq_some_iff.mp h1
  cases h2
  refine ha.sem G H σ ρ m A B _ ds _ E e1 fun vs G1 H1 E1 s1 r1 => ?_
  show spP X.K M (vs ++ []) H1 Q E0
  rw [List.append_nil]
  exact ⟨ds, _, G1, RkAll.to_rp r1, E1.sub, e2, fun v G2 H2 s2 gh r2 => q v G2 H2 (E1.keep s2 gh) (s1.trans s2.any) (.of_rp r2)⟩
theorem IoA.step {K : PySem.W.Frag} {G G' H H' : Hp} {σ : L2.St} {a : Addr} {d d' : PyData} {B : List Addr} (h : IoA K G H io σ (some d) B) (hB : B = [a]) (o : Ow K G' H' 1 (.ref a) d' [a]) : IoA K G' H' io σ (some d') B := by
  obtain ⟨i, b, e1, e2, o2, e3⟩ := h
  subst hB
  cases e3
  exact ⟨i, a, e1, e2, o, rfl⟩
theorem Env.ioStep {K : PySem.W.Frag} {G G' H H' : Hp} {σ : L2.St} {ρ : DEnv} {A B : List Addr} {a : Addr} {d d' : PyData} (E : Env K κ io G H σ ρ (some d) A B) (hB : B = [a]) (s : Stp B G H G' H') (gh : Same G' H') (o : Ow K G' H' 1 (.ref a) d' [a]) :
    Env K κ io G' H' σ ρ (some d') A B :=
  ⟨E.env.keep s.gg fun b hb o ho => s.hh b o (E.nAB hb) ho, E.iom.step hB o, E.nd, gh, fun b hb => s.fr b (E.thereA b hb) (E.free b hb)⟩
theorem de_callI {i : Nat} {M : PyData → List PyData → Option (PyData × PyData)} (F : FnOk X.prog X.w X.K X.mg X.base CX0 k f fd ps (spI X.K M)) (hr : Room k X.A) (hm : X.mg x = some (.ref f)) (hk : PySem.W.keepIn X.K (.ref f) = true) (hb : Binds X.K fd ps [])
    (hv : PE X (.Name y p2) (tVar i)) (hi : io = some i) (ha : DA X κ io 0 es t h) (hg : Gl X x := by rfl) (hdb : (x == ("__debug__" : Str)) = false := by decide)
    (he : starEach (.Name y p2 :: es) X.env = (false, eval (.Name y p2) X.env) :: starEach es X.env := by rfl) (hpl : (backTo pos (starEach es X.env)).any (·.1) = false := by rfl) :
    DE X κ io n (.Call (.Name x p) (.Name y p2 :: es) [] pos) (tCall (spI X.K M) [] E0 (tCons (tVar i) t)) (fCallI M h) := by
  refine ⟨pe_call F hr hg hm hk hb .nil pass0 (pa_cons hv ha.pa he) hdb he hpl, fun G H σ ρ m A B Q d m' E hf q => ?_⟩
  obtain ⟨c0, e0, h0⟩ := Option.bind_eq_some_iff.mp (show m.bind (fun _ => (h ρ m).bind fun p => p.2.bind fun c => (M c p.1).map fun q => (q.1, some q.2)) = some (d, m') from hf)
  obtain ⟨⟨ds, m1⟩, e1, h1⟩ := Option.bind_eq_some_iff.mp h0
  obtain ⟨c, e2, h2⟩ := Option.bind_eq_some_iff.mp h1
  obtain ⟨⟨z, c'⟩, e3, h3⟩ := Option.map_eq_some_iff.mp h2
  cases h3
  dsimp only at e2
  subst e2
  subst e0
  obtain ⟨j, a, ej, es, _, eB⟩ := E.iom
  rw [hi] at ej
  cases ej
  refine ⟨.ref a, es, ?_⟩
  refine ha.sem G H σ ρ _ A B _ ds _ E e1 fun vs G1 H1 E1 s1 r1 => ?_
  show spI X.K M (.ref a :: vs ++ []) H1 Q E0
  rw [List.append_nil]
  obtain ⟨j', a', ej', es', o', eB'⟩ := E1.iom
  rw [eB] at eB'
  cases eB'
  refine ⟨a, vs, c, ds, _, c', G1, rfl, E1.free a (by rw [eB]; simp), o', RkAll.to_rp r1, E1.sub, e3, fun v G2 H2 s2 gh o2 r2 => ?_⟩
  rw [← eB] at s2
  exact q v G2 H2 (E1.ioStep eB s2 gh o2) (s1.trans s2) (.of_rp r2)
/-- made[k] -/
def fIoIx (g : EF) : EF := fun ρ m => (g ρ m).bind fun p => p.2.bind fun c => (ixD c p.1).map fun z => (z, p.2)
def fIoGet (g : EF) : EF := fun ρ m => m.bind fun _ => fIoIx g ρ m
theorem de_ioIx {i : Nat} {b : Expr} {tb : TE} {g : EF} {K : PySem.W.Frag} (hK : X.K = K) (hu : X.A.units + 1 < cLine) (hv : PE X (.Name y p2) (tVar i)) (hi : io = some i) (hb : DE X κ io 0 b tb g) (hs : PlainIx b := by exact fun _ _ => rfl) :
    DE X κ io 0 (.Subscript (.Name y p2) b pos) (tOp (rIxD K) (tVar i) tb) (fIoGet g) := by
  subst hK
  refine ⟨pe_ix (ix_D hu) hv hb.pe hs, fun G H σ ρ m A B Q d m' E hf q => ?_⟩
  obtain ⟨c0, e0, h0⟩ := Option.bind_eq_some_iff.mp (show m.bind (fun _ => (g ρ m).bind fun p => p.2.bind fun c => (ixD c p.1).map fun z => (z, p.2)) = some (d, m') from hf)
  obtain ⟨⟨k, m1⟩, e1, h1⟩ := Option.bind_eq_some_iff.mp h0
  obtain ⟨c, e2, h2⟩ := Option.bind_eq_some_iff.mp h1
  obtain ⟨z, e3, h3⟩ := Option.map_eq_some_iff.mp h2
  cases h3
  dsimp only at e2
  subst e2
  subst e0
  obtain ⟨j, a, ej, es, _, eB⟩ := E.iom
  rw [hi] at ej
  cases ej
  refine ⟨.ref a, es, ?_⟩
  refine hb.sem G H σ ρ _ A B _ k _ E e1 fun v G1 H1 E1 s1 r1 => ?_
  obtain ⟨j', a', ej', es', o', eB'⟩ := E1.iom
  rw [eB] at eB'
  cases eB'
  exact ok2_ix (n := 0) (n2 := 0) [] G1 H1 (.ref a) v c k _ Q E1.sub (o'.rk fun _ _ z => by cases z) r1 e3 fun w G2 H2 s2 gh r2 => q w G2 H2 (E1.keep s2 gh) (s1.trans s2.any) r2
end
/-! ### a def as it stands, kept by its name -/
structure Callee (P : Program) (w : World) (K : PySem.W.Frag) (mg : Str → Option Value) (base : Heap) (x : Str) (ps : List Str) (k : Nat) (sp : Sp) where
  f : Addr
  fd : FuncData
  ok : FnOk P w K mg base CX0 k f fd ps sp
  m : mg x = some (.ref f)
  kp : PySem.W.keepIn K (.ref f) = true
  b : Binds K fd ps []
section
variable {X : Cx} {κ : List Nat} {io : Option Nat} {n n1 k j : Nat} {e : Expr} {es : List Expr} {t : TA} {h : AF} {pos p p2 : Pos} {x y : Str} {ps : List Str}
theorem de_callC {M : List PyData → Option PyData} {K : PySem.W.Frag} (hK : X.K = K) (C : Callee X.prog X.w X.K X.mg X.base x ps j (spP X.K M)) (hr : Room k X.A) (hk : j ≤ k)
    (ha : DA X κ io 0 (e :: es) t h) (hg : Gl X x := by rfl) (hdb : (x == ("__debug__" : Str)) = false := by decide) (he : starEach (e :: es) X.env = (false, eval e X.env) :: starEach es X.env := by rfl) (hpl : (backTo pos (starEach es X.env)).any (·.1) = false := by rfl) :
    DE X κ io n (.Call (.Name x p) (e :: es) [] pos) (tCall (spP K M) [] E0 t) (fCall M h) := by subst hK; exact de_call C.ok (hr.mono hk) C.m C.kp C.b ha hg hdb he hpl
theorem de_callIC {i : Nat} {M : PyData → List PyData → Option (PyData × PyData)} {K : PySem.W.Frag} (hK : X.K = K) (C : Callee X.prog X.w X.K X.mg X.base x ps j (spI X.K M)) (hr : Room k X.A) (hk : j ≤ k)
    (hv : PE X (.Name y p2) (tVar i)) (hi : io = some i) (ha : DA X κ io 0 es t h) (hg : Gl X x := by rfl) (hdb : (x == ("__debug__" : Str)) = false := by decide)
    (he : starEach (.Name y p2 :: es) X.env = (false, eval (.Name y p2) X.env) :: starEach es X.env := by rfl) (hpl : (backTo pos (starEach es X.env)).any (·.1) = false := by rfl) :
    DE X κ io n (.Call (.Name x p) (.Name y p2 :: es) [] pos) (tCall (spI K M) [] E0 (tCons (tVar i) t)) (fCallI M h) := by subst hK; exact de_callI C.ok (hr.mono hk) C.m C.kp C.b hv hi ha hg hdb he hpl
end
end DL
namespace DL
open PySem PySem.Spec PyProof.Rows L2
/-! ### frozen slots set and wiped -/
def wipeD (ρ : DEnv) : List Nat → DEnv
  | [] => ρ
  | v :: vs => (wipeD ρ vs).set v none
section
variable {K : PySem.W.Frag} {G G' H H' : Hp} {κ : List Nat} {io : Option Nat} {σ : L2.St} {ρ : DEnv} {m : Io} {A B : List Addr}
theorem EnvA.set0 {x : V} {d : PyData} (r : Rp K G x d) : ∀ {κ : List Nat} {σ : L2.St} {ρ : DEnv} {A : List Addr} {i : Nat}, EnvA K G H κ σ ρ A → κ[i]? = some 0 → EnvA K G H κ (σ.set i (some x)) (ρ.set i (some d)) A
  | _, _, _, _, _, .nil, e => by simp at e
  | _, _, _, _, 0, .no t, e => by
    simp at e; subst e
    exact EnvA.so (A := []) (Ow.zero r) t
  | _, _, _, _, i + 1, .no t, e => .no (EnvA.set0 r t (by simpa using e))
  | _, _, _, _, 0, .so o t, e => by
    simp at e; subst e
    obtain ⟨_, rfl⟩ := (show Rp K G _ _ ∧ _ = [] from o)
    exact EnvA.so (A := []) (Ow.zero r) t
  | _, _, _, _, i + 1, .so o t, e => .so o (EnvA.set0 r t (by simpa using e))
theorem EnvA.unset0 : ∀ {κ : List Nat} {σ : L2.St} {ρ : DEnv} {A : List Addr} {i : Nat}, EnvA K G H κ σ ρ A → κ[i]? = some 0 → EnvA K G H κ (σ.set i none) (ρ.set i none) A
  | _, _, _, _, _, .nil, e => by simp at e
  | _, _, _, _, 0, .no t, e => .no t
  | _, _, _, _, i + 1, .no t, e => .no (EnvA.unset0 t (by simpa using e))
  | _, _, _, _, 0, .so o t, e => by
    simp at e; subst e
    obtain ⟨_, rfl⟩ := (show Rp K G _ _ ∧ _ = [] from o)
    exact .no t
  | _, _, _, _, i + 1, .so o t, e => .so o (EnvA.unset0 t (by simpa using e))
theorem IoA.set {i : Nat} {x : Option V} (h : IoA K G H io σ m B) (hi : io ≠ some i) : IoA K G H io (σ.set i x) m B := by
  cases m with
  | none => exact h
  | some d =>
    obtain ⟨j, a, e1, e2, o, e3⟩ := h
    refine ⟨j, a, e1, ?_, o, e3⟩
    rw [List.getElem?_set_ne (fun z => hi (by rw [z]; exact e1))]
    exact e2
theorem Env.set0 {i : Nat} {x : V} {d : PyData} (E : Env K κ io G H σ ρ m A B) (hk : κ[i]? = some 0) (hi : io ≠ some i) (r : Rp K G x d) : Env K κ io G H (σ.set i (some x)) (ρ.set i (some d)) m A B :=
  ⟨E.env.set0 r hk, E.iom.set hi, E.nd, E.sub, E.free⟩
theorem Env.unset0 {i : Nat} (E : Env K κ io G H σ ρ m A B) (hk : κ[i]? = some 0) (hi : io ≠ some i) : Env K κ io G H (σ.set i none) (ρ.set i none) m A B :=
  ⟨E.env.unset0 hk, E.iom.set hi, E.nd, E.sub, E.free⟩
theorem Env.wipe (E : Env K κ io G H σ ρ m A B) : ∀ {vs : List Nat}, (∀ i ∈ vs, κ[i]? = some 0 ∧ io ≠ some i) → Env K κ io G H (L2.wipe σ vs) (wipeD ρ vs) m A B
  | [], _ => E
  | v :: vs, h => (Env.wipe E fun i hi => h i (List.mem_cons_of_mem _ hi)).unset0 (h v List.mem_cons_self).1 (h v List.mem_cons_self).2
/-- pending objects beside: what the steps keep -/
theorem Stp.at (s : Stp B G H G' H') {p : Addr} {o : HO} (hp : p ∉ B) (h : H p = some o) : H' p = some o := s.hh p o hp h
end
theorem wipe_get (σ : L2.St) (j : Nat) : ∀ vs : List Nat, (L2.wipe σ vs)[j]? = if j ∈ vs then (if j < σ.length then some none else none) else σ[j]?
  | [] => by simp [L2.wipe]
  | v :: vs => by
    unfold L2.wipe
    by_cases e : v = j
    · subst e
      rw [if_pos List.mem_cons_self]
      by_cases h : v < σ.length
      · rw [List.getElem?_set_self (by rw [wipe_length]; exact h), if_pos h]
      · rw [if_neg h]
        exact List.getElem?_eq_none (by rw [List.length_set, wipe_length]; omega)
    · rw [List.getElem?_set_ne e, wipe_get σ j vs]
      by_cases h : j ∈ vs
      · rw [if_pos h, if_pos (List.mem_cons_of_mem _ h)]
      · rw [if_neg h, if_neg (fun z => (List.mem_cons.mp z).elim (fun q => e q.symm) h)]
theorem wipe_set {σ : L2.St} {i : Nat} {x : Option V} {vs : List Nat} (h : i ∈ vs) : L2.wipe (σ.set i x) vs = L2.wipe σ vs := by
  refine List.ext_getElem? fun j => ?_
  rw [wipe_get, wipe_get, List.length_set]
  by_cases e : j ∈ vs
  · rw [if_pos e, if_pos e]
  · rw [if_neg e, if_neg e, List.getElem?_set_ne (by rintro rfl; exact e h)]
theorem wipe_wipe {σ : L2.St} {vs : List Nat} : L2.wipe (L2.wipe σ vs) vs = L2.wipe σ vs := by
  refine List.ext_getElem? fun j => ?_
  rw [wipe_get, wipe_length]
  by_cases e : j ∈ vs
  · rw [if_pos e, wipe_get, if_pos e]
  · rw [if_neg e]
/-! ### what is walked -/
def IterAt (K : PySem.W.Frag) (J : It) (ds : List PyData) (G H : Hp) : Prop :=
  J.stop ds.length H ∧ ∀ i d, ds[i]? = some d → J.go i H ∧ ∀ x H', J.yld i H x H' → ∃ G', Stp [] G H G' H' ∧ Same G' H' ∧ Rp K G' x d
/-- walked in a loop: it stands in G -/
def IterS (K : PySem.W.Frag) (G0 : Hp) (J : It) (ds : List PyData) : Prop := ∀ G H, Same G0 G → Same G H → IterAt K J ds G H
/-- walked in a comprehension -/
def IterD (K : PySem.W.Frag) (B : List Addr) (G0 H0 : Hp) (J : It) (ds : List PyData) : Prop := ∀ G H, Stp B G0 H0 G H → Same G H → IterAt K J ds G H
structure DI (X : Cx) (κ : List Nat) (io : Option Nat) (tg iter : Expr) (w : TI) (f : AF) : Prop where
  pi : PI X tg iter w
  sem : ∀ (G H : Hp) (σ : L2.St) (ρ : DEnv) (m : Io) (A B : List Addr) (R : It → Hp → Prop) (ds : List PyData) (m' : Io), Env X.K κ io G H σ ρ m A B → f ρ m = some (ds, m') →
    (∀ J G' H', Env X.K κ io G' H' σ ρ m' A B → Stp B G H G' H' → IterS X.K G' J ds → R J H') → w σ H R
structure DJ (X : Cx) (κ : List Nat) (io : Option Nat) (tg iter : Expr) (w : TI) (f : AF) : Prop where
  pi : PI X tg iter w
  sem : ∀ (G H : Hp) (σ : L2.St) (ρ : DEnv) (m : Io) (A B : List Addr) (R : It → Hp → Prop) (ds : List PyData) (m' : Io), Env X.K κ io G H σ ρ m A B → f ρ m = some (ds, m') →
    (∀ J G' H', Env X.K κ io G' H' σ ρ m' A B → Stp B G H G' H' → IterD X.K B G' H' J ds → R J H') → w σ H R
def itemsD : PyData → Option (List PyData)
  | .list xs => some xs
  | .tuple xs => some xs
  | _ => none
def fItems (f : EF) : AF := fun ρ m => (f ρ m).bind fun p => (itemsD p.1).map fun xs => (xs, p.2)
def iSeq (K : PySem.W.Frag) (tl : TE) : TI := fun σ H R => tl σ H fun x H1 => ∃ a, x = .ref a ∧ (((∃ xs, SqL K H1 a xs) ∧ R (Itl K a) H1) ∨ ((∃ xs, SqT K H1 a xs) ∧ R (Itt K a) H1))
section
variable {X : Cx} {κ : List Nat} {io : Option Nat} {tg l : Expr} {tl : TE} {f : EF} {n1 : Nat}
theorem DI.dj {w : TI} {h : AF} (d : DI X κ io tg l w h) : DJ X κ io tg l w h := ⟨d.pi, fun G H σ ρ m A B R ds m' E hf q => d.sem G H σ ρ m A B R ds m' E hf fun J G' H' E' s it => q J G' H' E' s fun G2 H2 s2 gh => it G2 H2 s2.gg gh⟩
theorem pi_seq (hl : PE X l tl) : PI X tg l (iSeq X.K tl) := by
  refine ⟨fun pins s σ H R I h => ?_⟩
  refine thn (hl.run pins s σ H _ I h) fun v s1 ⟨x, H1, I1, r1, q1⟩ => ?_
  obtain ⟨a, e, q⟩ := q1
  subst e
  cases r1
  rcases q with ⟨⟨xs, hq⟩, q⟩ | ⟨⟨xs, hq⟩, q⟩
  · obtain ⟨its, rv, p, hz⟩ := I1.list hq
    refine wpAny_pyIter_list p.isList ?_
    refine ⟨s1.heap.objs.size, [s1.heap.objs.size], _, _, H1, rfl, I1.kept (t' := s1.toks) fun b o e => Heap.get?_push_of_some _ e, turn_list a _, ⟨_, Heap.get?_push_size _ rfl, rfl, rfl⟩, fun b hb => ?_, q⟩
    have e : b = s1.heap.objs.size := by simpa using hb
    subst e
    exact I1.fpOk (Nat.le_refl _) (I1.hok.fresh (Nat.le_refl _))
  · obtain ⟨its, rv, p, hz⟩ := I1.tuple hq
    refine wpAny_pyIter_tuple (show s1.heap.IsTuple a its.toArray from p) ?_
    refine ⟨s1.heap.objs.size, [s1.heap.objs.size], _, _, H1, rfl, I1.kept (t' := s1.toks) fun b o e => Heap.get?_push_of_some _ e, turn_tuple a _, ⟨_, Heap.get?_push_size _ rfl, rfl, rfl⟩, fun b hb => ?_, q⟩
    have e : b = s1.heap.objs.size := by simpa using hb
    subst e
    exact I1.fpOk (Nat.le_refl _) (I1.hok.fresh (Nat.le_refl _))
theorem iter_lst {K : PySem.W.Frag} {G H : Hp} {a : Addr} {vs : List V} {ds : List PyData} (h : SqL K H a vs) (t : RpAll K G vs ds) (gh : Same G H) : IterAt K (Itl K a) ds G H :=
  ⟨⟨vs, h, by rw [t.length]; exact Nat.le_refl _⟩, fun i d hd => by
    obtain ⟨v, hv, r⟩ := t.get hd
    refine ⟨⟨vs, v, h, hv⟩, fun x H' hy => ?_⟩
    obtain ⟨rfl, hx⟩ := hy
    have e := hx vs h
    rw [hv] at e
    cases e
    exact ⟨G, .refl, gh, r⟩⟩
theorem iter_tup {K : PySem.W.Frag} {G H : Hp} {a : Addr} {vs : List V} {ds : List PyData} (h : SqT K H a vs) (t : RpAll K G vs ds) (gh : Same G H) : IterAt K (Itt K a) ds G H :=
  ⟨⟨vs, h, by rw [t.length]; exact Nat.le_refl _⟩, fun i d hd => by
    obtain ⟨v, hv, r⟩ := t.get hd
    refine ⟨⟨vs, v, h, hv⟩, fun x H' hy => ?_⟩
    obtain ⟨rfl, hx⟩ := hy
    have e := hx vs h
    rw [hv] at e
    cases e
    exact ⟨G, .refl, gh, r⟩⟩
theorem items_inv {d : PyData} {ds : List PyData} (h : itemsD d = some ds) : d = .list ds ∨ d = .tuple ds := by
  cases d <;> cases h
  · exact .inl rfl
  · exact .inr rfl
theorem di_seq {K : PySem.W.Frag} (hK : X.K = K) (ha : DE X κ io 0 l tl f) : DI X κ io tg l (iSeq K tl) (fItems f) := by
  subst hK
  refine ⟨pi_seq ha.pe, fun G H σ ρ m A B R ds m' E hf q => ?_⟩
  obtain ⟨⟨d, m1⟩, e1, h1⟩ := Option.bind_eq_some_iff.mp (show (f ρ m).bind (fun p => (itemsD p.1).map fun xs => (xs, p.2)) = some (ds, m') from hf)
  obtain ⟨xs, e2, h2⟩ := Option.map_eq_some_iff.mp h1
  cases h2
  refine ha.sem G H σ ρ m A B _ _ _ E e1 fun v G1 H1 E1 s1 r1 => ?_
  rcases items_inv e2 with e | e <;> dsimp only at e <;> subst e
  · obtain ⟨a, vs, rfl, h, t⟩ := Rp.lst_inv (show Rp X.K G1 v (.list ds) from r1)
    refine ⟨a, rfl, .inl ⟨⟨vs, SqL.of (E1.sub _ _ h)⟩, q _ G1 H1 E1 s1 fun G2 H2 g gh => iter_lst (SqL.of (gh _ _ (g _ _ h))) (t.mono g) gh⟩⟩
  · obtain ⟨a, vs, rfl, h, t⟩ := Rp.tup_inv (show Rp X.K G1 v (.tuple ds) from r1)
    refine ⟨a, rfl, .inr ⟨⟨vs, Same.sqT E1.sub h⟩, q _ G1 H1 E1 s1 fun G2 H2 g gh => iter_tup (Same.sqT gh (Same.sqT g h)) (t.mono g) gh⟩⟩
theorem dj_seq {K : PySem.W.Frag} (hK : X.K = K) (ha : DE X κ io 1 l tl f) : DJ X κ io tg l (iSeq K tl) (fItems f) := by
  subst hK
  refine ⟨pi_seq ha.pe, fun G H σ ρ m A B R ds m' E hf q => ?_⟩
  obtain ⟨⟨d, m1⟩, e1, h1⟩ := Option.bind_eq_some_iff.mp (show (f ρ m).bind (fun p => (itemsD p.1).map fun xs => (xs, p.2)) = some (ds, m') from hf)
  obtain ⟨xs, e2, h2⟩ := Option.map_eq_some_iff.mp h1
  cases h2
  refine ha.sem G H σ ρ m A B _ _ _ E e1 fun v G1 H1 E1 s1 r1 => ?_
  rcases r1 with r1 | ⟨a, vs, es, rfl, ed, hB, e3, t⟩ | ⟨a, kvs, ks, es, rfl, ed, hB, e3, e4, t⟩ | ⟨a, kvs, ks, es, rfl, ed, hB, e3, e4, t⟩
  · rcases items_inv e2 with e | e <;> dsimp only at e <;> subst e
    · obtain ⟨a, vs, rfl, h, t⟩ := r1.lst_inv
      refine ⟨a, rfl, .inl ⟨⟨vs, SqL.of (E1.sub _ _ h)⟩, q _ G1 H1 E1 s1 fun G2 H2 s gh => iter_lst (SqL.of (gh _ _ (s.gg _ _ h))) (t.mono s.gg) gh⟩⟩
    · obtain ⟨a, vs, rfl, h, t⟩ := r1.tup_inv
      refine ⟨a, rfl, .inr ⟨⟨vs, Same.sqT E1.sub h⟩, q _ G1 H1 E1 s1 fun G2 H2 s gh => iter_tup (Same.sqT gh (Same.sqT s.gg h)) (t.mono s.gg) gh⟩⟩
  · subst ed
    cases e2
    refine ⟨a, rfl, .inl ⟨⟨vs, SqL.of e3⟩, q _ G1 H1 E1 s1 fun G2 H2 s gh => iter_lst (SqL.of (s.hh a _ hB e3)) ((RkAll.to_rp t).mono s.gg) gh⟩⟩
  · subst ed; cases e2
  · subst ed; cases e2
/-! ranges -/
def range1D : List PyData → Option (List PyData)
  | [.int j] => if decide (-(2 ^ 62) ≤ j) && decide (j < 2 ^ 62) then some ((List.range j.toNat).map fun k => PyData.int (k : Nat)) else none
  | _ => none
def range2D : List PyData → Option (List PyData)
  | [.int i, .int j] => if decide (-(2 ^ 62) ≤ i) && decide (i < 2 ^ 62) && (decide (-(2 ^ 62) ≤ j) && decide (j < 2 ^ 62)) then some ((List.range (j - i).toNat).map fun k => PyData.int (i + (k : Nat))) else none
  | _ => none
def range3D : List PyData → Option (List PyData)
  | [.int i, .int j, .int (-1)] => if decide (-(2 ^ 62) ≤ i) && decide (i < 2 ^ 62) && (decide (-(2 ^ 62) ≤ j) && decide (j < 2 ^ 62)) then some ((List.range (i - j).toNat).map fun k => PyData.int (i - (k : Nat))) else none
  | _ => none
def fRng (op : List PyData → Option (List PyData)) (h : AF) : AF := fun ρ m => (h ρ m).bind fun p => (op p.1).map fun xs => (xs, p.2)
variable {a b c : Expr} {ta : TA} {h : AF} {p pos : Pos}
theorem di_range1 (hm : X.mg "range" = none) (ha : DA X κ io n1 [a] ta h) (hg : Gl X "range" := by rfl) (hs : starEach [a] X.env = [(false, eval a X.env)] := by rfl) : DI X κ io tg (.Call (.Name "range" p) [a] [] pos) (iRng1 ta) (fRng range1D h) := by
  refine ⟨pi_range1 hg hm ha.pa hs, fun G H σ ρ m A B R ds m' E hf q => ?_⟩
  obtain ⟨⟨d, m1⟩, e1, h1⟩ := Option.bind_eq_some_iff.mp (show (h ρ m).bind (fun p => (range1D p.1).map fun xs => (xs, p.2)) = some (ds, m') from hf)
  obtain ⟨xs, e2, h2⟩ := Option.map_eq_some_iff.mp h1
  cases h2
  unfold range1D at e2
  dsimp only at e2
  split at e2
  · split at e2
    · rename_i j hz
      cases e2
      obtain ⟨z1, z2⟩ := Bool.and_eq_true_iff.mp hz
      refine ha.sem G H σ ρ m A B _ _ _ E e1 fun vs G1 H1 E1 s1 r1 => ?_
      obtain ⟨v, rfl, r⟩ := r1.one
      rw [r.int]
      refine ⟨j, rfl, of_decide_eq_true z1, of_decide_eq_true z2, q _ G1 H1 E1 s1 fun G2 H2 g gh => ⟨?_, fun i d hd => ?_⟩⟩
      · show j.toNat ≤ _
        simp
      · rw [List.getElem?_map] at hd
        obtain ⟨k, hk, rfl⟩ := Option.map_eq_some_iff.mp hd
        have hi : i < j.toNat ∧ i = k := by simpa [List.getElem?_range, List.getElem?_eq_some_iff] using hk
        obtain ⟨hi, rfl⟩ := hi
        refine ⟨hi, fun x H' hy => ?_⟩
        obtain ⟨rfl, rfl⟩ := hy
        exact ⟨G2, .refl, gh, by rw [Int.zero_add]; exact .int _⟩
    · cases e2
  · cases e2
theorem di_range2 (hm : X.mg "range" = none) (ha : DA X κ io n1 [a, b] ta h) (hg : Gl X "range" := by rfl) (hs : starEach [a, b] X.env = [(false, eval a X.env), (false, eval b X.env)] := by rfl) (hs2 : starEach [b] X.env = [(false, eval b X.env)] := by rfl) :
    DI X κ io tg (.Call (.Name "range" p) [a, b] [] pos) (iRng2 ta) (fRng range2D h) := by
  refine ⟨pi_range2 hg hm ha.pa hs hs2, fun G H σ ρ m A B R ds m' E hf q => ?_⟩
  obtain ⟨⟨d, m1⟩, e1, h1⟩ := Option.bind_eq_some_iff.mp (show (h ρ m).bind (fun p => (range2D p.1).map fun xs => (xs, p.2)) = some (ds, m') from hf)
  obtain ⟨xs, e2, h2⟩ := Option.map_eq_some_iff.mp h1
  cases h2
  unfold range2D at e2
  dsimp only at e2
  split at e2
  · split at e2
    · rename_i lo j hz
      cases e2
      obtain ⟨z1, z2⟩ := Bool.and_eq_true_iff.mp hz
      obtain ⟨z0, z1⟩ := Bool.and_eq_true_iff.mp z1
      obtain ⟨z2, z3⟩ := Bool.and_eq_true_iff.mp z2
      refine ha.sem G H σ ρ m A B _ _ _ E e1 fun vs G1 H1 E1 s1 r1 => ?_
      obtain ⟨v, w, rfl, r, r'⟩ := r1.two
      rw [r.int, r'.int]
      refine ⟨lo, j, rfl, ⟨of_decide_eq_true z0, of_decide_eq_true z1, of_decide_eq_true z2, of_decide_eq_true z3⟩, q _ G1 H1 E1 s1 fun G2 H2 g gh => ⟨?_, fun i d hd => ?_⟩⟩
      · show (j - lo).toNat ≤ _
        simp
      · rw [List.getElem?_map] at hd
        obtain ⟨k, hk, rfl⟩ := Option.map_eq_some_iff.mp hd
        have hi : i < (j - lo).toNat ∧ i = k := by simpa [List.getElem?_range, List.getElem?_eq_some_iff] using hk
        obtain ⟨hi, rfl⟩ := hi
        refine ⟨hi, fun x H' hy => ?_⟩
        obtain ⟨rfl, rfl⟩ := hy
        exact ⟨G2, .refl, gh, .int _⟩
    · cases e2
  · cases e2
theorem RkAll.three {R : V → PyData → Prop} {xs : List V} {d e g : PyData} (t : RkAll R xs [d, e, g]) : ∃ v w u, xs = [v, w, u] ∧ R v d ∧ R w e ∧ R u g := by
  cases t with
  | cons h t =>
    obtain ⟨w, u, rfl, h2, h3⟩ := t.two
    exact ⟨_, w, u, rfl, h, h2, h3⟩
theorem di_range3 (hm : X.mg "range" = none) (ha : DA X κ io n1 [a, b, c] ta h) (hg : Gl X "range" := by rfl) (hs : starEach [a, b, c] X.env = (false, eval a X.env) :: starEach [b, c] X.env := by rfl) (hpl : (backTo pos (starEach [b, c] X.env)).any (·.1) = false := by rfl) :
    DI X κ io tg (.Call (.Name "range" p) [a, b, c] [] pos) (iRng3 ta) (fRng range3D h) := by
  refine ⟨pi_range3 hg hm ha.pa hs hpl, fun G H σ ρ m A B R ds m' E hf q => ?_⟩
  obtain ⟨⟨d, m1⟩, e1, h1⟩ := Option.bind_eq_some_iff.mp (show (h ρ m).bind (fun p => (range3D p.1).map fun xs => (xs, p.2)) = some (ds, m') from hf)
  obtain ⟨xs, e2, h2⟩ := Option.map_eq_some_iff.mp h1
  cases h2
  unfold range3D at e2
  dsimp only at e2
  split at e2
  · split at e2
    · rename_i hi j hz
      cases e2
      obtain ⟨z1, z2⟩ := Bool.and_eq_true_iff.mp hz
      obtain ⟨z0, z1⟩ := Bool.and_eq_true_iff.mp z1
      obtain ⟨z2, z3⟩ := Bool.and_eq_true_iff.mp z2
      refine ha.sem G H σ ρ m A B _ _ _ E e1 fun vs G1 H1 E1 s1 r1 => ?_
      obtain ⟨v, w, u, rfl, r, r', r2⟩ := r1.three
      rw [r.int, r'.int, r2.int]
      refine ⟨hi, j, -1, (hi - j).toNat, rfl, RgC.neg (of_decide_eq_true z0) (of_decide_eq_true z1) (of_decide_eq_true z2) (of_decide_eq_true z3), q _ G1 H1 E1 s1 fun G2 H2 g gh => ⟨?_, fun i d hd => ?_⟩⟩
      · show (hi - j).toNat ≤ _
        simp
      · rw [List.getElem?_map] at hd
        obtain ⟨k, hk, rfl⟩ := Option.map_eq_some_iff.mp hd
        have hi' : i < (hi - j).toNat ∧ i = k := by simpa [List.getElem?_range, List.getElem?_eq_some_iff] using hk
        obtain ⟨hi', rfl⟩ := hi'
        refine ⟨hi', fun x H' hy => ?_⟩
        obtain ⟨rfl, rfl⟩ := hy
        refine ⟨G2, .refl, gh, ?_⟩
        have e : hi + (i : Int) * (-1) = hi - (i : Int) := by omega
        rw [e]
        exact .int _
    · cases e2
  · cases e2
end
end DL
namespace DL
open PySem PySem.Spec PyProof.Rows L2
/-! ### targets: frozen slots js -/
abbrev BF := PyData → DEnv → Option DEnv
abbrev BFs := List PyData → DEnv → Option DEnv
def DGt (K : PySem.W.Frag) (κ : List Nat) (io : Option Nat) (js : List Nat) (t : TG) (f : BF) : Prop :=
  ∀ (G H : Hp) (σ : L2.St) (ρ : DEnv) (m : Io) (A B : List Addr) (x : V) (d : PyData) (ρ' : DEnv) (Q : L2.St → Hp → Prop), Env K κ io G H σ ρ m A B → Rp K G x d → f d ρ = some ρ' →
    (∀ σ', Env K κ io G H σ' ρ' m A B → (∀ vs : List Nat, (∀ j ∈ js, j ∈ vs) → L2.wipe σ' vs = L2.wipe σ vs) → Q σ' H) → t x σ H Q
structure DG (X : Cx) (κ : List Nat) (io : Option Nat) (js : List Nat) (tg : Expr) (t : TG) (f : BF) : Prop where
  pg : PG X tg t
  sem : DGt X.K κ io js t f
def DGst (K : PySem.W.Frag) (κ : List Nat) (io : Option Nat) (js : List Nat) (t : TGs) (f : BFs) : Prop :=
  ∀ (G H : Hp) (σ : L2.St) (ρ : DEnv) (m : Io) (A B : List Addr) (xs : List V) (ds : List PyData) (ρ' : DEnv) (Q : L2.St → Hp → Prop), Env K κ io G H σ ρ m A B → RpAll K G xs ds → f ds ρ = some ρ' →
    (∀ σ', Env K κ io G H σ' ρ' m A B → (∀ vs : List Nat, (∀ j ∈ js, j ∈ vs) → L2.wipe σ' vs = L2.wipe σ vs) → Q σ' H) → t xs σ H Q
structure DGs (X : Cx) (κ : List Nat) (io : Option Nat) (js : List Nat) (ts : List Expr) (t : TGs) (f : BFs) : Prop where
  pgs : PGs X ts t
  sem : DGst X.K κ io js t f
def bName (i : Nat) : BF := fun d ρ => some (ρ.set i (some d))
def bTup (f : BFs) : BF := fun d ρ => match d with
  | .tuple ds => f ds ρ
  | _ => none
def bNil : BFs := fun ds ρ => match ds with
  | [] => some ρ
  | _ => none
def bCons (f : BF) (g : BFs) : BFs := fun ds ρ => match ds with
  | d :: r => (f d ρ).bind fun ρ1 => g r ρ1
  | [] => none
section
variable {X : Cx} {κ : List Nat} {io : Option Nat} {e : Expr} {es : List Expr} {t : TG} {u : TGs} {f : BF} {g : BFs} {js ks : List Nat} {pos : Pos}
theorem dg_name (i : Nat) {x : Str} (hN : X.N.Nodup) (hk : κ[i]? = some 0 := by rfl) (hio : io ≠ some i := by decide) (hi : X.N[i]? = some x := by rfl) (hx : Loc X.env.scope x := by first | exact Or.inl rfl | exact Or.inr rfl) (hf : X.fn x = true ∨ X.env.scope.names.lookup x = some .local := by first | exact .inl rfl | exact .inr rfl) :
    DG X κ io [i] (.Name x pos) (gName i) (bName i) := by
  refine ⟨pg_name hN hi hx hf, fun G H σ ρ m A B v d ρ' Q E r hf q => ?_⟩
  cases hf
  exact q _ (E.set0 hk hio r) fun vs hv => wipe_set (hv i (by simp))
theorem dgs_nil : DGs X κ io [] [] gNil bNil := by
  refine ⟨pgs_nil, fun G H σ ρ m A B xs ds ρ' Q E r hf q => ?_⟩
  cases r with
  | nil => cases hf; exact ⟨rfl, q _ E fun _ _ => rfl⟩
  | cons _ _ => cases hf
theorem dgs_cons (h1 : DG X κ io js e t f) (h2 : DGs X κ io ks es u g) (hs : (assignEach (e :: es) X.env).map (·.2) = assign e X.env :: (assignEach es X.env).map (·.2) := by rfl) : DGs X κ io (js ++ ks) (e :: es) (gCons t u) (bCons f g) := by
  refine ⟨pgs_cons h1.pg h2.pgs hs, fun G H σ ρ m A B xs ds ρ' Q E r hf q => ?_⟩
  cases r with
  | nil => cases hf
  | cons r rs =>
    obtain ⟨ρ1, e1, e2⟩ := Option.bind_eq_some_iff.mp (show (f _ ρ).bind (fun ρ1 => g _ ρ1) = some ρ' from hf)
    refine ⟨_, _, rfl, h1.sem G H σ ρ m A B _ _ ρ1 _ E r e1 fun σ1 E1 w1 => h2.sem G H σ1 ρ1 m A B _ _ ρ' Q E1 rs e2 fun σ2 E2 w2 => q σ2 E2 fun vs hv => ?_⟩
    rw [w2 vs fun j hj => hv j (List.mem_append_right _ hj), w1 vs fun j hj => hv j (List.mem_append_left _ hj)]
theorem dg_tup {k : Nat} {n : Nat} {K : PySem.W.Frag} (hK : X.K = K) (hc : X.calm = true) (h : DGs X κ io js es u g) (hl : ∀ ds ρ ρ', g ds ρ = some ρ' → ds.length = n) (hn : (assignEach es X.env).length = n := by rfl) (hst : (assignEach es X.env).findIdx? (·.1) = none := by rfl) :
    DG X κ io js (.Tuple es k pos) (gTup K n u) (bTup g) := by
  subst hK
  refine ⟨pg_tup hc h.pgs hn hst, fun G H σ ρ m A B v d ρ' Q E r hf q => ?_⟩
  unfold bTup at hf
  split at hf
  · obtain ⟨a, vs, rfl, h1, t1⟩ := r.tup_inv
    exact ⟨a, vs, rfl, Same.sqT E.sub h1, by rw [t1.length]; exact hl _ _ _ hf, h.sem G H σ ρ m A B _ _ ρ' Q E t1 hf q⟩
  · cases hf
theorem bNil_len : ∀ ds ρ ρ', bNil ds ρ = some ρ' → ds.length = 0 := by
  intro ds ρ ρ' h
  cases ds with
  | nil => rfl
  | cons _ _ => cases h
theorem bCons_len {n : Nat} {f : BF} {g : BFs} (hg : ∀ ds ρ ρ', g ds ρ = some ρ' → ds.length = n) : ∀ ds ρ ρ', bCons f g ds ρ = some ρ' → ds.length = n + 1 := by
  intro ds ρ ρ' h
  cases ds with
  | nil => cases h
  | cons d r =>
    obtain ⟨ρ1, _, e2⟩ := Option.bind_eq_some_iff.mp (show (f d ρ).bind (fun ρ1 => g r ρ1) = some ρ' from h)
    rw [List.length_cons, hg _ _ _ e2]
end
/-! ### comprehensions -/
def tYesF : TF := fun _ m => some (true, m)
structure DTs (X : Cx) (κ : List Nat) (io : Option Nat) (ifs : List Expr) (t : TT) (f : TF) : Prop where
  pts : PTs X ifs t
  sem : DTt X.K κ io t f
def lcF (b : BF) (ft : TF) (fe : EF) (ρ0 : DEnv) : List PyData → Io → Option (List PyData × Io)
  | [], m => some ([], m)
  | d :: ds, m => (b d ρ0).bind fun ρ1 => (ft ρ1 m).bind fun p => if p.1 = true then (fe ρ1 p.2).bind fun q => (lcF b ft fe ρ0 ds q.2).map fun r => (q.1 :: r.1, r.2) else lcF b ft fe ρ0 ds p.2
def fLc (fi : AF) (b : BF) (ft : TF) (fe : EF) (vs : List Nat) : EF := fun ρ m => (fi ρ m).bind fun p => (lcF b ft fe (wipeD ρ vs) p.1 p.2).bind fun q => if szOk q.1.length then some (.list q.1, q.2) else none
section
variable {X : Cx} {κ : List Nat} {io : Option Nat} {n : Nat} {ifs : List Expr} {tt : TT} {ft : TF} {c : Expr}
theorem dts_nil : DTs X κ io [] tYes tYesF := ⟨pts_nil, fun G H σ ρ m A B Q b m' E hf q => by cases hf; exact q G H E .refl⟩
theorem dts_one (h : DT X κ io c tt ft) : DTs X κ io [c] tt ft := ⟨pts_one h.pt, h.sem⟩
/-- the reading of a comprehension -/
theorem lc_sem {K : PySem.W.Frag} {g : TG} {te : TE} {b : BF} {fe : EF} {vs js : List Nat} {J : It} {G0 H0 : Hp} {σ : L2.St} {ρ : DEnv} {m : Io} {A B : List Addr} {ds : List PyData} {ys : List PyData} {m' : Io} {Q : V → Hp → Prop}
    (hg : DGt K κ io js g b) (ht : DTt K κ io tt ft) (he : DEt K κ io 0 te fe) (hj : ∀ j ∈ js, j ∈ vs) (hv : ∀ i ∈ vs, κ[i]? = some 0 ∧ io ≠ some i)
    (E : Env K κ io G0 H0 σ ρ m A B) (it : IterD K B G0 H0 J ds) (hf : lcF b ft fe (wipeD ρ vs) ds m = some (ys, m')) (hz : ys.length ≤ sizeLine)
    (q : ∀ p vs' G' H', H0 p = none → Env K κ io G' H' σ ρ m' A B → Stp B G0 H0 G' H' → H' p = some (.lst vs') → G' p = none → p ∉ A ++ B → RpAll K G' vs' ys → Q (.ref p) H') :
    ∀ D, H0 D = none → ∃ W : Nat → Nat → Hp → Prop, (∃ m, W 0 m (upd H0 D (.lst []))) ∧ ∀ i m H, W i m H →
      (J.stop i H ∧ Q (.ref D) H) ∨ (J.go i H ∧ ∃ Nx : Hp → Prop, (∀ H', Nx H' → ∃ m', m' < m ∧ W (i + 1) m' H') ∧ ∀ x H', J.yld i H x H' → g x (L2.wipe σ vs) H' fun σ2 H2 => L2.wipe σ2 vs = L2.wipe σ vs ∧ tt σ2 H2 fun b H3 =>
        if b = true then te σ2 H3 fun y H4 => ∃ acc, H4 D = some (.lst acc) ∧ acc.length < sizeLine ∧ Nx (upd H4 D (.lst (acc ++ [y]))) else Nx H3) := by
  intro D hD
  have nDA : D ∉ A ++ B := fun z => E.thereA D z hD
  have nDB : D ∉ B := fun z => nDA (List.mem_append_right _ z)
  let Inv : Nat → Hp → Prop := fun i H => ∃ G mi acc done rest, Env K κ io G H σ ρ mi A B ∧ Stp B G0 H0 G H ∧ H D = some (.lst acc) ∧ G D = none ∧ RpAll K G acc done ∧ ys = done ++ rest ∧ lcF b ft fe (wipeD ρ vs) (ds.drop i) mi = some (rest, m')
  refine ⟨fun i k H => i ≤ ds.length ∧ k = ds.length - i ∧ Inv i H, ⟨ds.length, Nat.zero_le _, by simp, G0, m, [], [], ys, E.keep (stp_new hD) (same_new E.sub hD), (stp_new hD).any, upd_same, sub_none E.sub hD, .nil, rfl, by rw [List.drop_zero]; exact hf⟩, ?_⟩
  rintro i k H ⟨hi, rfl, G, mi, acc, done, rest, Ei, si, hDl, hGD, ra, ey, hr⟩
  have itH := it G H si Ei.sub
  by_cases hlt : i < ds.length
  · refine .inr ?_
    have hdi : ds[i]? = some ds[i] := List.getElem?_eq_getElem hlt
    obtain ⟨hgo, hyl⟩ := itH.2 i ds[i] hdi
    refine ⟨hgo, Inv (i + 1), fun H' hI => ⟨ds.length - (i + 1), by omega, by omega, rfl, hI⟩, fun x H1 hy => ?_⟩
    obtain ⟨G1, s1, gh1, rx⟩ := hyl x H1 hy
    have hdrop : ds.drop i = ds[i] :: ds.drop (i + 1) := List.drop_eq_getElem_cons hlt
    rw [hdrop] at hr
    obtain ⟨ρ1, e1, hr⟩ := Option.bind_eq_some_iff.mp (show (b ds[i] (wipeD ρ vs)).bind (fun ρ1 => (ft ρ1 mi).bind fun p => if p.1 = true then (fe ρ1 p.2).bind fun q => (lcF b ft fe (wipeD ρ vs) (ds.drop (i + 1)) q.2).map fun r => (q.1 :: r.1, r.2) else lcF b ft fe (wipeD ρ vs) (ds.drop (i + 1)) p.2) = some (rest, m') from hr)
    obtain ⟨⟨c, m1⟩, e2, hr⟩ := Option.bind_eq_some_iff.mp hr
    have E1 := Ei.keep s1 gh1
    refine hg G1 H1 (L2.wipe σ vs) (wipeD ρ vs) mi A B x ds[i] ρ1 _ (E1.wipe hv) rx e1 fun σ2 E2 w2 => ⟨by rw [w2 vs hj, wipe_wipe], ?_⟩
    refine ht G1 H1 σ2 ρ1 mi A B _ c m1 E2 e2 fun G3 H3 E3 s3 => ?_
    -- the environment of the whole again: σ, ρ with what happened to the heap
    have back : ∀ {G' H' : Hp} {mm : Io}, Env K κ io G' H' σ2 ρ1 mm A B → Stp B G1 H1 G' H' → Env K κ io G' H' σ ρ mm A B := fun {G' H' mm} E' s' => by
      refine ⟨E1.env.keep s'.gg fun a ha o ho => s'.hh a o (E1.nAB ha) ho, ?_, E1.nd, E'.sub, E'.free⟩
      have z := E'.iom
      cases mm with
      | none => exact z
      | some d =>
        obtain ⟨j, a, z1, z2, z3, z4⟩ := z
        refine ⟨j, a, z1, ?_, z3, z4⟩
        have nj : j ∉ vs := fun hj' => (hv j hj').2 z1
        have w3 : L2.wipe σ2 vs = L2.wipe σ vs := by rw [w2 vs hj, wipe_wipe]
        have w4 := congrArg (fun l => l[j]?) w3
        rw [wipe_get, wipe_get, if_neg nj, if_neg nj] at w4
        rw [← w4]
        exact z2
    dsimp only at hr
    cases c with
    | false =>
      rw [if_neg Bool.false_ne_true]
      rw [if_neg Bool.false_ne_true] at hr
      have sA : Stp B G H G3 H3 := s1.any.trans s3
      exact ⟨G3, m1, acc, done, rest, back E3 s3, si.trans sA, sA.hh D _ nDB hDl, sA.fr D (by rw [hDl]; exact fun z => nomatch z) hGD, ra.mono sA.gg, ey, hr⟩
    | true =>
      rw [if_pos rfl]
      rw [if_pos rfl] at hr
      obtain ⟨⟨y, m2⟩, e3, hr⟩ := Option.bind_eq_some_iff.mp hr
      obtain ⟨⟨r2, m3⟩, e4, hr⟩ := Option.map_eq_some_iff.mp hr
      cases hr
      refine he G3 H3 σ2 ρ1 m1 A B _ y m2 E3 e3 fun v G4 H4 E4 s4 rv => ?_
      have sA : Stp B G H G4 H4 := s1.any.trans (s3.trans s4)
      have hD4 : H4 D = some (.lst acc) := sA.hh D _ nDB hDl
      have hG4 : G4 D = none := sA.fr D (by rw [hDl]; exact fun z => nomatch z) hGD
      have E4' := back E4 (s3.trans s4)
      have hlen : acc.length < sizeLine := by
        rw [ra.length]
        rw [ey] at hz
        simp only [List.length_append, List.length_cons] at hz
        omega
      refine ⟨acc, hD4, hlen, G4, m2, acc ++ [v], done ++ [y], r2, ?_, ?_, upd_same, hG4, (ra.mono sA.gg).append (.cons rv .nil), by rw [ey]; simp, e4⟩
      · -- D is not of the environment's
        have kp : ∀ a ∈ A ++ B, ∀ o, H4 a = some o → upd H4 D (.lst (acc ++ [v])) a = some o := fun a ha o ho => by rw [upd_ne (by rintro rfl; exact nDA ha)]; exact ho
        exact ⟨E4'.env.keep (Same.refl _) fun a ha => kp a (List.mem_append_left _ ha), E4'.iom.keep (Same.refl _) fun a ha => kp a (List.mem_append_right _ ha), E4'.nd,
          fun a o ho => by
            by_cases z : a = D
            · subst z; rw [hG4] at ho; cases ho
            · rw [upd_ne z]; exact E4'.sub a o ho, E4'.free⟩
      · have s5 := si.trans sA
        exact ⟨s5.gg, fun a o ha ho => by
          rw [upd_ne (ne_of_none ho hD)]
          exact s5.hh a o ha ho, s5.fr, fun a ha => by
            by_cases z : a = D
            · subst z; rw [upd_same]; exact fun z => nomatch z
            · rw [upd_ne z]; exact s5.th a ha⟩
  · have e : i = ds.length := by omega
    subst e
    refine .inl ⟨itH.1, ?_⟩
    rw [List.drop_length] at hr
    cases hr
    rw [List.append_nil] at ey
    subst ey
    exact q D acc G H hD Ei si hDl hGD nDA ra

theorem pub_lst {K : PySem.W.Frag} {G H : Hp} {σ : L2.St} {ρ : DEnv} {m : Io} {A B : List Addr} {p : Addr} {vs : List V} (E : Env K κ io G H σ ρ m A B) (h : H p = some (.lst vs)) (hg : G p = none) (hp : p ∉ A ++ B) :
    Env K κ io (upd G p (.lst vs)) H σ ρ m A B ∧ Same G (upd G p (.lst vs)) := by
  have s : Same G (upd G p (.lst vs)) := fun b o e => by rw [upd_ne (ne_of_none e hg)]; exact e
  refine ⟨⟨E.env.keep s fun _ _ _ h => h, E.iom.keep s fun _ _ _ h => h, E.nd, fun b o e => ?_, fun a ha => ?_⟩, s⟩
  · by_cases z : b = p
    · subst z; rw [upd_same] at e; rw [h]; exact e
    · rw [upd_ne z] at e; exact E.sub b o e
  · rw [upd_ne (by rintro rfl; exact hp ha)]
    exact E.free a ha
variable {wi : TI} {g : TG} {te : TE} {fi : AF} {b : BF} {fe : EF} {js : List Nat} {tg iter elt : Expr} {scope : Scope} {own : List (Str × Nat)} {pos : Pos}
theorem de_lc (hc : X.calm = true) (hN : X.N.Nodup) (hi : DJ X κ io tg iter wi fi) (ok : BlkOk X.N X.env.scope scope own)
    (hg : ∀ (s : Shared) (H : Hp) (C : Addr) (cl : List (Str × Addr)) (fp : List Addr), DG (X.blk s H scope (compEnvC scope cl C X.env) fp) κ io js tg g b)
    (ht : ∀ (s : Shared) (H : Hp) (C : Addr) (cl : List (Str × Addr)) (fp : List Addr), DTs (X.blk s H scope (compEnvC scope cl C X.env) fp) κ io ifs tt ft)
    (he : ∀ (s : Shared) (H : Hp) (C : Addr) (cl : List (Str × Addr)) (fp : List Addr), DE (X.blk s H scope (compEnvC scope cl C X.env) fp) κ io 0 elt te fe)
    (hj : ∀ j ∈ js, j ∈ own.map (·.2) := by decide) (hv : ∀ i ∈ own.map (·.2), κ[i]? = some 0 ∧ io ≠ some i := by decide) (hs : ∀ x, foldedSetIterable iter X.env x = pure x := by intro _; rfl) :
    DE X κ io n (.ListComp elt [⟨tg, iter, ifs, 0⟩] scope pos) (tLc wi g tt te (own.map (·.2))) (fLc fi b ft fe (own.map (·.2))) := by
  refine ⟨pe_lc hc hN hi.pi ok (fun s H C cl fp => (hg s H C cl fp).pg) (fun s H C cl fp => (ht s H C cl fp).pts) (fun s H C cl fp => (he s H C cl fp).pe) hs, fun G H σ ρ m A B Q d m' E hf q => ?_⟩
  obtain ⟨⟨ds, m1⟩, e1, h1⟩ := Option.bind_eq_some_iff.mp (show (fi ρ m).bind (fun p => (lcF b ft fe (wipeD ρ (own.map (·.2))) p.1 p.2).bind fun q => if szOk q.1.length then some (PyData.list q.1, q.2) else none) = some (d, m') from hf)
  obtain ⟨⟨ys, m2⟩, e2, h2⟩ := Option.bind_eq_some_iff.mp h1
  dsimp only at h2
  split at h2
  · rename_i hz
    cases h2
    refine hi.sem G H σ ρ m A B _ ds m1 E e1 fun J G1 H1 E1 s1 it => ?_
    refine lc_sem (hg X.s_0 X.H_0 0 [] []).sem (ht X.s_0 X.H_0 0 [] []).sem (he X.s_0 X.H_0 0 [] []).sem hj hv E1 it e2 (of_decide_eq_true hz) fun p vs' G2 H2 hp E2 s2 hl hgn hn r => ?_
    obtain ⟨E3, sg⟩ := pub_lst E2 hl hgn hn
    refine q _ _ _ E3 (s1.trans ⟨s2.gg.trans sg, s2.hh, fun c hc' hg' => ?_, s2.th⟩) (.of_rp (.lst upd_same (r.mono sg)))
    rw [upd_ne (by rintro rfl; exact hc' hp)]
    exact s2.fr c hc' hg'
  · cases h2
end
end DL
namespace DL
open PySem PySem.Spec PyProof.Rows L2
/-! ### statements -/
inductive Fl where
  | nx (ρ : DEnv) (m : Io)
  | rt (d : PyData) (m : Io)
  | bk (ρ : DEnv) (m : Io)
  | ct (ρ : DEnv) (m : Io)
abbrev SF := DEnv → Io → Option Fl
structure StpS (fx : Bool) (A B : List Addr) (G H : Hp) (A' B' : List Addr) (G' H' : Hp) : Prop where
  gg : Same G G'
  hh : ∀ b o, b ∉ A ++ B → H b = some o → H' b = some o
  fr : ∀ b, b ∉ A ++ B → H b ≠ none → G b = none → G' b = none
  th : ∀ b, H b ≠ none → H' b ≠ none
  loc : ∀ a ∈ A' ++ B', a ∈ A ++ B ∨ H a = none
  fixd : fx = true → B' = B ∧ ∀ a ∈ B, a ∉ A'
section
variable {fx : Bool} {A B A1 B1 A2 B2 : List Addr} {G H G1 H1 G2 H2 : Hp}
theorem StpS.trans (s : StpS fx A B G H A1 B1 G1 H1) (t : StpS fx A1 B1 G1 H1 A2 B2 G2 H2) : StpS fx A B G H A2 B2 G2 H2 where
  gg := s.gg.trans t.gg
  hh := fun b o n e => t.hh b o (fun z => (s.loc b z).elim n fun q => by rw [q] at e; cases e) (s.hh b o n e)
  fr := fun b n e g => t.fr b (fun z => (s.loc b z).elim n fun q => e q) (s.th b e) (s.fr b n e g)
  th := fun b e => t.th b (s.th b e)
  loc := fun a z => by
    rcases t.loc a z with z | z
    · exact s.loc a z
    · by_cases q : H a = none
      · exact .inr q
      · exact absurd z (s.th a q)
  fixd := fun h => by
    obtain ⟨e1, e2⟩ := s.fixd h
    obtain ⟨e3, e4⟩ := t.fixd h
    exact ⟨e3.trans e1, fun a ha => e4 a (by rw [e1]; exact ha)⟩
theorem StpS.of {K : PySem.W.Frag} {κ : List Nat} {io : Option Nat} {σ : L2.St} {ρ : DEnv} {m : Io} (E : Env K κ io G1 H1 σ ρ m A B) (s : Stp B G H G1 H1) : StpS fx A B G H A B G1 H1 :=
  ⟨s.gg, fun b o n e => s.hh b o (fun z => n (List.mem_append_right _ z)) e, fun b _ e g => s.fr b e g, s.th, fun a z => .inl z, fun _ => ⟨rfl, fun a ha z => E.nAB z ha⟩⟩
end
def FinD (K : PySem.W.Frag) (κ : List Nat) (io : Option Nat) (fx : Bool) (A B : List Addr) (G H : Hp) (D : Ends) : Fl → Prop
  | .nx ρ m => ∀ σ' G' H' A' B', Env K κ io G' H' σ' ρ m A' B' → StpS fx A B G H A' B' G' H' → D.nx σ' H'
  | .bk ρ m => ∀ σ' G' H' A' B', Env K κ io G' H' σ' ρ m A' B' → StpS fx A B G H A' B' G' H' → D.bk σ' H'
  | .ct ρ m => ∀ σ' G' H' A' B', Env K κ io G' H' σ' ρ m A' B' → StpS fx A B G H A' B' G' H' → D.ct σ' H'
  | .rt d m => ∀ v σ' ρ' G' H' A' B', Env K κ io G' H' σ' ρ' m A' B' → StpS fx A B G H A' B' G' H' → Rp K G' v d → D.rt v H'
def DSt (K : PySem.W.Frag) (κ : List Nat) (io : Option Nat) (fx : Bool) (t : TS) (g : SF) : Prop :=
  ∀ (G H : Hp) (σ : L2.St) (ρ : DEnv) (m : Io) (A B : List Addr) (D : Ends) (fl : Fl), Env K κ io G H σ ρ m A B → g ρ m = some fl → FinD K κ io fx A B G H D fl → t D σ H
structure DS (X : Cx) (κ : List Nat) (io : Option Nat) (fx : Bool) (s : Stmt) (t : TS) (g : SF) : Prop where
  ps : PS X s t
  sem : DSt X.K κ io fx t g
structure DSs (X : Cx) (κ : List Nat) (io : Option Nat) (fx : Bool) (s : List Stmt) (t : TS) (g : SF) : Prop where
  pss : PSs X s t
  sem : DSt X.K κ io fx t g
theorem FinD.step {K : PySem.W.Frag} {κ : List Nat} {io : Option Nat} {fx : Bool} {A B A1 B1 : List Addr} {G H G1 H1 : Hp} {D : Ends} {fl : Fl} (s : StpS fx A B G H A1 B1 G1 H1) (f : FinD K κ io fx A B G H D fl) : FinD K κ io fx A1 B1 G1 H1 D fl := by
  cases fl with
  | nx ρ m => exact fun σ' G' H' A' B' E s' => f σ' G' H' A' B' E (s.trans s')
  | bk ρ m => exact fun σ' G' H' A' B' E s' => f σ' G' H' A' B' E (s.trans s')
  | ct ρ m => exact fun σ' G' H' A' B' E s' => f σ' G' H' A' B' E (s.trans s')
  | rt d m => exact fun v σ' ρ' G' H' A' B' E s' r => f v σ' ρ' G' H' A' B' E (s.trans s') r
section
variable {X : Cx} {κ : List Nat} {io : Option Nat} {fx : Bool} {st : Stmt} {sts rest : List Stmt} {t u : TS} {g h : SF} {e c : Expr} {te : TE} {f : EF} {pos pos' : Pos} {n : Nat}
/-! blocks -/
def fNext : SF := fun ρ m => some (.nx ρ m)
def fSeq (g h : SF) : SF := fun ρ m => (g ρ m).bind fun fl => match fl with
  | .nx ρ1 m1 => h ρ1 m1
  | o => some o
theorem Env.refl' {K : PySem.W.Frag} {G H : Hp} {σ : L2.St} {ρ : DEnv} {m : Io} {A B : List Addr} (E : Env K κ io G H σ ρ m A B) : StpS fx A B G H A B G H := StpS.of E .refl
theorem dss_nil : DSs X κ io fx [] tNext fNext := ⟨pss_nil, fun G H σ ρ m A B D fl E hf q => by cases hf; exact q σ G H A B E E.refl'⟩
theorem sem_seq {K : PySem.W.Frag} (h1 : DSt K κ io fx t g) (h2 : DSt K κ io fx u h) : DSt K κ io fx (tSeq t u) (fSeq g h) := fun G H σ ρ m A B D fl E hf q => by
  obtain ⟨f1, e1, e2⟩ := Option.bind_eq_some_iff.mp (show (g ρ m).bind (fun fl => match fl with | .nx ρ1 m1 => h ρ1 m1 | o => some o) = some fl from hf)
  refine h1 G H σ ρ m A B _ f1 E e1 ?_
  cases f1 with
  | nx ρ1 m1 => exact fun σ' G' H' A' B' E' s => h2 G' H' σ' ρ1 m1 A' B' D fl E' e2 (FinD.step s q)
  | rt d m1 => cases e2; exact q
  | bk ρ1 m1 => cases e2; exact q
  | ct ρ1 m1 => cases e2; exact q
theorem dss_cons (h1 : DS X κ io fx st t g) (h2 : DSs X κ io fx rest u h) : DSs X κ io fx (st :: rest) (tSeq t u) (fSeq g h) := ⟨pss_cons h1.ps h2.pss, sem_seq h1.sem h2.sem⟩
theorem dss_one (h1 : DS X κ io fx st t g) : DSs X κ io fx [st] t g := ⟨pss_one h1.ps, h1.sem⟩
def fBreak : SF := fun ρ m => some (.bk ρ m)
def fCont : SF := fun ρ m => some (.ct ρ m)
theorem ds_pass : DS X κ io fx (.Pass pos) tNext fNext := ⟨ps_pass, fun G H σ ρ m A B D fl E hf q => by cases hf; exact q σ G H A B E E.refl'⟩
theorem ds_break : DS X κ io fx (.Break pos) tBreak fBreak := ⟨ps_break, fun G H σ ρ m A B D fl E hf q => by cases hf; exact q σ G H A B E E.refl'⟩
theorem ds_continue : DS X κ io fx (.Continue pos) tCont fCont := ⟨ps_continue, fun G H σ ρ m A B D fl E hf q => by cases hf; exact q σ G H A B E E.refl'⟩
/-! name = value, frozen -/
def fSet (i : Nat) (f : EF) : SF := fun ρ m => (f ρ m).map fun p => .nx (ρ.set i (some p.1)) p.2
theorem sem_set {K : PySem.W.Frag} {i : Nat} (hk : κ[i]? = some 0) (hi : io ≠ some i) (h : DEt K κ io 0 te f) : DSt K κ io fx (tAsg te (gName i)) (fSet i f) := fun G H σ ρ m A B D fl E hf q => by
  obtain ⟨⟨d, m1⟩, e1, e2⟩ := Option.map_eq_some_iff.mp (show (f ρ m).map (fun p => Fl.nx (ρ.set i (some p.1)) p.2) = some fl from hf)
  subst e2
  exact h G H σ ρ m A B _ d m1 E e1 fun v G1 H1 E1 s1 r1 => q _ G1 H1 A B (E1.set0 hk hi r1) (StpS.of E1 s1)
theorem ds_set (i : Nat) {x : Str} (hN : X.N.Nodup) (he : DE X κ io 0 e te f) (hk : κ[i]? = some 0 := by rfl) (hio : io ≠ some i := by decide) (hi : X.N[i]? = some x := by rfl) (hx : Loc X.env.scope x := by first | exact Or.inl rfl | exact Or.inr rfl)
    (hs : swapsWith e (some (.Name x pos')) pos.line X.env = pure false := by rfl) (hf : X.fn x = true ∨ X.env.scope.names.lookup x = some .local := by first | exact .inl rfl | exact .inr rfl) :
    DS X κ io fx (.Assign [.Name x pos'] e pos) (tAsg te (gName i)) (fSet i f) := ⟨ps_set hN hi hx he.pe hs hf, sem_set hk hio he.sem⟩
/-! return -/
def fRet (f : EF) : SF := fun ρ m => (f ρ m).map fun p => .rt p.1 p.2
theorem ds_ret (he : DE X κ io 0 e te f) : DS X κ io fx (.Return (some e) pos) (tRet te) (fRet f) := by
  refine ⟨ps_ret he.pe, fun G H σ ρ m A B D fl E hf q => ?_⟩
  obtain ⟨⟨d, m1⟩, e1, e2⟩ := Option.map_eq_some_iff.mp (show (f ρ m).map (fun p => Fl.rt p.1 p.2) = some fl from hf)
  subst e2
  exact he.sem G H σ ρ m A B _ d m1 E e1 fun v G1 H1 E1 s1 r1 => q v σ ρ G1 H1 A B E1 (StpS.of E1 s1) r1
def fRetN : SF := fun _ m => some (.rt .none m)
theorem ds_retN : DS X κ io fx (.Return none pos) tRetN fRetN := ⟨ps_retN, fun G H σ ρ m A B D fl E hf q => by cases hf; exact q .non σ ρ G H A B E E.refl' .non⟩
/-! if -/
def fIfS (c : TF) (g h : SF) : SF := fun ρ m => (c ρ m).bind fun p => if p.1 = true then g ρ p.2 else h ρ p.2
variable {tc : TT} {fc : TF} {as bs : List Stmt}
theorem ds_if (hc : DT X κ io c tc fc) (ha : DSs X κ io fx as t g) (hb : DSs X κ io fx bs u h) : DS X κ io fx (.If c as bs pos) (tIfS tc t u) (fIfS fc g h) := by
  refine ⟨ps_if hc.pt ha.pss hb.pss, fun G H σ ρ m A B D fl E hf q => ?_⟩
  obtain ⟨⟨k, m1⟩, e1, e2⟩ := Option.bind_eq_some_iff.mp (show (fc ρ m).bind (fun p => if p.1 = true then g ρ p.2 else h ρ p.2) = some fl from hf)
  refine hc.sem G H σ ρ m A B _ k m1 E e1 fun G1 H1 E1 s1 => ?_
  cases k with
  | true => exact ha.sem G1 H1 σ ρ m1 A B D fl E1 e2 (FinD.step (StpS.of E1 s1) q)
  | false => exact hb.sem G1 H1 σ ρ m1 A B D fl E1 e2 (FinD.step (StpS.of E1 s1) q)
/-! for -/
def forF (b : BF) (g : SF) : List PyData → DEnv → Io → Option Fl
  | [], ρ, m => some (.nx ρ m)
  | d :: ds, ρ, m => (b d ρ).bind fun ρ1 => (g ρ1 m).bind fun fl => match fl with
    | .nx ρ2 m2 => forF b g ds ρ2 m2
    | .ct ρ2 m2 => forF b g ds ρ2 m2
    | .bk ρ2 m2 => some (.nx ρ2 m2)
    | .rt d m2 => some (.rt d m2)
def fFor (fi : AF) (b : BF) (g : SF) : SF := fun ρ m => (fi ρ m).bind fun p => forF b g p.1 ρ p.2
variable {tg iter : Expr} {wi : TI} {gt : TG} {fi : AF} {b : BF} {js : List Nat} {body : List Stmt}
theorem ds_for (hp : PassesOwn (model X.prog X.w) X.A X.env X.xe) (hc : X.calm = true) (hi : DI X κ io tg iter wi fi) (hg : DG X κ io js tg gt b) (hb : DSs X κ io fx body t g) (hs : ∀ x, foldedSetIterable iter X.env x = pure x := by intro _; rfl) :
    DS X κ io fx (.For tg iter body [] pos) (tFor wi gt t) (fFor fi b g) := by
  refine ⟨ps_for hp hc hi.pi hg.pg hb.pss hs, fun G H σ ρ m A B D fl E hf q => ?_⟩
  obtain ⟨⟨ds, m1⟩, e1, e2⟩ := Option.bind_eq_some_iff.mp (show (fi ρ m).bind (fun p => forF b g p.1 ρ p.2) = some fl from hf)
  refine hi.sem G H σ ρ m A B _ ds m1 E e1 fun J G0 H0 E0 s0 it => ?_
  have q0 := FinD.step (StpS.of (fx := fx) E0 s0) q
  clear q
  let I : Nat → L2.St → Hp → Prop := fun i σ' H' => ∃ G' ρ' m' A' B', Env X.K κ io G' H' σ' ρ' m' A' B' ∧ StpS fx A B G0 H0 A' B' G' H' ∧ forF b g (ds.drop i) ρ' m' = some fl
  refine ⟨fun i k σ' H' => i ≤ ds.length ∧ k = ds.length - i ∧ I i σ' H', ⟨ds.length, Nat.zero_le _, by simp, G0, ρ, m1, A, B, E0, E0.refl', by rw [List.drop_zero]; exact e2⟩, ?_⟩
  rintro i k σ1 H1 ⟨hi', rfl, G1, ρ1, m1', A1, B1, E1, s1, hr⟩
  have itH := it G1 H1 s1.gg E1.sub
  by_cases hlt : i < ds.length
  · refine .inr ?_
    have hdi : ds[i]? = some ds[i] := List.getElem?_eq_getElem hlt
    obtain ⟨hgo, hyl⟩ := itH.2 i ds[i] hdi
    refine ⟨hgo, I (i + 1), fun σ' H' hI => ⟨ds.length - (i + 1), by omega, by omega, rfl, hI⟩, fun x H2 hy => ?_⟩
    obtain ⟨G2, s2, gh2, rx⟩ := hyl x H2 hy
    have hdrop : ds.drop i = ds[i] :: ds.drop (i + 1) := List.drop_eq_getElem_cons hlt
    rw [hdrop] at hr
    obtain ⟨ρ2, e3, hr⟩ := Option.bind_eq_some_iff.mp (show (b ds[i] ρ1).bind (fun ρ1 => (g ρ1 m1').bind fun fl => match fl with | .nx ρ2 m2 => forF b g (ds.drop (i + 1)) ρ2 m2 | .ct ρ2 m2 => forF b g (ds.drop (i + 1)) ρ2 m2 | .bk ρ2 m2 => some (.nx ρ2 m2) | .rt d m2 => some (.rt d m2)) = some fl from hr)
    obtain ⟨f2, e4, e5⟩ := Option.bind_eq_some_iff.mp hr
    have E2 := E1.keep s2 gh2
    have sA : StpS fx A B G0 H0 A1 B1 G2 H2 := s1.trans (StpS.of E2 s2.any)
    refine hg.sem G2 H2 σ1 ρ1 m1' A1 B1 x ds[i] ρ2 _ E2 rx e3 fun σ2 E3 _ => ?_
    refine hb.sem G2 H2 σ2 ρ2 m1' A1 B1 _ f2 E3 e4 ?_
    cases f2 with
    | nx ρ3 m3 => exact fun σ' G' H' A' B' E' s' => ⟨G', ρ3, m3, A', B', E', sA.trans s', e5⟩
    | ct ρ3 m3 => exact fun σ' G' H' A' B' E' s' => ⟨G', ρ3, m3, A', B', E', sA.trans s', e5⟩
    | bk ρ3 m3 => cases e5; exact fun σ' G' H' A' B' E' s' => q0 σ' G' H' A' B' E' (sA.trans s')
    | rt d m3 => cases e5; exact fun v σ' ρ' G' H' A' B' E' s' r => q0 v σ' ρ' G' H' A' B' E' (sA.trans s') r
  · have e : i = ds.length := by omega
    subst e
    rw [List.drop_length] at hr
    cases hr
    exact .inl ⟨itH.1, q0 σ1 G1 H1 A1 B1 E1 s1⟩
/-! while -/
def whileF (c : TF) (g : SF) : Nat → DEnv → Io → Option Fl
  | 0, _, _ => none
  | k + 1, ρ, m => (c ρ m).bind fun p => if p.1 = true then (g ρ p.2).bind fun fl => match fl with
    | .nx ρ2 m2 => whileF c g k ρ2 m2
    | .ct ρ2 m2 => whileF c g k ρ2 m2
    | .bk ρ2 m2 => some (.nx ρ2 m2)
    | .rt d m2 => some (.rt d m2) else some (.nx ρ p.2)
theorem ds_while (fuel : DEnv → Io → Nat) (hp : PassesOwn (model X.prog X.w) X.A X.env X.xe) (hc : DT X κ io c tc fc) (hb : DSs X κ io fx body t g) : DS X κ io fx (.While c body [] pos) (tWhile tc t) (fun ρ m => whileF fc g (fuel ρ m) ρ m) := by
  refine ⟨ps_while hp hc.pt hb.pss, fun G H σ ρ m A B D fl E hf q => ?_⟩
  let I : Nat → L2.St → Hp → Prop := fun k σ' H' => ∃ G' ρ' m' A' B', Env X.K κ io G' H' σ' ρ' m' A' B' ∧ StpS fx A B G H A' B' G' H' ∧ whileF fc g k ρ' m' = some fl
  refine ⟨I, ⟨fuel ρ m, G, ρ, m, A, B, E, E.refl', hf⟩, ?_⟩
  rintro k σ1 H1 ⟨G1, ρ1, m1, A1, B1, E1, s1, hr⟩
  cases k with
  | zero => cases hr
  | succ k =>
    obtain ⟨⟨z, m2⟩, e1, hr⟩ := Option.bind_eq_some_iff.mp (show (fc ρ1 m1).bind (fun p => if p.1 = true then (g ρ1 p.2).bind fun fl => match fl with | .nx ρ2 m2 => whileF fc g k ρ2 m2 | .ct ρ2 m2 => whileF fc g k ρ2 m2 | .bk ρ2 m2 => some (.nx ρ2 m2) | .rt d m2 => some (.rt d m2) else some (.nx ρ1 p.2)) = some fl from hr)
    refine hc.sem G1 H1 σ1 ρ1 m1 A1 B1 _ z m2 E1 e1 fun G2 H2 E2 s2 => ?_
    have sA := s1.trans (StpS.of (fx := fx) E2 s2)
    cases z with
    | false => cases hr; exact q σ1 G2 H2 A1 B1 E2 sA
    | true =>
      obtain ⟨f2, e4, e5⟩ := Option.bind_eq_some_iff.mp (show (g ρ1 m2).bind (fun fl => match fl with | .nx ρ2 m2 => whileF fc g k ρ2 m2 | .ct ρ2 m2 => whileF fc g k ρ2 m2 | .bk ρ2 m2 => some (.nx ρ2 m2) | .rt d m2 => some (.rt d m2)) = some fl from hr)
      refine ⟨I k, fun σ' H' hI => ⟨k, Nat.lt_succ_self _, hI⟩, hb.sem G2 H2 σ1 ρ1 m2 A1 B1 _ f2 E2 e4 ?_⟩
      cases f2 with
      | nx ρ3 m3 => exact fun σ' G' H' A' B' E' s' => ⟨G', ρ3, m3, A', B', E', sA.trans s', e5⟩
      | ct ρ3 m3 => exact fun σ' G' H' A' B' E' s' => ⟨G', ρ3, m3, A', B', E', sA.trans s', e5⟩
      | bk ρ3 m3 => cases e5; exact fun σ' G' H' A' B' E' s' => q σ' G' H' A' B' E' (sA.trans s')
      | rt d m3 => cases e5; exact fun v σ' ρ' G' H' A' B' E' s' r => q v σ' ρ' G' H' A' B' E' (sA.trans s') r
/-- more turns than any loop here takes -/
def fuelN : Nat := 100000
def fWhile (c : TF) (g : SF) : SF := fun ρ m => whileF c g fuelN ρ m
theorem ds_whileF (hp : PassesOwn (model X.prog X.w) X.A X.env X.xe) (hc : DT X κ io c tc fc) (hb : DSs X κ io fx body t g) : DS X κ io fx (.While c body [] pos) (tWhile tc t) (fWhile fc g) := ds_while (fun _ _ => fuelN) hp hc hb
end
end DL
namespace DL
open PySem PySem.Spec PyProof.Rows L2
/-! ### owned slots -/
section
variable {K : PySem.W.Frag} {G G' H H' : Hp} {κ : List Nat} {io : Option Nat} {σ : L2.St} {ρ : DEnv} {m : Io} {A B C : List Addr} {fx : Bool}
theorem EnvA.setN {n : Nat} {x : V} {d : PyData} (r : Ow K G H n x d C) : ∀ {κ : List Nat} {σ : L2.St} {ρ : DEnv} {A : List Addr} {i : Nat}, EnvA K G H κ σ ρ A → κ[i]? = some n →
    ∃ A1 A2 A3, A = A1 ++ A2 ++ A3 ∧ EnvA K G H κ (σ.set i (some x)) (ρ.set i (some d)) (A1 ++ C ++ A3)
  | _, _, _, _, _, .nil, e => by simp at e
  | _, _, _, A, 0, .no t, e => by
    simp at e; subst e
    exact ⟨[], [], A, rfl, EnvA.so r t⟩
  | _, _, _, _, i + 1, .no t, e => by
    obtain ⟨A1, A2, A3, h1, h2⟩ := EnvA.setN (i := i) r t (by simpa using e)
    exact ⟨A1, A2, A3, h1, .no h2⟩
  | _, _, _, _, 0, .so (A := A) (B := B) o t, e => by
    simp at e; subst e
    exact ⟨[], A, B, rfl, EnvA.so r t⟩
  | _, _, _, _, i + 1, .so (A := A) o t, e => by
    obtain ⟨A1, A2, A3, h1, h2⟩ := EnvA.setN (i := i) r t (by simpa using e)
    refine ⟨A ++ A1, A2, A3, by rw [h1]; simp, ?_⟩
    have h3 := EnvA.so o h2
    have e3 : A ++ (A1 ++ C ++ A3) = A ++ A1 ++ C ++ A3 := by simp
    rw [e3] at h3
    exact h3
theorem EnvA.unsetN : ∀ {κ : List Nat} {σ : L2.St} {ρ : DEnv} {A : List Addr} (i : Nat), EnvA K G H κ σ ρ A → ∃ A1 A2 A3, A = A1 ++ A2 ++ A3 ∧ EnvA K G H κ σ (ρ.set i none) (A1 ++ A3)
  | _, _, _, _, _, .nil => ⟨[], [], [], rfl, .nil⟩
  | _, _, _, A, 0, .no t => ⟨[], [], A, rfl, .no t⟩
  | _, _, _, _, i + 1, .no t => by
    obtain ⟨A1, A2, A3, h1, h2⟩ := EnvA.unsetN i t
    exact ⟨A1, A2, A3, h1, .no h2⟩
  | _, _, _, _, 0, .so (A := A) (B := B) o t => ⟨[], A, B, rfl, .no t⟩
  | _, _, _, _, i + 1, .so (A := A) o t => by
    obtain ⟨A1, A2, A3, h1, h2⟩ := EnvA.unsetN i t
    refine ⟨A ++ A1, A2, A3, by rw [h1]; simp, ?_⟩
    have h3 := EnvA.so o h2
    rw [show A ++ (A1 ++ A3) = A ++ A1 ++ A3 by simp] at h3
    exact h3
/-- an owned slot gets a new object -/
theorem Env.setN {n i : Nat} {x : V} {d : PyData} (E : Env K κ io G H σ ρ m A B) (hk : κ[i]? = some n) (hi : io ≠ some i) (r : Ow K G H n x d C) (nC : C.Nodup) (hC : ∀ a ∈ C, a ∉ A ++ B) (hG : ∀ a ∈ C, G a = none) :
    ∃ A', Env K κ io G H (σ.set i (some x)) (ρ.set i (some d)) m A' B ∧ (∀ a ∈ A', a ∈ C ∨ a ∈ A) := by
  obtain ⟨A1, A2, A3, rfl, h⟩ := E.env.setN r hk
  refine ⟨A1 ++ C ++ A3, ⟨h, E.iom.set hi, ?_, E.sub, fun a ha => ?_⟩, fun a ha => ?_⟩
  · have nd := E.nd
    simp only [List.nodup_append, List.mem_append] at nd hC ⊢
    obtain ⟨⟨⟨⟨n1, n2, n3⟩, n4, n5⟩, n6, n7⟩⟩ := And.intro nd trivial
    refine ⟨⟨⟨n1, nC, fun a ha b hb e => ?_⟩, n4, fun a ha b hb e => ?_⟩, n6, fun a ha b hb e => ?_⟩
    · subst e; exact hC a hb (.inl (.inl (.inl ha)))
    · subst e
      rcases ha with ha | ha
      · exact n5 a (.inl ha) a hb rfl
      · exact hC a ha (.inl (.inr hb))
    · subst e
      rcases ha with (ha | ha) | ha
      · exact n7 a (.inl (.inl ha)) a hb rfl
      · exact hC a ha (.inr hb)
      · exact n7 a (.inr ha) a hb rfl
  · simp only [List.mem_append] at ha
    rcases ha with ((ha | ha) | ha) | ha
    · exact E.free a (by simp [ha])
    · exact hG a ha
    · exact E.free a (by simp [ha])
    · exact E.free a (by simp [ha])
  · simp only [List.mem_append] at ha ⊢
    rcases ha with (ha | ha) | ha
    · exact .inr (.inl (.inl ha))
    · exact .inl ha
    · exact .inr (.inr ha)
/-- an owned slot is moved out -/
theorem Env.unsetN (i : Nat) (E : Env K κ io G H σ ρ m A B) : ∃ A', Env K κ io G H σ (ρ.set i none) m A' B ∧ (∀ a ∈ A', a ∈ A) := by
  obtain ⟨A1, A2, A3, rfl, h⟩ := E.env.unsetN i
  refine ⟨A1 ++ A3, ⟨h, E.iom, ?_, E.sub, fun a ha => E.free a ?_⟩, fun a ha => ?_⟩
  · have nd := E.nd
    simp only [List.nodup_append, List.mem_append] at nd ⊢
    obtain ⟨⟨⟨n1, n2, n3⟩, n4, n5⟩, n6, n7⟩ := nd
    exact ⟨⟨n1, n4, fun a ha b hb e => n5 a (.inl ha) b hb e⟩, n6, fun a ha b hb e => n7 a (ha.elim (fun z => .inl (.inl z)) .inr) b hb e⟩
  · simp only [List.mem_append] at ha ⊢
    rcases ha with (ha | ha) | ha
    · exact .inl (.inl (.inl ha))
    · exact .inl (.inr ha)
    · exact .inr ha
  · simp only [List.mem_append] at ha ⊢
    rcases ha with ha | ha
    · exact .inl (.inl ha)
    · exact .inr ha
theorem EnvA.getN : ∀ {κ : List Nat} {σ : L2.St} {ρ : DEnv} {A : List Addr} {i n : Nat} {d : PyData}, EnvA K G H κ σ ρ A → A.Nodup → κ[i]? = some n → ρ[i]? = some (some d) → ∃ v C, σ[i]? = some (some v) ∧ Ow K G H n v d C ∧ (∀ a ∈ C, a ∈ A) ∧ C.Nodup
  | _, _, _, _, _, _, _, .nil, _, e, _ => by simp at e
  | _, _, _, _, 0, _, _, .no t, _, _, e => by simp at e
  | _, _, _, _, i + 1, _, _, .no t, nd, e, e' => EnvA.getN (i := i) t nd (by simpa using e) (by simpa using e')
  | _, _, _, _, 0, _, _, .so o t, nd, e, e' => by
    simp at e e'
    subst e e'
    exact ⟨_, _, rfl, o, fun a m => List.mem_append_left _ m, (List.nodup_append.mp nd).1⟩
  | _, _, _, _, i + 1, _, _, .so o t, nd, e, e' => by
    obtain ⟨v, C, h1, h2, h3, h4⟩ := EnvA.getN (i := i) t (List.nodup_append.mp nd).2.1 (by simpa using e) (by simpa using e')
    exact ⟨v, C, by simpa using h1, h2, fun a m => List.mem_append_right _ (h3 a m), h4⟩
/-- the content of an owned slot changes in its place -/
theorem EnvA.put {n : Nat} {d : PyData} : ∀ {κ : List Nat} {σ : L2.St} {ρ : DEnv} {A : List Addr} {i : Nat} {v : V} {d0 : PyData}, EnvA K G H κ σ ρ A → A.Nodup → κ[i]? = some n → σ[i]? = some (some v) → ρ[i]? = some (some d0) →
    (∀ C, (∀ a ∈ C, a ∈ A) → C.Nodup → Ow K G H n v d0 C → (∀ b o, b ∉ C → H b = some o → H' b = some o) ∧ Ow K G H' n v d C) → EnvA K G H' κ σ (ρ.set i (some d)) A
  | _, _, _, _, _, _, _, .nil, _, e, _, _, _ => by simp at e
  | _, _, _, _, 0, _, _, .no t, _, _, _, e, _ => by simp at e
  | _, _, _, _, i + 1, _, _, .no t, nd, e1, e2, e3, f => .no (EnvA.put (i := i) t nd (by simpa using e1) (by simpa using e2) (by simpa using e3) f)
  | _, _, _, _, 0, _, _, .so (A := A) (B := B) o t, nd, e1, e2, e3, f => by
    simp at e1 e2 e3
    subst e1 e2 e3
    obtain ⟨f1, f2⟩ := f A (fun a h => List.mem_append_left _ h) (List.nodup_append.mp nd).1 o
    refine .so f2 (t.keep (Same.refl _) fun a ha o' ho => f1 a o' (fun z => ?_) ho)
    exact (List.nodup_append.mp nd).2.2 a z a ha rfl
  | _, _, _, _, i + 1, v, d0, .so (A := A) (B := B) o t, nd, e1, e2, e3, f => by
    have nd' := List.nodup_append.mp nd
    have key : ∃ C, (∀ a ∈ C, a ∈ B) ∧ C.Nodup ∧ Ow K G H n v d0 C := by
      obtain ⟨v', C, h1, h2, h3, h4⟩ := t.getN (i := i) nd'.2.1 (by simpa using e1) (by simpa using e3)
      rw [List.getElem?_cons_succ, h1] at e2
      have e2' := e2
      cases e2'
      exact ⟨C, h3, h4, h2⟩
    obtain ⟨C, c1, c3, c2⟩ := key
    obtain ⟨f1, _⟩ := f C (fun a h => List.mem_append_right _ (c1 a h)) c3 c2
    refine .so (o.keep (Same.refl _) fun a ha o' ho => f1 a o' (fun z => nd'.2.2 a ha a (c1 a z) rfl) ho) (EnvA.put (i := i) t nd'.2.1 (by simpa using e1) (by simpa using e2) (by simpa using e3) fun C hC => f C fun a h => List.mem_append_right _ (hC a h))
/-- .. of depth one: at a -/
theorem Env.put1 {i : Nat} {a : Addr} {d d0 : PyData} {o : HO} (E : Env K κ io G H σ ρ m A B) (hk : κ[i]? = some 1) (hs : σ[i]? = some (some (.ref a))) (hr : ρ[i]? = some (some d0)) (h1 : Ow K G (upd H a o) 1 (.ref a) d [a]) :
    a ∈ A ∧ Env K κ io G (upd H a o) σ (ρ.set i (some d)) m A B ∧ StpS fx A B G H A B G (upd H a o) := by
  have one : ∀ {v : V} {d : PyData} {H : Hp} {C : List Addr}, Ow K G H 1 v d C → ∃ b, v = .ref b ∧ C = [b] := fun {v d H C} h => by
    rcases h with ⟨b, xs, ds', D, rfl, e0, e, t, rfl⟩ | ⟨b, kvs, ks, ds', D, rfl, e0, e, ek, t, rfl⟩ | ⟨b, kvs, ks, ds', D, rfl, e0, e, ek, t, rfl⟩ <;>
    · obtain ⟨_, rfl⟩ := OwAll.to_rp t
      exact ⟨b, rfl, rfl⟩
  obtain ⟨v, C, g1, g2, g3⟩ := E.env.get hk hr
  rw [hs] at g1
  cases g1
  obtain ⟨b, e1, rfl⟩ := one g2
  cases e1
  have ha : a ∈ A := g3 a (by simp)
  have nb : a ∉ B := E.nAB ha
  have ht : H a ≠ none := E.env.there a ha
  have hf : G a = none := E.free a (List.mem_append_left _ ha)
  refine ⟨ha, ⟨E.env.put (List.nodup_append.mp E.nd).1 hk hs hr fun C hC _ oC => ?_, E.iom.keep (Same.refl _) fun b hb o' ho => by rw [upd_ne (by rintro rfl; exact nb hb)]; exact ho, E.nd, fun b o' e => ?_, E.free⟩,
    ⟨Same.refl _, fun b o' n e => by rw [upd_ne (by rintro rfl; exact n (List.mem_append_left _ ha))]; exact e, fun _ _ _ e => e, fun b e => ?_, fun b hb => .inl hb, fun _ => ⟨rfl, fun b hb z => E.nAB z hb⟩⟩⟩
  · obtain ⟨b, e1, rfl⟩ := one oC
    cases e1
    exact ⟨fun b o' n e => by rw [upd_ne (by rintro rfl; exact n (by simp))]; exact e, h1⟩
  · rw [upd_ne (by rintro rfl; rw [hf] at e; cases e)]
    exact E.sub b o' e
  · by_cases z : b = a
    · subst z; rw [upd_same]; exact fun z => nomatch z
    · rw [upd_ne z]; exact e
end
/-! ### new objects not yet taken into G -/
def DFt (K : PySem.W.Frag) (κ : List Nat) (io : Option Nat) (t : TE) (f : EF) : Prop :=
  ∀ (G H : Hp) (σ : L2.St) (ρ : DEnv) (m : Io) (A B : List Addr) (Q : VK) (d : PyData) (m' : Io), Env K κ io G H σ ρ m A B → f ρ m = some (d, m') →
    (∀ p G' H', Env K κ io G' H' σ ρ m' A B → Stp B G H G' H' → H p = none → G' p = none → p ∉ A ++ B → Ow K G' H' 1 (.ref p) d [p] → Q (.ref p) H') → t σ H Q
structure DF (X : Cx) (κ : List Nat) (io : Option Nat) (e : Expr) (t : TE) (f : EF) : Prop where
  pe : PE X e t
  sem : DFt X.K κ io t f
section
variable {K : PySem.W.Frag} {G H : Hp} {κ : List Nat} {io : Option Nat} {σ : L2.St} {ρ : DEnv} {m : Io} {A B : List Addr}
theorem Env.fresh {p : Addr} {o : HO} (E : Env K κ io G H σ ρ m A B) (hp : H p = none) : Env K κ io G (upd H p o) σ ρ m A B ∧ Stp B G H G (upd H p o) ∧ G p = none ∧ p ∉ A ++ B :=
  ⟨E.keep (stp_new hp) (same_new E.sub hp), (stp_new hp).any, sub_none E.sub hp, fun z => E.thereA p z hp⟩
theorem ne_none_step {G' H' : Hp} {p : Addr} (s : Stp B G H G' H') (h : H' p = none) : H p = none := by
  by_cases z : H p = none
  · exact z
  · exact absurd h (s.th p z)
end
section
variable {X : Cx} {κ : List Nat} {io : Option Nat} {n n1 : Nat} {e a b : Expr} {es : List Expr} {te ta tb : TE} {tr : TA} {h : AF} {f g : EF} {pos p2 : Pos} {fx : Bool}
def addLD (d e : PyData) : Option PyData := match d, e with
  | .list xs, .list ys => if szOk (xs.length + ys.length) then some (.list (xs ++ ys)) else none
  | _, _ => none
theorem df_lst (ha : DA X κ io 0 es tr h) : DF X κ io (.List es pos) (tLst tr) (fLst h) := by
  refine ⟨pe_lst ha.pa, fun G H σ ρ m A B Q d m' E hf q => ?_⟩
  obtain ⟨⟨ds, m1⟩, e1, h1⟩ := Option.bind_eq_some_iff.mp (show (h ρ m).bind (fun p => if szOk p.1.length then some (PyData.list p.1, p.2) else none) = some (d, m') from hf)
  dsimp only at h1
  split at h1
  · rename_i hz
    cases h1
    refine ha.sem G H σ ρ m A B _ _ _ E e1 fun vs G1 H1 E1 s1 r1 => ⟨by rw [r1.length]; exact of_decide_eq_true hz, fun p hp => ?_⟩
    obtain ⟨E2, s2, h3, h4⟩ := E1.fresh (o := .lst vs) hp
    exact q p _ _ E2 (s1.trans s2) (ne_none_step s1 hp) h3 h4 (ow_list upd_same (RkAll.to_rp r1))
  · cases h1
theorem df_add (ha : DE X κ io 1 a ta f) (hb : DE X κ io 1 b tb g) : DF X κ io (.BinOp a .Add b pos) (tOp rCat ta tb) (fOp addLD f g) := by
  refine ⟨pe_op op_cat ha.pe hb.pe, fun G H σ ρ m A B Q d m' E hf q => ?_⟩
  obtain ⟨⟨x, m1⟩, e1, h1⟩ := Option.bind_eq_some_iff.mp hf
  obtain ⟨⟨y, m2⟩, e2, h2⟩ := Option.bind_eq_some_iff.mp h1
  obtain ⟨z, e3, h3⟩ := Option.map_eq_some_iff.mp h2
  cases h3
  unfold addLD at e3
  dsimp only at e3
  split at e3
  · split at e3
    · rename_i xs ys hz
      cases e3
      refine ha.sem G H σ ρ m A B _ _ m1 E e1 fun v G1 H1 E1 s1 r1 => ?_
      refine hb.sem G1 H1 σ ρ m1 A B _ _ _ E1 e2 fun u G2 H2 E2 s2 r2 => ?_
      obtain ⟨a, vs, rfl, h1, t1⟩ := (r1.step s2).lst E2.sub
      obtain ⟨b, ws, rfl, h2, t2⟩ := r2.lst E2.sub
      refine ⟨a, b, vs, ws, rfl, rfl, h1, h2, by rw [t1.length, t2.length]; exact of_decide_eq_true hz, fun p hp => ?_⟩
      obtain ⟨E3, s3, h3, h4⟩ := E2.fresh (o := .lst (vs ++ ws)) hp
      exact q p _ _ E3 ((s1.trans s2).trans s3) (ne_none_step (s1.trans s2) hp) h3 h4 (ow_list upd_same ((RkAll.to_rp t1).append (RkAll.to_rp t2)))
    · cases e3
  · cases e3
theorem df_dnewK : DF X κ io (.Dict [] [] pos) tDNewK (fC (.dict [])) := ⟨pe_dnewK, fun G H σ ρ m A B Q d m' E hf q p hp => by
  cases hf
  obtain ⟨E2, s2, h3, h4⟩ := E.fresh (o := .dK []) hp
  exact q p _ _ E2 s2 hp h3 h4 (.inr (.inl ⟨p, [], [], [], [], rfl, rfl, upd_same, rfl, .nil, rfl⟩))⟩
theorem df_dnewT : DF X κ io (.Dict [] [] pos) tDNewT (fC (.dict [(.none, .none)])) := ⟨pe_dnewT, fun G H σ ρ m A B Q d m' E hf q p hp => by
  cases hf
  obtain ⟨E2, s2, h3, h4⟩ := E.fresh (o := .dT []) hp
  exact q p _ _ E2 s2 hp h3 h4 (.inr (.inr ⟨p, [], [], [], [], rfl, rfl, upd_same, rfl, .nil, rfl⟩))⟩
theorem df_listOf {t : TA} {p : Pos} (hm : X.mg "list" = none) (ha : DA X κ io 1 [e] t h) (hg : Gl X "list" := by rfl)
    (he : starEach [e] X.env = (false, eval e X.env) :: starEach [] X.env := by rfl) :
    DF X κ io (.Call (.Name "list" p) [e] [] pos) (tCB (rLstOf X.K) t) (fCall listD h) := by
  refine ⟨pe_callTy call_list_of hg hm boot_list ha.pa (by decide) (by decide) he rfl, fun G H σ ρ m A B Q d m' E hf q => ?_⟩
  obtain ⟨⟨ds, m1⟩, e1, h1⟩ := Option.bind_eq_some_iff.mp (show (h ρ m).bind (fun p => (listD p.1).map fun z => (z, p.2)) = some (d, m') from hf)
  obtain ⟨z, e2, h2⟩ := Option.map_eq_some_iff.mp h1
  cases h2
  refine ha.sem G H σ ρ m A B _ ds _ E e1 fun vs G1 H1 E1 s1 r1 => ?_
  dsimp only at e2
  unfold listD at e2
  split at e2
  · cases e2
    obtain ⟨v, rfl, r⟩ := r1.one
    obtain ⟨a, vs, rfl, e1, t1⟩ := r.lst E1.sub
    refine ⟨a, vs, rfl, .inl (SqL.of e1), fun p hp => ?_⟩
    obtain ⟨E3, s3, h3, h4⟩ := E1.fresh (o := .lst vs) hp
    exact q p _ _ E3 (s1.trans s3) (ne_none_step s1 hp) h3 h4 (ow_list upd_same (RkAll.to_rp t1))
  · cases e2
    obtain ⟨v, rfl, r⟩ := r1.one
    obtain ⟨a, vs, rfl, e1, t1⟩ := r.tup
    refine ⟨a, vs, rfl, .inr (Same.sqT E1.sub e1), fun p hp => ?_⟩
    obtain ⟨E3, s3, h3, h4⟩ := E1.fresh (o := .lst vs) hp
    exact q p _ _ E3 (s1.trans s3) (ne_none_step s1 hp) h3 h4 (ow_list upd_same t1)
  · cases e2
variable {tt : TT} {ft : TF} {wi : TI} {gt : TG} {fi : AF} {bb : BF} {js : List Nat} {tg iter elt : Expr} {ifs : List Expr} {scope : Scope} {own : List (Str × Nat)} {fe : EF}
theorem df_lc (hc : X.calm = true) (hN : X.N.Nodup) (hi : DJ X κ io tg iter wi fi) (ok : BlkOk X.N X.env.scope scope own)
    (hg : ∀ (s : Shared) (H : Hp) (C : Addr) (cl : List (Str × Addr)) (fp : List Addr), DG (X.blk s H scope (compEnvC scope cl C X.env) fp) κ io js tg gt bb)
    (ht : ∀ (s : Shared) (H : Hp) (C : Addr) (cl : List (Str × Addr)) (fp : List Addr), DTs (X.blk s H scope (compEnvC scope cl C X.env) fp) κ io ifs tt ft)
    (he : ∀ (s : Shared) (H : Hp) (C : Addr) (cl : List (Str × Addr)) (fp : List Addr), DE (X.blk s H scope (compEnvC scope cl C X.env) fp) κ io 0 elt te fe)
    (hj : ∀ j ∈ js, j ∈ own.map (·.2) := by decide) (hv : ∀ i ∈ own.map (·.2), κ[i]? = some 0 ∧ io ≠ some i := by decide) (hs : ∀ x, foldedSetIterable iter X.env x = pure x := by intro _; rfl) :
    DF X κ io (.ListComp elt [⟨tg, iter, ifs, 0⟩] scope pos) (tLc wi gt tt te (own.map (·.2))) (fLc fi bb ft fe (own.map (·.2))) := by
  refine ⟨pe_lc hc hN hi.pi ok (fun s H C cl fp => (hg s H C cl fp).pg) (fun s H C cl fp => (ht s H C cl fp).pts) (fun s H C cl fp => (he s H C cl fp).pe) hs, fun G H σ ρ m A B Q d m' E hf q => ?_⟩
  obtain ⟨⟨ds, m1⟩, e1, h1⟩ := Option.bind_eq_some_iff.mp (show (fi ρ m).bind (fun p => (lcF bb ft fe (wipeD ρ (own.map (·.2))) p.1 p.2).bind fun q => if szOk q.1.length then some (PyData.list q.1, q.2) else none) = some (d, m') from hf)
  obtain ⟨⟨ys, m2⟩, e2, h2⟩ := Option.bind_eq_some_iff.mp h1
  dsimp only at h2
  split at h2
  · rename_i hz
    cases h2
    refine hi.sem G H σ ρ m A B _ ds m1 E e1 fun J G1 H1 E1 s1 it => ?_
    refine lc_sem (hg X.s_0 X.H_0 0 [] []).sem (ht X.s_0 X.H_0 0 [] []).sem (he X.s_0 X.H_0 0 [] []).sem hj hv E1 it e2 (of_decide_eq_true hz) fun p vs' G2 H2 hp E2 s2 hl hgn hn r => ?_
    exact q p _ _ E2 (s1.trans s2) (ne_none_step s1 hp) hgn hn (ow_list hl r)
  · cases h2
/-! ### statements over owned slots -/
theorem sem_setO {K : PySem.W.Frag} {i : Nat} (hk : κ[i]? = some 1) (hi : io ≠ some i) (h : DFt K κ io te f) : DSt K κ io fx (tAsg te (gName i)) (fSet i f) := fun G H σ ρ m A B D fl E hf q => by
  obtain ⟨⟨d, m1⟩, e1, e2⟩ := Option.map_eq_some_iff.mp (show (f ρ m).map (fun p => Fl.nx (ρ.set i (some p.1)) p.2) = some fl from hf)
  subst e2
  refine h G H σ ρ m A B _ d m1 E e1 fun p G1 H1 E1 s1 hp hg hn o => ?_
  obtain ⟨A', E2, hA⟩ := E1.setN hk hi o (by simp) (fun a ha => by rw [List.mem_singleton.mp ha]; exact hn) (fun a ha => by rw [List.mem_singleton.mp ha]; exact hg)
  refine q _ G1 H1 A' B E2 ⟨s1.gg, fun b o n e => s1.hh b o (fun z => n (List.mem_append_right _ z)) e, fun b _ e g => s1.fr b e g, s1.th, fun a ha => ?_, fun _ => ⟨rfl, fun a ha z => E2.nAB z ha⟩⟩
  rcases List.mem_append.mp ha with ha | ha
  · rcases hA a ha with z | z
    · rw [List.mem_singleton.mp z]; exact .inr hp
    · exact .inl (List.mem_append_left _ z)
  · exact .inl (List.mem_append_right _ ha)
theorem ds_setO (i : Nat) {x : Str} {pos' : Pos} (hN : X.N.Nodup) (he : DF X κ io e te f) (hk : κ[i]? = some 1 := by rfl) (hio : io ≠ some i := by decide) (hi : X.N[i]? = some x := by rfl) (hx : Loc X.env.scope x := by first | exact Or.inl rfl | exact Or.inr rfl)
    (hs : swapsWith e (some (.Name x pos')) pos.line X.env = pure false := by rfl) (hf : X.fn x = true ∨ X.env.scope.names.lookup x = some .local := by first | exact .inl rfl | exact .inr rfl) :
    DS X κ io fx (.Assign [.Name x pos'] e pos) (tAsg te (gName i)) (fSet i f) := ⟨ps_set hN hi hx he.pe hs hf, sem_setO hk hio he.sem⟩
/-- x = [..] on one line -/
theorem ds_setLc (i : Nat) {y : Str} {py : Pos} (hc : X.calm = true) (hN : X.N.Nodup) (hi : DJ X κ io tg iter wi fi) (ok : BlkOk X.N X.env.scope scope own)
    (hg : ∀ (s : Shared) (H : Hp) (C : Addr) (cl : List (Str × Addr)) (fp : List Addr), DG (X.blk s H scope (compEnvC scope cl C X.env) fp) κ io js tg gt bb)
    (ht : ∀ (s : Shared) (H : Hp) (C : Addr) (cl : List (Str × Addr)) (fp : List Addr), DTs (X.blk s H scope (compEnvC scope cl C X.env) fp) κ io ifs tt ft)
    (he : ∀ (s : Shared) (H : Hp) (C : Addr) (cl : List (Str × Addr)) (fp : List Addr), DE (X.blk s H scope (compEnvC scope cl C X.env) fp) κ io 0 elt te fe)
    {spos : Pos} (hsw : swapsWith (.ListComp elt [⟨tg, iter, ifs, 0⟩] scope pos) (some (.Name y py)) spos.line X.env = pure true) (hk : κ[i]? = some 0 := by rfl) (hio : io ≠ some i := by decide) (hy : X.N[i]? = some y := by rfl) (hyl : X.env.scope.names.lookup y = some .local := by rfl)
    (hj : ∀ j ∈ js, j ∈ own.map (·.2) := by decide) (hv : ∀ i ∈ own.map (·.2), κ[i]? = some 0 ∧ io ≠ some i := by decide) (hs : ∀ x, foldedSetIterable iter X.env x = pure x := by intro _; rfl) :
    DS X κ io fx (.Assign [.Name y py] (.ListComp elt [⟨tg, iter, ifs, 0⟩] scope pos) spos) (tAsg (tLc wi gt tt te (own.map (·.2))) (gName i)) (fSet i (fLc fi bb ft fe (own.map (·.2)))) :=
  ⟨ps_setLc hc hN hy hyl hsw hi.pi ok (fun s H C cl fp => (hg s H C cl fp).pg) (fun s H C cl fp => (ht s H C cl fp).pts) (fun s H C cl fp => (he s H C cl fp).pe) hs, sem_set hk hio (de_lc (n := 0) (pos := pos) hc hN hi ok hg ht he hj hv hs).sem⟩
theorem ds_setLcO (i : Nat) {y : Str} {py : Pos} (hc : X.calm = true) (hN : X.N.Nodup) (hi : DJ X κ io tg iter wi fi) (ok : BlkOk X.N X.env.scope scope own)
    (hg : ∀ (s : Shared) (H : Hp) (C : Addr) (cl : List (Str × Addr)) (fp : List Addr), DG (X.blk s H scope (compEnvC scope cl C X.env) fp) κ io js tg gt bb)
    (ht : ∀ (s : Shared) (H : Hp) (C : Addr) (cl : List (Str × Addr)) (fp : List Addr), DTs (X.blk s H scope (compEnvC scope cl C X.env) fp) κ io ifs tt ft)
    (he : ∀ (s : Shared) (H : Hp) (C : Addr) (cl : List (Str × Addr)) (fp : List Addr), DE (X.blk s H scope (compEnvC scope cl C X.env) fp) κ io 0 elt te fe)
    {spos : Pos} (hsw : swapsWith (.ListComp elt [⟨tg, iter, ifs, 0⟩] scope pos) (some (.Name y py)) spos.line X.env = pure true) (hk : κ[i]? = some 1 := by rfl) (hio : io ≠ some i := by decide) (hy : X.N[i]? = some y := by rfl) (hyl : X.env.scope.names.lookup y = some .local := by rfl)
    (hj : ∀ j ∈ js, j ∈ own.map (·.2) := by decide) (hv : ∀ i ∈ own.map (·.2), κ[i]? = some 0 ∧ io ≠ some i := by decide) (hs : ∀ x, foldedSetIterable iter X.env x = pure x := by intro _; rfl) :
    DS X κ io fx (.Assign [.Name y py] (.ListComp elt [⟨tg, iter, ifs, 0⟩] scope pos) spos) (tAsg (tLc wi gt tt te (own.map (·.2))) (gName i)) (fSet i (fLc fi bb ft fe (own.map (·.2)))) :=
  ⟨ps_setLc hc hN hy hyl hsw hi.pi ok (fun s H C cl fp => (hg s H C cl fp).pg) (fun s H C cl fp => (ht s H C cl fp).pts) (fun s H C cl fp => (he s H C cl fp).pe) hs, sem_setO hk hio (df_lc (pos := pos) hc hN hi ok hg ht he hj hv hs).sem⟩
end
end DL
namespace DL
open PySem PySem.Spec PyProof.Rows L2
theorem envA_empty {K : PySem.W.Frag} {G H : Hp} : ∀ (κ : List Nat) (σ : L2.St) (k : Nat), κ.length = σ.length → κ.length = k → EnvA K G H κ σ (List.replicate k none) []
  | [], [], 0, _, _ => .nil
  | [], _ :: _, _, h1, _ => by cases h1
  | [], [], _ + 1, _, h2 => by cases h2
  | _ :: _, [], _, h1, _ => by cases h1
  | _ :: _, _ :: _, 0, _, h2 => by cases h2
  | n :: κ, x :: σ, k + 1, h1, h2 => .no (envA_empty κ σ k (by simpa using h1) (by simpa using h2))
section
variable {X : Cx} {κ : List Nat} {io : Option Nat} {n n1 n2 : Nat} {e a b o : Expr} {es : List Expr} {te ta tb : TE} {tr : TA} {h : AF} {f g : EF} {pos p2 apos cpos pos' : Pos} {fx : Bool}
/-- the slot's list, its address -/
theorem Env.own {K : PySem.W.Frag} {G H : Hp} {σ : L2.St} {ρ : DEnv} {m : Io} {A B : List Addr} {i : Nat} {xs : List PyData} (E : Env K κ io G H σ ρ m A B) (hk : κ[i]? = some 1) (hr : ρ[i]? = some (some (.list xs))) :
    ∃ a vs, σ[i]? = some (some (.ref a)) ∧ H a = some (.lst vs) ∧ RpAll K G vs xs ∧ a ∈ A := by
  obtain ⟨v, C, h1, h2, h3⟩ := E.env.get hk hr
  obtain ⟨a, vs, rfl, h4, h5, rfl⟩ := ow_list_inv h2
  exact ⟨a, vs, h1, h4, h5, h3 a (by simp)⟩
/-! x.append(e) -/
def fAppend (i : Nat) (f : EF) : SF := fun ρ m => (f ρ m).bind fun p => match ρ[i]? with
  | some (some (.list xs)) => if xs.length < sizeLine then some (.nx (ρ.set i (some (.list (xs ++ [p.1])))) p.2) else none
  | _ => none
theorem ds_append (i : Nat) {x : Str} (hv : PE X (.Name x p2) (tVar i)) (he : DE X κ io 0 e te f) (hk : κ[i]? = some 1 := by rfl)
    (hs : swapsWith (.Call (.Attribute (.Name x p2) "append" apos) [e] [] cpos) none pos.line X.env = pure false := by rfl)
    (hbase : attributeBase (.Name x p2) "append" X.env (eval (.Name x p2) X.env) = eval (.Name x p2) X.env := by rfl)
    (hfew : ((backTo cpos (starEach [e] X.env)).all (fun x => !x.1) && (backToKw cpos (keywordEach [] X.env)).all (fun x => x.1.isSome)
      && decide ([e].length + ([] : List Keyword).length + (if ([] : List Keyword).isEmpty then 0 else 1) < 30)) = true := by rfl)
    (hline : (apos.endLine == cpos.line) = true := by rfl) (hs1 : starEach [e] X.env = (false, eval e X.env) :: starEach [] X.env := by rfl) (hpl : (backTo cpos (starEach [] X.env)).any (·.1) = false := by rfl) :
    DS X κ io fx (.Expr (.Call (.Attribute (.Name x p2) "append" apos) [e] [] cpos) pos) (tDrop (tBM X.K "list" rAppend (tVar i) (tCons te tNil))) (fAppend i f) := by
  refine ⟨ps_expr (pe_bm PySem.F.plainAttrs_list PySem.F.slot_list_append PySem.F.type_list_append mt_append hv (pa_cons he.pe pa_nil hs1) hbase hfew hline hs1 hpl) hs, fun G H σ ρ m A B D fl E hf q => ?_⟩
  obtain ⟨⟨d, m1⟩, e1, h1⟩ := Option.bind_eq_some_iff.mp (show (f ρ m).bind (fun p => match ρ[i]? with | some (some (.list xs)) => if xs.length < sizeLine then some (Fl.nx (ρ.set i (some (.list (xs ++ [p.1])))) p.2) else none | _ => none) = some fl from hf)
  dsimp only at h1
  split at h1
  · split at h1
    · rename_i xs hr hz
      cases h1
      obtain ⟨a, vs, g1, g2, g3, g4⟩ := E.own hk hr
      refine ⟨.ref a, g1, .inl ⟨rfl, vs, SqL.of g2⟩, ?_⟩
      refine he.sem G H σ ρ m A B _ d _ E e1 fun v G1 H1 E1 s1 r1 => ?_
      obtain ⟨a', vs', k1, k2, k3, k4⟩ := E1.own hk hr
      rw [g1] at k1
      cases k1
      refine ⟨a, vs', v, rfl, rfl, k2, by rw [k3.length]; exact hz, ?_⟩
      obtain ⟨_, E2, s2⟩ := Env.put1 (fx := fx) E1 hk g1 hr (o := .lst (vs' ++ [v])) (ow_list upd_same (k3.append (.cons r1 .nil)))
      exact q σ _ _ A B E2 ((StpS.of E1 s1).trans s2)
    · cases h1
  · cases h1
/-! x.extend(e) -/
def fExtend (i : Nat) (f : EF) : SF := fun ρ m => (f ρ m).bind fun p => match p.1, ρ[i]? with
  | .list ys, some (some (.list xs)) => if szOk (xs.length + ys.length) then some (.nx (ρ.set i (some (.list (xs ++ ys)))) p.2) else none
  | _, _ => none
theorem ds_extend (i : Nat) {x : Str} (hv : PE X (.Name x p2) (tVar i)) (he : DE X κ io 0 e te f) (hk : κ[i]? = some 1 := by rfl)
    (hs : swapsWith (.Call (.Attribute (.Name x p2) "extend" apos) [e] [] cpos) none pos.line X.env = pure false := by rfl)
    (hbase : attributeBase (.Name x p2) "extend" X.env (eval (.Name x p2) X.env) = eval (.Name x p2) X.env := by rfl)
    (hfew : ((backTo cpos (starEach [e] X.env)).all (fun x => !x.1) && (backToKw cpos (keywordEach [] X.env)).all (fun x => x.1.isSome)
      && decide ([e].length + ([] : List Keyword).length + (if ([] : List Keyword).isEmpty then 0 else 1) < 30)) = true := by rfl)
    (hline : (apos.endLine == cpos.line) = true := by rfl) (hs1 : starEach [e] X.env = (false, eval e X.env) :: starEach [] X.env := by rfl) (hpl : (backTo cpos (starEach [] X.env)).any (·.1) = false := by rfl) :
    DS X κ io fx (.Expr (.Call (.Attribute (.Name x p2) "extend" apos) [e] [] cpos) pos) (tDrop (tBM X.K "list" rExtend (tVar i) (tCons te tNil))) (fExtend i f) := by
  refine ⟨ps_expr (pe_bm PySem.F.plainAttrs_list PySem.F.slot_list_extend PySem.F.type_list_extend mt_extend hv (pa_cons he.pe pa_nil hs1) hbase hfew hline hs1 hpl) hs, fun G H σ ρ m A B D fl E hf q => ?_⟩
  obtain ⟨⟨d, m1⟩, e1, h1⟩ := Option.bind_eq_some_iff.mp (show (f ρ m).bind (fun p => match p.1, ρ[i]? with | .list ys, some (some (.list xs)) => if szOk (xs.length + ys.length) then some (Fl.nx (ρ.set i (some (.list (xs ++ ys)))) p.2) else none | _, _ => none) = some fl from hf)
  dsimp only at h1
  split at h1
  · split at h1
    · rename_i ys xs hr hz
      cases h1
      obtain ⟨a, vs, g1, g2, g3, g4⟩ := E.own hk hr
      refine ⟨.ref a, g1, .inl ⟨rfl, vs, SqL.of g2⟩, ?_⟩
      refine he.sem G H σ ρ m A B _ _ _ E e1 fun v G1 H1 E1 s1 r1 => ?_
      obtain ⟨a', vs', k1, k2, k3, k4⟩ := E1.own hk hr
      rw [g1] at k1
      cases k1
      obtain ⟨b, ws, rfl, c1, c2⟩ := Rp.lst_inv (show Rp X.K G1 v (.list _) from r1)
      refine ⟨a, b, vs', ws, rfl, rfl, k2, E1.sub _ _ c1, by rw [k3.length, c2.length]; exact of_decide_eq_true hz, ?_⟩
      obtain ⟨_, E2, s2⟩ := Env.put1 (fx := fx) E1 hk g1 hr (o := .lst (vs' ++ ws)) (ow_list upd_same (k3.append c2))
      exact q σ _ _ A B E2 ((StpS.of E1 s1).trans s2)
    · cases h1
  · cases h1
/-! return x, x owned -/
def fRetO (i : Nat) : SF := fun ρ m => match ρ[i]? with
  | some (some d) => some (.rt d m)
  | _ => none
theorem ds_retO (i : Nat) {x : Str} (hv : PE X (.Name x p2) (tVar i)) (hk : κ[i]? = some 1 := by rfl) : DS X κ io fx (.Return (some (.Name x p2)) pos) (tRet (tVar i)) (fRetO i) := by
  refine ⟨ps_ret hv, fun G H σ ρ m A B D fl E hf q => ?_⟩
  unfold fRetO at hf
  split at hf
  · rename_i d hr
    cases hf
    obtain ⟨v, C, h1, h2, h3⟩ := E.env.get hk hr
    have pubd : ∀ {a : Addr} {ho : HO}, v = .ref a → a ∈ A → H a = some ho → Rp X.K (upd G a ho) (.ref a) d → D.rt v H := fun {a ho} ev ha hh hrp => by
      subst ev
      have hg : G a = none := E.free a (List.mem_append_left _ ha)
      have sg : Same G (upd G a ho) := fun b o' e => by rw [upd_ne (ne_of_none e hg)]; exact e
      obtain ⟨A1, A2, A3, eA, hE⟩ := E.env.unsetN i
      -- the slot's address is out
      have : ∃ A', Env X.K κ io (upd G a ho) H σ (List.replicate ρ.length none) m A' B ∧ ∀ c ∈ A', c ∈ A := by
        refine ⟨[], ⟨?_, E.iom.keep sg fun _ _ _ h => h, ?_, fun b o' e => ?_, fun b hb => ?_⟩, fun c hc => by cases hc⟩
        · exact envA_empty κ σ ρ.length E.env.len.1 E.env.len.2
        · rw [List.nil_append]; exact (List.nodup_append.mp E.nd).2.1
        · by_cases z : b = a
          · subst z; rw [upd_same] at e; rw [hh]; exact e
          · rw [upd_ne z] at e; exact E.sub b o' e
        · rw [List.nil_append] at hb
          rw [upd_ne (by rintro rfl; exact E.nAB ha hb)]
          exact E.free b (List.mem_append_right _ hb)
      obtain ⟨A', E', hA'⟩ := this
      refine q (.ref a) σ _ (upd G a ho) H A' B E' ⟨sg, fun b o' _ e => e, fun b nb e g => ?_, fun b e => e, fun c hc => ?_, fun _ => ⟨rfl, fun c hc z => E.nAB (hA' c z) hc⟩⟩ hrp
      · rw [upd_ne (by rintro rfl; exact nb (List.mem_append_left _ ha))]; exact g
      · rcases List.mem_append.mp hc with hc | hc
        · exact .inl (List.mem_append_left _ (hA' c hc))
        · exact .inl (List.mem_append_right _ hc)
    refine ⟨v, h1, ?_⟩
    have mono : ∀ {a : Addr} {ho : HO}, a ∈ A → Same G (upd G a ho) := fun {a ho} ha b o' e => by
      rw [upd_ne (ne_of_none e (E.free a (List.mem_append_left _ ha)))]; exact e
    rcases h2 with ⟨a, xs, ds, C', e1, e2, e3, t, rfl⟩ | ⟨a, kvs, ks, ds, C', e1, e2, e3, e4, t, rfl⟩ | ⟨a, kvs, ks, ds, C', e1, e2, e3, e4, t, rfl⟩
    · have ha := h3 a (by simp)
      subst e2
      exact pubd e1 ha e3 (.lst upd_same ((OwAll.to_rp t).1.mono (mono ha)))
    · have ha := h3 a (by simp)
      subst e2
      exact pubd e1 ha e3 (.dK (.inl upd_same) e4 ((OwAll.to_rp t).1.mono (mono ha)))
    · have ha := h3 a (by simp)
      subst e2
      exact pubd e1 ha e3 (.dT (.inl upd_same) e4 ((OwAll.to_rp t).1.mono (mono ha)))
  · cases hf
/-! x += e, ints; frozen slots -/
def fAug (i : Nat) (f : EF) : SF := fun ρ m => (f ρ m).bind fun p => match ρ[i]?, p.1 with
  | some (some (.int j)), .int k => some (.nx (ρ.set i (some (.int (j + k)))) p.2)
  | _, _ => none
theorem ds_aug (i : Nat) {x : Str} (hN : X.N.Nodup) (he : DE X κ io n1 e te f) (hk : κ[i]? = some 0 := by rfl) (hio : io ≠ some i := by decide) (hi : X.N[i]? = some x := by rfl) (hx : Loc X.env.scope x := by first | exact Or.inl rfl | exact Or.inr rfl) (hf : X.fn x = true ∨ X.env.scope.names.lookup x = some .local := by first | exact .inl rfl | exact .inr rfl) :
    DS X κ io fx (.AugAssign (.Name x pos') .Add e pos) (tAug i te (ipI fun i j => i + j)) (fAug i f) := by
  refine ⟨ps_aug hN hi hx he.pe ip_add hf, fun G H σ ρ m A B D fl E hf q => ?_⟩
  obtain ⟨⟨d, m1⟩, e1, h1⟩ := Option.bind_eq_some_iff.mp (show (f ρ m).bind (fun p => match ρ[i]?, p.1 with | some (some (.int j)), .int k => some (Fl.nx (ρ.set i (some (.int (j + k)))) p.2) | _, _ => none) = some fl from hf)
  dsimp only at h1
  split at h1
  · rename_i j k hr
    cases h1
    obtain ⟨v, C, g1, g2, g3⟩ := E.env.get hk hr
    have ev := Rp.int_inv (show Rp X.K G v (.int j) from g2.1)
    subst ev
    refine ⟨_, g1, he.sem G H σ ρ m A B _ _ _ E e1 fun v G1 H1 E1 s1 r1 => ⟨j, k, rfl, r1.int, q _ G1 H1 A B (E1.set0 hk hio (.int _)) (StpS.of E1 s1)⟩⟩
  · cases h1
/-! a, b = e1, e2 -/
def fPar (i j : Nat) (h : AF) : SF := fun ρ m => (h ρ m).bind fun p => match p.1 with
  | [d, e] => some (.nx ((ρ.set i (some d)).set j (some e)) p.2)
  | _ => none
theorem ds_par (i j : Nat) {x y : Str} {px py pt : Pos} {kt k2 pt2} (hc : X.calm = true) (hN : X.N.Nodup) (ha : DA X κ io 0 [a, b] tr h) (hki : κ[i]? = some 0 := by rfl) (hkj : κ[j]? = some 0 := by rfl) (hioi : io ≠ some i := by decide) (hioj : io ≠ some j := by decide) (hi : X.N[i]? = some x := by rfl) (hj : X.N[j]? = some y := by rfl) (hij : i ≠ j := by decide)
    (hx : X.env.scope.names.lookup x = some .local := by rfl) (hy : X.env.scope.names.lookup y = some .local := by rfl)
    (hw : swappedStores [.Tuple [.Name x px, .Name y py] kt pt] (.Tuple [a, b] k2 pt2) X.env = pure (some [x, y]) := by rfl)
    (hs : swapsWithSole [.Tuple [.Name x px, .Name y py] kt pt] (.Tuple [a, b] k2 pt2) pos.line X.env = pure false := by rfl) :
    DS X κ io fx (.Assign [.Tuple [.Name x px, .Name y py] kt pt] (.Tuple [a, b] k2 pt2) pos) (tPar i j tr) (fPar i j h) := by
  refine ⟨ps_par hc hN hi hj hij hx hy ha.pa hw hs, fun G H σ ρ m A B D fl E hf q => ?_⟩
  obtain ⟨⟨ds, m1⟩, e1, h1⟩ := Option.bind_eq_some_iff.mp (show (h ρ m).bind (fun p => match p.1 with | [d, e] => some (Fl.nx ((ρ.set i (some d)).set j (some e)) p.2) | _ => none) = some fl from hf)
  dsimp only at h1
  split at h1
  · cases h1
    refine ha.sem G H σ ρ m A B _ _ _ E e1 fun vs G1 H1 E1 s1 r1 => ?_
    obtain ⟨v, w, rfl, r, r'⟩ := r1.two
    exact ⟨v, w, rfl, q _ G1 H1 A B ((E1.set0 hki hioi r).set0 hkj hioj r') (StpS.of E1 s1)⟩
  · cases h1
/-! target = value, frozen -/
def fAsg (f : EF) (b : BF) : SF := fun ρ m => (f ρ m).bind fun p => (b p.1 ρ).map fun ρ1 => .nx ρ1 p.2
theorem ds_asg {tg : Expr} {gt : TG} {bb : BF} {js : List Nat} (he : DE X κ io 0 e te f) (hg : DG X κ io js tg gt bb) (hs : swapsWithSole [tg] e pos.line X.env = pure false := by rfl) (hw : swappedStores [tg] e X.env = pure none := by rfl)
    (h1 : (assignEach [tg] X.env).map (·.2) = [assign tg X.env] := by rfl) : DS X κ io fx (.Assign [tg] e pos) (tAsg te gt) (fAsg f bb) := by
  refine ⟨ps_asg he.pe hg.pg hs hw h1, fun G H σ ρ m A B D fl E hf q => ?_⟩
  obtain ⟨⟨d, m1⟩, e1, h1⟩ := Option.bind_eq_some_iff.mp (show (f ρ m).bind (fun p => (bb p.1 ρ).map fun ρ1 => Fl.nx ρ1 p.2) = some fl from hf)
  obtain ⟨ρ1, e2, h2⟩ := Option.map_eq_some_iff.mp h1
  cases h2
  exact he.sem G H σ ρ m A B _ _ _ E e1 fun v G1 H1 E1 s1 r1 => hg.sem G1 H1 σ ρ _ A B v d ρ1 _ E1 r1 e2 fun σ' E2 _ => q σ' G1 H1 A B E2 (StpS.of E1 s1)
end
end DL
namespace DL
open PySem PySem.Spec PyProof.Rows L2
/-! ### keys that are tuples of ints and texts, written as such -/
def keysOf : List PyData → Option (List Key)
  | [] => some []
  | d :: r => (keyOf d).bind fun k => (keysOf r).map fun ks => k :: ks
abbrev KF := DEnv → Io → Option (List Key × Io)
def DKt (K : PySem.W.Frag) (κ : List Nat) (io : Option Nat) (t : TE) (f : KF) : Prop :=
  ∀ (G H : Hp) (σ : L2.St) (ρ : DEnv) (m : Io) (A B : List Addr) (Q : VK) (ks : List Key) (m' : Io), Env K κ io G H σ ρ m A B → f ρ m = some (ks, m') →
    (∀ b G' H', Env K κ io G' H' σ ρ m' A B → Stp B G H G' H' → G' b = some (.tup (ks.map kV)) → Q (.ref b) H') → t σ H Q
structure DK (X : Cx) (κ : List Nat) (io : Option Nat) (e : Expr) (t : TE) (f : KF) : Prop where
  pe : PE X e t
  sem : DKt X.K κ io t f
def fKey (h : AF) : KF := fun ρ m => (h ρ m).bind fun p => if p.1.length ≤ 1000 then (keysOf p.1).map fun ks => (ks, p.2) else none
theorem keys_rp {K : PySem.W.Frag} {G : Hp} : ∀ {vs : List V} {ds : List PyData} {ks : List Key}, RpAll K G vs ds → keysOf ds = some ks → vs = ks.map kV ∧ ds = ks.map keyD
  | _, _, ks, .nil, h => by cases h; exact ⟨rfl, rfl⟩
  | _, d :: r, ks, .cons h t, e => by
    obtain ⟨k, e1, e2⟩ := Option.bind_eq_some_iff.mp (show (keyOf d).bind (fun k => (keysOf r).map fun ks => k :: ks) = some ks from e)
    obtain ⟨ks', e3, e4⟩ := Option.map_eq_some_iff.mp e2
    subst e4
    have e5 := keyOf_eq e1
    subst e5
    obtain ⟨h1, h2⟩ := keys_rp t e3
    exact ⟨by rw [h1, h.key]; rfl, by rw [h2]; rfl⟩
section
variable {X : Cx} {κ : List Nat} {io : Option Nat} {n n1 : Nat} {e a b o v : Expr} {es : List Expr} {te ta tb tv to : TE} {tr : TA} {h : AF} {f g : EF} {kf : KF} {pos p2 pos' : Pos} {fx : Bool}
theorem dk_tup {x1} (ha : DA X κ io 0 es tr h) : DK X κ io (.Tuple es x1 pos) (tTup tr) (fKey h) := by
  refine ⟨pe_tup ha.pa, fun G H σ ρ m A B Q ks m' E hf q => ?_⟩
  obtain ⟨⟨ds, m1⟩, e1, h1⟩ := Option.bind_eq_some_iff.mp (show (h ρ m).bind (fun p => if p.1.length ≤ 1000 then (keysOf p.1).map fun ks => (ks, p.2) else none) = some (ks, m') from hf)
  dsimp only at h1
  split at h1
  · rename_i hz
    obtain ⟨ks', e2, e3⟩ := Option.map_eq_some_iff.mp h1
    cases e3
    refine ha.sem G H σ ρ m A B _ _ _ E e1 fun vs G1 H1 E1 s1 r1 => ⟨by rw [r1.length]; exact Nat.le_of_lt (small1000 hz), fun p hp => ?_⟩
    have s2 : Stp [] G1 H1 (upd G1 p (.tup vs)) (upd H1 p (.tup vs)) := stp_pub E1.sub hp
    exact q p _ _ (E1.keep s2 (same_pub E1.sub)) (s1.trans s2.any) (by rw [upd_same, (keys_rp (RkAll.to_rp r1) e2).1])
  · cases h1
/-- d[k], such a key -/
def dgetT (d : PyData) (ks : List Key) : Option PyData := match d with
  | .dict ((.none, .none) :: kvs) => dgetD kvs (.tuple (ks.map keyD))
  | _ => none
def fGetT (f : EF) (kf : KF) : EF := fun ρ m => (f ρ m).bind fun p => (kf ρ p.2).bind fun q => (dgetT p.1 q.1).map fun z => (z, q.2)
theorem de_getT (hu : X.A.units + 1 < cLine) (ha : DE X κ io (n + 1) o to f) (hb : DK X κ io e te kf) (hs : NoSl e := by exact fun _ _ => rfl) : DE X κ io n (.Subscript o e pos) (tDGet to te) (fGetT f kf) := by
  refine ⟨pe_dget hu ha.pe hb.pe hs, fun G H σ ρ m A B Q d m' E hf q => ?_⟩
  obtain ⟨⟨c, m1⟩, e1, h1⟩ := Option.bind_eq_some_iff.mp (show (f ρ m).bind (fun p => (kf ρ p.2).bind fun q => (dgetT p.1 q.1).map fun z => (z, q.2)) = some (d, m') from hf)
  obtain ⟨⟨ks, m2⟩, e2, h2⟩ := Option.bind_eq_some_iff.mp h1
  obtain ⟨z, e3, h3⟩ := Option.map_eq_some_iff.mp h2
  cases h3
  refine ha.sem G H σ ρ m A B _ _ m1 E e1 fun x G1 H1 E1 s1 r1 => ?_
  refine hb.sem G1 H1 σ ρ m1 A B _ _ _ E1 e2 fun b G2 H2 E2 s2 hb2 => ?_
  have r2 := r1.step s2
  unfold dgetT at e3
  dsimp only at e3
  split at e3
  · rcases Rk.dct E2.sub r2 with ⟨xs, ez⟩ | ⟨a, kv, ds, rfl, ez, hd, t⟩ | ⟨a, kv, ds, rfl, ez, hd, t⟩
    · cases ez
    · exfalso
      cases kv with
      | nil => cases ds <;> cases ez
      | cons p r =>
        cases ds with
        | nil => cases ez
        | cons w ws =>
          obtain ⟨k, x⟩ := p
          cases k <;> cases ez
    · cases ez
      obtain ⟨v, h1, h2⟩ := dget_all eqv_keyT ks t e3
      exact ⟨a, v, rfl, .inr ⟨kv, ks, b, hd, rfl, E2.sub _ _ hb2, h1.symm⟩, q _ G2 H2 E2 (s1.trans s2) h2⟩
  · cases e3
/-- d[k] = v, such a key, the dict owned -/
def fPutT (i : Nat) (kf : KF) (f : EF) : SF := fun ρ m => (f ρ m).bind fun p => (kf ρ p.2).bind fun q => match ρ[i]? with
  | some (some (.dict ((.none, .none) :: kvs))) => if kvs.length < sizeLine then some (.nx (ρ.set i (some (.dict ((.none, .none) :: dputD kvs (.tuple (q.1.map keyD)) p.1)))) q.2) else none
  | _ => none
theorem own_dT {K : PySem.W.Frag} {G H : Hp} {kvs : List (PyData × PyData)} {v : V} {C : List Addr} (h : Ow K G H 1 v (.dict ((.none, .none) :: kvs)) C) : ∃ a kv ds, v = .ref a ∧ kvs = (kv.map fun p => PyData.tuple (p.1.map keyD)).zip ds ∧ H a = some (.dT kv) ∧ RpAll K G (kv.map (·.2)) ds ∧ C = [a] := by
  rcases h with ⟨a, xs, ds, C', e1, e2, e3, t, rfl⟩ | ⟨a, kv, ks, ds, C', e1, e2, e3, e4, t, rfl⟩ | ⟨a, kv, ks, ds, C', e1, e2, e3, e4, t, rfl⟩
  · cases e2
  · exfalso
    subst e4
    cases kv with
    | nil => cases ds <;> cases e2
    | cons p r =>
      cases ds with
      | nil => cases e2
      | cons w ws =>
        obtain ⟨k, x⟩ := p
        cases k <;> cases e2
  · cases e2
    obtain ⟨t', rfl⟩ := OwAll.to_rp t
    subst e4
    exact ⟨a, kv, ds, e1, rfl, e3, t', rfl⟩
theorem rp_len {K : PySem.W.Frag} {G : Hp} {kk : Type} {kv : List (kk × V)} {ds : List PyData} (enc : kk → PyData) (t : RpAll K G (kv.map (·.2)) ds) : ((kv.map fun p => enc p.1).zip ds).length = kv.length := by
  have := t.length
  rw [List.length_map] at this
  rw [List.length_zip, List.length_map, ← this]
  omega
theorem ds_putT (i : Nat) {x : Str} (hu : X.A.units + 1 < cLine) (hv : PE X (.Name x p2) (tVar i)) (hk : κ[i]? = some 1) (hkey : DK X κ io e te kf) (hval : DE X κ io 0 v tv f)
    (hs : swapsWith v (some (.Subscript (.Name x p2) e pos')) pos.line X.env = pure false := by rfl) :
    DS X κ io fx (.Assign [.Subscript (.Name x p2) e pos'] v pos) (sDPut (tVar i) te tv) (fPutT i kf f) := by
  refine ⟨ps_dput hu hv hkey.pe hval.pe hs, fun G H σ ρ m A B D fl E hf q => ?_⟩
  obtain ⟨⟨d, m1⟩, e1, h1⟩ := Option.bind_eq_some_iff.mp (show (f ρ m).bind (fun p => (kf ρ p.2).bind fun q => match ρ[i]? with | some (some (.dict ((.none, .none) :: kvs))) => if kvs.length < sizeLine then some (Fl.nx (ρ.set i (some (.dict ((.none, .none) :: dputD kvs (.tuple (q.1.map keyD)) p.1)))) q.2) else none | _ => none) = some fl from hf)
  obtain ⟨⟨ks, m2⟩, e2, h2⟩ := Option.bind_eq_some_iff.mp h1
  dsimp only at h2
  split at h2
  · split at h2
    · rename_i kvs hr hz
      cases h2
      refine hval.sem G H σ ρ m A B _ _ _ E e1 fun w G1 H1 E1 s1 r1 => ?_
      obtain ⟨w0, C0, g1, g2, g3⟩ := E1.env.get hk hr
      refine ⟨w0, g1, ?_⟩
      refine hkey.sem G1 H1 σ ρ m1 A B _ _ _ E1 e2 fun b G2 H2 E2 s2 hb2 => ?_
      obtain ⟨w2, C2, g1', g2', g3'⟩ := E2.env.get hk hr
      rw [g1] at g1'
      cases g1'
      obtain ⟨a, kv, ds, rfl, ez, hd, t, rfl⟩ := own_dT g2'
      subst ez
      rw [rp_len (fun p : List Key => PyData.tuple (p.map keyD)) t] at hz
      obtain ⟨es', z1, z2⟩ := dput_all (R := Rp X.K G2) eqv_keyT ks (RkAll.of_rp (fun _ _ h => h) t) (Rp.mono s2.gg r1)
      refine ⟨a, _, rfl, .inr ⟨kv, ks, b, hd, rfl, E2.sub _ _ hb2, hz, rfl⟩, ?_⟩
      obtain ⟨_, E3, s3⟩ := Env.put1 (fx := fx) E2 hk g1 hr (o := .dT (putK kv ks w)) (d := .dict ((.none, .none) :: dputD ((kv.map fun p => PyData.tuple (p.1.map keyD)).zip ds) (.tuple (ks.map keyD)) d)) (by
        rw [z1]
        exact .inr (.inr ⟨a, _, _, _, [], rfl, rfl, upd_same, rfl, OwAll.of_rp (RkAll.to_rp z2), rfl⟩))
      exact q σ _ _ A B E3 ((StpS.of E2 (s1.trans s2)).trans s3)
    · cases h2
  · cases h2
/-! ### dicts by ints and texts, owned or the io cell -/
theorem own_dK {K : PySem.W.Frag} {G H : Hp} {kvs : List (PyData × PyData)} {v : V} {C : List Addr} (hn : ∀ x r, kvs ≠ (.none, x) :: r) (h : Ow K G H 1 v (.dict kvs) C) : ∃ a kv ds, v = .ref a ∧ kvs = (kv.map fun p => keyD p.1).zip ds ∧ H a = some (.dK kv) ∧ RpAll K G (kv.map (·.2)) ds ∧ C = [a] := by
  rcases h with ⟨a, xs, ds, C', e1, e2, e3, t, rfl⟩ | ⟨a, kv, ks, ds, C', e1, e2, e3, e4, t, rfl⟩ | ⟨a, kv, ks, ds, C', e1, e2, e3, e4, t, rfl⟩
  · cases e2
  · cases e2
    obtain ⟨t', rfl⟩ := OwAll.to_rp t
    subst e4
    exact ⟨a, kv, ds, e1, rfl, e3, t', rfl⟩
  · cases e2; exact absurd rfl (hn _ _)
def putKD (c k v : PyData) : Option PyData := match c with
  | .dict ((.none, _) :: _) => none
  | .dict kvs => (keyOf k).bind fun _ => if kvs.length < sizeLine then some (.dict (dputD kvs k v)) else none
  | _ => none
theorem putKD_inv {c k v z : PyData} (h : putKD c k v = some z) : ∃ kvs kk, c = .dict kvs ∧ (∀ x r, kvs ≠ (.none, x) :: r) ∧ k = keyD kk ∧ kvs.length < sizeLine ∧ z = .dict (dputD kvs k v) := by
  unfold putKD at h
  split at h
  · cases h
  · rename_i kvs hn
    obtain ⟨kk, e1, e2⟩ := Option.bind_eq_some_iff.mp h
    split at e2
    · rename_i hz
      cases e2
      exact ⟨kvs, kk, rfl, fun x r e => hn x r (by rw [e]), keyOf_eq e1, hz, rfl⟩
    · cases e2
  · cases h
def fPutIo (g f : EF) : SF := fun ρ m => m.bind fun _ => (f ρ m).bind fun p => (g ρ p.2).bind fun q => q.2.bind fun c => (putKD c q.1 p.1).map fun z => .nx ρ (some z)
theorem ds_putIo (i : Nat) {x : Str} (hu : X.A.units + 1 < cLine) (hv : PE X (.Name x p2) (tVar i)) (hi : io = some i) (hkey : DE X κ io 0 e te g) (hval : DE X κ io 0 v tv f)
    (hs : swapsWith v (some (.Subscript (.Name x p2) e pos')) pos.line X.env = pure false := by rfl) :
    DS X κ io fx (.Assign [.Subscript (.Name x p2) e pos'] v pos) (sDPut (tVar i) te tv) (fPutIo g f) := by
  refine ⟨ps_dput hu hv hkey.pe hval.pe hs, fun G H σ ρ m A B D fl E hf q => ?_⟩
  obtain ⟨c0, e0, h0⟩ := Option.bind_eq_some_iff.mp (show m.bind (fun _ => (f ρ m).bind fun p => (g ρ p.2).bind fun q => q.2.bind fun c => (putKD c q.1 p.1).map fun z => Fl.nx ρ (some z)) = some fl from hf)
  obtain ⟨⟨d, m1⟩, e1, h1⟩ := Option.bind_eq_some_iff.mp h0
  obtain ⟨⟨k, m2⟩, e2, h2⟩ := Option.bind_eq_some_iff.mp h1
  obtain ⟨c, e3, h3⟩ := Option.bind_eq_some_iff.mp h2
  obtain ⟨z, e4, e5⟩ := Option.map_eq_some_iff.mp h3
  subst e5
  dsimp only at e3
  subst e3 e0
  obtain ⟨j, a, ej, es, _, eB⟩ := E.iom
  rw [hi] at ej
  cases ej
  refine hval.sem G H σ ρ _ A B _ _ _ E e1 fun w G1 H1 E1 s1 r1 => ⟨.ref a, es, ?_⟩
  refine hkey.sem G1 H1 σ ρ m1 A B _ _ _ E1 e2 fun y G2 H2 E2 s2 r2 => ?_
  obtain ⟨kvs, kk, rfl, hn, rfl, hz, rfl⟩ := putKD_inv e4
  obtain ⟨j', a', ej', es', o', eB'⟩ := E2.iom
  rw [eB] at eB'
  cases eB'
  obtain ⟨b, kv, ds, eb, ez, hd, t, _⟩ := own_dK hn o'
  cases eb
  subst ez
  rw [rp_len keyD t] at hz
  have ey : y = kV kk := (show Rp X.K G2 y (keyD kk) from r2).key
  subst ey
  obtain ⟨es2, z1, z2⟩ := dput_all (R := Rp X.K G2) eqv_keyD kk (RkAll.of_rp (fun _ _ h => h) t) (Rp.mono s2.gg r1)
  refine ⟨a, _, rfl, .inl ⟨kv, kk, hd, rfl, hz, rfl⟩, ?_⟩
  have hf2 : G2 a = none := E2.free a (by rw [eB]; simp)
  have o3 : Ow X.K G2 (upd H2 a (.dK (putK kv kk w))) 1 (.ref a) (.dict (dputD ((kv.map fun p => keyD p.1).zip ds) (keyD kk) d)) [a] := by
    rw [z1]
    exact .inr (.inl ⟨a, _, _, _, [], rfl, rfl, upd_same, rfl, OwAll.of_rp (RkAll.to_rp z2), rfl⟩)
  have s3 : Stp B G2 H2 G2 (upd H2 a (.dK (putK kv kk w))) := ⟨Same.refl _, fun b o n e => by rw [upd_ne (by rintro rfl; exact n (by rw [eB]; simp))]; exact e, fun _ _ e => e, fun b e => by
    by_cases z : b = a
    · subst z; rw [upd_same]; exact fun z => nomatch z
    · rw [upd_ne z]; exact e⟩
  have gh3 : Same G2 (upd H2 a (.dK (putK kv kk w))) := fun b o e => by rw [upd_ne (by rintro rfl; rw [hf2] at e; cases e)]; exact E2.sub b o e
  have E3 := E2.ioStep eB s3 gh3 o3
  exact q σ _ _ A B E3 (StpS.of E3 ((s1.trans s2).trans s3))
end
end DL
namespace DL
open PySem PySem.Spec PyProof.Rows L2
/-! ### what is owned is taken into G -/
open Classical in
noncomputable def pub (G H : Hp) (C : List Addr) : Hp := fun b => if b ∈ C then H b else G b
section
variable {K : PySem.W.Frag} {G G' H H' : Hp} {C : List Addr}
theorem pub_in {a : Addr} (h : a ∈ C) : pub G H C a = H a := by unfold pub; rw [if_pos h]
theorem pub_out {a : Addr} (h : a ∉ C) : pub G H C a = G a := by unfold pub; rw [if_neg h]
theorem same_pubG (hG : ∀ a ∈ C, G a = none) : Same G (pub G H C) := fun b o e => by
  by_cases h : b ∈ C
  · rw [hG b h] at e; cases e
  · rw [pub_out h]; exact e
theorem same_pubH (gh : Same G H) : Same (pub G H C) H := fun b o e => by
  by_cases h : b ∈ C
  · rw [pub_in h] at e; exact e
  · rw [pub_out h] at e; exact gh b o e
theorem Ow.pub (s : Same G G') : ∀ {n : Nat} {v : V} {d : PyData} {A : List Addr}, (∀ a ∈ A, ∀ o, H a = some o → G' a = some o) → Ow K G H n v d A → Rp K G' v d
  | 0, _, _, _, _, h => h.1.mono s
  | n + 1, _, _, _, k, h => by
    have all : ∀ {vs : List V} {ds : List PyData} {D : List Addr}, OwAll (Ow K G H n) vs ds D → (∀ a ∈ D, ∀ o, H a = some o → G' a = some o) → RpAll K G' vs ds := by
      intro vs ds D t
      induction t with
      | nil => intro _; exact .nil
      | cons r _ ih => exact fun k => .cons (Ow.pub s (fun a m => k a (List.mem_append_left _ m)) r) (ih fun a m => k a (List.mem_append_right _ m))
    rcases h with ⟨a, xs, ds, B, rfl, rfl, e, t, rfl⟩ | ⟨a, kvs, ks, ds, B, rfl, rfl, e, ek, t, rfl⟩ | ⟨a, kvs, ks, ds, B, rfl, rfl, e, ek, t, rfl⟩
    · exact .lst (k a List.mem_cons_self _ e) (all t fun b m => k b (List.mem_cons_of_mem _ m))
    · exact .dK (.inl (k a List.mem_cons_self _ e)) ek (all t fun b m => k b (List.mem_cons_of_mem _ m))
    · exact .dT (.inl (k a List.mem_cons_self _ e)) ek (all t fun b m => k b (List.mem_cons_of_mem _ m))
end
/-! ### new objects of any depth -/
def DNt (K : PySem.W.Frag) (κ : List Nat) (io : Option Nat) (n : Nat) (t : TE) (f : EF) : Prop :=
  ∀ (G H : Hp) (σ : L2.St) (ρ : DEnv) (m : Io) (A B : List Addr) (Q : VK) (d : PyData) (m' : Io), Env K κ io G H σ ρ m A B → f ρ m = some (d, m') →
    (∀ v C G' H', Env K κ io G' H' σ ρ m' A B → Stp B G H G' H' → Ow K G' H' n v d C → C.Nodup → (∀ c ∈ C, H c = none ∧ G' c = none ∧ c ∉ A ++ B) → Q v H') → t σ H Q
structure DN (X : Cx) (κ : List Nat) (io : Option Nat) (n : Nat) (e : Expr) (t : TE) (f : EF) : Prop where
  pe : PE X e t
  sem : DNt X.K κ io n t f
section
variable {X : Cx} {κ : List Nat} {io : Option Nat} {n n1 : Nat} {e : Expr} {t : TE} {f : EF}
theorem DE.dn (h : DE X κ io 0 e t f) : DN X κ io 0 e t f := ⟨h.pe, fun G H σ ρ m A B Q d m' E hf q => h.sem G H σ ρ m A B Q d m' E hf fun v G' H' E' s r => q v [] G' H' E' s ⟨r, rfl⟩ List.nodup_nil fun c z => by cases z⟩
theorem DF.dn (h : DF X κ io e t f) : DN X κ io 1 e t f := ⟨h.pe, fun G H σ ρ m A B Q d m' E hf q => h.sem G H σ ρ m A B Q d m' E hf fun p G' H' E' s hp hg hn o => q (.ref p) [p] G' H' E' s o (by simp) fun c hc => by
  rw [List.mem_singleton.mp hc]; exact ⟨hp, hg, hn⟩⟩
def repLD (d e : PyData) : Option PyData := match d, e with
  | .list xs, .int k => if decide (-(2 ^ 63) ≤ k) && decide (k < 2 ^ 63) && szOk (xs.length * k.toNat) then some (.list (List.replicate k.toNat xs).flatten) else none
  | _, _ => none
theorem df_rep {a b : Expr} {ta tb : TE} {f g : EF} {pos : Pos} (ha : DE X κ io 1 a ta f) (hb : DE X κ io n1 b tb g) : DF X κ io (.BinOp a .Mult b pos) (tOp rRep ta tb) (fOp repLD f g) := by
  refine ⟨pe_op op_rep ha.pe hb.pe, fun G H σ ρ m A B Q d m' E hf q => ?_⟩
  obtain ⟨⟨x, m1⟩, e1, h1⟩ := Option.bind_eq_some_iff.mp hf
  obtain ⟨⟨y, m2⟩, e2, h2⟩ := Option.bind_eq_some_iff.mp h1
  obtain ⟨z, e3, h3⟩ := Option.map_eq_some_iff.mp h2
  cases h3
  unfold repLD at e3
  dsimp only at e3
  split at e3
  · split at e3
    · rename_i xs k hz
      cases e3
      obtain ⟨h1, h2⟩ := Bool.and_eq_true_iff.mp hz
      obtain ⟨h0, h1⟩ := Bool.and_eq_true_iff.mp h1
      refine ha.sem G H σ ρ m A B _ _ m1 E e1 fun v G1 H1 E1 s1 r1 => ?_
      refine hb.sem G1 H1 σ ρ m1 A B _ _ _ E1 e2 fun u G2 H2 E2 s2 r2 => ?_
      obtain ⟨a, vs, rfl, h3, t1⟩ := (r1.step s2).lst E2.sub
      refine ⟨a, k, vs, rfl, r2.int, h3, of_decide_eq_true h0, of_decide_eq_true h1, by rw [t1.length]; exact of_decide_eq_true h2, fun p hp => ?_⟩
      obtain ⟨E3, s3, h3, h4⟩ := E2.fresh (o := .lst (List.replicate k.toNat vs).flatten) hp
      exact q p _ _ E3 ((s1.trans s2).trans s3) (ne_none_step (s1.trans s2) hp) h3 h4 (ow_list upd_same ((RkAll.to_rp t1).flatRep _))
    · cases e3
  · cases e3
theorem OwAll.append {R : V → PyData → List Addr → Prop} : ∀ {vs ws : List V} {ds es : List PyData} {A B : List Addr}, OwAll R vs ds A → OwAll R ws es B → OwAll R (vs ++ ws) (ds ++ es) (A ++ B)
  | _, _, _, _, _, _, .nil, q => q
  | _, _, _, _, _, _, .cons h t, q => by
    rw [List.append_assoc]
    exact .cons h (OwAll.append t q)
theorem OwAll.length {R : V → PyData → List Addr → Prop} : ∀ {vs : List V} {ds : List PyData} {A : List Addr}, OwAll R vs ds A → vs.length = ds.length
  | _, _, _, .nil => rfl
  | _, _, _, .cons _ t => by rw [List.length_cons, List.length_cons, OwAll.length t]
theorem OwAll.keep {K : PySem.W.Frag} {G G' H H' : Hp} {vs : List V} {ds : List PyData} {A : List Addr} (s : Same G G') (k : ∀ a ∈ A, ∀ o, H a = some o → H' a = some o) (t : OwAll (Ow K G H n) vs ds A) : OwAll (Ow K G' H' n) vs ds A :=
  t.imp fun v d B hB r => r.keep s fun a m => k a (hB a m)
theorem OwAll.there {K : PySem.W.Frag} {G H : Hp} : ∀ {vs : List V} {ds : List PyData} {A : List Addr}, OwAll (Ow K G H n) vs ds A → ∀ a ∈ A, H a ≠ none
  | _, _, _, .nil => fun _ z => by cases z
  | _, _, _, .cons h t => fun a m => (List.mem_append.mp m).elim (h.there a) (OwAll.there t a)
variable {ifs : List Expr} {tt : TT} {ft : TF}
/-- a comprehension whose items are new objects -/
theorem lc_semN {K : PySem.W.Frag} {g : TG} {te : TE} {b : BF} {fe : EF} {vs js : List Nat} {J : It} {G0 H0 : Hp} {σ : L2.St} {ρ : DEnv} {m : Io} {A B : List Addr} {ds : List PyData} {ys : List PyData} {m' : Io} {Q : V → Hp → Prop}
    (hg : DGt K κ io js g b) (ht : DTt K κ io tt ft) (he : DNt K κ io n te fe) (hj : ∀ j ∈ js, j ∈ vs) (hv : ∀ i ∈ vs, κ[i]? = some 0 ∧ io ≠ some i)
    (E : Env K κ io G0 H0 σ ρ m A B) (it : IterD K B G0 H0 J ds) (hf : lcF b ft fe (wipeD ρ vs) ds m = some (ys, m')) (hz : ys.length ≤ sizeLine)
    (q : ∀ p vs' C G' H', H0 p = none → Env K κ io G' H' σ ρ m' A B → Stp B G0 H0 G' H' → H' p = some (.lst vs') → G' p = none → p ∉ A ++ B → OwAll (Ow K G' H' n) vs' ys C → C.Nodup → p ∉ C → (∀ c ∈ C, H0 c = none ∧ G' c = none ∧ c ∉ A ++ B) → Q (.ref p) H') :
    ∀ D, H0 D = none → ∃ W : Nat → Nat → Hp → Prop, (∃ m, W 0 m (upd H0 D (.lst []))) ∧ ∀ i m H, W i m H →
      (J.stop i H ∧ Q (.ref D) H) ∨ (J.go i H ∧ ∃ Nx : Hp → Prop, (∀ H', Nx H' → ∃ m', m' < m ∧ W (i + 1) m' H') ∧ ∀ x H', J.yld i H x H' → g x (L2.wipe σ vs) H' fun σ2 H2 => L2.wipe σ2 vs = L2.wipe σ vs ∧ tt σ2 H2 fun b H3 =>
        if b = true then te σ2 H3 fun y H4 => ∃ acc, H4 D = some (.lst acc) ∧ acc.length < sizeLine ∧ Nx (upd H4 D (.lst (acc ++ [y]))) else Nx H3) := by
  intro D hD
  have nDA : D ∉ A ++ B := fun z => E.thereA D z hD
  have nDB : D ∉ B := fun z => nDA (List.mem_append_right _ z)
  let Inv : Nat → Hp → Prop := fun i H => ∃ G mi acc done rest C, Env K κ io G H σ ρ mi A B ∧ Stp B G0 H0 G H ∧ H D = some (.lst acc) ∧ G D = none ∧ OwAll (Ow K G H n) acc done C ∧ ys = done ++ rest ∧ lcF b ft fe (wipeD ρ vs) (ds.drop i) mi = some (rest, m') ∧
    C.Nodup ∧ D ∉ C ∧ (∀ c ∈ C, H0 c = none ∧ G c = none ∧ c ∉ A ++ B)
  refine ⟨fun i k H => i ≤ ds.length ∧ k = ds.length - i ∧ Inv i H, ⟨ds.length, Nat.zero_le _, by simp, G0, m, [], [], ys, [], E.keep (stp_new hD) (same_new E.sub hD), (stp_new hD).any, upd_same, sub_none E.sub hD, .nil, rfl, by rw [List.drop_zero]; exact hf, List.nodup_nil, (fun z => by cases z), fun c z => by cases z⟩, ?_⟩
  rintro i k H ⟨hi, rfl, G, mi, acc, done, rest, C, Ei, si, hDl, hGD, ra, ey, hr, nC, nDC, hC⟩
  have itH := it G H si Ei.sub
  by_cases hlt : i < ds.length
  · refine .inr ?_
    have hdi : ds[i]? = some ds[i] := List.getElem?_eq_getElem hlt
    obtain ⟨hgo, hyl⟩ := itH.2 i ds[i] hdi
    refine ⟨hgo, Inv (i + 1), fun H' hI => ⟨ds.length - (i + 1), by omega, by omega, rfl, hI⟩, fun x H1 hy => ?_⟩
    obtain ⟨G1, s1, gh1, rx⟩ := hyl x H1 hy
    have hdrop : ds.drop i = ds[i] :: ds.drop (i + 1) := List.drop_eq_getElem_cons hlt
    rw [hdrop] at hr
    obtain ⟨ρ1, e1, hr⟩ := Option.bind_eq_some_iff.mp (show (b ds[i] (wipeD ρ vs)).bind (fun ρ1 => (ft ρ1 mi).bind fun p => if p.1 = true then (fe ρ1 p.2).bind fun q => (lcF b ft fe (wipeD ρ vs) (ds.drop (i + 1)) q.2).map fun r => (q.1 :: r.1, r.2) else lcF b ft fe (wipeD ρ vs) (ds.drop (i + 1)) p.2) = some (rest, m') from hr)
    obtain ⟨⟨c, m1⟩, e2, hr⟩ := Option.bind_eq_some_iff.mp hr
    have E1 := Ei.keep s1 gh1
    have tC : ∀ c ∈ C, H c ≠ none := ra.there
    refine hg G1 H1 (L2.wipe σ vs) (wipeD ρ vs) mi A B x ds[i] ρ1 _ (E1.wipe hv) rx e1 fun σ2 E2 w2 => ⟨by rw [w2 vs hj, wipe_wipe], ?_⟩
    refine ht G1 H1 σ2 ρ1 mi A B _ c m1 E2 e2 fun G3 H3 E3 s3 => ?_
    have back : ∀ {G' H' : Hp} {mm : Io}, Env K κ io G' H' σ2 ρ1 mm A B → Stp B G1 H1 G' H' → Env K κ io G' H' σ ρ mm A B := fun {G' H' mm} E' s' => by
      refine ⟨E1.env.keep s'.gg fun a ha o ho => s'.hh a o (E1.nAB ha) ho, ?_, E1.nd, E'.sub, E'.free⟩
      have z := E'.iom
      cases mm with
      | none => exact z
      | some d =>
        obtain ⟨j, a, z1, z2, z3, z4⟩ := z
        refine ⟨j, a, z1, ?_, z3, z4⟩
        have nj : j ∉ vs := fun hj' => (hv j hj').2 z1
        have w3 : L2.wipe σ2 vs = L2.wipe σ vs := by rw [w2 vs hj, wipe_wipe]
        have w4 := congrArg (fun l => l[j]?) w3
        rw [wipe_get, wipe_get, if_neg nj, if_neg nj] at w4
        rw [← w4]
        exact z2
    have cC : ∀ {G' H' : Hp}, Stp B G H G' H' → ∀ c ∈ C, H0 c = none ∧ G' c = none ∧ c ∉ A ++ B := fun s' c hc => ⟨(hC c hc).1, s'.fr c (tC c hc) (hC c hc).2.1, (hC c hc).2.2⟩
    have kC : ∀ {G' H' : Hp}, Stp B G H G' H' → ∀ c ∈ C, ∀ o, H c = some o → H' c = some o := fun s' c hc o ho => s'.hh c o (fun z => (hC c hc).2.2 (List.mem_append_right _ z)) ho
    dsimp only at hr
    cases c with
    | false =>
      rw [if_neg Bool.false_ne_true]
      rw [if_neg Bool.false_ne_true] at hr
      have sA : Stp B G H G3 H3 := s1.any.trans s3
      exact ⟨G3, m1, acc, done, rest, C, back E3 s3, si.trans sA, sA.hh D _ nDB hDl, sA.fr D (by rw [hDl]; exact fun z => nomatch z) hGD, ra.keep sA.gg (kC sA), ey, hr, nC, nDC, cC sA⟩
    | true =>
      rw [if_pos rfl]
      rw [if_pos rfl] at hr
      obtain ⟨⟨y, m2⟩, e3, hr⟩ := Option.bind_eq_some_iff.mp hr
      obtain ⟨⟨r2, m3⟩, e4, hr⟩ := Option.map_eq_some_iff.mp hr
      cases hr
      refine he G3 H3 σ2 ρ1 m1 A B _ y m2 E3 e3 fun v C2 G4 H4 E4 s4 rv nC2 hC2 => ?_
      have sA3 : Stp B G H G3 H3 := s1.any.trans s3
      have sA : Stp B G H G4 H4 := sA3.trans s4
      have hD4 : H4 D = some (.lst acc) := sA.hh D _ nDB hDl
      have hG4 : G4 D = none := sA.fr D (by rw [hDl]; exact fun z => nomatch z) hGD
      have E4' := back E4 (s3.trans s4)
      have hlen : acc.length < sizeLine := by
        rw [ra.length]
        rw [ey] at hz
        simp only [List.length_append, List.length_cons] at hz
        omega
      have h30 : ∀ c, H3 c = none → H0 c = none := fun c hc => ne_none_step (si.trans sA3) hc
      have nDC2 : D ∉ C2 := fun z => by
        have h := (hC2 D z).1
        rw [sA3.hh D _ nDB hDl] at h
        cases h
      have dis : ∀ c ∈ C, ∀ c' ∈ C2, c ≠ c' := fun c hc c' hc' e => by
        subst e
        exact sA3.th c (tC c hc) (hC2 c hc').1
      have upD : ∀ {c : Addr}, c ≠ D → ∀ o, H4 c = some o → upd H4 D (.lst (acc ++ [v])) c = some o := fun {c} hc o ho => by rw [upd_ne hc]; exact ho
      refine ⟨acc, hD4, hlen, G4, m2, acc ++ [v], done ++ [y], r2, C ++ C2, ?_, ?_, upd_same, hG4, ?_, by rw [ey]; simp, e4, ?_, ?_, ?_⟩
      · have kp : ∀ a ∈ A ++ B, ∀ o, H4 a = some o → upd H4 D (.lst (acc ++ [v])) a = some o := fun a ha => upD (by rintro rfl; exact nDA ha)
        exact ⟨E4'.env.keep (Same.refl _) fun a ha => kp a (List.mem_append_left _ ha), E4'.iom.keep (Same.refl _) fun a ha => kp a (List.mem_append_right _ ha), E4'.nd,
          fun a o ho => by
            by_cases z : a = D
            · subst z; rw [hG4] at ho; cases ho
            · rw [upd_ne z]; exact E4'.sub a o ho, E4'.free⟩
      · have s5 := si.trans sA
        exact ⟨s5.gg, fun a o ha ho => by
          rw [upd_ne (ne_of_none ho hD)]
          exact s5.hh a o ha ho, s5.fr, fun a ha => by
            by_cases z : a = D
            · subst z; rw [upd_same]; exact fun z => nomatch z
            · rw [upd_ne z]; exact s5.th a ha⟩
      · have t1 := OwAll.append (ra.keep sA.gg (kC sA)) (OwAll.cons rv OwAll.nil)
        rw [List.append_nil] at t1
        exact t1.keep (Same.refl _) fun a ha => upD (by rintro rfl; exact (List.mem_append.mp ha).elim nDC nDC2)
      · exact List.nodup_append.mpr ⟨nC, nC2, dis⟩
      · exact fun z => (List.mem_append.mp z).elim nDC nDC2
      · intro c hc
        rcases List.mem_append.mp hc with hc | hc
        · exact cC sA c hc
        · exact ⟨h30 c (hC2 c hc).1, (hC2 c hc).2.1, (hC2 c hc).2.2⟩
  · have e : i = ds.length := by omega
    subst e
    refine .inl ⟨itH.1, ?_⟩
    rw [List.drop_length] at hr
    cases hr
    rw [List.append_nil] at ey
    subst ey
    exact q D acc C G H hD Ei si hDl hGD nDA ra nC nDC hC
variable {gt : TG} {te : TE} {wi : TI} {fi : AF} {bb : BF} {fe : EF} {js : List Nat} {tg iter elt : Expr} {scope : Scope} {own : List (Str × Nat)} {pos : Pos} {fx : Bool}
theorem dn_lc (hc : X.calm = true) (hN : X.N.Nodup) (hi : DJ X κ io tg iter wi fi) (ok : BlkOk X.N X.env.scope scope own)
    (hg : ∀ (s : Shared) (H : Hp) (C : Addr) (cl : List (Str × Addr)) (fp : List Addr), DG (X.blk s H scope (compEnvC scope cl C X.env) fp) κ io js tg gt bb)
    (ht : ∀ (s : Shared) (H : Hp) (C : Addr) (cl : List (Str × Addr)) (fp : List Addr), DTs (X.blk s H scope (compEnvC scope cl C X.env) fp) κ io ifs tt ft)
    (he : ∀ (s : Shared) (H : Hp) (C : Addr) (cl : List (Str × Addr)) (fp : List Addr), DN (X.blk s H scope (compEnvC scope cl C X.env) fp) κ io n elt te fe)
    (hj : ∀ j ∈ js, j ∈ own.map (·.2) := by decide) (hv : ∀ i ∈ own.map (·.2), κ[i]? = some 0 ∧ io ≠ some i := by decide) (hs : ∀ x, foldedSetIterable iter X.env x = pure x := by intro _; rfl) :
    DN X κ io (n + 1) (.ListComp elt [⟨tg, iter, ifs, 0⟩] scope pos) (tLc wi gt tt te (own.map (·.2))) (fLc fi bb ft fe (own.map (·.2))) := by
  refine ⟨pe_lc hc hN hi.pi ok (fun s H C cl fp => (hg s H C cl fp).pg) (fun s H C cl fp => (ht s H C cl fp).pts) (fun s H C cl fp => (he s H C cl fp).pe) hs, fun G H σ ρ m A B Q d m' E hf q => ?_⟩
  obtain ⟨⟨ds, m1⟩, e1, h1⟩ := Option.bind_eq_some_iff.mp (show (fi ρ m).bind (fun p => (lcF bb ft fe (wipeD ρ (own.map (·.2))) p.1 p.2).bind fun q => if szOk q.1.length then some (PyData.list q.1, q.2) else none) = some (d, m') from hf)
  obtain ⟨⟨ys, m2⟩, e2, h2⟩ := Option.bind_eq_some_iff.mp h1
  dsimp only at h2
  split at h2
  · rename_i hz
    cases h2
    refine hi.sem G H σ ρ m A B _ ds m1 E e1 fun J G1 H1 E1 s1 it => ?_
    refine lc_semN (hg X.s_0 X.H_0 0 [] []).sem (ht X.s_0 X.H_0 0 [] []).sem (he X.s_0 X.H_0 0 [] []).sem hj hv E1 it e2 (of_decide_eq_true hz) fun p vs' C G2 H2 hp E2 s2 hl hgn hn r nC npC hC => ?_
    refine q (.ref p) (p :: C) _ _ E2 (s1.trans s2) (.inl ⟨p, vs', ys, C, rfl, rfl, hl, r, rfl⟩) (List.nodup_cons.mpr ⟨npC, nC⟩) fun c hc => ?_
    rcases List.mem_cons.mp hc with rfl | hc
    · exact ⟨ne_none_step s1 hp, hgn, hn⟩
    · exact ⟨ne_none_step s1 (hC c hc).1, (hC c hc).2⟩
  · cases h2
theorem sem_setN {K : PySem.W.Frag} {i : Nat} (hk : κ[i]? = some n) (hi : io ≠ some i) (h : DNt K κ io n te f) : DSt K κ io fx (tAsg te (gName i)) (fSet i f) := fun G H σ ρ m A B D fl E hf q => by
  obtain ⟨⟨d, m1⟩, e1, e2⟩ := Option.map_eq_some_iff.mp (show (f ρ m).map (fun p => Fl.nx (ρ.set i (some p.1)) p.2) = some fl from hf)
  subst e2
  refine h G H σ ρ m A B _ d m1 E e1 fun v C G1 H1 E1 s1 o nC hC => ?_
  obtain ⟨A', E2, hA⟩ := E1.setN hk hi o nC (fun a ha => (hC a ha).2.2) (fun a ha => (hC a ha).2.1)
  refine q _ G1 H1 A' B E2 ⟨s1.gg, fun b o n e => s1.hh b o (fun z => n (List.mem_append_right _ z)) e, fun b _ e g => s1.fr b e g, s1.th, fun a ha => ?_, fun _ => ⟨rfl, fun a ha z => E2.nAB z ha⟩⟩
  rcases List.mem_append.mp ha with ha | ha
  · rcases hA a ha with z | z
    · exact .inr (hC a z).1
    · exact .inl (List.mem_append_left _ z)
  · exact .inl (List.mem_append_right _ ha)
theorem ds_setN (i : Nat) {x : Str} {pos' : Pos} (hN : X.N.Nodup) (he : DN X κ io n e te f) (hk : κ[i]? = some n := by rfl) (hio : io ≠ some i := by decide) (hi : X.N[i]? = some x := by rfl) (hx : Loc X.env.scope x := by first | exact Or.inl rfl | exact Or.inr rfl)
    (hs : swapsWith e (some (.Name x pos')) pos.line X.env = pure false := by rfl) (hf : X.fn x = true ∨ X.env.scope.names.lookup x = some .local := by first | exact .inl rfl | exact .inr rfl) :
    DS X κ io fx (.Assign [.Name x pos'] e pos) (tAsg te (gName i)) (fSet i f) := ⟨ps_set hN hi hx he.pe hs hf, sem_setN hk hio he.sem⟩
theorem ds_setLcN (i : Nat) {y : Str} {py : Pos} (hc : X.calm = true) (hN : X.N.Nodup) (hi : DJ X κ io tg iter wi fi) (ok : BlkOk X.N X.env.scope scope own)
    (hg : ∀ (s : Shared) (H : Hp) (C : Addr) (cl : List (Str × Addr)) (fp : List Addr), DG (X.blk s H scope (compEnvC scope cl C X.env) fp) κ io js tg gt bb)
    (ht : ∀ (s : Shared) (H : Hp) (C : Addr) (cl : List (Str × Addr)) (fp : List Addr), DTs (X.blk s H scope (compEnvC scope cl C X.env) fp) κ io ifs tt ft)
    (he : ∀ (s : Shared) (H : Hp) (C : Addr) (cl : List (Str × Addr)) (fp : List Addr), DN (X.blk s H scope (compEnvC scope cl C X.env) fp) κ io n elt te fe)
    {spos : Pos} (hsw : swapsWith (.ListComp elt [⟨tg, iter, ifs, 0⟩] scope pos) (some (.Name y py)) spos.line X.env = pure true) (hk : κ[i]? = some (n + 1) := by rfl) (hio : io ≠ some i := by decide) (hy : X.N[i]? = some y := by rfl) (hyl : X.env.scope.names.lookup y = some .local := by rfl)
    (hj : ∀ j ∈ js, j ∈ own.map (·.2) := by decide) (hv : ∀ i ∈ own.map (·.2), κ[i]? = some 0 ∧ io ≠ some i := by decide) (hs : ∀ x, foldedSetIterable iter X.env x = pure x := by intro _; rfl) :
    DS X κ io fx (.Assign [.Name y py] (.ListComp elt [⟨tg, iter, ifs, 0⟩] scope pos) spos) (tAsg (tLc wi gt tt te (own.map (·.2))) (gName i)) (fSet i (fLc fi bb ft fe (own.map (·.2)))) :=
  ⟨ps_setLc hc hN hy hyl hsw hi.pi ok (fun s H C cl fp => (hg s H C cl fp).pg) (fun s H C cl fp => (ht s H C cl fp).pts) (fun s H C cl fp => (he s H C cl fp).pe) hs, sem_setN hk hio (dn_lc (pos := pos) hc hN hi ok hg ht he hj hv hs).sem⟩
/-! return x, owned at any depth -/
theorem ds_retN' (i : Nat) {x : Str} {p2 : Pos} (hv : PE X (.Name x p2) (tVar i)) (hk : κ[i]? = some n := by rfl) : DS X κ io fx (.Return (some (.Name x p2)) pos) (tRet (tVar i)) (fRetO i) := by
  refine ⟨ps_ret hv, fun G H σ ρ m A B D fl E hf q => ?_⟩
  unfold fRetO at hf
  split at hf
  · rename_i d hr
    cases hf
    obtain ⟨v, C, h1, h2, h3⟩ := E.env.get hk hr
    have hG : ∀ a ∈ C, G a = none := fun a ha => E.free a (List.mem_append_left _ (h3 a ha))
    refine ⟨v, h1, q v σ (List.replicate ρ.length none) (pub G H C) H [] B ⟨envA_empty κ σ ρ.length E.env.len.1 E.env.len.2, E.iom.keep (same_pubG hG) fun _ _ _ h => h, by rw [List.nil_append]; exact (List.nodup_append.mp E.nd).2.1, same_pubH E.sub, fun b hb => ?_⟩
      ⟨same_pubG hG, fun b o' _ e => e, fun b nb e g => ?_, fun b e => e, fun c hc => ?_, fun _ => ⟨rfl, fun c hc z => by cases z⟩⟩ (h2.pub (same_pubG hG) fun a ha o ho => by rw [pub_in ha]; exact ho)⟩
    · rw [List.nil_append] at hb
      rw [pub_out fun z => E.nAB (h3 b z) hb]
      exact E.free b (List.mem_append_right _ hb)
    · rw [pub_out fun z => nb (List.mem_append_left _ (h3 b z))]
      exact g
    · rw [List.nil_append] at hc
      exact .inl (List.mem_append_right _ hc)
  · cases hf
end
end DL
namespace DL
open PySem PySem.Spec PyProof.Rows L2
/-! ### x[i][j] = v, x a list of lists, all owned -/
section
variable {K : PySem.W.Frag} {G H : Hp}
theorem OwAll.item {xs : List PyData} : ∀ {vs : List V} {ds : List PyData} {C : List Addr} {j : Nat}, OwAll (Ow K G H 1) vs ds C → C.Nodup → ds[j]? = some (.list xs) →
    ∃ p ws, vs[j]? = some (.ref p) ∧ H p = some (.lst ws) ∧ RpAll K G ws xs ∧ p ∈ C ∧ ∀ ws' xs', RpAll K G ws' xs' → OwAll (Ow K G (upd H p (.lst ws')) 1) vs (ds.set j (.list xs')) C
  | _, _, _, _, .nil, _, e => by simp at e
  | _, _, _, 0, .cons (A := A) (B := B) h t, nd, e => by
    simp at e; subst e
    obtain ⟨p, ws, rfl, h1, h2, rfl⟩ := ow_list_inv h
    refine ⟨p, ws, rfl, h1, h2, by simp, fun ws' xs' r => .cons (ow_list upd_same r) (t.keep (Same.refl _) fun a ha o ho => ?_)⟩
    rw [upd_ne (by rintro rfl; exact (List.nodup_append.mp nd).2.2 a (by simp) a ha rfl)]
    exact ho
  | _, _, _, j + 1, .cons (A := A) (B := B) h t, nd, e => by
    obtain ⟨p, ws, h1, h2, h3, h4, h5⟩ := OwAll.item (j := j) t (List.nodup_append.mp nd).2.1 (by simpa using e)
    refine ⟨p, ws, by simpa using h1, h2, h3, List.mem_append_right _ h4, fun ws' xs' r => .cons (h.keep (Same.refl _) fun a ha o ho => ?_) (h5 ws' xs' r)⟩
    rw [upd_ne (by rintro rfl; exact (List.nodup_append.mp nd).2.2 a ha a h4 rfl)]
    exact ho
theorem ow2_list {v : V} {ds : List PyData} {C : List Addr} (h : Ow K G H 2 v (.list ds) C) : ∃ a xs B, v = .ref a ∧ H a = some (.lst xs) ∧ OwAll (Ow K G H 1) xs ds B ∧ C = a :: B := by
  rcases h with ⟨a, xs, ds', B, e1, e2, e3, t, e4⟩ | ⟨a, kvs, ks, ds', B, e1, e2, e3, ek, t, e4⟩ | ⟨a, kvs, ks, ds', B, e1, e2, e3, ek, t, e4⟩
  · cases e2; exact ⟨a, xs, B, e1, e3, t, e4⟩
  · cases e2
  · cases e2
end
def set2D (c i j v : PyData) : Option PyData := match c, i, j with
  | .list rows, .int i, .int j => (ixN rows.length i).bind fun k => match rows[k]? with
    | some (.list xs) => (ixN xs.length j).map fun l => .list (rows.set k (.list (xs.set l v)))
    | _ => none
  | _, _, _ => none
theorem set2D_inv {c i j v z : PyData} (h : set2D c i j v = some z) : ∃ rows i' j' k xs l, c = .list rows ∧ i = .int i' ∧ j = .int j' ∧ ixN rows.length i' = some k ∧ rows[k]? = some (.list xs) ∧ ixN xs.length j' = some l ∧ z = .list (rows.set k (.list (xs.set l v))) := by
  unfold set2D at h
  split at h
  · obtain ⟨k, e1, e2⟩ := Option.bind_eq_some_iff.mp h
    split at e2
    · rename_i e3
      obtain ⟨l, e4, e5⟩ := Option.map_eq_some_iff.mp e2
      exact ⟨_, _, _, k, _, l, rfl, rfl, rfl, e1, e3, e4, e5.symm⟩
    · cases e2
  · cases h
def fSet2 (i : Nat) (fi fj f : EF) : SF := fun ρ m => (f ρ m).bind fun p => (fi ρ p.2).bind fun q => (fj ρ q.2).bind fun r => match ρ[i]? with
  | some (some c) => (set2D c q.1 r.1 p.1).map fun z => .nx (ρ.set i (some z)) r.2
  | _ => none
section
variable {X : Cx} {κ : List Nat} {io : Option Nat} {n n1 n2 : Nat} {e e1 e2 v : Expr} {te t1 t2 tv : TE} {f fi fj : EF} {pos p0 p2 p3 pos' : Pos} {fx : Bool} {x : Str}
theorem ds_set2 (i : Nat) (hu : X.A.units + 1 < cLine) (hx : PE X (.Name x p0) (tVar i)) (hk : κ[i]? = some 2) (hi : DE X κ io n1 e1 t1 fi) (hj : DE X κ io n2 e2 t2 fj) (hv : DE X κ io 0 v tv f)
    (hpl : PlainIx e1 := by exact fun _ _ => rfl) (ha : ∀ v, assign (.Subscript (.Subscript (.Name x p0) e1 p2) e2 p3) X.env v = (do
      let ov ← holding [v] (eval (.Subscript (.Name x p0) e1 p2) X.env)
      let iv ← holding [v, ov] (eval e2 X.env)
      standAt p3
      holding [v, ov, iv] (setItem ov iv v)
      release [v, ov, iv] []) := by intro _; rfl)
    (hs : swapsWithSole [.Subscript (.Subscript (.Name x p0) e1 p2) e2 p3] v pos.line X.env = pure false := by rfl) (hw : swappedStores [.Subscript (.Subscript (.Name x p0) e1 p2) e2 p3] v X.env = pure none := by rfl)
    (h1 : (assignEach [.Subscript (.Subscript (.Name x p0) e1 p2) e2 p3] X.env).map (·.2) = [assign (.Subscript (.Subscript (.Name x p0) e1 p2) e2 p3) X.env] := by rfl) :
    DS X κ io fx (.Assign [.Subscript (.Subscript (.Name x p0) e1 p2) e2 p3] v pos) (tAsg tv (gSub (tOp (rIxD X.K) (tVar i) t1) t2 rSetL)) (fSet2 i fi fj f) := by
  refine ⟨ps_asg hv.pe (pg_sub (pe_ix (ix_D hu) hx hi.pe hpl) hj.pe set_list ha) hs hw h1, fun G H σ ρ m A B D fl E hf q => ?_⟩
  obtain ⟨⟨d, m1⟩, k1, h1⟩ := Option.bind_eq_some_iff.mp (show (f ρ m).bind (fun p => (fi ρ p.2).bind fun q => (fj ρ q.2).bind fun r => match ρ[i]? with | some (some c) => (set2D c q.1 r.1 p.1).map fun z => Fl.nx (ρ.set i (some z)) r.2 | _ => none) = some fl from hf)
  obtain ⟨⟨a1, m2⟩, k2, h2⟩ := Option.bind_eq_some_iff.mp h1
  obtain ⟨⟨a2, m3⟩, k3, h3⟩ := Option.bind_eq_some_iff.mp h2
  dsimp only at h3
  split at h3
  · rename_i c hr
    obtain ⟨z, k4, k5⟩ := Option.map_eq_some_iff.mp h3
    subst k5
    obtain ⟨rows, i', j', k, xs, l, rfl, rfl, rfl, c1, c2, c3, rfl⟩ := set2D_inv k4
    refine hv.sem G H σ ρ m A B _ _ _ E k1 fun w G1 H1 E1 s1 r1 => ?_
    obtain ⟨v0, C0, g1, g2, g3, g4⟩ := E1.env.getN (List.nodup_append.mp E1.nd).1 hk hr
    refine ⟨v0, g1, ?_⟩
    refine hi.sem G1 H1 σ ρ m1 A B _ _ _ E1 k2 fun y G2 H2 E2 s2 r2 => ?_
    obtain ⟨v2, C2, b1, b2, b3, b4⟩ := E2.env.getN (List.nodup_append.mp E2.nd).1 hk hr
    rw [g1] at b1
    cases b1
    obtain ⟨T, vs, C', rfl, hT, tT, rfl⟩ := ow2_list b2
    obtain ⟨p, ws, hp1, hp2, hp3, hp4, hp5⟩ := tT.item (List.nodup_cons.mp b4).2 c2
    refine .inl (.inl ⟨T, vs, i', .ref p, rfl, r2.int, SqL.of hT, atI_of (by rw [tT.length]; exact c1) hp1, ?_⟩)
    refine hj.sem G2 H2 σ ρ m2 A B _ _ _ E2 k3 fun y3 G3 H3 E3 s3 r3 => ?_
    have hTA : T ∈ A := b3 T (by simp)
    obtain ⟨v3, C3, d1, d2, d3, d4⟩ := E3.env.getN (List.nodup_append.mp E3.nd).1 hk hr
    rw [g1] at d1
    cases d1
    obtain ⟨T', vs3, C3', eT, hT3, tT3, rfl⟩ := ow2_list d2
    cases eT
    have ev : vs3 = vs := by
      have h := s3.hh T _ (E2.nAB hTA) hT
      rw [hT3] at h
      cases h
      rfl
    subst ev
    obtain ⟨p', ws3, hq1, hq2, hq3, hq4, hq5⟩ := tT3.item (List.nodup_cons.mp d4).2 c2
    rw [hp1] at hq1
    cases hq1
    refine ⟨p, ws3, j', l, rfl, r3.int, hq2, by rw [hq3.length]; exact c3, ?_⟩
    have hpA : p ∈ A := d3 p (List.mem_cons_of_mem _ hq4)
    have hpf : G3 p = none := E3.free p (List.mem_append_left _ hpA)
    have rw3 : RpAll X.K G3 (ws3.set l w) (xs.set l d) := RpAll.set (Rp.mono (s2.gg.trans s3.gg) r1) l hq3
    have E4 : Env X.K κ io G3 (upd H3 p (.lst (ws3.set l w))) σ (ρ.set i (some (.list (rows.set k (.list (xs.set l d)))))) m3 A B := by
      refine ⟨E3.env.put (List.nodup_append.mp E3.nd).1 hk g1 hr fun C hC nC oC => ?_, E3.iom.keep (Same.refl _) fun b hb o ho => by rw [upd_ne (by rintro rfl; exact E3.nAB hpA hb)]; exact ho, E3.nd, fun b o e => by rw [upd_ne (by rintro rfl; rw [hpf] at e; cases e)]; exact E3.sub b o e, E3.free⟩
      obtain ⟨T2, vs4, C4, eT, hT4, tT4, rfl⟩ := ow2_list oC
      cases eT
      rw [hT3] at hT4
      cases hT4
      obtain ⟨p2, ws4, hz1, hz2, hz3, hz4, hz5⟩ := tT4.item (List.nodup_cons.mp nC).2 c2
      rw [hp1] at hz1
      cases hz1
      have npT : T ≠ p := by rintro rfl; exact (List.nodup_cons.mp nC).1 hz4
      exact ⟨fun b o n e => by rw [upd_ne (by rintro rfl; exact n (List.mem_cons_of_mem _ hz4))]; exact e, .inl ⟨T, vs3, _, C4, rfl, rfl, by rw [upd_ne npT]; exact hT3, hz5 _ _ rw3, rfl⟩⟩
    refine q σ G3 _ A B E4 ((StpS.of E3 ((s1.trans s2).trans s3)).trans ⟨Same.refl _, fun b o n e => by rw [upd_ne (by rintro rfl; exact n (List.mem_append_left _ hpA))]; exact e, fun _ _ _ e => e, fun b e => ?_, fun b hb => .inl hb, fun _ => ⟨rfl, fun b hb z => E3.nAB z hb⟩⟩)
    by_cases z : b = p
    · subst z; rw [upd_same]; exact fun z => nomatch z
    · rw [upd_ne z]; exact e
  · cases h3
/-! made = {"k1": e1, "k2": e2}: the io cell anew -/
theorem EnvA.sig {K : PySem.W.Frag} {G H : Hp} {x : Option V} : ∀ {κ : List Nat} {σ : L2.St} {ρ : DEnv} {A : List Addr} {i : Nat}, EnvA K G H κ σ ρ A → ρ[i]? = some none → EnvA K G H κ (σ.set i x) ρ A
  | _, _, _, _, _, .nil, e => by simp at e
  | _, _, _, _, 0, .no t, _ => .no t
  | _, _, _, _, i + 1, .no t, e => .no (EnvA.sig t (by simpa using e))
  | _, _, _, _, 0, .so o t, e => by simp at e
  | _, _, _, _, i + 1, .so o t, e => .so o (EnvA.sig t (by simpa using e))
def fIoNew2 (i : Nat) (k1 k2 : Str) (f g : EF) : SF := fun ρ m => (f ρ m).bind fun p => (g ρ p.2).bind fun q => match ρ[i]? with
  | some none => some (.nx ρ (some (.dict [(.str k1, p.1), (.str k2, q.1)])))
  | _ => none
theorem ds_ioNew2 (i : Nat) {k1 k2 : Str} {q1 q2 pd : Pos} {j1 j2} (hN : X.N.Nodup) (hi : io = some i) (hne : k1 ≠ k2) (h1 : DE X κ io 0 e1 t1 fi) (h2 : DE X κ io 0 e2 t2 fj) (hxi : X.N[i]? = some x := by rfl) (hx : Loc X.env.scope x := by first | exact Or.inl rfl | exact Or.inr rfl)
    (hs : swapsWith (.Dict [some (.Constant (.str k1) j1 q1), some (.Constant (.str k2) j2 q2)] [e1, e2] pd) (some (.Name x pos')) pos.line X.env = pure false := by rfl) (hf : X.fn x = true ∨ X.env.scope.names.lookup x = some .local := by first | exact .inl rfl | exact .inr rfl)
    (hall : ([some (.Constant (.str k1) j1 q1), some (.Constant (.str k2) j2 q2)] : List (Option Expr)).all (·.isSome) = true := by rfl) (h0 : ([some (.Constant (.str k1) j1 q1), some (.Constant (.str k2) j2 q2)] : List (Option Expr)) ≠ [] := by exact fun z => nomatch z) :
    DS X κ io false (.Assign [.Name x pos'] (.Dict [some (.Constant (.str k1) j1 q1), some (.Constant (.str k2) j2 q2)] [e1, e2] pd) pos) (tAsg (tDisp [(tC (.str k1), t1), (tC (.str k2), t2)]) (gName i)) (fIoNew2 i k1 k2 fi fj) := by
  refine ⟨ps_set hN hxi hx (pe_disp (pps_cons pe_str h1.pe (pps_cons pe_str h2.pe pps_nil)) hall rfl h0 (by simp)) hs hf, fun G H σ ρ m A B D fl E hf q => ?_⟩
  obtain ⟨⟨d1, m1⟩, b1, b2⟩ := Option.bind_eq_some_iff.mp (show (fi ρ m).bind (fun p => (fj ρ p.2).bind fun q => match ρ[i]? with | some none => some (Fl.nx ρ (some (.dict [(.str k1, p.1), (.str k2, q.1)]))) | _ => none) = some fl from hf)
  obtain ⟨⟨d2, m2⟩, b3, b4⟩ := Option.bind_eq_some_iff.mp b2
  dsimp only at b4
  split at b4
  · rename_i hr
    cases b4
    intro p hp
    obtain ⟨E0, s0, hg0, hn0⟩ := E.fresh (o := .dK []) hp
    refine h1.sem _ _ σ ρ m A B _ _ _ E0 b1 fun v1 G1 H1 E1 s1 r1 => ?_
    refine h2.sem G1 H1 σ ρ m1 A B _ _ _ E1 b3 fun v2 G2 H2 E2 s2 r2 => ?_
    have nB : p ∉ B := fun z => hn0 (List.mem_append_right _ z)
    have hp2 : H2 p = some (.dK []) := s2.hh p _ nB (s1.hh p _ nB upd_same)
    have hg2 : G2 p = none := s2.fr p (by rw [s1.hh p _ nB upd_same]; exact fun z => nomatch z) (s1.fr p (by rw [upd_same]; exact fun z => nomatch z) hg0)
    refine ⟨hp2, [(.inr k1, v1), (.inr k2, v2)], rfl, by simp, ?_⟩
    have em : mergeK [] [((Sum.inr k1 : Key), v1), ((Sum.inr k2 : Key), v2)] = [(Sum.inr k1, v1), (Sum.inr k2, v2)] := by
      have e1 : ¬ ((Sum.inr k1 : Key) = Sum.inr k2) := fun z => hne (Sum.inr.inj z)
      simp [mergeK, putK, e1]
    rw [em]
    have o2 : Ow X.K G2 (upd H2 p (.dK [(Sum.inr k1, v1), (Sum.inr k2, v2)])) 1 (.ref p) (.dict [(.str k1, d1), (.str k2, d2)]) [p] :=
      .inr (.inl ⟨p, _, [.str k1, .str k2], [d1, d2], [], rfl, rfl, upd_same, rfl, OwAll.of_rp (.cons (Rp.mono s2.gg r1) (.cons r2 .nil)), rfl⟩)
    have kp : ∀ a ∈ A, ∀ o, H2 a = some o → upd H2 p (.dK [(Sum.inr k1, v1), (Sum.inr k2, v2)]) a = some o := fun a ha o ho => by rw [upd_ne (by rintro rfl; exact hn0 (List.mem_append_left _ ha))]; exact ho
    have st := (s0.trans s1).trans s2
    refine q (σ.set i (some (.ref p))) G2 _ A [p] ⟨(E2.env.sig hr).keep (Same.refl _) kp, ⟨i, p, hi, ?_, o2, rfl⟩, ?_, fun b o e => ?_, fun a ha => ?_⟩ ⟨st.gg, fun b o n e => ?_, fun b n e g => st.fr b e g, fun b e => ?_, fun a ha => ?_, fun z => by cases z⟩
    · have l := E.env.len
      have hil : i < σ.length := by
        have := (List.getElem?_eq_some_iff.mp hr).1
        omega
      rw [List.getElem?_set_self hil]
    · refine List.nodup_append.mpr ⟨(List.nodup_append.mp E.nd).1, by simp, fun a ha b hb e => ?_⟩
      rw [List.mem_singleton.mp hb] at e
      exact hn0 (List.mem_append_left _ (e ▸ ha))
    · rw [upd_ne (by rintro rfl; rw [hg2] at e; cases e)]
      exact E2.sub b o e
    · rcases List.mem_append.mp ha with ha | ha
      · exact E2.free a (List.mem_append_left _ ha)
      · rw [List.mem_singleton.mp ha]; exact hg2
    · rw [upd_ne (ne_of_none e hp)]
      exact st.hh b o (fun z => n (List.mem_append_right _ z)) e
    · by_cases z : b = p
      · subst z; rw [upd_same]; exact fun z => nomatch z
      · rw [upd_ne z]; exact st.th b e
    · rcases List.mem_append.mp ha with ha | ha
      · exact .inl (List.mem_append_left _ ha)
      · rw [List.mem_singleton.mp ha]; exact .inr hp
  · cases b4
end
/-! ### defs -/
/-- what a block gives back -/
def Ret (o : Option Fl) (d : PyData) (m : Io) : Prop := o = some (.rt d m) ∨ ∃ ρ, o = some (.nx ρ m) ∧ d = .none
def startD (n : Nat) (ds : List PyData) : DEnv := ds.map some ++ List.replicate (n - ds.length) none
theorem env_none {K : PySem.W.Frag} {G H : Hp} : ∀ (κ : List Nat) (k : Nat), κ.length = k → EnvA K G H κ (List.replicate k none) (List.replicate k none) []
  | [], 0, _ => .nil
  | [], _ + 1, h => by cases h
  | _ :: _, 0, h => by cases h
  | _ :: κ, k + 1, h => .no (env_none κ k (by simpa using h))
theorem env_start {K : PySem.W.Frag} {G H : Hp} : ∀ (κ : List Nat) (n : Nat) {vs : List V} {ds : List PyData}, RpAll K G vs ds → κ.length = n → ds.length ≤ n → (∀ i, i < ds.length → κ[i]? = some 0) →
    EnvA K G H κ (vs.map some ++ List.replicate (n - vs.length) none) (ds.map some ++ List.replicate (n - ds.length) none) []
  | κ, n, _, _, .nil, h, _, _ => env_none κ n h
  | [], n, _, _, .cons _ _, h, hl, _ => by
    simp at h
    subst h
    simp at hl
  | z :: κ, 0, _, _, .cons _ _, h, _, _ => by cases h
  | z :: κ, n + 1, _, _, .cons h t, hl, hn, hz => by
    have e0 : z = 0 := by simpa using hz 0 (by simp)
    subst e0
    have ih := env_start κ n t (by simpa using hl) (by simpa using hn) (fun i hi => by simpa using hz (i + 1) (by simpa using hi)) (H := H)
    simp only [List.map_cons, List.cons_append, List.length_cons, Nat.add_sub_add_right]
    exact EnvA.so (A := []) (Ow.zero h) ih
section
variable {P : Program} {w : World} {K : PySem.W.Frag} {mg : Str → Option Value} {base : Heap} {x qual : Str} {params : Arguments} {body : List Stmt} {scope : Scope} {f : Addr} {fd : FuncData} {N ps : List Str} {k : Nat}
theorem dfn (M : List PyData → Option PyData) (κ : List Nat) (g : SF) (F : FunD K x qual params body scope [] [] f fd) (S : FnScope N ps scope) (hκ : κ.length = N.length := by rfl) (h0 : ∀ i, i < ps.length → κ[i]? = some 0 := by decide)
    (har : ∀ ds d, M ds = some d → ds.length = ps.length)
    (hb : ∀ (cdv : Value) (A : Around) (outer : List PySem.Env) (s : Shared) (H : Hp) (E : XK), Room k (A.deeper (envOfC qual scope s.heap.objs.size f cdv)) → ∃ t, DSs (cxOf CX0 P w K mg base N qual scope f cdv A outer s H E).nox κ none true body t g)
    (hM : ∀ ds d, M ds = some d → Ret (g (startD N.length ds) none) d none) : FnOk P w K mg base CX0 (k + 1) f fd ps (spP K M) := by
  have hlen : ps.length ≤ N.length := by have := congrArg List.length S.pre; rw [List.length_take] at this; omega
  refine F.ok S (fun vs H Q E h => ?_) (fun cdv A outer s H vs Q E hr h => ?_)
  · obtain ⟨ds, d, G, r, _, e, _⟩ := h
    rw [r.length]
    exact har ds d e
  · obtain ⟨ds, d, G, r, gh, e, q⟩ := h
    obtain ⟨t, ht⟩ := hb cdv A outer s H E hr
    refine ⟨t, ht.pss.nox, ?_⟩
    have hd := har ds d e
    have hE : DL.Env K κ none G H (L2.start N vs) (startD N.length ds) none [] [] := ⟨by
      unfold L2.start startD
      exact env_start κ N.length r hκ (by omega) (fun i hi => h0 i (by omega)), rfl, by simp, gh, fun a z => by cases z⟩
    have fin : ∀ {v σ' ρ' G' H' A' B'}, DL.Env K κ none G' H' σ' ρ' none A' B' → StpS true [] [] G H A' B' G' H' → Rp K G' v d → Q v H' := fun {v σ' ρ' G' H' A' B'} E' s' r' =>
      q v G' H' ⟨s'.gg, fun b o _ e => s'.hh b o (fun z => by cases z) e, fun b e g => s'.fr b (fun z => by cases z) e g, s'.th⟩ E'.sub r'
    rcases hM ds d e with h | ⟨ρ', h, rfl⟩
    · exact ht.sem G H (L2.start N vs) (startD N.length ds) none [] [] _ _ hE h fun v σ' ρ' G' H' A' B' E' s' r' => fin E' s' r'
    · exact ht.sem G H (L2.start N vs) (startD N.length ds) none [] [] _ _ hE h fun σ' G' H' A' B' E' s' => fin E' s' .non
theorem dfnI (M : PyData → List PyData → Option (PyData × PyData)) (κ : List Nat) (g : SF) (F : FunD K x qual params body scope [] [] f fd) (S : FnScope N ps scope) (hκ : κ.length = N.length := by rfl) (h0 : ∀ i, i < ps.length → κ[i]? = some 0 := by decide)
    (har : ∀ c ds p, M c ds = some p → ds.length + 1 = ps.length)
    (hb : ∀ (cdv : Value) (A : Around) (outer : List PySem.Env) (s : Shared) (H : Hp) (E : XK), Room k (A.deeper (envOfC qual scope s.heap.objs.size f cdv)) → ∃ t, DSs (cxOf CX0 P w K mg base N qual scope f cdv A outer s H E).nox κ (some 0) true body t g)
    (hM : ∀ c ds d c', M c ds = some (d, c') → Ret (g (none :: startD (N.length - 1) ds) (some c)) d (some c')) : FnOk P w K mg base CX0 (k + 1) f fd ps (spI K M) := by
  have hlen : ps.length ≤ N.length := by have := congrArg List.length S.pre; rw [List.length_take] at this; omega
  refine F.ok S (fun vs H Q E h => ?_) (fun cdv A outer s H vs Q E hr h => ?_)
  · obtain ⟨a, ws, c, ds, d, c', G, rfl, _, _, r, _, e, _⟩ := h
    rw [List.length_cons, r.length]
    exact har c ds _ e
  · obtain ⟨a, ws, c, ds, d, c', G, rfl, ga, oa, r, gh, e, q⟩ := h
    obtain ⟨t, ht⟩ := hb cdv A outer s H E hr
    refine ⟨t, ht.pss.nox, ?_⟩
    have hd := har c ds _ e
    have hE : DL.Env K κ (some 0) G H (L2.start N (.ref a :: ws)) (none :: startD (N.length - 1) ds) (some c) [] [a] := by
      refine ⟨?_, ⟨0, a, rfl, rfl, oa, rfl⟩, by simp, gh, fun b z => ?_⟩
      · unfold L2.start startD
        cases κ with
        | nil => have hz : N.length = 0 := hκ.symm; omega
        | cons z κ' =>
          have hl' : κ'.length = N.length - 1 := by simp at hκ; omega
          have ih := env_start κ' (N.length - 1) r hl' (by omega) (fun i hi => by simpa using h0 (i + 1) (by omega)) (H := H)
          have e2 : N.length - (V.ref a :: ws).length = N.length - 1 - ws.length := by rw [List.length_cons]; omega
          rw [e2]
          exact .no ih
      · rw [List.nil_append] at z
        rw [List.mem_singleton.mp z]
        exact ga
    have fin : ∀ {v σ' ρ' G' H' A' B'}, DL.Env K κ (some 0) G' H' σ' ρ' (some c') A' B' → StpS true [] [a] G H A' B' G' H' → Rp K G' v d → Q v H' := fun {v σ' ρ' G' H' A' B'} E' s' r' => by
      obtain ⟨e1, _⟩ := s'.fixd rfl
      obtain ⟨j, b, _, _, o', e2⟩ := E'.iom
      rw [e1] at e2
      cases e2
      refine q v G' H' ⟨s'.gg, fun b o n e => s'.hh b o n e, fun b e g => ?_, s'.th⟩ E'.sub o' r'
      by_cases z : b = a
      · subst z
        exact E'.free b (by rw [e1]; simp)
      · exact s'.fr b (fun y => z (List.mem_singleton.mp y)) e g
    rcases hM c ds d c' e with h | ⟨ρ', h, rfl⟩
    · exact ht.sem G H _ _ (some c) [] [a] _ _ hE h fun v σ' ρ' G' H' A' B' E' s' r' => fin E' s' r'
    · exact ht.sem G H _ _ (some c) [] [a] _ _ hE h fun σ' G' H' A' B' E' s' => fin E' s' .non
end
/-- built-in names that the text does not bind -/
structure Bl (mg : Str → Option Value) : Prop where
  len : mg "len" = none
  range : mg "range" = none
  max : mg "max" = none
  min : mg "min" = none
  tuple : mg "tuple" = none
  list : mg "list" = none
  abs : mg "abs" = none
  int : mg "int" = none
  isinstance : mg "isinstance" = none
  bool : mg "bool" = none
  str : mg "str" = none
  all : mg "all" = none
  any : mg "any" = none
  sorted : mg "sorted" = none
  set : mg "set" = none
  enumerate : mg "enumerate" = none
end DL
namespace DL
open PySem PySem.Spec PyProof.Rows L2
/-! ### a def's function: its body run -/
def outL : Option Fl → Option PyData
  | some (.rt d _) => some d
  | some (.nx _ _) => some .none
  | _ => none
def runP (k n : Nat) (g : SF) : List PyData → Option PyData := fun ds => if ds.length = k then outL (g (startD n ds) none) else none
def outI : Option Fl → Option (PyData × PyData)
  | some (.rt d (some c)) => some (d, c)
  | some (.nx _ (some c)) => some (.none, c)
  | _ => none
def runI (k n : Nat) (g : SF) : PyData → List PyData → Option (PyData × PyData) := fun c ds => if ds.length + 1 = k then outI (g (none :: startD (n - 1) ds) (some c)) else none
section
variable {P : Program} {w : World} {K : PySem.W.Frag} {mg : Str → Option Value} {base : Heap} {x qual : Str} {params : Arguments} {body : List Stmt} {scope : Scope} {f : Addr} {fd : FuncData} {N ps : List Str} {k : Nat}
theorem dfnR {κ : List Nat} {io : Option Nat} {fx : Bool} {g : SF} (F : FunD K x qual params body scope [] [] f fd) (S : FnScope N ps scope) (hκ : κ.length = N.length) (h0 : ∀ i, i < ps.length → κ[i]? = some 0)
    (hb : ∀ (f : Addr) (cdv : Value) (A : Around) (outer : List PySem.Env) (s : Shared) (H : Hp) (E : XK), Room k (A.deeper (envOfC qual scope s.heap.objs.size f cdv)) → ∃ t, DSs (cxOf CX0 P w K mg base N qual scope f cdv A outer s H E).nox κ io fx body t g) :
    FnOk P w K mg base CX0 (k + 1) f fd ps (spP K (runP ps.length N.length g)) := by
  have hlen : ps.length ≤ N.length := by have := congrArg List.length S.pre; rw [List.length_take] at this; omega
  have har : ∀ ds d, runP ps.length N.length g ds = some d → ds.length = ps.length ∧ outL (g (startD N.length ds) none) = some d := fun ds d h => by
    unfold runP at h
    split at h
    · rename_i e; exact ⟨e, h⟩
    · cases h
  refine F.ok S (fun vs H Q E h => ?_) (fun cdv A outer s H vs Q E hr h => ?_)
  · obtain ⟨ds, d, G, r, _, e, _⟩ := h
    rw [r.length]
    exact (har ds d e).1
  · obtain ⟨ds, d, G, r, gh, e, q⟩ := h
    obtain ⟨t, ht⟩ := hb f cdv A outer s H E hr
    refine ⟨t, ht.pss.nox, ?_⟩
    obtain ⟨hd, ho⟩ := har ds d e
    have hE : DL.Env K κ io G H (L2.start N vs) (startD N.length ds) none [] [] := ⟨by
      unfold L2.start startD
      exact env_start κ N.length r hκ (by omega) (fun i hi => h0 i (by omega)), rfl, by simp, gh, fun a z => by cases z⟩
    have fin : ∀ {v σ' ρ' m' G' H' A' B'}, DL.Env K κ io G' H' σ' ρ' m' A' B' → StpS fx [] [] G H A' B' G' H' → Rp K G' v d → Q v H' := fun {v σ' ρ' m' G' H' A' B'} E' s' r' =>
      q v G' H' ⟨s'.gg, fun b o _ e => s'.hh b o (fun z => by cases z) e, fun b e g => s'.fr b (fun z => by cases z) e g, s'.th⟩ E'.sub r'
    cases h : g (startD N.length ds) none with
    | none => rw [h] at ho; cases ho
    | some fl =>
      rw [h] at ho
      cases fl with
      | rt d' m' =>
        cases ho
        exact ht.sem G H (L2.start N vs) (startD N.length ds) none [] [] _ _ hE h fun v σ' ρ' G' H' A' B' E' s' r' => fin E' s' r'
      | nx ρ' m' =>
        cases ho
        exact ht.sem G H (L2.start N vs) (startD N.length ds) none [] [] _ _ hE h fun σ' G' H' A' B' E' s' => fin E' s' .non
      | bk _ _ => cases ho
      | ct _ _ => cases ho
theorem dfnRI {κ : List Nat} {g : SF} (F : FunD K x qual params body scope [] [] f fd) (S : FnScope N ps scope) (hκ : κ.length = N.length) (h0 : ∀ i, i < ps.length → κ[i]? = some 0)
    (hb : ∀ (f : Addr) (cdv : Value) (A : Around) (outer : List PySem.Env) (s : Shared) (H : Hp) (E : XK), Room k (A.deeper (envOfC qual scope s.heap.objs.size f cdv)) → ∃ t, DSs (cxOf CX0 P w K mg base N qual scope f cdv A outer s H E).nox κ (some 0) true body t g) :
    FnOk P w K mg base CX0 (k + 1) f fd ps (spI K (runI ps.length N.length g)) := by
  have har : ∀ c ds p, runI ps.length N.length g c ds = some p → ds.length + 1 = ps.length ∧ outI (g (none :: startD (N.length - 1) ds) (some c)) = some p := fun c ds p h => by
    unfold runI at h
    split at h
    · rename_i e; exact ⟨e, h⟩
    · cases h
  refine dfnI _ κ g F S hκ h0 (fun c ds p h => (har c ds p h).1) (fun cdv A outer s H E hr => hb f cdv A outer s H E hr) fun c ds d c' h => ?_
  have ho := (har c ds _ h).2
  cases h : g (none :: startD (N.length - 1) ds) (some c) with
  | none => rw [h] at ho; cases ho
  | some fl =>
    rw [h] at ho
    cases fl with
    | rt d' m' =>
      cases m' with
      | none => cases ho
      | some c2 => cases ho; exact .inl rfl
    | nx ρ' m' =>
      cases m' with
      | none => cases ho
      | some c2 => cases ho; exact .inr ⟨_, rfl, rfl⟩
    | bk _ _ => cases ho
    | ct _ _ => cases ho
/-- a def as it stands, with its promise -/
def Callee.mk' {sp : Sp} {dvs : List V} (F : FunD K x qual params body scope [] [] f fd) (m : mg x = some (.ref f)) (o : FnOk P w K mg base CX0 k f fd ps sp) (b : Binds K fd ps []) : Callee P w K mg base x ps k sp := ⟨f, fd, o, m, F.kp, b⟩
end
/-! ### data -/
theorem szOk_le {n : Nat} (h : n ≤ 16777216) : szOk n = true := by
  unfold szOk
  exact decide_eq_true (by rw [sizeLine_eq]; exact h)
theorem lt_line {n : Nat} (h : n < 16777216) : n < sizeLine := by rw [sizeLine_eq]; exact h
/-- a text: a tuple of lines -/
def txt (l : List Str) : PyData := .tuple (l.map .str)
end DL
namespace DL
open PySem PySem.Spec PyProof.Rows L2
/-! ### the functions over data, step by step -/
theorem runP_eq {k n : Nat} {g : SF} {ds : List PyData} (h : ds.length = k) : runP k n g ds = outL (g (startD n ds) none) := if_pos h
theorem runI_eq {k n : Nat} {g : SF} {c : PyData} {ds : List PyData} (h : ds.length + 1 = k) : runI k n g c ds = outI (g (none :: startD (n - 1) ds) (some c)) := if_pos h
@[simp] theorem outL_rt (d : PyData) (m : Io) : outL (some (.rt d m)) = some d := rfl
@[simp] theorem outI_rt (d c : PyData) : outI (some (.rt d (some c))) = some (d, c) := rfl
section
variable {f g : EF} {h h' : AF} {c d : TF} {s s' : SF} {ρ ρ1 : DEnv} {m m1 : Io} {x y z : PyData} {b : Bool} {xs : List PyData}
@[simp] theorem ev_seq_nx (e : s ρ m = some (.nx ρ1 m1)) : fSeq s s' ρ m = s' ρ1 m1 := by unfold fSeq; rw [e]; rfl
@[simp] theorem ev_seq_rt (e : s ρ m = some (.rt x m1)) : fSeq s s' ρ m = some (.rt x m1) := by unfold fSeq; rw [e]; rfl
theorem ev_seq_ct (e : s ρ m = some (.ct ρ1 m1)) : fSeq s s' ρ m = some (.ct ρ1 m1) := by unfold fSeq; rw [e]; rfl
theorem ev_seq_bk (e : s ρ m = some (.bk ρ1 m1)) : fSeq s s' ρ m = some (.bk ρ1 m1) := by unfold fSeq; rw [e]; rfl
theorem ev_C : fC x ρ m = some (x, m) := rfl
theorem ev_V {i : Nat} (e : ρ[i]? = some (some x)) : fV i ρ m = some (x, m) := by unfold fV; rw [e]
theorem ev_op {op : PyData → PyData → Option PyData} {m2 : Io} (e1 : f ρ m = some (x, m1)) (e2 : g ρ m1 = some (y, m2)) (e3 : op x y = some z) : fOp op f g ρ m = some (z, m2) := by
  unfold fOp; rw [e1, Option.bind_some]; dsimp only; rw [e2, Option.bind_some]; dsimp only; rw [e3]; rfl
theorem ev_un {op : PyData → Option PyData} (e1 : f ρ m = some (x, m1)) (e3 : op x = some z) : fUn op f ρ m = some (z, m1) := by
  unfold fUn; rw [e1, Option.bind_some]; dsimp only; rw [e3]; rfl
theorem ev_nil : fNil ρ m = some ([], m) := rfl
theorem ev_cons {m2 : Io} (e1 : f ρ m = some (x, m1)) (e2 : h ρ m1 = some (xs, m2)) : fCons f h ρ m = some (x :: xs, m2) := by
  unfold fCons; rw [e1, Option.bind_some]; dsimp only; rw [e2]; rfl
theorem ev_call {op : List PyData → Option PyData} (e1 : h ρ m = some (xs, m1)) (e3 : op xs = some z) : fCall op h ρ m = some (z, m1) := by
  unfold fCall; rw [e1, Option.bind_some]; dsimp only; rw [e3]; rfl
theorem ev_callI {M : PyData → List PyData → Option (PyData × PyData)} {c0 c1 c2 : PyData} (e1 : h ρ (some c0) = some (xs, some c1)) (e3 : M c1 xs = some (z, c2)) : fCallI M h ρ (some c0) = some (z, some c2) := by
  unfold fCallI; rw [Option.bind_some, e1, Option.bind_some]; dsimp only; rw [Option.bind_some, e3]; rfl
theorem ev_tup (e1 : h ρ m = some (xs, m1)) (e2 : xs.length ≤ 16777216) : fTup h ρ m = some (.tuple xs, m1) := by
  unfold fTup; rw [e1, Option.bind_some]; dsimp only; rw [if_pos (szOk_le e2)]
theorem ev_lst (e1 : h ρ m = some (xs, m1)) (e2 : xs.length ≤ 16777216) : fLst h ρ m = some (.list xs, m1) := by
  unfold fLst; rw [e1, Option.bind_some]; dsimp only; rw [if_pos (szOk_le e2)]
theorem ev_set {i : Nat} (e1 : f ρ m = some (x, m1)) : fSet i f ρ m = some (.nx (ρ.set i (some x)) m1) := by unfold fSet; rw [e1]; rfl
theorem ev_ret (e1 : f ρ m = some (x, m1)) : fRet f ρ m = some (.rt x m1) := by unfold fRet; rw [e1]; rfl
theorem ev_T (e1 : f ρ m = some (.bool b, m1)) : fT f ρ m = some (b, m1) := by unfold fT; rw [e1]; rfl
theorem ev_not (e1 : c ρ m = some (b, m1)) : fNot c ρ m = some (!b, m1) := by unfold fNot; rw [e1]; rfl
theorem ev_and_t {b' : Bool} {m2 : Io} (e1 : c ρ m = some (true, m1)) (e2 : d ρ m1 = some (b', m2)) : fAnd c d ρ m = some (b', m2) := by unfold fAnd; rw [e1]; exact e2
theorem ev_and_f (e1 : c ρ m = some (false, m1)) : fAnd c d ρ m = some (false, m1) := by unfold fAnd; rw [e1]; rfl
theorem ev_or_f {b' : Bool} {m2 : Io} (e1 : c ρ m = some (false, m1)) (e2 : d ρ m1 = some (b', m2)) : fOr c d ρ m = some (b', m2) := by unfold fOr; rw [e1]; exact e2
theorem ev_or_t (e1 : c ρ m = some (true, m1)) : fOr c d ρ m = some (true, m1) := by unfold fOr; rw [e1]; rfl
theorem ev_andV_t (e1 : f ρ m = some (.bool true, m1)) : fAndV f g ρ m = g ρ m1 := by unfold fAndV; rw [ev_T e1]; rfl
theorem ev_andV_f (e1 : f ρ m = some (.bool false, m1)) : fAndV f g ρ m = some (.bool false, m1) := by unfold fAndV; rw [ev_T e1]; rfl
theorem ev_orV_t (e1 : f ρ m = some (.bool true, m1)) : fOrV f g ρ m = some (.bool true, m1) := by unfold fOrV; rw [ev_T e1]; rfl
theorem ev_orV_f (e1 : f ρ m = some (.bool false, m1)) : fOrV f g ρ m = g ρ m1 := by unfold fOrV; rw [ev_T e1]; rfl
theorem ev_notV (e1 : f ρ m = some (.bool b, m1)) : fNotV f ρ m = some (.bool (!b), m1) := by unfold fNotV; rw [ev_T e1]; rfl
theorem ev_isN (e1 : f ρ m = some (x, m1)) : fIsN f ρ m = some (.bool (isND x), m1) := by unfold fIsN; rw [e1]; rfl
theorem ev_notN (e1 : f ρ m = some (x, m1)) : fNotN f ρ m = some (.bool (!isND x), m1) := by unfold fNotN; rw [e1]; rfl
theorem ev_if_t (e1 : c ρ m = some (true, m1)) : fIf c f g ρ m = f ρ m1 := by unfold fIf; rw [e1]; rfl
theorem ev_if_f (e1 : c ρ m = some (false, m1)) : fIf c f g ρ m = g ρ m1 := by unfold fIf; rw [e1]; rfl
theorem ev_ifS_t (e1 : c ρ m = some (true, m1)) : fIfS c s s' ρ m = s ρ m1 := by unfold fIfS; rw [e1]; rfl
theorem ev_ifS_f (e1 : c ρ m = some (false, m1)) : fIfS c s s' ρ m = s' ρ m1 := by unfold fIfS; rw [e1]; rfl
theorem ev_ioGet {c0 c1 : PyData} (e1 : g ρ (some c0) = some (y, some c1)) (e3 : ixD c1 y = some z) : fIoGet g ρ (some c0) = some (z, some c1) := by
  unfold fIoGet fIoIx; rw [Option.bind_some, e1, Option.bind_some]; dsimp only; rw [Option.bind_some, e3]; rfl
theorem ev_putIo {c0 c2 k : PyData} {m1 : Io} (e1 : f ρ (some c0) = some (x, m1)) (e2 : g ρ m1 = some (k, some c2)) (e3 : putKD c2 k x = some z) : fPutIo g f ρ (some c0) = some (.nx ρ (some z)) := by
  unfold fPutIo; rw [Option.bind_some, e1, Option.bind_some]; dsimp only; rw [e2, Option.bind_some]; dsimp only; rw [Option.bind_some, e3]; rfl
theorem ev_isi {T : String} (e1 : f ρ m = some (x, m1)) (e2 : plain x = true) (e3 : kitB (tyName x) T = some b) : fIsi T f ρ m = some (.bool b, m1) := by
  unfold fIsi; rw [e1, Option.bind_some]; dsimp only; rw [if_pos e2, e3]; rfl
theorem ev_part {i : Int} (e1 : f ρ m = some (.int i, m1)) : fPart f ρ m = some (some i, m1) := by unfold fPart; rw [e1]; rfl
theorem ev_sl {k l : OF} {lo hi : Option Int} {m2 m3 : Io} (e1 : f ρ m = some (x, m1)) (e2 : k ρ m1 = some (lo, m2)) (e3 : l ρ m2 = some (hi, m3)) (e4 : slD x lo hi = some z) : fSl f k l ρ m = some (z, m3) := by
  unfold fSl; rw [e1, Option.bind_some]; dsimp only; rw [e2, Option.bind_some]; dsimp only; rw [e3, Option.bind_some]; dsimp only; rw [e4]; rfl
theorem ev_items (e1 : f ρ m = some (x, m1)) (e2 : itemsD x = some xs) : fItems f ρ m = some (xs, m1) := by unfold fItems; rw [e1, Option.bind_some]; dsimp only; rw [e2]; rfl
theorem ev_rng {op : List PyData → Option (List PyData)} {ys : List PyData} (e1 : h ρ m = some (xs, m1)) (e2 : op xs = some ys) : fRng op h ρ m = some (ys, m1) := by unfold fRng; rw [e1, Option.bind_some]; dsimp only; rw [e2]; rfl
theorem ev_append {i : Nat} (e1 : f ρ m = some (x, m1)) (e2 : ρ[i]? = some (some (.list xs))) (e3 : xs.length < 16777216) : fAppend i f ρ m = some (.nx (ρ.set i (some (.list (xs ++ [x])))) m1) := by
  unfold fAppend; rw [e1, Option.bind_some]; rw [e2]; dsimp only; rw [if_pos (lt_line e3)]
theorem ev_extend {i : Nat} {ys : List PyData} (e1 : f ρ m = some (.list ys, m1)) (e2 : ρ[i]? = some (some (.list xs))) (e3 : xs.length + ys.length ≤ 16777216) : fExtend i f ρ m = some (.nx (ρ.set i (some (.list (xs ++ ys)))) m1) := by
  unfold fExtend; rw [e1, Option.bind_some]; rw [e2]; dsimp only; rw [if_pos (szOk_le e3)]
theorem ev_aug {i : Nat} {j k : Int} (e1 : f ρ m = some (.int k, m1)) (e2 : ρ[i]? = some (some (.int j))) : fAug i f ρ m = some (.nx (ρ.set i (some (.int (j + k)))) m1) := by
  unfold fAug; rw [e1, Option.bind_some]; rw [e2]
theorem ev_par {i j : Nat} (e1 : h ρ m = some ([x, y], m1)) : fPar i j h ρ m = some (.nx ((ρ.set i (some x)).set j (some y)) m1) := by unfold fPar; rw [e1]; rfl
theorem ev_asg {bb : BF} (e1 : f ρ m = some (x, m1)) (e2 : bb x ρ = some ρ1) : fAsg f bb ρ m = some (.nx ρ1 m1) := by unfold fAsg; rw [e1, Option.bind_some]; dsimp only; rw [e2]; rfl
theorem ev_retO {i : Nat} (e2 : ρ[i]? = some (some x)) : fRetO i ρ m = some (.rt x m) := by unfold fRetO; rw [e2]
theorem ev_ioNew2 {i : Nat} {k1 k2 : Str} {m2 : Io} (e1 : f ρ m = some (x, m1)) (e2 : g ρ m1 = some (y, m2)) (e3 : ρ[i]? = some none) : fIoNew2 i k1 k2 f g ρ m = some (.nx ρ (some (.dict [(.str k1, x), (.str k2, y)]))) := by
  unfold fIoNew2; rw [e1, Option.bind_some]; dsimp only; rw [e2, Option.bind_some]; rw [e3]
theorem ev_key {ks : List Key} (e1 : h ρ m = some (xs, m1)) (e2 : keysOf xs = some ks) (e3 : xs.length ≤ 1000 := by decide) : fKey h ρ m = some (ks, m1) := by unfold fKey; rw [e1, Option.bind_some]; dsimp only; rw [if_pos e3, e2]; rfl
theorem ev_getT {kf : KF} {ks : List Key} {m2 : Io} (e1 : f ρ m = some (x, m1)) (e2 : kf ρ m1 = some (ks, m2)) (e3 : dgetT x ks = some z) : fGetT f kf ρ m = some (z, m2) := by
  unfold fGetT; rw [e1, Option.bind_some]; dsimp only; rw [e2, Option.bind_some]; dsimp only; rw [e3]; rfl
theorem ev_putT {i : Nat} {kf : KF} {ks : List Key} {m2 : Io} {kvs : List (PyData × PyData)} (e1 : f ρ m = some (x, m1)) (e2 : kf ρ m1 = some (ks, m2)) (e3 : ρ[i]? = some (some (.dict ((.none, .none) :: kvs)))) (e4 : kvs.length < 16777216) :
    fPutT i kf f ρ m = some (.nx (ρ.set i (some (.dict ((.none, .none) :: dputD kvs (.tuple (ks.map keyD)) x)))) m2) := by
  unfold fPutT; rw [e1, Option.bind_some]; dsimp only; rw [e2, Option.bind_some]; dsimp only; rw [e3]; dsimp only; rw [if_pos (lt_line e4)]
theorem ev_set2 {i : Nat} {fi fj : EF} {a1 a2 : PyData} {m2 m3 : Io} (e1 : f ρ m = some (x, m1)) (e2 : fi ρ m1 = some (a1, m2)) (e3 : fj ρ m2 = some (a2, m3)) (e4 : ρ[i]? = some (some y)) (e5 : set2D y a1 a2 x = some z) : fSet2 i fi fj f ρ m = some (.nx (ρ.set i (some z)) m3) := by
  unfold fSet2; rw [e1, Option.bind_some]; dsimp only; rw [e2, Option.bind_some]; dsimp only; rw [e3, Option.bind_some]; dsimp only; rw [e4]; dsimp only; rw [e5]; rfl
/-! comprehensions, loops -/
theorem ev_lc {fi : AF} {b : BF} {ft : TF} {fe : EF} {vs : List Nat} {ds ys : List PyData} {m2 : Io} (e1 : fi ρ m = some (ds, m1)) (e2 : lcF b ft fe (wipeD ρ vs) ds m1 = some (ys, m2)) (e3 : ys.length ≤ 16777216) : fLc fi b ft fe vs ρ m = some (.list ys, m2) := by
  unfold fLc; rw [e1, Option.bind_some]; dsimp only; rw [e2, Option.bind_some]; dsimp only; rw [if_pos (szOk_le e3)]
/-- a comprehension without draws: filter and map -/
theorem lc_map {α : Type} {b : BF} {ft : TF} {fe : EF} (enc : α → PyData) (p : α → Bool) (F : α → PyData) (mm : Io) : ∀ xs : List α, (∀ a ∈ xs, ∃ ρ1, b (enc a) ρ = some ρ1 ∧ ft ρ1 mm = some (p a, mm) ∧ (p a = true → fe ρ1 mm = some (F a, mm))) →
    lcF b ft fe ρ (xs.map enc) mm = some ((xs.filter p).map F, mm)
  | [], _ => rfl
  | a :: r, h => by
    obtain ⟨ρ1, h1, h2, h3⟩ := h a List.mem_cons_self
    have ih := lc_map enc p F mm r fun a m => h a (List.mem_cons_of_mem _ m)
    rw [List.map_cons]
    unfold lcF
    rw [h1, Option.bind_some, h2, Option.bind_some]
    dsimp only
    cases e : p a with
    | true =>
      rw [if_pos rfl, h3 e, Option.bind_some]
      dsimp only
      rw [ih, List.filter_cons_of_pos (by rw [e]), List.map_cons]
      rfl
    | false =>
      rw [if_neg Bool.false_ne_true, ih, List.filter_cons_of_neg (by rw [e]; exact Bool.false_ne_true)]
/-- .. without a test -/
theorem lc_mapA {α : Type} {b : BF} {fe : EF} (enc F : α → PyData) (mm : Io) (xs : List α) (h : ∀ a ∈ xs, ∃ ρ1, b (enc a) ρ = some ρ1 ∧ fe ρ1 mm = some (F a, mm)) : lcF b tYesF fe ρ (xs.map enc) mm = some (xs.map F, mm) := by
  have := lc_map (b := b) (ft := tYesF) (fe := fe) (ρ := ρ) enc (fun _ => true) F mm xs fun a m => by
    obtain ⟨ρ1, h1, h2⟩ := h a m
    exact ⟨ρ1, h1, rfl, fun _ => h2⟩
  rw [this, List.filter_eq_self.mpr fun _ _ => rfl]
theorem ev_for {fi : AF} {b : BF} {ds : List PyData} (e1 : fi ρ m = some (ds, m1)) : fFor fi b s ρ m = forF b s ds ρ m1 := by unfold fFor; rw [e1]; rfl
theorem for_nil {b : BF} : forF b s [] ρ m = some (.nx ρ m) := rfl
theorem for_nx {b : BF} {ds : List PyData} {ρ2 : DEnv} {m2 : Io} (e1 : b x ρ = some ρ1) (e2 : s ρ1 m = some (.nx ρ2 m2)) : forF b s (x :: ds) ρ m = forF b s ds ρ2 m2 := by
  rw [forF, e1, Option.bind_some, e2]; rfl
theorem for_rt {b : BF} {ds : List PyData} {m2 : Io} (e1 : b x ρ = some ρ1) (e2 : s ρ1 m = some (.rt y m2)) : forF b s (x :: ds) ρ m = some (.rt y m2) := by
  rw [forF, e1, Option.bind_some, e2]; rfl
theorem for_ct {b : BF} {ds : List PyData} {ρ2 : DEnv} {m2 : Io} (e1 : b x ρ = some ρ1) (e2 : s ρ1 m = some (.ct ρ2 m2)) : forF b s (x :: ds) ρ m = forF b s ds ρ2 m2 := by
  rw [forF, e1, Option.bind_some, e2]; rfl
/-- a loop by an invariant over the items taken -/
theorem for_inv {α : Type} {b : BF} (enc : α → PyData) (I : List α → DEnv → Io → Prop) (xs : List α) (h0 : I [] ρ m) (hs : ∀ pre a post ρ m, xs = pre ++ a :: post → I pre ρ m → ∃ ρ1 ρ2 m2, b (enc a) ρ = some ρ1 ∧ s ρ1 m = some (.nx ρ2 m2) ∧ I (pre ++ [a]) ρ2 m2) :
    ∃ ρ' m', forF b s (xs.map enc) ρ m = some (.nx ρ' m') ∧ I xs ρ' m' := by
  have key : ∀ (post pre : List α) (ρ : DEnv) (m : Io), xs = pre ++ post → I pre ρ m → ∃ ρ' m', forF b s (post.map enc) ρ m = some (.nx ρ' m') ∧ I xs ρ' m' := by
    intro post
    induction post with
    | nil =>
      intro pre ρ m e i
      rw [List.append_nil] at e
      subst e
      exact ⟨ρ, m, rfl, i⟩
    | cons a r ih =>
      intro pre ρ m e i
      obtain ⟨ρ1, ρ2, m2, h1, h2, h3⟩ := hs pre a r ρ m e i
      obtain ⟨ρ', m', h4, h5⟩ := ih (pre ++ [a]) ρ2 m2 (by rw [e]; simp) h3
      exact ⟨ρ', m', by rw [List.map_cons, for_nx h1 h2]; exact h4, h5⟩
  exact key xs [] ρ m rfl h0
theorem ev_while {k : Nat} {fl : Option Fl} (e : whileF c s fuelN ρ m = fl) : fWhile c s ρ m = fl := e
theorem while_f {k : Nat} (e1 : c ρ m = some (false, m1)) : whileF c s (k + 1) ρ m = some (.nx ρ m1) := by rw [whileF, e1]; rfl
theorem while_nx {k : Nat} {m2 : Io} (e1 : c ρ m = some (true, m1)) (e2 : s ρ m1 = some (.nx ρ1 m2)) : whileF c s (k + 1) ρ m = whileF c s k ρ1 m2 := by
  rw [whileF, e1, Option.bind_some]; dsimp only; rw [if_pos rfl, e2]; rfl
/-- a while by an invariant and a measure -/
theorem while_inv (I : DEnv → Io → Prop) (μ : DEnv → Nat) (hs : ∀ ρ m, I ρ m → (∃ m1, c ρ m = some (false, m1) ∧ I ρ m1) ∨ ∃ m1 ρ2 m2, c ρ m = some (true, m1) ∧ s ρ m1 = some (.nx ρ2 m2) ∧ I ρ2 m2 ∧ μ ρ2 < μ ρ) :
    ∀ (k : Nat) (ρ : DEnv) (m : Io), I ρ m → μ ρ < k → ∃ ρ' m' m'', whileF c s k ρ m = some (.nx ρ' m') ∧ I ρ' m' ∧ c ρ' m'' = some (false, m')
  | 0, _, _, _, h => absurd h (Nat.not_lt_zero _)
  | k + 1, ρ, m, i, h => by
    rcases hs ρ m i with ⟨m1, h1, h2⟩ | ⟨m1, ρ2, m2, h1, h2, h3, h4⟩
    · exact ⟨ρ, m1, m, while_f h1, h2, h1⟩
    · obtain ⟨ρ', m', m'', g1, g2, g3⟩ := while_inv I μ hs k ρ2 m2 h3 (by omega)
      exact ⟨ρ', m', m'', by rw [while_nx h1 h2]; exact g1, g2, g3⟩
end
/-! ### data of a plain form -/
theorem add_int (i j : Int) : addD (.int i) (.int j) = some (.int (i + j)) := rfl
theorem sub_int' (i j : Int) : subD (.int i) (.int j) = some (.int (i - j)) := rfl
theorem add_tup {xs ys : List PyData} (h : xs.length + ys.length ≤ 16777216) : addD (.tuple xs) (.tuple ys) = some (.tuple (xs ++ ys)) := by
  unfold addD; dsimp only; rw [if_pos (szOk_le h)]
theorem add_lst {xs ys : List PyData} (h : xs.length + ys.length ≤ 16777216) : addD (.list xs) (.list ys) = some (.list (xs ++ ys)) := by
  unfold addD; dsimp only; rw [if_pos (szOk_le h)]
theorem addL_lst {xs ys : List PyData} (h : xs.length + ys.length ≤ 16777216) : addLD (.list xs) (.list ys) = some (.list (xs ++ ys)) := by
  unfold addLD; dsimp only; rw [if_pos (szOk_le h)]
theorem len_tup (xs : List PyData) : lenD [.tuple xs] = some (.int xs.length) := rfl
theorem len_lst (xs : List PyData) : lenD [.list xs] = some (.int xs.length) := rfl
theorem lt_int' (i j : Int) : ltD (.int i) (.int j) = some (.bool (decide (i < j))) := by
  unfold ltD
  rw [if_pos (by simp [ordOk, plain, PySem.W.alike, PyData.depth]), PySem.W.dataLt_int]
theorem gt_int' (i j : Int) : gtD (.int i) (.int j) = some (.bool (decide (j < i))) := by
  unfold gtD
  rw [if_pos (by simp [ordOk, plain, PySem.W.alike, PyData.depth]), PySem.W.dataLt_int]
theorem le_int' (i j : Int) : leD (.int i) (.int j) = some (.bool (decide (i ≤ j))) := by
  unfold leD
  rw [if_pos (by simp [ordOk, plain, PySem.W.alike, PyData.depth]), PySem.W.dataLt_int]
  by_cases h : i ≤ j
  · rw [decide_eq_true h, decide_eq_false (by omega : ¬ j < i)]; rfl
  · rw [decide_eq_false h, decide_eq_true (by omega : j < i)]; rfl
theorem ge_int' (i j : Int) : geD (.int i) (.int j) = some (.bool (decide (j ≤ i))) := by
  unfold geD
  rw [if_pos (by simp [ordOk, plain, PySem.W.alike, PyData.depth]), PySem.W.dataLt_int]
  by_cases h : j ≤ i
  · rw [decide_eq_true h, decide_eq_false (by omega : ¬ i < j)]; rfl
  · rw [decide_eq_false h, decide_eq_true (by omega : i < j)]; rfl
theorem eq_int' (i j : Int) : eqD (.int i) (.int j) = some (.bool (i == j)) := by
  unfold eqD
  rw [if_pos (by simp [plain, SeqAt.shaped, PyData.canLay0, PyData.depth])]
  simp only [PyData.eqv]
theorem ne_int' (i j : Int) : neD (.int i) (.int j) = some (.bool (!(i == j))) := by
  unfold neD
  rw [if_pos (by simp [plain, SeqAt.shaped, PyData.canLay0, PyData.depth])]
  simp only [PyData.eqv]
theorem mod_int'' {i j : Int} (h : 0 < j) : modD (.int i) (.int j) = some (.int (i % j)) := by unfold modD; dsimp only; rw [if_pos h]
theorem log2_small {i : Int} {k : Nat} (h : i.natAbs < 2 ^ (k + 1)) : i.natAbs.log2 ≤ k := by
  by_cases z : i.natAbs = 0
  · rw [z]; simp
  · exact Nat.lt_succ_iff.mp ((Nat.log2_lt z).mpr h)
theorem fdiv_int {i j : Int} (h : 0 < j) (h2 : j < 2 ^ 60) : fdivD (.int i) (.int j) = some (.int (i / j)) := by
  unfold fdivD
  have e : j.natAbs.log2 ≤ 59 := log2_small (k := 59) (by omega)
  dsimp only
  rw [if_pos (by rw [decide_eq_true h, decide_eq_true (by omega : j.natAbs.log2 < 9000)]; rfl)]
theorem mul_int'' {i j : Int} {a b : Nat} (h1 : i.natAbs < 2 ^ (a + 1)) (h2 : j.natAbs < 2 ^ (b + 1)) (h : a + b < 1000000) : mulD (.int i) (.int j) = some (.int (i * j)) := by
  unfold mulD
  have e1 := log2_small h1
  have e2 := log2_small h2
  dsimp only
  rw [if_pos (by omega)]
theorem ix_tup' {xs : List PyData} {i : Int} {d : PyData} (h0 : 0 ≤ i) (h : xs[i.toNat]? = some d) : ixD (.tuple xs) (.int i) = some d := by
  unfold ixD
  dsimp only
  have hl := (List.getElem?_eq_some_iff.mp h).1
  exact atI_of (j := i.toNat) (by unfold ixN; rw [if_pos h0, if_pos (by omega)]) h
theorem ix_lst' {xs : List PyData} {i : Int} {d : PyData} (h0 : 0 ≤ i) (h : xs[i.toNat]? = some d) : ixD (.list xs) (.int i) = some d := by
  unfold ixD
  dsimp only
  have hl := (List.getElem?_eq_some_iff.mp h).1
  exact atI_of (j := i.toNat) (by unfold ixN; rw [if_pos h0, if_pos (by omega)]) h
theorem range1_ok {j : Int} (h0 : 0 ≤ j) (h : j < 2 ^ 60) : range1D [.int j] = some ((List.range j.toNat).map fun k => PyData.int (k : Nat)) := by
  unfold range1D
  dsimp only
  rw [if_pos (by rw [decide_eq_true (by omega : -(2 ^ 62) ≤ j), decide_eq_true (by omega : j < 2 ^ 62)]; rfl)]
theorem range2_ok {i j : Int} (h0 : 0 ≤ i) (hi : i < 2 ^ 60) (h1 : 0 ≤ j) (h : j < 2 ^ 60) : range2D [.int i, .int j] = some ((List.range (j - i).toNat).map fun k => PyData.int (i + (k : Nat))) := by
  unfold range2D
  dsimp only
  rw [if_pos (by rw [decide_eq_true (by omega : -(2 ^ 62) ≤ i), decide_eq_true (by omega : i < 2 ^ 62), decide_eq_true (by omega : -(2 ^ 62) ≤ j), decide_eq_true (by omega : j < 2 ^ 62)]; rfl)]
theorem range3_ok {i j : Int} (h0 : -1 ≤ i) (hi : i < 2 ^ 60) (h1 : -1 ≤ j) (h : j < 2 ^ 60) : range3D [.int i, .int j, .int (-1)] = some ((List.range (i - j).toNat).map fun k => PyData.int (i - (k : Nat))) := by
  show (if (decide (-(2 ^ 62) ≤ i) && decide (i < 2 ^ 62) && (decide (-(2 ^ 62) ≤ j) && decide (j < 2 ^ 62))) = true then some ((List.range (i - j).toNat).map fun k => PyData.int (i - (k : Nat))) else none) = _
  rw [if_pos (by rw [decide_eq_true (by omega : -(2 ^ 62) ≤ i), decide_eq_true (by omega : i < 2 ^ 62), decide_eq_true (by omega : -(2 ^ 62) ≤ j), decide_eq_true (by omega : j < 2 ^ 62)]; rfl)]
end DL
namespace DL
open PySem PySem.Spec PyProof.Rows L2
/-! ### data of a plain form, further -/
theorem outI_of {x : Option Fl} {d c : PyData} (h : x = some (.rt d (some c))) : outI x = some (d, c) := by rw [h]; rfl
theorem outL_of {x : Option Fl} {d : PyData} {m : Io} (h : x = some (.rt d m)) : outL x = some d := by rw [h]; rfl
section
variable {f g : EF} {h h' : AF} {c d : TF} {s s' : SF} {ρ ρ1 : DEnv} {m m1 : Io} {x y z : PyData} {b : Bool} {xs : List PyData}
theorem int_int (i : Int) : DL.intD [.int i] = some (.int i) := rfl
theorem neg_int' (i : Int) : negD (.int i) = some (.int (-i)) := rfl
theorem tuple_lst (xs : List PyData) : tupleD [.list xs] = some (.tuple xs) := rfl
theorem tuple_strs (xs : List Str) : tupleD [.list (xs.map .str)] = some (txt xs) := rfl
theorem list_lst (xs : List PyData) : listD [.list xs] = some (.list xs) := rfl
theorem items_lst (xs : List PyData) : itemsD (.list xs) = some xs := rfl
theorem items_tup (xs : List PyData) : itemsD (.tuple xs) = some xs := rfl
theorem items_txt (xs : List Str) : itemsD (txt xs) = some (xs.map .str) := rfl
theorem len_txt (l : List Str) : lenD [txt l] = some (.int (l.length : Nat)) := by show some (PyData.int ((l.map PyData.str).length : Nat)) = _; rw [List.length_map]
theorem len_map {α : Type} (e : α → PyData) (l : List α) : lenD [.list (l.map e)] = some (.int (l.length : Nat)) := by show some (PyData.int ((l.map e).length : Nat)) = _; rw [List.length_map]
theorem len_mapT {α : Type} (e : α → PyData) (l : List α) : lenD [.tuple (l.map e)] = some (.int (l.length : Nat)) := by show some (PyData.int ((l.map e).length : Nat)) = _; rw [List.length_map]
theorem ix_txt {l : List Str} {i : Nat} {x : Str} (h : l[i]? = some x) : ixD (txt l) (.int i) = some (.str x) := ix_tup' (by omega) (by
  show (l.map PyData.str)[i]? = _
  rw [List.getElem?_map, h]; rfl)
theorem ix_map {α : Type} {e : α → PyData} {l : List α} {i : Nat} {x : α} (h : l[i]? = some x) : ixD (.list (l.map e)) (.int i) = some (e x) := ix_lst' (by omega) (by
  show (l.map e)[i]? = _
  rw [List.getElem?_map, h]; rfl)
theorem ix_mapT {α : Type} {e : α → PyData} {l : List α} {i : Nat} {x : α} (h : l[i]? = some x) : ixD (.tuple (l.map e)) (.int i) = some (e x) := ix_tup' (by omega) (by
  show (l.map e)[i]? = _
  rw [List.getElem?_map, h]; rfl)
theorem add_txt {l r : List Str} (h : l.length + r.length ≤ 16777216) : addD (txt l) (txt r) = some (txt (l ++ r)) := by
  unfold txt
  rw [add_tup (by simpa using h), List.map_append]
theorem add_mapT {α : Type} {e : α → PyData} {l r : List α} (h : l.length + r.length ≤ 16777216) : addD (.tuple (l.map e)) (.tuple (r.map e)) = some (.tuple ((l ++ r).map e)) := by
  rw [add_tup (by simpa using h), List.map_append]
theorem add_mapL {α : Type} {e : α → PyData} {l r : List α} (h : l.length + r.length ≤ 16777216) : addD (.list (l.map e)) (.list (r.map e)) = some (.list ((l ++ r).map e)) := by
  rw [add_lst (by simpa using h), List.map_append]
theorem cutD_map {α β : Type} (e : α → β) (l : List α) (lo hi : Option Int) : cutD (l.map e) lo hi = (cutD l lo hi).map e := by
  unfold cutD
  rw [List.length_map, List.map_take, List.map_drop]
theorem cutD_to {α : Type} (l : List α) (k : Nat) : cutD l none (some (k : Int)) = l.take k := by
  unfold cutD
  rw [HT.sIx_nat, HT.sIx_none, List.drop_zero, Nat.sub_zero]
  rcases Nat.le_total k l.length with h | h
  · rw [Nat.min_eq_left h]
  · rw [Nat.min_eq_right h, List.take_of_length_le h, List.take_of_length_le (Nat.le_refl _)]
theorem cutD_from {α : Type} (l : List α) (k : Nat) : cutD l (some (k : Int)) none = l.drop k := by
  unfold cutD
  rw [HT.sIx_nat, HT.sIx_none, List.take_of_length_le (by simp)]
  rcases Nat.le_total k l.length with h | h
  · rw [Nat.min_eq_left h]
  · rw [Nat.min_eq_right h, List.drop_of_length_le h, List.drop_of_length_le (Nat.le_refl _)]
theorem cutD_in {α : Type} (l : List α) (i j : Nat) : cutD l (some (i : Int)) (some (j : Int)) = (l.drop i).take (j - i) := by
  unfold cutD
  rw [HT.sIx_nat, HT.sIx_nat]
  rcases Nat.le_total i l.length with h | h
  · rw [Nat.min_eq_left h]
    rcases Nat.le_total j l.length with k | k
    · rw [Nat.min_eq_left k]
    · rw [Nat.min_eq_right k, List.take_of_length_le (by simp), List.take_of_length_le (by rw [List.length_drop]; omega)]
  · rw [Nat.min_eq_right h, List.drop_of_length_le h, List.drop_of_length_le (Nat.le_refl _), List.take_nil, List.take_nil]
theorem sl_txt_to (l : List Str) (k : Nat) : slD (txt l) none (some (k : Int)) = some (txt (l.take k)) := by
  show some (PyData.tuple (cutD _ _ _)) = _
  rw [cutD_map, cutD_to]; rfl
theorem sl_txt_from (l : List Str) (k : Nat) : slD (txt l) (some (k : Int)) none = some (txt (l.drop k)) := by
  show some (PyData.tuple (cutD _ _ _)) = _
  rw [cutD_map, cutD_from]; rfl
theorem sl_txt_in (l : List Str) (i j : Nat) : slD (txt l) (some (i : Int)) (some (j : Int)) = some (txt ((l.drop i).take (j - i))) := by
  show some (PyData.tuple (cutD _ _ _)) = _
  rw [cutD_map, cutD_in]; rfl
theorem range1_nat {n : Nat} (h : n < 2 ^ 60) : range1D [.int n] = some ((List.range n).map fun k => PyData.int (k : Nat)) := by
  rw [range1_ok (by omega) (by omega)]; rfl
theorem range2_nat {i j : Nat} (hi : i < 2 ^ 60) (h : j < 2 ^ 60) : range2D [.int i, .int j] = some ((List.range (j - i)).map fun k => PyData.int ((i + k : Nat) : Int)) := by
  rw [range2_ok (by omega) (by omega) (by omega) (by omega)]
  have : ((j : Int) - (i : Int)).toNat = j - i := by omega
  rw [this]
  congr 1
theorem downs (n : Nat) : (List.range n).map (fun k => PyData.int ((n : Int) - 1 - (k : Nat))) = (List.range n).reverse.map fun k => PyData.int (k : Nat) := by
  refine List.ext_getElem (by simp) fun i h1 h2 => ?_
  simp only [List.getElem_map, List.getElem_range, List.getElem_reverse, List.length_range]
  simp only [List.length_map, List.length_range] at h1
  congr 1
  omega
theorem range3_nat {n : Nat} (h : n < 2 ^ 60) : range3D [.int ((n : Int) - 1), .int (-1), .int (-1)] = some ((List.range n).reverse.map fun k => PyData.int (k : Nat)) := by
  rw [range3_ok (by omega) (by omega) (by omega) (by omega)]
  have : ((n : Int) - 1 - -1).toNat = n := by omega
  rw [this, downs]
theorem listRg_nat {n : Nat} (h : n ≤ 16777216) : listRg (.int n) = some (.list ((List.range n).map fun k => PyData.int (k : Nat))) := by
  show (if decide ((0 : Int) ≤ n) && decide ((n : Int) ≤ 16777216) then some (PyData.list (rgD (n : Int).toNat)) else none) = _
  rw [if_pos (by rw [decide_eq_true (by omega : (0 : Int) ≤ n), decide_eq_true (by omega : (n : Int) ≤ 16777216)]; rfl)]
  rfl
theorem rev_map {α : Type} (e : α → PyData) (l : List α) : revD (.list (l.map e)) = some (.list (l.reverse.map e)) := by
  show some (PyData.list (l.map e).reverse) = _
  rw [List.map_reverse]
theorem eq_nat (i j : Nat) : eqD (.int i) (.int j) = some (.bool (decide (i = j))) := by
  rw [eq_int']
  congr 2
  by_cases h : i = j
  · subst h; simp
  · rw [decide_eq_false h]; simp; omega
theorem ne_nat (i j : Nat) : neD (.int i) (.int j) = some (.bool (decide (i ≠ j))) := by
  rw [ne_int']
  congr 2
  by_cases h : i = j
  · subst h; simp
  · rw [decide_eq_true h]; simp; omega
theorem lt_nat (i j : Nat) : ltD (.int i) (.int j) = some (.bool (decide (i < j))) := by
  rw [lt_int']
  congr 2
  exact decide_eq_decide.mpr (by omega)
theorem gt_nat (i j : Nat) : gtD (.int i) (.int j) = some (.bool (decide (j < i))) := by
  rw [gt_int']
  congr 2
  exact decide_eq_decide.mpr (by omega)
theorem add_nat (i j : Nat) : addD (.int i) (.int j) = some (.int ((i + j : Nat) : Int)) := rfl
theorem max2_nat (i j : Nat) : max2D [.int i, .int j] = some (.int ((max i j : Nat) : Int)) := by
  show some (PyData.int (if (j : Int) > i then (j : Int) else i)) = _
  congr 2
  split <;> omega
theorem ev_noPart : fNoPart ρ m = some (none, m) := rfl
theorem ev_sset {i : Nat} {ρ2 : DEnv} (e1 : f ρ m = some (x, m1)) (e2 : ρ.set i (some x) = ρ2) : fSet i f ρ m = some (.nx ρ2 m1) := by rw [ev_set e1, e2]
theorem set_eq {ρ ρ2 : DEnv} {i : Nat} {v : Option PyData} (h : ρ.set i v = ρ2) : ρ.set i v = ρ2 := h
theorem sq {R : Option Fl} (e1 : s ρ m = some (.nx ρ1 m1)) (e2 : s' ρ1 m1 = R) : fSeq s s' ρ m = R := (ev_seq_nx e1).trans e2
theorem ift {R : Option Fl} (e1 : c ρ m = some (true, m1)) (e2 : s ρ m1 = R) : fIfS c s s' ρ m = R := (ev_ifS_t e1).trans e2
theorem iff {R : Option Fl} (e1 : c ρ m = some (false, m1)) (e2 : s' ρ m1 = R) : fIfS c s s' ρ m = R := (ev_ifS_f e1).trans e2
theorem fo {fi : AF} {bb : BF} {ds : List PyData} {R : Option Fl} (e1 : fi ρ m = some (ds, m1)) (e2 : forF bb s ds ρ m1 = R) : fFor fi bb s ρ m = R := (ev_for e1).trans e2
/-- a loop upwards -/
theorem for_up {b : BF} (n : Nat) (e : Nat → PyData) (I : Nat → DEnv → Io → Prop) (h0 : I 0 ρ m) (hs : ∀ i ρ m, i < n → I i ρ m → ∃ ρ1 ρ2 m2, b (e i) ρ = some ρ1 ∧ s ρ1 m = some (.nx ρ2 m2) ∧ I (i + 1) ρ2 m2) :
    ∃ ρ' m', forF b s ((List.range n).map e) ρ m = some (.nx ρ' m') ∧ I n ρ' m' := by
  obtain ⟨ρ', m', h1, h2⟩ := for_inv (s := s) (b := b) e (fun l => I l.length) (List.range n) h0 fun pre a post ρ m he hi => by
    have hl : pre.length < n := by have := congrArg List.length he; simp at this; omega
    have ha : a = pre.length := by
      have : (List.range n)[pre.length]? = some a := by rw [he]; simp
      rw [List.getElem?_range hl] at this
      cases this; rfl
    subst ha
    obtain ⟨ρ1, ρ2, m2, k1, k2, k3⟩ := hs _ ρ m hl hi
    exact ⟨ρ1, ρ2, m2, k1, k2, by simpa using k3⟩
  exact ⟨ρ', m', h1, by simpa using h2⟩
/-- a loop downwards -/
theorem for_down {b : BF} (n : Nat) (e : Nat → PyData) (I : Nat → DEnv → Io → Prop) (h0 : I n ρ m) (hs : ∀ i ρ m, i < n → I (i + 1) ρ m → ∃ ρ1 ρ2 m2, b (e i) ρ = some ρ1 ∧ s ρ1 m = some (.nx ρ2 m2) ∧ I i ρ2 m2) :
    ∃ ρ' m', forF b s ((List.range n).reverse.map e) ρ m = some (.nx ρ' m') ∧ I 0 ρ' m' := by
  obtain ⟨ρ', m', h1, h2⟩ := for_inv (s := s) (b := b) e (fun l => I (n - l.length)) (List.range n).reverse (by simpa using h0) fun pre a post ρ m he hi => by
    have hl : pre.length < n := by have := congrArg List.length he; simp at this; omega
    have ha : a = n - 1 - pre.length := by
      have h1 : (List.range n).reverse[pre.length]? = some a := by rw [he]; simp
      rw [List.getElem?_reverse (by simpa using hl), List.length_range, List.getElem?_range (by omega)] at h1
      cases h1; rfl
    subst ha
    have e1 : n - 1 - pre.length + 1 = n - pre.length := by omega
    obtain ⟨ρ1, ρ2, m2, k1, k2, k3⟩ := hs (n - 1 - pre.length) ρ m (by omega) (by rw [e1]; exact hi)
    refine ⟨ρ1, ρ2, m2, k1, k2, ?_⟩
    rw [List.length_append, List.length_singleton, ← Nat.sub_sub, Nat.sub_right_comm]
    exact k3
  exact ⟨ρ', m', h1, by simpa using h2⟩
end
end DL
namespace DL
open PySem PySem.Spec PyProof.Rows L2
/-! ### dicts by a look-up -/
section
variable {α β : Type} [DecidableEq α]
def look (l : List (α × β)) (p : α) : Option β := (l.find? fun e => decide (e.1 = p)).map (·.2)
variable {key : α → PyData} {val : β → PyData}
def enD (key : α → PyData) (val : β → PyData) (e : α × β) : PyData × PyData := (key e.1, val e.2)
theorem dget_look (hk : ∀ a b, PyData.eqv (key a) (key b) = decide (a = b)) (p : α) : ∀ l : List (α × β), dgetD (l.map (enD key val)) (key p) = (look l p).map val
  | [] => rfl
  | e :: r => by
    have ih := dget_look hk p r
    unfold dgetD look at ih ⊢
    rw [List.map_cons, List.find?_cons, List.find?_cons]
    show Option.map _ (match PyData.eqv (key e.1) (key p) with | true => _ | false => _) = _
    rw [hk]
    cases h : decide (e.1 = p) with
    | true => rfl
    | false => exact ih
theorem dhas_look (hk : ∀ a b, PyData.eqv (key a) (key b) = decide (a = b)) (p : α) : ∀ l : List (α × β), dhas (l.map (enD key val)) (key p) = (look l p).isSome
  | [] => rfl
  | e :: r => by
    have ih := dhas_look hk p r
    unfold dhas look at ih ⊢
    rw [List.map_cons, List.any_cons, List.find?_cons]
    show (PyData.eqv (key e.1) (key p) || _) = _
    rw [hk]
    cases h : decide (e.1 = p) with
    | true => rfl
    | false => rw [Bool.false_or]; exact ih
theorem dput_look (hk : ∀ a b, PyData.eqv (key a) (key b) = decide (a = b)) (p : α) (v : β) (l : List (α × β)) : ∃ l' : List (α × β), dputD (l.map (enD key val)) (key p) (val v) = l'.map (enD key val) ∧ l'.length ≤ l.length + 1 ∧ look l' p = some v ∧ (∀ q, q ≠ p → look l' q = look l q) ∧ (look l p = none → l' = l ++ [(p, v)]) := by
  unfold dputD
  rw [dhas_look hk]
  cases h : look l p with
  | none =>
    rw [if_neg (by simp)]
    refine ⟨l ++ [(p, v)], by rw [List.map_append]; rfl, by simp, ?_, fun q hq => ?_, fun _ => rfl⟩
    · unfold look at h ⊢
      rw [List.find?_append, Option.map_eq_none_iff.mp h]
      simp
    · unfold look
      rw [List.find?_append]
      cases hh : List.find? (fun e : α × β => decide (e.1 = q)) l with
      | some z => rfl
      | none => simp [Ne.symm hq]
  | some w =>
    rw [show (some w).isSome = true from rfl, if_pos rfl]
    refine ⟨l.map fun e => if e.1 = p then (e.1, v) else e, ?_, by simp, ?_, ?_, fun z => by cases z⟩
    · rw [List.map_map, List.map_map]
      apply List.map_congr_left
      intro e _
      show (if PyData.eqv (key e.1) (key p) = true then (key e.1, val v) else (key e.1, val e.2)) = enD key val (if e.1 = p then (e.1, v) else e)
      rw [hk]
      by_cases c : e.1 = p
      · rw [if_pos (decide_eq_true c), if_pos c]; rfl
      · rw [if_neg (by simp [c]), if_neg c]; rfl
    · have : ∀ l : List (α × β), look l p = some w → look (l.map fun e => if e.1 = p then (e.1, v) else e) p = some v := by
        intro l
        induction l with
        | nil => intro h; cases h
        | cons e r ih =>
          intro h
          unfold look at ih h ⊢
          rw [List.map_cons, List.find?_cons]
          rw [List.find?_cons] at h
          by_cases c : e.1 = p
          · simp [c]
          · simp only [c, if_false, decide_false] at h ⊢
            exact ih h
      exact this l h
    · intro q hq
      have : ∀ l : List (α × β), look (l.map fun e => if e.1 = p then (e.1, v) else e) q = look l q := by
        intro l
        induction l with
        | nil => rfl
        | cons e r ih =>
          unfold look at ih ⊢
          rw [List.map_cons, List.find?_cons, List.find?_cons]
          by_cases c : e.1 = p
          · have c2 : ¬ e.1 = q := fun z => hq (z ▸ c)
            have c3 : ¬ p = q := fun z => hq z.symm
            simp only [c, if_true, c3, decide_false]
            exact ih
          · simp only [c, if_false]
            by_cases c2 : e.1 = q
            · simp [c2]
            · simp only [c2, decide_false]
              exact ih
      exact this l
end
/-! ### the least of alike data -/
theorem min_spec {α : Type} (enc : α → PyData) (R : α → α → Prop) (hR : ∀ a b, PySem.W.dataLt (enc a) (enc b) = true ↔ R a b) (irr : ∀ a, ¬ R a a) (tr : ∀ {a b c}, R a b → R b c → R a c) (ntr : ∀ {a b c}, ¬ R a b → ¬ R b c → ¬ R a c)
    (hp : ∀ a, plain (enc a) = true) (hd : ∀ a, (enc a).depth ≤ 60) (hn : ∀ a, enc a ≠ .none) (hal : ∀ a b, PySem.W.alike (enc a) (enc b) = true) (xs : List α) (hx : xs ≠ []) :
    ∃ r ∈ xs, minLD [.list (xs.map enc)] = some (enc r) ∧ ∀ s ∈ xs, ¬ R s r := by
  cases xs with
  | nil => exact absurd rfl hx
  | cons x r =>
    have ha : alikeL ((x :: r).map enc) = true := by
      unfold alikeL
      rw [List.all_eq_true]
      intro y hy
      obtain ⟨a, _, rfl⟩ := List.mem_map.mp hy
      rw [hp, decide_eq_true (hd a)]
      have h1 : (match enc a with | .none => false | _ => true) = true := by
        have := hn a
        split
        · rename_i h; exact absurd h this
        · rfl
      have h2 : (List.map enc (x :: r)).all (fun y => PySem.W.alike (enc a) y) = true := by
        rw [List.all_eq_true]
        intro y hy
        obtain ⟨b, _, rfl⟩ := List.mem_map.mp hy
        exact hal a b
      simp only [Bool.true_and, Bool.and_eq_true]
      exact ⟨h1, h2⟩
    have key : ∀ (r : List α) (x : α), ∃ z ∈ x :: r, PySem.W.minD (enc x) (r.map enc) = enc z ∧ ∀ s ∈ x :: r, ¬ R s z := by
      intro r
      induction r with
      | nil => intro x; exact ⟨x, List.mem_cons_self, rfl, fun s hs => by rcases List.mem_cons.mp hs with rfl | h; exact irr _; cases h⟩
      | cons y r ih =>
        intro x
        have e : PySem.W.minD (enc x) ((y :: r).map enc) = PySem.W.minD (if PySem.W.dataLt (enc y) (enc x) then enc y else enc x) (r.map enc) := rfl
        rw [e]
        by_cases c : PySem.W.dataLt (enc y) (enc x) = true
        · rw [if_pos c]
          obtain ⟨z, h1, h2, h3⟩ := ih y
          refine ⟨z, List.mem_cons_of_mem _ h1, h2, fun s hs => ?_⟩
          rcases List.mem_cons.mp hs with rfl | hs
          · intro k
            exact h3 y List.mem_cons_self (tr ((hR _ _).mp c) k)
          · exact h3 s hs
        · rw [if_neg c]
          obtain ⟨z, h1, h2, h3⟩ := ih x
          refine ⟨z, ?_, h2, fun s hs => ?_⟩
          · rcases List.mem_cons.mp h1 with rfl | h
            · exact List.mem_cons_self
            · exact List.mem_cons_of_mem _ (List.mem_cons_of_mem _ h)
          · rcases List.mem_cons.mp hs with rfl | hs
            · exact h3 _ List.mem_cons_self
            · rcases List.mem_cons.mp hs with rfl | hs
              · intro k
                exact ntr (fun z => c ((hR _ _).mpr z)) (h3 x List.mem_cons_self) k
              · exact h3 s (List.mem_cons_of_mem _ hs)
    obtain ⟨z, h1, h2, h3⟩ := key r x
    refine ⟨z, h1, ?_, h3⟩
    show (if alikeL ((x :: r).map enc) = true then some (PySem.W.minD (enc x) (r.map enc)) else none) = _
    rw [if_pos ha, h2]
end DL
namespace DL
open PySem PySem.Spec PyProof.Rows L2
section
variable {f g : EF} {h h' : AF} {c d : TF} {s s' : SF} {ρ ρ1 : DEnv} {m m1 : Io} {x y z : PyData}
/-- a loop that may answer at a place -/
theorem for_any {α : Type} {b : BF} (enc : α → PyData) (p : α → Bool) (I : DEnv → Prop) (v : PyData) : ∀ (xs : List α) (ρ : DEnv), I ρ →
    (∀ a ∈ xs, ∀ ρ, I ρ → ∃ ρ1, b (enc a) ρ = some ρ1 ∧ (p a = true → s ρ1 m = some (.rt v m)) ∧ (p a = false → ∃ ρ2, s ρ1 m = some (.nx ρ2 m) ∧ I ρ2)) →
    (xs.any p = true → forF b s (xs.map enc) ρ m = some (.rt v m)) ∧ (xs.any p = false → ∃ ρ', forF b s (xs.map enc) ρ m = some (.nx ρ' m) ∧ I ρ')
  | [], ρ, i, _ => ⟨(fun h => by cases h), fun _ => ⟨ρ, rfl, i⟩⟩
  | a :: r, ρ, i, hs => by
    obtain ⟨ρ1, h1, h2, h3⟩ := hs a List.mem_cons_self ρ i
    cases e : p a with
    | true =>
      refine ⟨fun _ => by rw [List.map_cons]; exact for_rt h1 (h2 e), fun z => ?_⟩
      rw [List.any_cons, e] at z
      cases z
    | false =>
      obtain ⟨ρ2, h4, h5⟩ := h3 e
      obtain ⟨g1, g2⟩ := for_any enc p I v r ρ2 h5 fun a ha => hs a (List.mem_cons_of_mem _ ha)
      rw [List.any_cons, e, Bool.false_or, List.map_cons, for_nx h1 h4]
      exact ⟨g1, g2⟩
/-- a while by an indexed invariant -/
theorem while_ix (I : Nat → DEnv → Io → Prop) (R : DEnv → Io → Prop)
    (hs : ∀ k ρ m, I k ρ m → (∃ m1, c ρ m = some (false, m1) ∧ R ρ m1) ∨ ∃ m1 ρ2 m2 k', c ρ m = some (true, m1) ∧ s ρ m1 = some (.nx ρ2 m2) ∧ I k' ρ2 m2 ∧ k' < k) :
    ∀ (fuel k : Nat) (ρ : DEnv) (m : Io), I k ρ m → k < fuel → ∃ ρ' m', whileF c s fuel ρ m = some (.nx ρ' m') ∧ R ρ' m'
  | 0, _, _, _, _, h => absurd h (Nat.not_lt_zero _)
  | n + 1, k, ρ, m, i, h => by
    rcases hs k ρ m i with ⟨m1, h1, h2⟩ | ⟨m1, ρ2, m2, k', h1, h2, h3, h4⟩
    · exact ⟨ρ, m1, while_f h1, h2⟩
    · obtain ⟨ρ', m', g1, g2⟩ := while_ix I R hs n k' ρ2 m2 h3 (by omega)
      exact ⟨ρ', m', by rw [while_nx h1 h2]; exact g1, g2⟩
theorem ev_while_ix (I : Nat → DEnv → Io → Prop) (R : DEnv → Io → Prop) {k : Nat} (i : I k ρ m) (hk : k < 100000)
    (hs : ∀ k ρ m, I k ρ m → (∃ m1, c ρ m = some (false, m1) ∧ R ρ m1) ∨ ∃ m1 ρ2 m2 k', c ρ m = some (true, m1) ∧ s ρ m1 = some (.nx ρ2 m2) ∧ I k' ρ2 m2 ∧ k' < k) :
    ∃ ρ' m', fWhile c s ρ m = some (.nx ρ' m') ∧ R ρ' m' := while_ix I R hs fuelN k ρ m i hk
theorem first_in {n k : Nat} {P : Nat → Bool} (hk : k < n) (h1 : P k = true) (h2 : ∀ j, j < k → P j = false) : ((List.range n).filter P)[0]? = some k := by
  rw [← List.head?_eq_getElem?, List.head?_filter, List.find?_range_eq_some]
  exact ⟨h1, List.mem_range.mpr hk, fun j hj => by rw [h2 j hj]; rfl⟩
theorem keys2 (i j : Int) : keysOf [.int i, .int j] = some [.inl i, .inl j] := rfl
end
end DL
namespace K01
open PySem PySem.Spec PyProof.Rows L2 DL
def top (i : Nat) : Stmt := PySem.Challenge.pw_skein_k01_whole_differences_of_texts.main.body.getD i (.Pass ⟨0, 0, 0, 0⟩)
section
variable {P : Program} {w : World} {K : PySem.W.Frag} {mg : Str → Option Value} {base : Heap}
/-! most_kept -/
abbrev s_most_kept : Stmt := top 1
abbrev N_most_kept : List Str := ["first", "second", "table", "i", "j", "best", "_"]
theorem sc_most_kept : FnScope N_most_kept ["first", "second"] (defScope s_most_kept) := ⟨rfl, rfl, rfl, by decide +kernel, rfl, by decide +kernel, by decide +kernel⟩
def g_most_kept : SF :=
    (fSeq (fSet 2 (fLc (fRng range1D (fCons (fOp addD (fCall lenD (fCons (fV 0) fNil)) (fC (.int 1))) fNil)) (bName 6) tYesF (fOp repLD (fLst (fCons (fC (.int 0)) fNil)) (fOp addD (fCall lenD (fCons (fV 1) fNil)) (fC (.int 1)))) (List.map (·.2) ([("_", 6)] : List (Str × Nat)))))
    (fSeq (fFor (fRng range3D (fCons (fOp subD (fCall lenD (fCons (fV 0) fNil)) (fC (.int 1))) (fCons (fUn negD (fC (.int 1))) (fCons (fUn negD (fC (.int 1))) fNil)))) (bName 3)
    (fFor (fRng range3D (fCons (fOp subD (fCall lenD (fCons (fV 1) fNil)) (fC (.int 1))) (fCons (fUn negD (fC (.int 1))) (fCons (fUn negD (fC (.int 1))) fNil)))) (bName 4)
    (fSeq (fSet 5 (fCall max2D (fCons (fOp ixD (fOp ixD (fV 2) (fOp addD (fV 3) (fC (.int 1)))) (fV 4)) (fCons (fOp ixD (fOp ixD (fV 2) (fV 3)) (fOp addD (fV 4) (fC (.int 1)))) fNil))))
    (fSet2 2 (fV 3) (fV 4) (fIf (fT (fOp eqD (fOp ixD (fV 0) (fV 3)) (fOp ixD (fV 1) (fV 4)))) (fCall max2D (fCons (fV 5) (fCons (fOp addD (fC (.int 1)) (fOp ixD (fOp ixD (fV 2) (fOp addD (fV 3) (fC (.int 1)))) (fOp addD (fV 4) (fC (.int 1))))) fNil))) (fV 5))))))
    (fRetO 2)))
theorem w_most_kept {k : Nat} (B : Bl mg) (f : Addr) (cdv : Value) (A : Around) (outer : List PySem.Env) (s : Shared) (H : Hp) (E : XK) (hr : Room k (A.deeper (envOfC "most_kept" (defScope s_most_kept) s.heap.objs.size f cdv))) :
    ∃ t, DSs (cxOf CX0 P w K mg base N_most_kept "most_kept" (defScope s_most_kept) f cdv A outer s H E).nox [0, 0, 2, 0, 0, 0, 0] none true (defBody s_most_kept) t (g_most_kept) :=
  have hu1 := hu_of hr
  have hu64 := hr.units
  have hu100 : (A.deeper (envOfC "most_kept" (defScope s_most_kept) s.heap.objs.size f cdv)).units + 100 < cLine := by have := hr.un; omega
  ⟨_, (dss_cons (ds_setLcN (n := 1) 2 rfl sc_most_kept.nd (DI.dj (di_range1 (n1 := 0) B.range (da_cons (de_op (n := 0) (opK_add (K := K) rfl) ok2_add (de_callB (n := 1) (cK_len (K := K) rfl) ok1_len B.len boot_len (da_cons (DE.up (dv 0)) da_nil)) (de_int (n := 1))) da_nil))) (blkOk_by (own := [("_", 6)]) (N := N_most_kept) (sc := defScope s_most_kept) (by decide +kernel)) (fun _ _ _ _ _ => (dg_name 6 sc_most_kept.nd)) (fun _ _ _ _ _ => dts_nil) (fun _ _ _ _ _ => (DF.dn (df_rep (de_lst (n := 1) (da_cons (de_int (n := 0)) da_nil)) (de_op (n := 0) (opK_add (K := K) rfl) ok2_add (de_callB (n := 1) (cK_len (K := K) rfl) ok1_len B.len boot_len (da_cons (DE.up (dv 1)) da_nil)) (de_int (n := 1)))))) (sw_true rfl rfl rfl (by decide +kernel)))
    (dss_cons (ds_for PassesOwn.never rfl (di_range3 (n1 := 0) B.range (da_cons (de_op (n := 0) op_sub ok2_sub (de_callB (n := 0) (cK_len (K := K) rfl) ok1_len B.len boot_len (da_cons (DE.up (dv 0)) da_nil)) (de_int (n := 0))) (da_cons (de_neg (n := 0) (de_int (n := 0))) (da_cons (de_neg (n := 0) (de_int (n := 0))) da_nil)))) (dg_name 3 sc_most_kept.nd)
    (dss_one (ds_for PassesOwn.never rfl (di_range3 (n1 := 0) B.range (da_cons (de_op (n := 0) op_sub ok2_sub (de_callB (n := 0) (cK_len (K := K) rfl) ok1_len B.len boot_len (da_cons (DE.up (dv 1)) da_nil)) (de_int (n := 0))) (da_cons (de_neg (n := 0) (de_int (n := 0))) (da_cons (de_neg (n := 0) (de_int (n := 0))) da_nil)))) (dg_name 4 sc_most_kept.nd)
    (dss_cons (ds_set 5 sc_most_kept.nd (de_callB (n := 0) (call_max2 rfl) ok1_max2 B.max boot_max (da_cons (de_ix (n := 0) (de_ix (n := 1) (dv 2) (de_op (n := 0) (opK_add (K := K) rfl) ok2_add (DE.up (dv 3)) (de_int (n := 1))) hu1 (K := K) rfl) (dv 4) hu1 (K := K) rfl) (da_cons (de_ix (n := 0) (de_ix (n := 1) (dv 2) (dv 3) hu1 (K := K) rfl) (de_op (n := 0) (opK_add (K := K) rfl) ok2_add (DE.up (dv 4)) (de_int (n := 1))) hu1 (K := K) rfl) da_nil))))
    (dss_one (ds_set2 2 hu1 (pv 2) rfl (dv 3) (dv 4) (de_if (n := 0) (dt_cmp (opK_eq (K := K) rfl hu64) ok2_eq (de_ix (n := 0) (DE.up (dv 0)) (dv 3) hu1 (K := K) rfl) (de_ix (n := 0) (DE.up (dv 1)) (dv 4) hu1 (K := K) rfl)) (de_callB (n := 0) (call_max2 rfl) ok1_max2 B.max boot_max (da_cons (dv 5) (da_cons (de_op (n := 0) (opK_add (K := K) rfl) ok2_add (de_int (n := 1)) (de_ix (n := 1) (de_ix (n := 2) (DE.up (dv 2)) (de_op (n := 0) (opK_add (K := K) rfl) ok2_add (DE.up (dv 3)) (de_int (n := 1))) hu1 (K := K) rfl) (de_op (n := 0) (opK_add (K := K) rfl) ok2_add (DE.up (dv 4)) (de_int (n := 1))) hu1 (K := K) rfl)) da_nil))) (dv 5))))))))
    (dss_one (ds_retN' 2 (pv 2)))))⟩
/-! told_keeping -/
abbrev s_told_keeping : Stmt := top 2
abbrev N_told_keeping : List Str := ["first", "second", "table", "found", "i", "j", "places", "fine", "at"]
theorem sc_told_keeping : FnScope N_told_keeping ["first", "second"] (defScope s_told_keeping) := ⟨rfl, rfl, rfl, by decide +kernel, rfl, by decide +kernel, by decide +kernel⟩
def g_told_keeping (M_is_begun : List PyData → Option PyData) (M_most_kept : List PyData → Option PyData) : SF :=
    (fSeq (fSet 2 (fCall M_most_kept (fCons (fV 0) (fCons (fV 1) fNil))))
    (fSeq (fSet 3 (fLst fNil))
    (fSeq (fAsg (fTup (fCons (fC (.int 0)) (fCons (fC (.int 0)) fNil))) (bTup (bCons (bName 4) (bCons (bName 5) bNil))))
    (fSeq (fWhile (fT (fOp gtD (fOp ixD (fOp ixD (fV 2) (fV 4)) (fV 5)) (fC (.int 0))))
    (fSeq (fWhile (fAnd (fT (fOp eqD (fOp ixD (fOp ixD (fV 2) (fOp addD (fV 4) (fC (.int 1)))) (fV 5)) (fOp ixD (fOp ixD (fV 2) (fV 4)) (fV 5)))) (fNot (fT (fCall M_is_begun (fCons (fV 0) (fCons (fV 1) (fCons (fV 2) (fCons (fV 4) (fCons (fV 5) fNil)))))))))
    (fAug 4 (fC (.int 1))))
    (fSeq (fSet 6 (fLc (fRng range2D (fCons (fV 5) (fCons (fCall lenD (fCons (fV 1) fNil)) fNil))) (bName 8) (fT (fOp eqD (fOp ixD (fV 0) (fV 4)) (fOp ixD (fV 1) (fV 8)))) (fV 8) (List.map (·.2) ([("at", 8)] : List (Str × Nat)))))
    (fSeq (fSet 7 (fLc (fItems (fV 6)) (bName 8) (fT (fOp eqD (fOp addD (fC (.int 1)) (fOp ixD (fOp ixD (fV 2) (fOp addD (fV 4) (fC (.int 1)))) (fOp addD (fV 8) (fC (.int 1))))) (fOp ixD (fOp ixD (fV 2) (fV 4)) (fV 5)))) (fV 8) (List.map (·.2) ([("at", 8)] : List (Str × Nat)))))
    (fSeq (fAppend 3 (fTup (fCons (fV 4) (fCons (fOp ixD (fV 7) (fC (.int 0))) fNil))))
    (fAsg (fTup (fCons (fOp addD (fV 4) (fC (.int 1))) (fCons (fOp addD (fOp ixD (fV 7) (fC (.int 0))) (fC (.int 1))) fNil))) (bTup (bCons (bName 4) (bCons (bName 5) bNil)))))))))
    (fRet (fCall tupleD (fCons (fV 3) fNil)))))))
theorem w_told_keeping {k : Nat} (B : Bl mg) {j_is_begun : Nat} {M_is_begun : List PyData → Option PyData} (C_is_begun : Callee P w K mg base "is_begun" ["first", "second", "table", "i", "j"] j_is_begun (spP K M_is_begun)) (h_is_begun : j_is_begun ≤ k) {j_most_kept : Nat} {M_most_kept : List PyData → Option PyData} (C_most_kept : Callee P w K mg base "most_kept" ["first", "second"] j_most_kept (spP K M_most_kept)) (h_most_kept : j_most_kept ≤ k) (f : Addr) (cdv : Value) (A : Around) (outer : List PySem.Env) (s : Shared) (H : Hp) (E : XK) (hr : Room k (A.deeper (envOfC "told_keeping" (defScope s_told_keeping) s.heap.objs.size f cdv))) :
    ∃ t, DSs (cxOf CX0 P w K mg base N_told_keeping "told_keeping" (defScope s_told_keeping) f cdv A outer s H E).nox [0, 0, 0, 1, 0, 0, 0, 0, 0] none true (defBody s_told_keeping) t (g_told_keeping M_is_begun M_most_kept) :=
  have hu1 := hu_of hr
  have hu64 := hr.units
  have hu100 : (A.deeper (envOfC "told_keeping" (defScope s_told_keeping) s.heap.objs.size f cdv)).units + 100 < cLine := by have := hr.un; omega
  ⟨_, (dss_cons (ds_set 2 sc_told_keeping.nd (de_callC (n := 0) (K := K) rfl C_most_kept hr h_most_kept (da_cons (dv 0) (da_cons (dv 1) da_nil))))
    (dss_cons (ds_setO 3 sc_told_keeping.nd (df_lst da_nil))
    (dss_cons (ds_asg (de_tup (n := 0) (da_cons (de_int (n := 0)) (da_cons (de_int (n := 0)) da_nil))) (dg_tup (K := K) rfl rfl (dgs_cons (dg_name 4 sc_told_keeping.nd) (dgs_cons (dg_name 5 sc_told_keeping.nd) dgs_nil)) (bCons_len (bCons_len bNil_len))))
    (dss_cons (ds_whileF PassesOwn.never (dt_cmp (opK_gt (K := K) rfl hu64) ok2_gt (de_ix (n := 0) (de_ix (n := 1) (DE.up (DE.up (dv 2))) (dv 4) hu1 (K := K) rfl) (dv 5) hu1 (K := K) rfl) (de_int (n := 0)))
    (dss_cons (ds_whileF PassesOwn.never (DW.dt (dw_and (dt_cmp (opK_eq (K := K) rfl hu64) ok2_eq (de_ix (n := 0) (de_ix (n := 1) (DE.up (DE.up (dv 2))) (de_op (n := 0) (opK_add (K := K) rfl) ok2_add (DE.up (dv 4)) (de_int (n := 1))) hu1 (K := K) rfl) (dv 5) hu1 (K := K) rfl) (de_ix (n := 0) (de_ix (n := 1) (DE.up (DE.up (dv 2))) (dv 4) hu1 (K := K) rfl) (dv 5) hu1 (K := K) rfl)) (dw_and1 (dt_not (dt_val (de_callC (n := 0) (K := K) rfl C_is_begun hr h_is_begun (da_cons (dv 0) (da_cons (dv 1) (da_cons (dv 2) (da_cons (dv 4) (da_cons (dv 5) da_nil)))))))))))
    (dss_one (ds_aug 4 sc_told_keeping.nd (de_int (n := 0)))))
    (dss_cons (ds_setLc 6 rfl sc_told_keeping.nd (DI.dj (di_range2 (n1 := 0) B.range (da_cons (dv 5) (da_cons (de_callB (n := 0) (cK_len (K := K) rfl) ok1_len B.len boot_len (da_cons (DE.up (dv 1)) da_nil)) da_nil)))) (blkOk_by (own := [("at", 8)]) (N := N_told_keeping) (sc := defScope s_told_keeping) (by decide +kernel)) (fun _ _ _ _ _ => (dg_name 8 sc_told_keeping.nd)) (fun _ _ _ _ _ => (dts_one (dt_cmp (opK_eq (K := K) rfl hu64) ok2_eq (de_ix (n := 0) (DE.up (dv 0)) (dv 4) hu1 (K := K) rfl) (de_ix (n := 0) (DE.up (dv 1)) (dv 8) hu1 (K := K) rfl)))) (fun _ _ _ _ _ => (dv 8)) (sw_true rfl rfl rfl (by decide +kernel)))
    (dss_cons (ds_setLc 7 rfl sc_told_keeping.nd (DI.dj (di_seq (K := K) rfl (dv 6))) (blkOk_by (own := [("at", 8)]) (N := N_told_keeping) (sc := defScope s_told_keeping) (by decide +kernel)) (fun _ _ _ _ _ => (dg_name 8 sc_told_keeping.nd)) (fun _ _ _ _ _ => (dts_one (dt_cmp (opK_eq (K := K) rfl hu64) ok2_eq (de_op (n := 0) (opK_add (K := K) rfl) ok2_add (de_int (n := 1)) (de_ix (n := 1) (de_ix (n := 2) (DE.up (DE.up (DE.up (dv 2)))) (de_op (n := 0) (opK_add (K := K) rfl) ok2_add (DE.up (dv 4)) (de_int (n := 1))) hu1 (K := K) rfl) (de_op (n := 0) (opK_add (K := K) rfl) ok2_add (DE.up (dv 8)) (de_int (n := 1))) hu1 (K := K) rfl)) (de_ix (n := 0) (de_ix (n := 1) (DE.up (DE.up (dv 2))) (dv 4) hu1 (K := K) rfl) (dv 5) hu1 (K := K) rfl)))) (fun _ _ _ _ _ => (dv 8)) (sw_true rfl rfl rfl (by decide +kernel)))
    (dss_cons (ds_append 3 (pv 3) (de_tup (n := 0) (da_cons (dv 4) (da_cons (de_ix (n := 0) (DE.up (dv 7)) (de_int (n := 0)) hu1 (K := K) rfl) da_nil))))
    (dss_one (ds_asg (de_tup (n := 0) (da_cons (de_op (n := 0) (opK_add (K := K) rfl) ok2_add (DE.up (dv 4)) (de_int (n := 1))) (da_cons (de_op (n := 0) (opK_add (K := K) rfl) ok2_add (de_ix (n := 1) (DE.up (DE.up (dv 7))) (de_int (n := 0)) hu1 (K := K) rfl) (de_int (n := 1))) da_nil))) (dg_tup (K := K) rfl rfl (dgs_cons (dg_name 4 sc_told_keeping.nd) (dgs_cons (dg_name 5 sc_told_keeping.nd) dgs_nil)) (bCons_len (bCons_len bNil_len))))))))))
    (dss_one (ds_ret (de_callTy (n := 0) (cK_tuple (K := K) rfl) ok1_tuple B.tuple boot_tuple (da_cons (dv 3) da_nil))))))))⟩
/-! is_begun -/
abbrev s_is_begun : Stmt := top 3
abbrev N_is_begun : List Str := ["first", "second", "table", "i", "j", "at"]
theorem sc_is_begun : FnScope N_is_begun ["first", "second", "table", "i", "j"] (defScope s_is_begun) := ⟨rfl, rfl, rfl, by decide +kernel, rfl, by decide +kernel, by decide +kernel⟩
def g_is_begun : SF :=
    (fSeq (fFor (fRng range2D (fCons (fV 4) (fCons (fCall lenD (fCons (fV 1) fNil)) fNil))) (bName 5)
    (fIfS (fAnd (fT (fOp eqD (fOp ixD (fV 0) (fV 3)) (fOp ixD (fV 1) (fV 5)))) (fT (fOp eqD (fOp addD (fC (.int 1)) (fOp ixD (fOp ixD (fV 2) (fOp addD (fV 3) (fC (.int 1)))) (fOp addD (fV 5) (fC (.int 1))))) (fOp ixD (fOp ixD (fV 2) (fV 3)) (fV 4)))))
    (fRet (fC (.bool true)))
    fNext))
    (fRet (fC (.bool false))))
theorem w_is_begun {k : Nat} (B : Bl mg) (f : Addr) (cdv : Value) (A : Around) (outer : List PySem.Env) (s : Shared) (H : Hp) (E : XK) (hr : Room k (A.deeper (envOfC "is_begun" (defScope s_is_begun) s.heap.objs.size f cdv))) :
    ∃ t, DSs (cxOf CX0 P w K mg base N_is_begun "is_begun" (defScope s_is_begun) f cdv A outer s H E).nox [0, 0, 0, 0, 0, 0] none true (defBody s_is_begun) t (g_is_begun) :=
  have hu1 := hu_of hr
  have hu64 := hr.units
  have hu100 : (A.deeper (envOfC "is_begun" (defScope s_is_begun) s.heap.objs.size f cdv)).units + 100 < cLine := by have := hr.un; omega
  ⟨_, (dss_cons (ds_for PassesOwn.never rfl (di_range2 (n1 := 0) B.range (da_cons (dv 4) (da_cons (de_callB (n := 0) (cK_len (K := K) rfl) ok1_len B.len boot_len (da_cons (DE.up (dv 1)) da_nil)) da_nil))) (dg_name 5 sc_is_begun.nd)
    (dss_one (ds_if (DW.dt (dw_and (dt_cmp (opK_eq (K := K) rfl hu64) ok2_eq (de_ix (n := 0) (DE.up (dv 0)) (dv 3) hu1 (K := K) rfl) (de_ix (n := 0) (DE.up (dv 1)) (dv 5) hu1 (K := K) rfl)) (dw_and1 (dt_cmp (opK_eq (K := K) rfl hu64) ok2_eq (de_op (n := 0) (opK_add (K := K) rfl) ok2_add (de_int (n := 1)) (de_ix (n := 1) (de_ix (n := 2) (DE.up (DE.up (DE.up (dv 2)))) (de_op (n := 0) (opK_add (K := K) rfl) ok2_add (DE.up (dv 3)) (de_int (n := 1))) hu1 (K := K) rfl) (de_op (n := 0) (opK_add (K := K) rfl) ok2_add (DE.up (dv 5)) (de_int (n := 1))) hu1 (K := K) rfl)) (de_ix (n := 0) (de_ix (n := 1) (DE.up (DE.up (dv 2))) (dv 3) hu1 (K := K) rfl) (dv 4) hu1 (K := K) rfl)))))
    (dss_one (ds_ret (de_bl (n := 0))))
    dss_nil)))
    (dss_one (ds_ret (de_bl (n := 0)))))⟩
/-! told_script -/
abbrev s_told_script : Stmt := top 4
abbrev N_told_script : List Str := ["first", "second", "script", "i", "j", "one", "other", "line"]
theorem sc_told_script : FnScope N_told_script ["first", "second"] (defScope s_told_script) := ⟨rfl, rfl, rfl, by decide +kernel, rfl, by decide +kernel, by decide +kernel⟩
def g_told_script (M_told_keeping : List PyData → Option PyData) : SF :=
    (fSeq (fSet 2 (fLst fNil))
    (fSeq (fAsg (fTup (fCons (fC (.int 0)) (fCons (fC (.int 0)) fNil))) (bTup (bCons (bName 3) (bCons (bName 4) bNil))))
    (fSeq (fFor (fItems (fOp addD (fCall M_told_keeping (fCons (fV 0) (fCons (fV 1) fNil))) (fTup (fCons (fTup (fCons (fCall lenD (fCons (fV 0) fNil)) (fCons (fCall lenD (fCons (fV 1) fNil)) fNil))) fNil)))) (bTup (bCons (bName 5) (bCons (bName 6) bNil)))
    (fSeq (fExtend 2 (fLc (fItems (fSl (fV 0) (fPart (fV 3)) (fPart (fV 5)))) (bName 7) tYesF (fTup (fCons (fC (.str "bar")) (fCons (fV 7) fNil))) (List.map (·.2) ([("line", 7)] : List (Str × Nat)))))
    (fSeq (fExtend 2 (fLc (fItems (fSl (fV 1) (fPart (fV 4)) (fPart (fV 6)))) (bName 7) tYesF (fTup (fCons (fC (.str "add")) (fCons (fV 7) fNil))) (List.map (·.2) ([("line", 7)] : List (Str × Nat)))))
    (fSeq (fIfS (fT (fOp ltD (fV 5) (fCall lenD (fCons (fV 0) fNil))))
    (fAppend 2 (fTup (fCons (fC (.str "keep")) (fCons (fOp ixD (fV 0) (fV 5)) fNil))))
    fNext)
    (fPar 3 4 (fCons (fOp addD (fV 5) (fC (.int 1))) (fCons (fOp addD (fV 6) (fC (.int 1))) fNil)))))))
    (fRet (fCall tupleD (fCons (fV 2) fNil))))))
theorem w_told_script {k : Nat} (B : Bl mg) {j_told_keeping : Nat} {M_told_keeping : List PyData → Option PyData} (C_told_keeping : Callee P w K mg base "told_keeping" ["first", "second"] j_told_keeping (spP K M_told_keeping)) (h_told_keeping : j_told_keeping ≤ k) (f : Addr) (cdv : Value) (A : Around) (outer : List PySem.Env) (s : Shared) (H : Hp) (E : XK) (hr : Room k (A.deeper (envOfC "told_script" (defScope s_told_script) s.heap.objs.size f cdv))) :
    ∃ t, DSs (cxOf CX0 P w K mg base N_told_script "told_script" (defScope s_told_script) f cdv A outer s H E).nox [0, 0, 1, 0, 0, 0, 0, 0] none true (defBody s_told_script) t (g_told_script M_told_keeping) :=
  have hu1 := hu_of hr
  have hu64 := hr.units
  have hu100 : (A.deeper (envOfC "told_script" (defScope s_told_script) s.heap.objs.size f cdv)).units + 100 < cLine := by have := hr.un; omega
  ⟨_, (dss_cons (ds_setO 2 sc_told_script.nd (df_lst da_nil))
    (dss_cons (ds_asg (de_tup (n := 0) (da_cons (de_int (n := 0)) (da_cons (de_int (n := 0)) da_nil))) (dg_tup (K := K) rfl rfl (dgs_cons (dg_name 3 sc_told_script.nd) (dgs_cons (dg_name 4 sc_told_script.nd) dgs_nil)) (bCons_len (bCons_len bNil_len))))
    (dss_cons (ds_for PassesOwn.never rfl (di_seq (K := K) rfl (de_op (n := 0) (opK_add (K := K) rfl) ok2_add (de_callC (n := 1) (K := K) rfl C_told_keeping hr h_told_keeping (da_cons (dv 0) (da_cons (dv 1) da_nil))) (de_tup (n := 1) (da_cons (de_tup (n := 0) (da_cons (de_callB (n := 0) (cK_len (K := K) rfl) ok1_len B.len boot_len (da_cons (DE.up (dv 0)) da_nil)) (da_cons (de_callB (n := 0) (cK_len (K := K) rfl) ok1_len B.len boot_len (da_cons (DE.up (dv 1)) da_nil)) da_nil))) da_nil)))) (dg_tup (K := K) rfl rfl (dgs_cons (dg_name 5 sc_told_script.nd) (dgs_cons (dg_name 6 sc_told_script.nd) dgs_nil)) (bCons_len (bCons_len bNil_len)))
    (dss_cons (ds_extend 2 (pv 2) (de_lc (n := 0) rfl sc_told_script.nd (DI.dj (di_seq (K := K) rfl (de_slice (n := 0) (K := K) rfl (DE.up (dv 0)) (do_some (dv 3)) (do_some (dv 5))))) (blkOk_by (own := [("line", 7)]) (N := N_told_script) (sc := defScope s_told_script) (by decide +kernel)) (fun _ _ _ _ _ => (dg_name 7 sc_told_script.nd)) (fun _ _ _ _ _ => dts_nil) (fun _ _ _ _ _ => (de_tup (n := 0) (da_cons (de_str (n := 0)) (da_cons (dv 7) da_nil))))))
    (dss_cons (ds_extend 2 (pv 2) (de_lc (n := 0) rfl sc_told_script.nd (DI.dj (di_seq (K := K) rfl (de_slice (n := 0) (K := K) rfl (DE.up (dv 1)) (do_some (dv 4)) (do_some (dv 6))))) (blkOk_by (own := [("line", 7)]) (N := N_told_script) (sc := defScope s_told_script) (by decide +kernel)) (fun _ _ _ _ _ => (dg_name 7 sc_told_script.nd)) (fun _ _ _ _ _ => dts_nil) (fun _ _ _ _ _ => (de_tup (n := 0) (da_cons (de_str (n := 0)) (da_cons (dv 7) da_nil))))))
    (dss_cons (ds_if (dt_cmp (opK_lt (K := K) rfl hu64) ok2_lt (dv 5) (de_callB (n := 0) (cK_len (K := K) rfl) ok1_len B.len boot_len (da_cons (DE.up (dv 0)) da_nil)))
    (dss_one (ds_append 2 (pv 2) (de_tup (n := 0) (da_cons (de_str (n := 0)) (da_cons (de_ix (n := 0) (DE.up (dv 0)) (dv 5) hu1 (K := K) rfl) da_nil)))))
    dss_nil)
    (dss_one (ds_par 3 4 rfl sc_told_script.nd (da_cons (de_op (n := 0) (opK_add (K := K) rfl) ok2_add (DE.up (dv 5)) (de_int (n := 1))) (da_cons (de_op (n := 0) (opK_add (K := K) rfl) ok2_add (DE.up (dv 6)) (de_int (n := 1))) da_nil))))))))
    (dss_one (ds_ret (de_callTy (n := 0) (cK_tuple (K := K) rfl) ok1_tuple B.tuple boot_tuple (da_cons (dv 2) da_nil)))))))⟩
/-! _law_cell -/
abbrev s_l_cell : Stmt := top 6
abbrev N_l_cell : List Str := ["script", "k"]
theorem sc_l_cell : FnScope N_l_cell ["script", "k"] (defScope s_l_cell) := ⟨rfl, rfl, rfl, by decide +kernel, rfl, by decide +kernel, by decide +kernel⟩
def g_l_cell : SF :=
    (fSeq (fIfS (fT (fOp ltD (fV 1) (fCall lenD (fCons (fV 0) fNil))))
    (fRet (fOp ixD (fV 0) (fV 1)))
    fNext)
    (fRet (fOp addD (fOp mulD (fC (.int 5)) (fV 1)) (fC (.int 3)))))
theorem w_l_cell {k : Nat} (B : Bl mg) (f : Addr) (cdv : Value) (A : Around) (outer : List PySem.Env) (s : Shared) (H : Hp) (E : XK) (hr : Room k (A.deeper (envOfC "_law_cell" (defScope s_l_cell) s.heap.objs.size f cdv))) :
    ∃ t, DSs (cxOf CX0 P w K mg base N_l_cell "_law_cell" (defScope s_l_cell) f cdv A outer s H E).nox [0, 0] none true (defBody s_l_cell) t (g_l_cell) :=
  have hu1 := hu_of hr
  have hu64 := hr.units
  have hu100 : (A.deeper (envOfC "_law_cell" (defScope s_l_cell) s.heap.objs.size f cdv)).units + 100 < cLine := by have := hr.un; omega
  ⟨_, (dss_cons (ds_if (dt_cmp (opK_lt (K := K) rfl hu64) ok2_lt (dv 1) (de_callB (n := 0) (cK_len (K := K) rfl) ok1_len B.len boot_len (da_cons (DE.up (dv 0)) da_nil)))
    (dss_one (ds_ret (de_ix (n := 0) (DE.up (dv 0)) (dv 1) hu1 (K := K) rfl)))
    dss_nil)
    (dss_one (ds_ret (de_op (n := 0) (opK_add (K := K) rfl) ok2_add (de_op (n := 1) op_mulD ok2_mul (de_int (n := 1)) (dv 1)) (de_int (n := 1))))))⟩
/-! _law_draws -/
abbrev s_l_draws : Stmt := top 7
abbrev N_l_draws : List Str := ["cell", "count", "rest", "digits", "seed", "draws", "k", "mixed"]
theorem sc_l_draws : FnScope N_l_draws ["cell", "count"] (defScope s_l_draws) := ⟨rfl, rfl, rfl, by decide +kernel, rfl, by decide +kernel, by decide +kernel⟩
def g_l_draws : SF :=
    (fSeq (fSet 2 (fCall absD (fCons (fCall intD (fCons (fV 0) fNil)) fNil)))
    (fSeq (fSet 3 (fOp geD (fV 2) (fOp powD (fC (.int 10)) (fC (.int 18)))))
    (fSeq (fSet 4 (fV 2))
    (fSeq (fSet 5 (fLst fNil))
    (fSeq (fFor (fRng range1D (fCons (fV 1) fNil)) (bName 6)
    (fIfS (fAnd (fT (fV 3)) (fT (fOp gtD (fV 2) (fC (.int 0)))))
    (fSeq (fAppend 5 (fOp modD (fCall intD (fCons (fV 2) fNil)) (fC (.int 5040))))
    (fSet 2 (fOp fdivD (fV 2) (fC (.int 5040)))))
    (fSeq (fSet 7 (fOp modD (fCall intD (fCons (fOp addD (fOp addD (fOp mulD (fV 4) (fC (.int 48271))) (fOp mulD (fOp addD (fV 6) (fC (.int 1))) (fC (.int 69621)))) (fC (.int 11))) fNil)) (fC (.int 2147483647))))
    (fSeq (fSet 7 (fOp modD (fCall intD (fCons (fOp addD (fOp mulD (fV 7) (fV 7)) (fOp mulD (fC (.int 40692)) (fOp addD (fV 6) (fC (.int 3))))) fNil)) (fC (.int 2147483399))))
    (fAppend 5 (fOp modD (fCall intD (fCons (fOp fdivD (fV 7) (fC (.int 64))) fNil)) (fC (.int 5040))))))))
    (fRetO 5))))))
theorem w_l_draws {k : Nat} (B : Bl mg) (f : Addr) (cdv : Value) (A : Around) (outer : List PySem.Env) (s : Shared) (H : Hp) (E : XK) (hr : Room k (A.deeper (envOfC "_law_draws" (defScope s_l_draws) s.heap.objs.size f cdv))) :
    ∃ t, DSs (cxOf CX0 P w K mg base N_l_draws "_law_draws" (defScope s_l_draws) f cdv A outer s H E).nox [0, 0, 0, 0, 0, 1, 0, 0] none true (defBody s_l_draws) t (g_l_draws) :=
  have hu1 := hu_of hr
  have hu64 := hr.units
  have hu100 : (A.deeper (envOfC "_law_draws" (defScope s_l_draws) s.heap.objs.size f cdv)).units + 100 < cLine := by have := hr.un; omega
  ⟨_, (dss_cons (ds_set 2 sc_l_draws.nd (de_callB (n := 0) call_abs ok1_abs B.abs boot_abs (da_cons (de_callTy (n := 0) call_int1 ok1_int B.int boot_int (da_cons (dv 0) da_nil)) da_nil)))
    (dss_cons (ds_set 3 sc_l_draws.nd (de_cmp (n := 0) (opK_ge (K := K) rfl hu64) ok2_ge (dv 2) (de_op (n := 0) op_pow ok2_pow (de_int (n := 0)) (de_int (n := 0)))))
    (dss_cons (ds_set 4 sc_l_draws.nd (dv 2))
    (dss_cons (ds_setO 5 sc_l_draws.nd (df_lst da_nil))
    (dss_cons (ds_for PassesOwn.never rfl (di_range1 (n1 := 0) B.range (da_cons (dv 1) da_nil)) (dg_name 6 sc_l_draws.nd)
    (dss_one (ds_if (DW.dt (dw_and (dt_val (dv 3)) (dw_and1 (dt_cmp (opK_gt (K := K) rfl hu64) ok2_gt (dv 2) (de_int (n := 0))))))
    (dss_cons (ds_append 5 (pv 5) (de_op (n := 0) op_mod ok2_mod (de_callTy (n := 0) call_int1 ok1_int B.int boot_int (da_cons (dv 2) da_nil)) (de_int (n := 0))))
    (dss_one (ds_set 2 sc_l_draws.nd (de_op (n := 0) op_fdivW ok2_fdiv (dv 2) (de_int (n := 0))))))
    (dss_cons (ds_set 7 sc_l_draws.nd (de_op (n := 0) op_mod ok2_mod (de_callTy (n := 0) call_int1 ok1_int B.int boot_int (da_cons (de_op (n := 0) (opK_add (K := K) rfl) ok2_add (de_op (n := 1) (opK_add (K := K) rfl) ok2_add (de_op (n := 1) op_mulD ok2_mul (DE.up (dv 4)) (de_int (n := 0))) (de_op (n := 1) op_mulD ok2_mul (de_op (n := 1) (opK_add (K := K) rfl) ok2_add (DE.up (dv 6)) (de_int (n := 1))) (de_int (n := 0)))) (de_int (n := 1))) da_nil)) (de_int (n := 0))))
    (dss_cons (ds_set 7 sc_l_draws.nd (de_op (n := 0) op_mod ok2_mod (de_callTy (n := 0) call_int1 ok1_int B.int boot_int (da_cons (de_op (n := 0) (opK_add (K := K) rfl) ok2_add (de_op (n := 1) op_mulD ok2_mul (DE.up (dv 7)) (dv 7)) (de_op (n := 1) op_mulD ok2_mul (de_int (n := 1)) (de_op (n := 0) (opK_add (K := K) rfl) ok2_add (DE.up (dv 6)) (de_int (n := 1))))) da_nil)) (de_int (n := 0))))
    (dss_one (ds_append 5 (pv 5) (de_op (n := 0) op_mod ok2_mod (de_callTy (n := 0) call_int1 ok1_int B.int boot_int (da_cons (de_op (n := 0) op_fdivW ok2_fdiv (dv 7) (de_int (n := 0))) da_nil)) (de_int (n := 0))))))))))
    (dss_one (ds_retN' 5 (pv 5))))))))⟩
/-! _law_is_integer -/
abbrev s_l_is_integer : Stmt := top 8
abbrev N_l_is_integer : List Str := ["value"]
theorem sc_l_is_integer : FnScope N_l_is_integer ["value"] (defScope s_l_is_integer) := ⟨rfl, rfl, rfl, by decide +kernel, rfl, by decide +kernel, by decide +kernel⟩
def g_l_is_integer : SF :=
    (fRet (fAndV (fIsi "int" (fV 0)) (fNotV (fIsi "bool" (fV 0)))))
theorem w_l_is_integer {k : Nat} (B : Bl mg) (f : Addr) (cdv : Value) (A : Around) (outer : List PySem.Env) (s : Shared) (H : Hp) (E : XK) (hr : Room k (A.deeper (envOfC "_law_is_integer" (defScope s_l_is_integer) s.heap.objs.size f cdv))) :
    ∃ t, DSs (cxOf CX0 P w K mg base N_l_is_integer "_law_is_integer" (defScope s_l_is_integer) f cdv A outer s H E).nox [0] none true (defBody s_l_is_integer) t (g_l_is_integer) :=
  have hu1 := hu_of hr
  have hu64 := hr.units
  have hu100 : (A.deeper (envOfC "_law_is_integer" (defScope s_l_is_integer) s.heap.objs.size f cdv)).units + 100 < cLine := by have := hr.un; omega
  ⟨_, (dss_one (ds_ret (de_and (n := 0) (de_isi (n := 0) (T := "int") (K := K) rfl B.isinstance B.int boot_int (dv 0)) (de_one (de_not (n := 0) (de_isi (n := 0) (T := "bool") (K := K) rfl B.isinstance B.bool boot_bool (dv 0)))))))⟩
/-! _law_is -/
abbrev s_l_is : Stmt := top 9
abbrev N_l_is : List Str := ["value", "due", "at"]
theorem sc_l_is : FnScope N_l_is ["value", "due"] (defScope s_l_is) := ⟨rfl, rfl, rfl, by decide +kernel, rfl, by decide +kernel, by decide +kernel⟩
def g_l_is (M_l_is : List PyData → Option PyData) (M_l_is_integer : List PyData → Option PyData) : SF :=
    (fSeq (fIfS (fT (fIsN (fV 1)))
    (fRet (fIsN (fV 0)))
    fNext)
    (fSeq (fIfS (fT (fIsi "bool" (fV 1)))
    (fRet (fAndV (fIsi "bool" (fV 0)) (fOp eqD (fV 0) (fV 1))))
    fNext)
    (fSeq (fIfS (fT (fIsi "int" (fV 1)))
    (fRet (fAndV (fCall M_l_is_integer (fCons (fV 0) fNil)) (fOp eqD (fV 0) (fV 1))))
    fNext)
    (fSeq (fIfS (fT (fIsi "str" (fV 1)))
    (fRet (fAndV (fIsi "str" (fV 0)) (fOp eqD (fV 0) (fV 1))))
    fNext)
    (fSeq (fIfS (fOr (fNot (fT (fIsi "tuple" (fV 0)))) (fT (fOp neD (fCall lenD (fCons (fV 0) fNil)) (fCall lenD (fCons (fV 1) fNil)))))
    (fRet (fC (.bool false)))
    fNext)
    (fRet (fCall allD (fCons (fLc (fRng range1D (fCons (fCall lenD (fCons (fV 1) fNil)) fNil)) (bName 2) tYesF (fCall M_l_is (fCons (fOp ixD (fV 0) (fV 2)) (fCons (fOp ixD (fV 1) (fV 2)) fNil))) (List.map (·.2) ([("at", 2)] : List (Str × Nat)))) fNil))))))))
theorem w_l_is {k : Nat} (B : Bl mg) {j_l_is : Nat} {M_l_is : List PyData → Option PyData} (C_l_is : Callee P w K mg base "_law_is" ["value", "due"] j_l_is (spP K M_l_is)) (h_l_is : j_l_is ≤ k) {j_l_is_integer : Nat} {M_l_is_integer : List PyData → Option PyData} (C_l_is_integer : Callee P w K mg base "_law_is_integer" ["value"] j_l_is_integer (spP K M_l_is_integer)) (h_l_is_integer : j_l_is_integer ≤ k) (f : Addr) (cdv : Value) (A : Around) (outer : List PySem.Env) (s : Shared) (H : Hp) (E : XK) (hr : Room k (A.deeper (envOfC "_law_is" (defScope s_l_is) s.heap.objs.size f cdv))) :
    ∃ t, DSs (cxOf CX0 P w K mg base N_l_is "_law_is" (defScope s_l_is) f cdv A outer s H E).nox [0, 0, 0] none true (defBody s_l_is) t (g_l_is M_l_is M_l_is_integer) :=
  have hu1 := hu_of hr
  have hu64 := hr.units
  have hu100 : (A.deeper (envOfC "_law_is" (defScope s_l_is) s.heap.objs.size f cdv)).units + 100 < cLine := by have := hr.un; omega
  ⟨_, (dss_cons (ds_if (dt_isN (dv 1))
    (dss_one (ds_ret (de_isN (n := 0) (dv 0))))
    dss_nil)
    (dss_cons (ds_if (dt_val (de_isi (n := 0) (T := "bool") (K := K) rfl B.isinstance B.bool boot_bool (dv 1)))
    (dss_one (ds_ret (de_and (n := 0) (de_isi (n := 0) (T := "bool") (K := K) rfl B.isinstance B.bool boot_bool (dv 0)) (de_one (de_cmp (n := 0) (opK_eq (K := K) rfl hu64) ok2_eq (dv 0) (dv 1))))))
    dss_nil)
    (dss_cons (ds_if (dt_val (de_isi (n := 0) (T := "int") (K := K) rfl B.isinstance B.int boot_int (dv 1)))
    (dss_one (ds_ret (de_and (n := 0) (de_callC (n := 0) (K := K) rfl C_l_is_integer hr h_l_is_integer (da_cons (dv 0) da_nil)) (de_one (de_cmp (n := 0) (opK_eq (K := K) rfl hu64) ok2_eq (dv 0) (dv 1))))))
    dss_nil)
    (dss_cons (ds_if (dt_val (de_isi (n := 0) (T := "str") (K := K) rfl B.isinstance B.str boot_str (dv 1)))
    (dss_one (ds_ret (de_and (n := 0) (de_isi (n := 0) (T := "str") (K := K) rfl B.isinstance B.str boot_str (dv 0)) (de_one (de_cmp (n := 0) (opK_eq (K := K) rfl hu64) ok2_eq (dv 0) (dv 1))))))
    dss_nil)
    (dss_cons (ds_if (DW.dt (dw_or (dt_not (dt_val (de_isi (n := 0) (T := "tuple") (K := K) rfl B.isinstance B.tuple boot_tuple (dv 0)))) (dw_or1 (dt_cmp (opK_ne (K := K) rfl hu64) ok2_ne (de_callB (n := 0) (cK_len (K := K) rfl) ok1_len B.len boot_len (da_cons (DE.up (dv 0)) da_nil)) (de_callB (n := 0) (cK_len (K := K) rfl) ok1_len B.len boot_len (da_cons (DE.up (dv 1)) da_nil))))))
    (dss_one (ds_ret (de_bl (n := 0))))
    dss_nil)
    (dss_one (ds_ret (de_callB (n := 0) (cK_all (K := K) rfl rfl) ok1_all B.all boot_all (da_cons (de_lc (n := 1) rfl sc_l_is.nd (DI.dj (di_range1 (n1 := 0) B.range (da_cons (de_callB (n := 0) (cK_len (K := K) rfl) ok1_len B.len boot_len (da_cons (DE.up (dv 1)) da_nil)) da_nil))) (blkOk_by (own := [("at", 2)]) (N := N_l_is) (sc := defScope s_l_is) (by decide +kernel)) (fun _ _ _ _ _ => (dg_name 2 sc_l_is.nd)) (fun _ _ _ _ _ => dts_nil) (fun _ _ _ _ _ => (de_callC (n := 0) (K := K) rfl C_l_is hr h_l_is (da_cons (de_ix (n := 0) (DE.up (dv 0)) (dv 2) hu1 (K := K) rfl) (da_cons (de_ix (n := 0) (DE.up (dv 1)) (dv 2) hu1 (K := K) rfl) da_nil))))) da_nil)))))))))⟩
/-! _law_take -/
abbrev s_l_take : Stmt := top 10
abbrev N_l_take : List Str := ["made", "most", "at", "draws"]
theorem sc_l_take : FnScope N_l_take ["made", "most"] (defScope s_l_take) := ⟨rfl, rfl, rfl, by decide +kernel, rfl, by decide +kernel, by decide +kernel⟩
def g_l_take : SF :=
    (fSeq (fSet 2 (fIoGet (fC (.str "at"))))
    (fSeq (fPutIo (fC (.str "at")) (fOp addD (fV 2) (fC (.int 1))))
    (fSeq (fSet 3 (fIoGet (fC (.str "draws"))))
    (fRet (fOp modD (fOp addD (fOp fdivD (fCall intD (fCons (fOp ixD (fV 3) (fOp modD (fV 2) (fCall lenD (fCons (fV 3) fNil)))) fNil)) (fOp ixD (fTup (fCons (fC (.int 1)) (fCons (fC (.int 7)) (fCons (fC (.int 59)) (fCons (fC (.int 211)) fNil))))) (fOp modD (fOp fdivD (fV 2) (fCall lenD (fCons (fV 3) fNil))) (fC (.int 4))))) (fOp fdivD (fV 2) (fOp mulD (fC (.int 4)) (fCall lenD (fCons (fV 3) fNil))))) (fV 1))))))
theorem w_l_take {k : Nat} (B : Bl mg) (f : Addr) (cdv : Value) (A : Around) (outer : List PySem.Env) (s : Shared) (H : Hp) (E : XK) (hr : Room k (A.deeper (envOfC "_law_take" (defScope s_l_take) s.heap.objs.size f cdv))) :
    ∃ t, DSs (cxOf CX0 P w K mg base N_l_take "_law_take" (defScope s_l_take) f cdv A outer s H E).nox [0, 0, 0, 0] (some 0) true (defBody s_l_take) t (g_l_take) :=
  have hu1 := hu_of hr
  have hu64 := hr.units
  have hu100 : (A.deeper (envOfC "_law_take" (defScope s_l_take) s.heap.objs.size f cdv)).units + 100 < cLine := by have := hr.un; omega
  ⟨_, (dss_cons (ds_set 2 sc_l_take.nd (de_ioIx (K := K) rfl hu1 (pv 0) rfl (de_str (n := 0))))
    (dss_cons (ds_putIo 0 hu1 (pv 0) rfl (de_str (n := 0)) (de_op (n := 0) (opK_add (K := K) rfl) ok2_add (DE.up (dv 2)) (de_int (n := 1))))
    (dss_cons (ds_set 3 sc_l_take.nd (de_ioIx (K := K) rfl hu1 (pv 0) rfl (de_str (n := 0))))
    (dss_one (ds_ret (de_op (n := 0) op_mod ok2_mod (de_op (n := 0) (opK_add (K := K) rfl) ok2_add (de_op (n := 1) op_fdivW ok2_fdiv (de_callTy (n := 0) call_int1 ok1_int B.int boot_int (da_cons (de_ix (n := 0) (DE.up (dv 3)) (de_op (n := 0) op_mod ok2_mod (dv 2) (de_callB (n := 0) (cK_len (K := K) rfl) ok1_len B.len boot_len (da_cons (DE.up (dv 3)) da_nil))) hu1 (K := K) rfl) da_nil)) (de_ix (n := 0) (de_tup (n := 1) (da_cons (de_int (n := 0)) (da_cons (de_int (n := 0)) (da_cons (de_int (n := 0)) (da_cons (de_int (n := 0)) da_nil))))) (de_op (n := 0) op_mod ok2_mod (de_op (n := 0) op_fdivW ok2_fdiv (dv 2) (de_callB (n := 0) (cK_len (K := K) rfl) ok1_len B.len boot_len (da_cons (DE.up (dv 3)) da_nil))) (de_int (n := 0))) hu1 (K := K) rfl)) (de_op (n := 1) op_fdivW ok2_fdiv (dv 2) (de_op (n := 0) op_mulD ok2_mul (de_int (n := 1)) (de_callB (n := 0) (cK_len (K := K) rfl) ok1_len B.len boot_len (da_cons (DE.up (dv 3)) da_nil))))) (dv 1)))))))⟩
/-! _law_made_line -/
abbrev s_l_made_line : Stmt := top 11
abbrev N_l_made_line : List Str := ["made"]
theorem sc_l_made_line : FnScope N_l_made_line ["made"] (defScope s_l_made_line) := ⟨rfl, rfl, rfl, by decide +kernel, rfl, by decide +kernel, by decide +kernel⟩
def g_l_made_line (M_l_take : PyData → List PyData → Option (PyData × PyData)) : SF :=
    (fRet (fOp ixD (fTup (fCons (fC (.str "a")) (fCons (fC (.str "b")) (fCons (fC (.str "c")) (fCons (fC (.str "d")) (fCons (fC (.str "a b")) (fCons (fC (.str "")) (fCons (fC (.str "x < y : z")) (fCons (fC (.str "e")) fNil))))))))) (fCallI M_l_take (fCons (fC (.int 8)) fNil))))
theorem w_l_made_line {k : Nat} (B : Bl mg) {j_l_take : Nat} {M_l_take : PyData → List PyData → Option (PyData × PyData)} (C_l_take : Callee P w K mg base "_law_take" ["made", "most"] j_l_take (spI K M_l_take)) (h_l_take : j_l_take ≤ k) (f : Addr) (cdv : Value) (A : Around) (outer : List PySem.Env) (s : Shared) (H : Hp) (E : XK) (hr : Room k (A.deeper (envOfC "_law_made_line" (defScope s_l_made_line) s.heap.objs.size f cdv))) :
    ∃ t, DSs (cxOf CX0 P w K mg base N_l_made_line "_law_made_line" (defScope s_l_made_line) f cdv A outer s H E).nox [0] (some 0) true (defBody s_l_made_line) t (g_l_made_line M_l_take) :=
  have hu1 := hu_of hr
  have hu64 := hr.units
  have hu100 : (A.deeper (envOfC "_law_made_line" (defScope s_l_made_line) s.heap.objs.size f cdv)).units + 100 < cLine := by have := hr.un; omega
  ⟨_, (dss_one (ds_ret (de_ix (n := 0) (de_tup (n := 1) (da_cons (de_str (n := 0)) (da_cons (de_str (n := 0)) (da_cons (de_str (n := 0)) (da_cons (de_str (n := 0)) (da_cons (de_str (n := 0)) (da_cons (de_str (n := 0)) (da_cons (de_str (n := 0)) (da_cons (de_str (n := 0)) da_nil))))))))) (de_callIC (n := 0) (K := K) rfl C_l_take hr h_l_take (pv 0) rfl (da_cons (de_int (n := 0)) da_nil)) hu1 (K := K) rfl)))⟩
/-! _law_made_text -/
abbrev s_l_made_text : Stmt := top 12
abbrev N_l_made_text : List Str := ["made", "most", "at"]
theorem sc_l_made_text : FnScope N_l_made_text ["made", "most"] (defScope s_l_made_text) := ⟨rfl, rfl, rfl, by decide +kernel, rfl, by decide +kernel, by decide +kernel⟩
def g_l_made_text (M_l_take : PyData → List PyData → Option (PyData × PyData)) (M_l_made_line : PyData → List PyData → Option (PyData × PyData)) : SF :=
    (fRet (fCall tupleD (fCons (fLc (fRng range1D (fCons (fCallI M_l_take (fCons (fOp addD (fV 1) (fC (.int 1))) fNil)) fNil)) (bName 2) tYesF (fCallI M_l_made_line fNil) (List.map (·.2) ([("at", 2)] : List (Str × Nat)))) fNil)))
theorem w_l_made_text {k : Nat} (B : Bl mg) {j_l_take : Nat} {M_l_take : PyData → List PyData → Option (PyData × PyData)} (C_l_take : Callee P w K mg base "_law_take" ["made", "most"] j_l_take (spI K M_l_take)) (h_l_take : j_l_take ≤ k) {j_l_made_line : Nat} {M_l_made_line : PyData → List PyData → Option (PyData × PyData)} (C_l_made_line : Callee P w K mg base "_law_made_line" ["made"] j_l_made_line (spI K M_l_made_line)) (h_l_made_line : j_l_made_line ≤ k) (f : Addr) (cdv : Value) (A : Around) (outer : List PySem.Env) (s : Shared) (H : Hp) (E : XK) (hr : Room k (A.deeper (envOfC "_law_made_text" (defScope s_l_made_text) s.heap.objs.size f cdv))) :
    ∃ t, DSs (cxOf CX0 P w K mg base N_l_made_text "_law_made_text" (defScope s_l_made_text) f cdv A outer s H E).nox [0, 0, 0] (some 0) true (defBody s_l_made_text) t (g_l_made_text M_l_take M_l_made_line) :=
  have hu1 := hu_of hr
  have hu64 := hr.units
  have hu100 : (A.deeper (envOfC "_law_made_text" (defScope s_l_made_text) s.heap.objs.size f cdv)).units + 100 < cLine := by have := hr.un; omega
  ⟨_, (dss_one (ds_ret (de_callTy (n := 0) (cK_tuple (K := K) rfl) ok1_tuple B.tuple boot_tuple (da_cons (de_lc (n := 1) rfl sc_l_made_text.nd (DI.dj (di_range1 (n1 := 0) B.range (da_cons (de_callIC (n := 0) (K := K) rfl C_l_take hr h_l_take (pv 0) rfl (da_cons (de_op (n := 0) (opK_add (K := K) rfl) ok2_add (DE.up (dv 1)) (de_int (n := 1))) da_nil)) da_nil))) (blkOk_by (own := [("at", 2)]) (N := N_l_made_text) (sc := defScope s_l_made_text) (by decide +kernel)) (fun _ _ _ _ _ => (dg_name 2 sc_l_made_text.nd)) (fun _ _ _ _ _ => dts_nil) (fun _ _ _ _ _ => (de_callIC (n := 0) (K := K) rfl C_l_made_line hr h_l_made_line (pv 0) rfl da_nil))) da_nil))))⟩
/-! _law_bent_lines -/
abbrev s_l_bent_lines : Stmt := top 13
abbrev N_l_bent_lines : List Str := ["made", "text", "step", "at", "way"]
theorem sc_l_bent_lines : FnScope N_l_bent_lines ["made", "text"] (defScope s_l_bent_lines) := ⟨rfl, rfl, rfl, by decide +kernel, rfl, by decide +kernel, by decide +kernel⟩
def g_l_bent_lines (M_l_take : PyData → List PyData → Option (PyData × PyData)) (M_l_made_line : PyData → List PyData → Option (PyData × PyData)) : SF :=
    (fSeq (fFor (fRng range1D (fCons (fOp addD (fC (.int 1)) (fCallI M_l_take (fCons (fC (.int 3)) fNil))) fNil)) (bName 2)
    (fSeq (fSet 3 (fCallI M_l_take (fCons (fOp addD (fCall lenD (fCons (fV 1) fNil)) (fC (.int 1))) fNil)))
    (fSeq (fSet 4 (fCallI M_l_take (fCons (fC (.int 4)) fNil)))
    (fIfS (fT (fOp eqD (fV 4) (fC (.int 0))))
    (fSet 1 (fOp addD (fSl (fV 1) fNoPart (fPart (fV 3))) (fSl (fV 1) (fPart (fOp addD (fV 3) (fC (.int 1)))) fNoPart)))
    (fIfS (fT (fOp eqD (fV 4) (fC (.int 1))))
    (fSet 1 (fOp addD (fOp addD (fSl (fV 1) fNoPart (fPart (fV 3))) (fTup (fCons (fCallI M_l_made_line fNil) fNil))) (fSl (fV 1) (fPart (fOp addD (fV 3) (fC (.int 1)))) fNoPart)))
    (fSet 1 (fOp addD (fOp addD (fSl (fV 1) fNoPart (fPart (fV 3))) (fTup (fCons (fCallI M_l_made_line fNil) fNil))) (fSl (fV 1) (fPart (fV 3)) fNoPart))))))))
    (fRet (fV 1)))
theorem w_l_bent_lines {k : Nat} (B : Bl mg) {j_l_take : Nat} {M_l_take : PyData → List PyData → Option (PyData × PyData)} (C_l_take : Callee P w K mg base "_law_take" ["made", "most"] j_l_take (spI K M_l_take)) (h_l_take : j_l_take ≤ k) {j_l_made_line : Nat} {M_l_made_line : PyData → List PyData → Option (PyData × PyData)} (C_l_made_line : Callee P w K mg base "_law_made_line" ["made"] j_l_made_line (spI K M_l_made_line)) (h_l_made_line : j_l_made_line ≤ k) (f : Addr) (cdv : Value) (A : Around) (outer : List PySem.Env) (s : Shared) (H : Hp) (E : XK) (hr : Room k (A.deeper (envOfC "_law_bent_lines" (defScope s_l_bent_lines) s.heap.objs.size f cdv))) :
    ∃ t, DSs (cxOf CX0 P w K mg base N_l_bent_lines "_law_bent_lines" (defScope s_l_bent_lines) f cdv A outer s H E).nox [0, 0, 0, 0, 0] (some 0) true (defBody s_l_bent_lines) t (g_l_bent_lines M_l_take M_l_made_line) :=
  have hu1 := hu_of hr
  have hu64 := hr.units
  have hu100 : (A.deeper (envOfC "_law_bent_lines" (defScope s_l_bent_lines) s.heap.objs.size f cdv)).units + 100 < cLine := by have := hr.un; omega
  ⟨_, (dss_cons (ds_for PassesOwn.never rfl (di_range1 (n1 := 0) B.range (da_cons (de_op (n := 0) (opK_add (K := K) rfl) ok2_add (de_int (n := 1)) (de_callIC (n := 1) (K := K) rfl C_l_take hr h_l_take (pv 0) rfl (da_cons (de_int (n := 0)) da_nil))) da_nil)) (dg_name 2 sc_l_bent_lines.nd)
    (dss_cons (ds_set 3 sc_l_bent_lines.nd (de_callIC (n := 0) (K := K) rfl C_l_take hr h_l_take (pv 0) rfl (da_cons (de_op (n := 0) (opK_add (K := K) rfl) ok2_add (de_callB (n := 1) (cK_len (K := K) rfl) ok1_len B.len boot_len (da_cons (DE.up (dv 1)) da_nil)) (de_int (n := 1))) da_nil)))
    (dss_cons (ds_set 4 sc_l_bent_lines.nd (de_callIC (n := 0) (K := K) rfl C_l_take hr h_l_take (pv 0) rfl (da_cons (de_int (n := 0)) da_nil)))
    (dss_one (ds_if (dt_cmp (opK_eq (K := K) rfl hu64) ok2_eq (dv 4) (de_int (n := 0)))
    (dss_one (ds_set 1 sc_l_bent_lines.nd (de_op (n := 0) (opK_add (K := K) rfl) ok2_add (de_slice (n := 1) (K := K) rfl (DE.up (dv 1)) do_none (do_some (dv 3))) (de_slice (n := 1) (K := K) rfl (DE.up (dv 1)) (do_some (de_op (n := 0) (opK_add (K := K) rfl) ok2_add (DE.up (dv 3)) (de_int (n := 1)))) do_none))))
    (dss_one (ds_if (dt_cmp (opK_eq (K := K) rfl hu64) ok2_eq (dv 4) (de_int (n := 0)))
    (dss_one (ds_set 1 sc_l_bent_lines.nd (de_op (n := 0) (opK_add (K := K) rfl) ok2_add (de_op (n := 1) (opK_add (K := K) rfl) ok2_add (de_slice (n := 1) (K := K) rfl (DE.up (dv 1)) do_none (do_some (dv 3))) (de_tup (n := 1) (da_cons (de_callIC (n := 0) (K := K) rfl C_l_made_line hr h_l_made_line (pv 0) rfl da_nil) da_nil))) (de_slice (n := 1) (K := K) rfl (DE.up (dv 1)) (do_some (de_op (n := 0) (opK_add (K := K) rfl) ok2_add (DE.up (dv 3)) (de_int (n := 1)))) do_none))))
    (dss_one (ds_set 1 sc_l_bent_lines.nd (de_op (n := 0) (opK_add (K := K) rfl) ok2_add (de_op (n := 1) (opK_add (K := K) rfl) ok2_add (de_slice (n := 1) (K := K) rfl (DE.up (dv 1)) do_none (do_some (dv 3))) (de_tup (n := 1) (da_cons (de_callIC (n := 0) (K := K) rfl C_l_made_line hr h_l_made_line (pv 0) rfl da_nil) da_nil))) (de_slice (n := 1) (K := K) rfl (DE.up (dv 1)) (do_some (dv 3)) do_none)))))))))))
    (dss_one (ds_ret (dv 1))))⟩
/-! _law_keeping -/
abbrev s_l_keeping : Stmt := top 14
abbrev N_l_keeping : List Str := ["first", "second", "best", "i", "j", "rows", "row"]
theorem sc_l_keeping : FnScope N_l_keeping ["first", "second"] (defScope s_l_keeping) := ⟨rfl, rfl, rfl, by decide +kernel, rfl, by decide +kernel, by decide +kernel⟩
def g_l_keeping : SF :=
    (fSeq (fSet 2 (fC (.dict [(.none, .none)])))
    (fSeq (fFor (fItems (fUn revD (fUn listRg (fOp addD (fCall lenD (fCons (fV 0) fNil)) (fC (.int 1)))))) (bName 3)
    (fFor (fItems (fUn revD (fUn listRg (fOp addD (fCall lenD (fCons (fV 1) fNil)) (fC (.int 1)))))) (bName 4)
    (fIfS (fOr (fT (fOp eqD (fV 3) (fCall lenD (fCons (fV 0) fNil)))) (fT (fOp eqD (fV 4) (fCall lenD (fCons (fV 1) fNil)))))
    (fPutT 2 (fKey (fCons (fV 3) (fCons (fV 4) fNil))) (fTup fNil))
    (fSeq (fSet 5 (fLst (fCons (fGetT (fV 2) (fKey (fCons (fOp addD (fV 3) (fC (.int 1))) (fCons (fV 4) fNil)))) (fCons (fGetT (fV 2) (fKey (fCons (fV 3) (fCons (fOp addD (fV 4) (fC (.int 1))) fNil)))) fNil))))
    (fSeq (fIfS (fT (fOp eqD (fOp ixD (fV 0) (fV 3)) (fOp ixD (fV 1) (fV 4))))
    (fAppend 5 (fOp addD (fTup (fCons (fTup (fCons (fV 3) (fCons (fV 4) fNil))) fNil)) (fGetT (fV 2) (fKey (fCons (fOp addD (fV 3) (fC (.int 1))) (fCons (fOp addD (fV 4) (fC (.int 1))) fNil))))))
    fNext)
    (fPutT 2 (fKey (fCons (fV 3) (fCons (fV 4) fNil))) (fOp ixD (fCall minLD (fCons (fLc (fItems (fV 5)) (bName 6) tYesF (fTup (fCons (fOp subD (fC (.int 0)) (fCall lenD (fCons (fV 6) fNil))) (fCons (fV 6) fNil))) (List.map (·.2) ([("row", 6)] : List (Str × Nat)))) fNil)) (fC (.int 1)))))))))
    (fRet (fGetT (fV 2) (fKey (fCons (fC (.int 0)) (fCons (fC (.int 0)) fNil)))))))
theorem w_l_keeping {k : Nat} (B : Bl mg) (f : Addr) (cdv : Value) (A : Around) (outer : List PySem.Env) (s : Shared) (H : Hp) (E : XK) (hr : Room k (A.deeper (envOfC "_law_keeping" (defScope s_l_keeping) s.heap.objs.size f cdv))) :
    ∃ t, DSs (cxOf CX0 P w K mg base N_l_keeping "_law_keeping" (defScope s_l_keeping) f cdv A outer s H E).nox [0, 0, 1, 0, 0, 1, 0] none true (defBody s_l_keeping) t (g_l_keeping) :=
  have hu1 := hu_of hr
  have hu64 := hr.units
  have hu100 : (A.deeper (envOfC "_law_keeping" (defScope s_l_keeping) s.heap.objs.size f cdv)).units + 100 < cLine := by have := hr.un; omega
  ⟨_, (dss_cons (ds_setO 2 sc_l_keeping.nd df_dnewT)
    (dss_cons (ds_for PassesOwn.never rfl (di_seq (K := K) rfl (de_rev (n := 0) (K := K) rfl (de_listRg (n := 1) rfl B.list B.range (de_op (n := 0) (opK_add (K := K) rfl) ok2_add (de_callB (n := 1) (cK_len (K := K) rfl) ok1_len B.len boot_len (da_cons (DE.up (dv 0)) da_nil)) (de_int (n := 1)))))) (dg_name 3 sc_l_keeping.nd)
    (dss_one (ds_for PassesOwn.never rfl (di_seq (K := K) rfl (de_rev (n := 0) (K := K) rfl (de_listRg (n := 1) rfl B.list B.range (de_op (n := 0) (opK_add (K := K) rfl) ok2_add (de_callB (n := 1) (cK_len (K := K) rfl) ok1_len B.len boot_len (da_cons (DE.up (dv 1)) da_nil)) (de_int (n := 1)))))) (dg_name 4 sc_l_keeping.nd)
    (dss_one (ds_if (DW.dt (dw_or (dt_cmp (opK_eq (K := K) rfl hu64) ok2_eq (dv 3) (de_callB (n := 0) (cK_len (K := K) rfl) ok1_len B.len boot_len (da_cons (DE.up (dv 0)) da_nil))) (dw_or1 (dt_cmp (opK_eq (K := K) rfl hu64) ok2_eq (dv 4) (de_callB (n := 0) (cK_len (K := K) rfl) ok1_len B.len boot_len (da_cons (DE.up (dv 1)) da_nil))))))
    (dss_one (ds_putT 2 hu1 (pv 2) rfl (dk_tup (da_cons (dv 3) (da_cons (dv 4) da_nil))) (de_tup (n := 0) da_nil)))
    (dss_cons (ds_setO 5 sc_l_keeping.nd (df_lst (da_cons (de_getT (n := 0) hu1 (dv 2) (dk_tup (da_cons (de_op (n := 0) (opK_add (K := K) rfl) ok2_add (DE.up (dv 3)) (de_int (n := 1))) (da_cons (dv 4) da_nil)))) (da_cons (de_getT (n := 0) hu1 (dv 2) (dk_tup (da_cons (dv 3) (da_cons (de_op (n := 0) (opK_add (K := K) rfl) ok2_add (DE.up (dv 4)) (de_int (n := 1))) da_nil)))) da_nil))))
    (dss_cons (ds_if (dt_cmp (opK_eq (K := K) rfl hu64) ok2_eq (de_ix (n := 0) (DE.up (dv 0)) (dv 3) hu1 (K := K) rfl) (de_ix (n := 0) (DE.up (dv 1)) (dv 4) hu1 (K := K) rfl))
    (dss_one (ds_append 5 (pv 5) (de_op (n := 0) (opK_add (K := K) rfl) ok2_add (de_tup (n := 1) (da_cons (de_tup (n := 0) (da_cons (dv 3) (da_cons (dv 4) da_nil))) da_nil)) (de_getT (n := 1) hu1 (DE.up (dv 2)) (dk_tup (da_cons (de_op (n := 0) (opK_add (K := K) rfl) ok2_add (DE.up (dv 3)) (de_int (n := 1))) (da_cons (de_op (n := 0) (opK_add (K := K) rfl) ok2_add (DE.up (dv 4)) (de_int (n := 1))) da_nil)))))))
    dss_nil)
    (dss_one (ds_putT 2 hu1 (pv 2) rfl (dk_tup (da_cons (dv 3) (da_cons (dv 4) da_nil))) (de_ix (n := 0) (de_callB (n := 1) (cK_min (K := K) rfl rfl hu100) ok1_minL B.min boot_min (da_cons (de_lc (n := 1) rfl sc_l_keeping.nd (dj_seq (K := K) rfl (dv 5)) (blkOk_by (own := [("row", 6)]) (N := N_l_keeping) (sc := defScope s_l_keeping) (by decide +kernel)) (fun _ _ _ _ _ => (dg_name 6 sc_l_keeping.nd)) (fun _ _ _ _ _ => dts_nil) (fun _ _ _ _ _ => (de_tup (n := 0) (da_cons (de_op (n := 0) op_sub ok2_sub (de_int (n := 0)) (de_callB (n := 0) (cK_len (K := K) rfl) ok1_len B.len boot_len (da_cons (DE.up (dv 6)) da_nil))) (da_cons (dv 6) da_nil))))) da_nil)) (de_int (n := 0)) hu1 (K := K) rfl))))))))))
    (dss_one (ds_ret (de_getT (n := 0) hu1 (dv 2) (dk_tup (da_cons (de_int (n := 0)) (da_cons (de_int (n := 0)) da_nil))))))))⟩
/-! _law_all_keepings -/
abbrev s_l_all_keepings : Stmt := top 15
abbrev N_l_all_keepings : List Str := ["first", "second", "rows", "i", "longer", "row", "start", "j"]
theorem sc_l_all_keepings : FnScope N_l_all_keepings ["first", "second"] (defScope s_l_all_keepings) := ⟨rfl, rfl, rfl, by decide +kernel, rfl, by decide +kernel, by decide +kernel⟩
def g_l_all_keepings : SF :=
    (fSeq (fSet 2 (fLst (fCons (fTup fNil) fNil)))
    (fSeq (fFor (fRng range1D (fCons (fCall lenD (fCons (fV 0) fNil)) fNil)) (bName 3)
    (fSeq (fSet 4 (fCall listD (fCons (fV 2) fNil)))
    (fSeq (fFor (fItems (fV 2)) (bName 5)
    (fSeq (fSet 6 (fIf (fT (fOp gtD (fCall lenD (fCons (fV 5) fNil)) (fC (.int 0)))) (fOp addD (fOp ixD (fOp ixD (fV 5) (fUn negD (fC (.int 1)))) (fC (.int 1))) (fC (.int 1))) (fC (.int 0))))
    (fSet 4 (fOp addD (fV 4) (fLc (fRng range2D (fCons (fV 6) (fCons (fCall lenD (fCons (fV 1) fNil)) fNil))) (bName 7) (fT (fOp eqD (fOp ixD (fV 0) (fV 3)) (fOp ixD (fV 1) (fV 7)))) (fOp addD (fV 5) (fTup (fCons (fTup (fCons (fV 3) (fCons (fV 7) fNil))) fNil))) (List.map (·.2) ([("j", 7)] : List (Str × Nat))))))))
    (fSet 2 (fV 4)))))
    (fRet (fV 2))))
theorem w_l_all_keepings {k : Nat} (B : Bl mg) (f : Addr) (cdv : Value) (A : Around) (outer : List PySem.Env) (s : Shared) (H : Hp) (E : XK) (hr : Room k (A.deeper (envOfC "_law_all_keepings" (defScope s_l_all_keepings) s.heap.objs.size f cdv))) :
    ∃ t, DSs (cxOf CX0 P w K mg base N_l_all_keepings "_law_all_keepings" (defScope s_l_all_keepings) f cdv A outer s H E).nox [0, 0, 0, 0, 0, 0, 0, 0] none true (defBody s_l_all_keepings) t (g_l_all_keepings) :=
  have hu1 := hu_of hr
  have hu64 := hr.units
  have hu100 : (A.deeper (envOfC "_law_all_keepings" (defScope s_l_all_keepings) s.heap.objs.size f cdv)).units + 100 < cLine := by have := hr.un; omega
  ⟨_, (dss_cons (ds_set 2 sc_l_all_keepings.nd (de_lst (n := 0) (da_cons (de_tup (n := 0) da_nil) da_nil)))
    (dss_cons (ds_for PassesOwn.never rfl (di_range1 (n1 := 0) B.range (da_cons (de_callB (n := 0) (cK_len (K := K) rfl) ok1_len B.len boot_len (da_cons (DE.up (dv 0)) da_nil)) da_nil)) (dg_name 3 sc_l_all_keepings.nd)
    (dss_cons (ds_set 4 sc_l_all_keepings.nd (de_callTy (n := 0) (cK_list (K := K) rfl) ok1_list B.list boot_list (da_cons (DE.up (dv 2)) da_nil)))
    (dss_cons (ds_for PassesOwn.never rfl (di_seq (K := K) rfl (dv 2)) (dg_name 5 sc_l_all_keepings.nd)
    (dss_cons (ds_set 6 sc_l_all_keepings.nd (de_if (n := 0) (dt_cmp (opK_gt (K := K) rfl hu64) ok2_gt (de_callB (n := 0) (cK_len (K := K) rfl) ok1_len B.len boot_len (da_cons (DE.up (dv 5)) da_nil)) (de_int (n := 0))) (de_op (n := 0) (opK_add (K := K) rfl) ok2_add (de_ix (n := 1) (de_ix (n := 2) (DE.up (DE.up (DE.up (dv 5)))) (de_neg (n := 0) (de_int (n := 0))) hu1 (K := K) rfl) (de_int (n := 0)) hu1 (K := K) rfl) (de_int (n := 1))) (de_int (n := 0))))
    (dss_one (ds_set 4 sc_l_all_keepings.nd (de_op (n := 0) (opK_add (K := K) rfl) ok2_add (DE.up (dv 4)) (de_lc (n := 1) rfl sc_l_all_keepings.nd (DI.dj (di_range2 (n1 := 0) B.range (da_cons (dv 6) (da_cons (de_callB (n := 0) (cK_len (K := K) rfl) ok1_len B.len boot_len (da_cons (DE.up (dv 1)) da_nil)) da_nil)))) (blkOk_by (own := [("j", 7)]) (N := N_l_all_keepings) (sc := defScope s_l_all_keepings) (by decide +kernel)) (fun _ _ _ _ _ => (dg_name 7 sc_l_all_keepings.nd)) (fun _ _ _ _ _ => (dts_one (dt_cmp (opK_eq (K := K) rfl hu64) ok2_eq (de_ix (n := 0) (DE.up (dv 0)) (dv 3) hu1 (K := K) rfl) (de_ix (n := 0) (DE.up (dv 1)) (dv 7) hu1 (K := K) rfl)))) (fun _ _ _ _ _ => (de_op (n := 0) (opK_add (K := K) rfl) ok2_add (DE.up (dv 5)) (de_tup (n := 1) (da_cons (de_tup (n := 0) (da_cons (dv 3) (da_cons (dv 7) da_nil))) da_nil))))))))))
    (dss_one (ds_set 2 sc_l_all_keepings.nd (dv 4))))))
    (dss_one (ds_ret (dv 2)))))⟩
/-! law -/
abbrev s_law : Stmt := top 16
abbrev N_law : List Str := ["script", "k", "made", "turn", "first", "second", "every", "due", "rows", "i", "j", "one", "other", "row", "line"]
theorem sc_law : FnScope N_law ["script"] (defScope s_law) := ⟨rfl, rfl, rfl, by decide +kernel, rfl, by decide +kernel, by decide +kernel⟩
def g_law (M_l_is : List PyData → Option PyData) (M_told_script : List PyData → Option PyData) (M_told_keeping : List PyData → Option PyData) (M_l_keeping : List PyData → Option PyData) (M_l_all_keepings : List PyData → Option PyData) (M_l_take : PyData → List PyData → Option (PyData × PyData)) (M_l_bent_lines : PyData → List PyData → Option (PyData × PyData)) (M_l_made_text : PyData → List PyData → Option (PyData × PyData)) (M_l_draws : List PyData → Option PyData) (M_l_cell : List PyData → Option PyData) : SF :=
    (fSeq (fFor (fRng range1D (fCons (fC (.int 3)) fNil)) (bName 1)
    (fSeq (fIoNew2 2 "draws" "at" (fCall M_l_draws (fCons (fCall M_l_cell (fCons (fV 0) (fCons (fV 1) fNil))) (fCons (fC (.int 60)) fNil))) (fC (.int 0)))
    (fFor (fRng range1D (fCons (fC (.int 3)) fNil)) (bName 3)
    (fSeq (fSet 4 (fCallI M_l_made_text (fCons (fC (.int 6)) fNil)))
    (fSeq (fSet 5 (fIf (fT (fOp gtD (fCallI M_l_take (fCons (fC (.int 3)) fNil)) (fC (.int 0)))) (fCallI M_l_bent_lines (fCons (fV 4) fNil)) (fCallI M_l_made_text (fCons (fC (.int 6)) fNil))))
    (fSeq (fSet 5 (fSl (fV 5) fNoPart (fPart (fC (.int 7)))))
    (fSeq (fSet 6 (fCall M_l_all_keepings (fCons (fV 4) (fCons (fV 5) fNil))))
    (fSeq (fSet 7 (fOp ixD (fCall minLD (fCons (fLc (fItems (fV 6)) (bName 13) tYesF (fTup (fCons (fOp subD (fC (.int 0)) (fCall lenD (fCons (fV 13) fNil))) (fCons (fV 13) fNil))) (List.map (·.2) ([("row", 13)] : List (Str × Nat)))) fNil)) (fC (.int 1))))
    (fSeq (fIfS (fOr (fT (fOp neD (fV 7) (fCall M_l_keeping (fCons (fV 4) (fCons (fV 5) fNil))))) (fNot (fT (fCall M_l_is (fCons (fCall M_told_keeping (fCons (fV 4) (fCons (fV 5) fNil))) (fCons (fV 7) fNil))))))
    (fRet (fC (.bool false)))
    fNext)
    (fSeq (fSet 8 (fLst fNil))
    (fSeq (fSet 9 (fC (.int 0)))
    (fSeq (fSet 10 (fC (.int 0)))
    (fSeq (fFor (fItems (fOp addD (fV 7) (fTup (fCons (fTup (fCons (fCall lenD (fCons (fV 4) fNil)) (fCons (fCall lenD (fCons (fV 5) fNil)) fNil))) fNil)))) (bTup (bCons (bName 11) (bCons (bName 12) bNil)))
    (fSeq (fSet 8 (fOp addLD (fOp addD (fV 8) (fLc (fItems (fSl (fV 4) (fPart (fV 9)) (fPart (fV 11)))) (bName 14) tYesF (fTup (fCons (fC (.str "bar")) (fCons (fV 14) fNil))) (List.map (·.2) ([("line", 14)] : List (Str × Nat))))) (fLc (fItems (fSl (fV 5) (fPart (fV 10)) (fPart (fV 12)))) (bName 14) tYesF (fTup (fCons (fC (.str "add")) (fCons (fV 14) fNil))) (List.map (·.2) ([("line", 14)] : List (Str × Nat))))))
    (fSeq (fIfS (fT (fOp ltD (fV 11) (fCall lenD (fCons (fV 4) fNil))))
    (fAppend 8 (fTup (fCons (fC (.str "keep")) (fCons (fOp ixD (fV 4) (fV 11)) fNil))))
    fNext)
    (fSeq (fSet 9 (fOp addD (fV 11) (fC (.int 1))))
    (fSet 10 (fOp addD (fV 12) (fC (.int 1))))))))
    (fSeq (fIfS (fNot (fT (fCall M_l_is (fCons (fCall M_told_script (fCons (fV 4) (fCons (fV 5) fNil))) (fCons (fCall tupleD (fCons (fV 8) fNil)) fNil)))))
    (fRet (fC (.bool false)))
    fNext)
    (fSeq (fIfS (fOr (fT (fOp neD (fCall tupleD (fCons (fLc (fItems (fV 8)) (bName 13) (fT (fOp neD (fOp ixD (fV 13) (fC (.int 0))) (fC (.str "add")))) (fOp ixD (fV 13) (fC (.int 1))) (List.map (·.2) ([("row", 13)] : List (Str × Nat)))) fNil)) (fV 4))) (fT (fOp neD (fCall tupleD (fCons (fLc (fItems (fV 8)) (bName 13) (fT (fOp neD (fOp ixD (fV 13) (fC (.int 0))) (fC (.str "bar")))) (fOp ixD (fV 13) (fC (.int 1))) (List.map (·.2) ([("row", 13)] : List (Str × Nat)))) fNil)) (fV 5))))
    (fRet (fC (.bool false)))
    fNext)
    (fIfS (fT (fOp neD (fCall lenD (fCons (fV 8) fNil)) (fOp subD (fOp addD (fCall lenD (fCons (fV 4) fNil)) (fCall lenD (fCons (fV 5) fNil))) (fCall lenD (fCons (fV 7) fNil)))))
    (fRet (fC (.bool false)))
    fNext))))))))))))))))
    (fRet (fCall M_l_is (fCons (fCall M_told_script (fCons (fTup (fCons (fC (.str "a")) (fCons (fC (.str "b")) fNil))) (fCons (fTup (fCons (fC (.str "b")) (fCons (fC (.str "a")) fNil))) fNil))) (fCons (fTup (fCons (fTup (fCons (fC (.str "add")) (fCons (fC (.str "b")) fNil))) (fCons (fTup (fCons (fC (.str "keep")) (fCons (fC (.str "a")) fNil))) (fCons (fTup (fCons (fC (.str "bar")) (fCons (fC (.str "b")) fNil))) fNil)))) fNil)))))
theorem w_law {k : Nat} (B : Bl mg) {j_l_is : Nat} {M_l_is : List PyData → Option PyData} (C_l_is : Callee P w K mg base "_law_is" ["value", "due"] j_l_is (spP K M_l_is)) (h_l_is : j_l_is ≤ k) {j_told_script : Nat} {M_told_script : List PyData → Option PyData} (C_told_script : Callee P w K mg base "told_script" ["first", "second"] j_told_script (spP K M_told_script)) (h_told_script : j_told_script ≤ k) {j_told_keeping : Nat} {M_told_keeping : List PyData → Option PyData} (C_told_keeping : Callee P w K mg base "told_keeping" ["first", "second"] j_told_keeping (spP K M_told_keeping)) (h_told_keeping : j_told_keeping ≤ k) {j_l_keeping : Nat} {M_l_keeping : List PyData → Option PyData} (C_l_keeping : Callee P w K mg base "_law_keeping" ["first", "second"] j_l_keeping (spP K M_l_keeping)) (h_l_keeping : j_l_keeping ≤ k) {j_l_all_keepings : Nat} {M_l_all_keepings : List PyData → Option PyData} (C_l_all_keepings : Callee P w K mg base "_law_all_keepings" ["first", "second"] j_l_all_keepings (spP K M_l_all_keepings)) (h_l_all_keepings : j_l_all_keepings ≤ k) {j_l_take : Nat} {M_l_take : PyData → List PyData → Option (PyData × PyData)} (C_l_take : Callee P w K mg base "_law_take" ["made", "most"] j_l_take (spI K M_l_take)) (h_l_take : j_l_take ≤ k) {j_l_bent_lines : Nat} {M_l_bent_lines : PyData → List PyData → Option (PyData × PyData)} (C_l_bent_lines : Callee P w K mg base "_law_bent_lines" ["made", "text"] j_l_bent_lines (spI K M_l_bent_lines)) (h_l_bent_lines : j_l_bent_lines ≤ k) {j_l_made_text : Nat} {M_l_made_text : PyData → List PyData → Option (PyData × PyData)} (C_l_made_text : Callee P w K mg base "_law_made_text" ["made", "most"] j_l_made_text (spI K M_l_made_text)) (h_l_made_text : j_l_made_text ≤ k) {j_l_draws : Nat} {M_l_draws : List PyData → Option PyData} (C_l_draws : Callee P w K mg base "_law_draws" ["cell", "count"] j_l_draws (spP K M_l_draws)) (h_l_draws : j_l_draws ≤ k) {j_l_cell : Nat} {M_l_cell : List PyData → Option PyData} (C_l_cell : Callee P w K mg base "_law_cell" ["script", "k"] j_l_cell (spP K M_l_cell)) (h_l_cell : j_l_cell ≤ k) (f : Addr) (cdv : Value) (A : Around) (outer : List PySem.Env) (s : Shared) (H : Hp) (E : XK) (hr : Room k (A.deeper (envOfC "law" (defScope s_law) s.heap.objs.size f cdv))) :
    ∃ t, DSs (cxOf CX0 P w K mg base N_law "law" (defScope s_law) f cdv A outer s H E).nox [0, 0, 0, 0, 0, 0, 0, 0, 1, 0, 0, 0, 0, 0, 0] (some 2) false (defBody s_law) t (g_law M_l_is M_told_script M_told_keeping M_l_keeping M_l_all_keepings M_l_take M_l_bent_lines M_l_made_text M_l_draws M_l_cell) :=
  have hu1 := hu_of hr
  have hu64 := hr.units
  have hu100 : (A.deeper (envOfC "law" (defScope s_law) s.heap.objs.size f cdv)).units + 100 < cLine := by have := hr.un; omega
  ⟨_, (dss_cons (ds_for PassesOwn.never rfl (di_range1 (n1 := 0) B.range (da_cons (de_int (n := 0)) da_nil)) (dg_name 1 sc_law.nd)
    (dss_cons (ds_ioNew2 2 sc_law.nd rfl (by decide) (de_callC (n := 0) (K := K) rfl C_l_draws hr h_l_draws (da_cons (de_callC (n := 0) (K := K) rfl C_l_cell hr h_l_cell (da_cons (dv 0) (da_cons (dv 1) da_nil))) (da_cons (de_int (n := 0)) da_nil))) (de_int (n := 0)))
    (dss_one (ds_for PassesOwn.never rfl (di_range1 (n1 := 0) B.range (da_cons (de_int (n := 0)) da_nil)) (dg_name 3 sc_law.nd)
    (dss_cons (ds_set 4 sc_law.nd (de_callIC (n := 0) (K := K) rfl C_l_made_text hr h_l_made_text (pv 2) rfl (da_cons (de_int (n := 0)) da_nil)))
    (dss_cons (ds_set 5 sc_law.nd (de_if (n := 0) (dt_cmp (opK_gt (K := K) rfl hu64) ok2_gt (de_callIC (n := 0) (K := K) rfl C_l_take hr h_l_take (pv 2) rfl (da_cons (de_int (n := 0)) da_nil)) (de_int (n := 0))) (de_callIC (n := 0) (K := K) rfl C_l_bent_lines hr h_l_bent_lines (pv 2) rfl (da_cons (dv 4) da_nil)) (de_callIC (n := 0) (K := K) rfl C_l_made_text hr h_l_made_text (pv 2) rfl (da_cons (de_int (n := 0)) da_nil))))
    (dss_cons (ds_set 5 sc_law.nd (de_slice (n := 0) (K := K) rfl (DE.up (dv 5)) do_none (do_some (de_int (n := 0)))))
    (dss_cons (ds_set 6 sc_law.nd (de_callC (n := 0) (K := K) rfl C_l_all_keepings hr h_l_all_keepings (da_cons (dv 4) (da_cons (dv 5) da_nil))))
    (dss_cons (ds_set 7 sc_law.nd (de_ix (n := 0) (de_callB (n := 1) (cK_min (K := K) rfl rfl hu100) ok1_minL B.min boot_min (da_cons (de_lc (n := 1) rfl sc_law.nd (DI.dj (di_seq (K := K) rfl (dv 6))) (blkOk_by (own := [("row", 13)]) (N := N_law) (sc := defScope s_law) (by decide +kernel)) (fun _ _ _ _ _ => (dg_name 13 sc_law.nd)) (fun _ _ _ _ _ => dts_nil) (fun _ _ _ _ _ => (de_tup (n := 0) (da_cons (de_op (n := 0) op_sub ok2_sub (de_int (n := 0)) (de_callB (n := 0) (cK_len (K := K) rfl) ok1_len B.len boot_len (da_cons (DE.up (dv 13)) da_nil))) (da_cons (dv 13) da_nil))))) da_nil)) (de_int (n := 0)) hu1 (K := K) rfl))
    (dss_cons (ds_if (DW.dt (dw_or (dt_cmp (opK_ne (K := K) rfl hu64) ok2_ne (dv 7) (de_callC (n := 0) (K := K) rfl C_l_keeping hr h_l_keeping (da_cons (dv 4) (da_cons (dv 5) da_nil)))) (dw_or1 (dt_not (dt_val (de_callC (n := 0) (K := K) rfl C_l_is hr h_l_is (da_cons (de_callC (n := 0) (K := K) rfl C_told_keeping hr h_told_keeping (da_cons (dv 4) (da_cons (dv 5) da_nil))) (da_cons (dv 7) da_nil))))))))
    (dss_one (ds_ret (de_bl (n := 0))))
    dss_nil)
    (dss_cons (ds_setO 8 sc_law.nd (df_lst da_nil))
    (dss_cons (ds_set 9 sc_law.nd (de_int (n := 0)))
    (dss_cons (ds_set 10 sc_law.nd (de_int (n := 0)))
    (dss_cons (ds_for PassesOwn.never rfl (di_seq (K := K) rfl (de_op (n := 0) (opK_add (K := K) rfl) ok2_add (DE.up (dv 7)) (de_tup (n := 1) (da_cons (de_tup (n := 0) (da_cons (de_callB (n := 0) (cK_len (K := K) rfl) ok1_len B.len boot_len (da_cons (DE.up (dv 4)) da_nil)) (da_cons (de_callB (n := 0) (cK_len (K := K) rfl) ok1_len B.len boot_len (da_cons (DE.up (dv 5)) da_nil)) da_nil))) da_nil)))) (dg_tup (K := K) rfl rfl (dgs_cons (dg_name 11 sc_law.nd) (dgs_cons (dg_name 12 sc_law.nd) dgs_nil)) (bCons_len (bCons_len bNil_len)))
    (dss_cons (ds_setO 8 sc_law.nd (df_add (de_op (n := 1) (opK_add (K := K) rfl) ok2_add (dv 8) (de_lc (n := 1) rfl sc_law.nd (DI.dj (di_seq (K := K) rfl (de_slice (n := 0) (K := K) rfl (DE.up (dv 4)) (do_some (dv 9)) (do_some (dv 11))))) (blkOk_by (own := [("line", 14)]) (N := N_law) (sc := defScope s_law) (by decide +kernel)) (fun _ _ _ _ _ => (dg_name 14 sc_law.nd)) (fun _ _ _ _ _ => dts_nil) (fun _ _ _ _ _ => (de_tup (n := 0) (da_cons (de_str (n := 0)) (da_cons (dv 14) da_nil)))))) (de_lc (n := 1) rfl sc_law.nd (DI.dj (di_seq (K := K) rfl (de_slice (n := 0) (K := K) rfl (DE.up (dv 5)) (do_some (dv 10)) (do_some (dv 12))))) (blkOk_by (own := [("line", 14)]) (N := N_law) (sc := defScope s_law) (by decide +kernel)) (fun _ _ _ _ _ => (dg_name 14 sc_law.nd)) (fun _ _ _ _ _ => dts_nil) (fun _ _ _ _ _ => (de_tup (n := 0) (da_cons (de_str (n := 0)) (da_cons (dv 14) da_nil)))))))
    (dss_cons (ds_if (dt_cmp (opK_lt (K := K) rfl hu64) ok2_lt (dv 11) (de_callB (n := 0) (cK_len (K := K) rfl) ok1_len B.len boot_len (da_cons (DE.up (dv 4)) da_nil)))
    (dss_one (ds_append 8 (pv 8) (de_tup (n := 0) (da_cons (de_str (n := 0)) (da_cons (de_ix (n := 0) (DE.up (dv 4)) (dv 11) hu1 (K := K) rfl) da_nil)))))
    dss_nil)
    (dss_cons (ds_set 9 sc_law.nd (de_op (n := 0) (opK_add (K := K) rfl) ok2_add (DE.up (dv 11)) (de_int (n := 1))))
    (dss_one (ds_set 10 sc_law.nd (de_op (n := 0) (opK_add (K := K) rfl) ok2_add (DE.up (dv 12)) (de_int (n := 1)))))))))
    (dss_cons (ds_if (dt_not (dt_val (de_callC (n := 0) (K := K) rfl C_l_is hr h_l_is (da_cons (de_callC (n := 0) (K := K) rfl C_told_script hr h_told_script (da_cons (dv 4) (da_cons (dv 5) da_nil))) (da_cons (de_callTy (n := 0) (cK_tuple (K := K) rfl) ok1_tuple B.tuple boot_tuple (da_cons (dv 8) da_nil)) da_nil)))))
    (dss_one (ds_ret (de_bl (n := 0))))
    dss_nil)
    (dss_cons (ds_if (DW.dt (dw_or (dt_cmp (opK_ne (K := K) rfl hu64) ok2_ne (de_callTy (n := 0) (cK_tuple (K := K) rfl) ok1_tuple B.tuple boot_tuple (da_cons (de_lc (n := 1) rfl sc_law.nd (dj_seq (K := K) rfl (dv 8)) (blkOk_by (own := [("row", 13)]) (N := N_law) (sc := defScope s_law) (by decide +kernel)) (fun _ _ _ _ _ => (dg_name 13 sc_law.nd)) (fun _ _ _ _ _ => (dts_one (dt_cmp (opK_ne (K := K) rfl hu64) ok2_ne (de_ix (n := 0) (DE.up (dv 13)) (de_int (n := 0)) hu1 (K := K) rfl) (de_str (n := 0))))) (fun _ _ _ _ _ => (de_ix (n := 0) (DE.up (dv 13)) (de_int (n := 0)) hu1 (K := K) rfl))) da_nil)) (dv 4)) (dw_or1 (dt_cmp (opK_ne (K := K) rfl hu64) ok2_ne (de_callTy (n := 0) (cK_tuple (K := K) rfl) ok1_tuple B.tuple boot_tuple (da_cons (de_lc (n := 1) rfl sc_law.nd (dj_seq (K := K) rfl (dv 8)) (blkOk_by (own := [("row", 13)]) (N := N_law) (sc := defScope s_law) (by decide +kernel)) (fun _ _ _ _ _ => (dg_name 13 sc_law.nd)) (fun _ _ _ _ _ => (dts_one (dt_cmp (opK_ne (K := K) rfl hu64) ok2_ne (de_ix (n := 0) (DE.up (dv 13)) (de_int (n := 0)) hu1 (K := K) rfl) (de_str (n := 0))))) (fun _ _ _ _ _ => (de_ix (n := 0) (DE.up (dv 13)) (de_int (n := 0)) hu1 (K := K) rfl))) da_nil)) (dv 5)))))
    (dss_one (ds_ret (de_bl (n := 0))))
    dss_nil)
    (dss_one (ds_if (dt_cmp (opK_ne (K := K) rfl hu64) ok2_ne (de_callB (n := 0) (cK_len (K := K) rfl) ok1_len B.len boot_len (da_cons (dv 8) da_nil)) (de_op (n := 0) op_sub ok2_sub (de_op (n := 0) (opK_add (K := K) rfl) ok2_add (de_callB (n := 1) (cK_len (K := K) rfl) ok1_len B.len boot_len (da_cons (DE.up (dv 4)) da_nil)) (de_callB (n := 1) (cK_len (K := K) rfl) ok1_len B.len boot_len (da_cons (DE.up (dv 5)) da_nil))) (de_callB (n := 0) (cK_len (K := K) rfl) ok1_len B.len boot_len (da_cons (DE.up (dv 7)) da_nil))))
    (dss_one (ds_ret (de_bl (n := 0))))
    dss_nil))))))))))))))))))
    (dss_one (ds_ret (de_callC (n := 0) (K := K) rfl C_l_is hr h_l_is (da_cons (de_callC (n := 0) (K := K) rfl C_told_script hr h_told_script (da_cons (de_tup (n := 0) (da_cons (de_str (n := 0)) (da_cons (de_str (n := 0)) da_nil))) (da_cons (de_tup (n := 0) (da_cons (de_str (n := 0)) (da_cons (de_str (n := 0)) da_nil))) da_nil))) (da_cons (de_tup (n := 0) (da_cons (de_tup (n := 0) (da_cons (de_str (n := 0)) (da_cons (de_str (n := 0)) da_nil))) (da_cons (de_tup (n := 0) (da_cons (de_str (n := 0)) (da_cons (de_str (n := 0)) da_nil))) (da_cons (de_tup (n := 0) (da_cons (de_str (n := 0)) (da_cons (de_str (n := 0)) da_nil))) da_nil)))) da_nil))))))⟩
end
end K01
namespace K01
/-! ### keepings: the plain law -/
abbrev Row := List (Nat × Nat)
def pLt (p q : Nat × Nat) : Bool := decide (p.1 < q.1 ∨ (p.1 = q.1 ∧ p.2 < q.2))
def rLt : Row → Row → Bool
  | [], [] => false
  | [], _ :: _ => true
  | _ :: _, [] => false
  | p :: r, q :: s => if p = q then rLt r s else pLt p q
def Bet (r s : Row) : Prop := s.length < r.length ∨ (r.length = s.length ∧ rLt r s = true)
theorem pLt_tri (p q : Nat × Nat) : pLt p q = true ∨ p = q ∨ pLt q p = true := by
  obtain ⟨a, b⟩ := p
  obtain ⟨c, d⟩ := q
  simp only [pLt, decide_eq_true_eq, Prod.mk.injEq]
  omega
theorem pLt_irr (p : Nat × Nat) : pLt p p = false := by simp [pLt]
theorem pLt_trans {p q r : Nat × Nat} : pLt p q = true → pLt q r = true → pLt p r = true := by
  simp only [pLt, decide_eq_true_eq]; omega
theorem rLt_tri : ∀ r s : Row, rLt r s = true ∨ r = s ∨ rLt s r = true
  | [], [] => .inr (.inl rfl)
  | [], _ :: _ => .inl rfl
  | _ :: _, [] => .inr (.inr rfl)
  | p :: r, q :: s => by
    by_cases e : p = q
    · subst e
      simp only [rLt, if_pos]
      rcases rLt_tri r s with h | h | h
      · exact .inl h
      · exact .inr (.inl (by rw [h]))
      · exact .inr (.inr h)
    · simp only [rLt, if_neg e, if_neg (Ne.symm e)]
      rcases pLt_tri p q with h | h | h
      · exact .inl h
      · exact absurd h e
      · exact .inr (.inr h)
theorem rLt_irr : ∀ r : Row, rLt r r = false
  | [] => rfl
  | p :: r => by simp only [rLt, if_pos]; exact rLt_irr r
theorem rLt_trans : ∀ {r s t : Row}, rLt r s = true → rLt s t = true → rLt r t = true
  | [], [], _, h, _ => by cases h
  | [], _ :: _, [], _, h => by cases h
  | [], _ :: _, _ :: _, _, _ => rfl
  | _ :: _, [], _, h, _ => by cases h
  | _ :: _, _ :: _, [], _, h => by cases h
  | p :: r, q :: s, o :: t, h1, h2 => by
    simp only [rLt] at h1 h2 ⊢
    by_cases e : p = q
    · subst e
      rw [if_pos rfl] at h1
      by_cases e2 : p = o
      · subst e2
        rw [if_pos rfl] at h2 ⊢
        exact rLt_trans h1 h2
      · rw [if_neg e2] at h2 ⊢
        exact h2
    · rw [if_neg e] at h1
      by_cases e2 : q = o
      · subst e2
        rw [if_neg e]
        exact h1
      · rw [if_neg e2] at h2
        have h3 := pLt_trans h1 h2
        have : p ≠ o := by
          rintro rfl
          rw [pLt_irr] at h3
          cases h3
        rw [if_neg this]
        exact h3
theorem Bet_tri (r s : Row) : Bet r s ∨ r = s ∨ Bet s r := by
  unfold Bet
  by_cases h : s.length < r.length
  · exact .inl (.inl h)
  · by_cases h2 : r.length < s.length
    · exact .inr (.inr (.inl h2))
    · have : r.length = s.length := by omega
      rcases rLt_tri r s with k | k | k
      · exact .inl (.inr ⟨this, k⟩)
      · exact .inr (.inl k)
      · exact .inr (.inr (.inr ⟨this.symm, k⟩))
theorem Bet_irr (r : Row) : ¬ Bet r r := by
  rintro (h | ⟨_, h⟩)
  · omega
  · rw [rLt_irr] at h; cases h
theorem Bet_trans {r s t : Row} : Bet r s → Bet s t → Bet r t := by
  rintro (h | ⟨h, h'⟩) (k | ⟨k, k'⟩)
  · exact .inl (by omega)
  · exact .inl (by omega)
  · exact .inl (by omega)
  · exact .inr ⟨by omega, rLt_trans h' k'⟩
theorem nBet_trans {s k r : Row} (h1 : ¬ Bet s k) (h2 : ¬ Bet k r) : ¬ Bet s r := by
  intro h
  rcases Bet_tri s k with e | e | e
  · exact h1 e
  · exact h2 (e ▸ h)
  · exact h2 (Bet_trans e h)
theorem nBet_nil (r : Row) : ¬ Bet [] r := by
  rintro (h | ⟨h, h'⟩)
  · simp at h
  · cases r with
    | nil => cases h'
    | cons p r => simp at h
theorem Bet_cons (p : Nat × Nat) (r s : Row) : Bet (p :: r) (p :: s) ↔ Bet r s := by
  unfold Bet
  simp only [List.length_cons, rLt, if_pos, Nat.add_lt_add_iff_right, Nat.add_right_cancel_iff]
theorem min_ex : ∀ xs : List Row, xs ≠ [] → ∃ r ∈ xs, ∀ s ∈ xs, ¬ Bet s r
  | [], h => absurd rfl h
  | [x], _ => ⟨x, List.mem_cons_self, fun s hs => by
      rcases List.mem_cons.mp hs with rfl | h
      · exact Bet_irr _
      · cases h⟩
  | x :: y :: r, _ => by
    obtain ⟨m, hm, h⟩ := min_ex (y :: r) (List.cons_ne_nil _ _)
    by_cases b : Bet x m
    · refine ⟨x, List.mem_cons_self, fun s hs => ?_⟩
      rcases List.mem_cons.mp hs with rfl | hs
      · exact Bet_irr _
      · intro k
        exact h s hs (Bet_trans k b)
    · refine ⟨m, List.mem_cons_of_mem _ hm, fun s hs => ?_⟩
      rcases List.mem_cons.mp hs with rfl | hs
      · exact b
      · exact h s hs
section
variable {α : Type} [DecidableEq α] (a b : List α)
/-- a keeping: places that go on, with equal lines -/
def Keep : Nat → Nat → Row → Prop
  | _, _, [] => True
  | i, j, (p, q) :: r => i ≤ p ∧ j ≤ q ∧ p < a.length ∧ q < b.length ∧ a[p]? = b[q]? ∧ Keep (p + 1) (q + 1) r
variable {a b}
theorem Keep.mono {i j i' j' : Nat} (hi : i' ≤ i) (hj : j' ≤ j) : ∀ {r : Row}, Keep a b i j r → Keep a b i' j' r
  | [], _ => trivial
  | (p, q) :: r, ⟨h1, h2, h3⟩ => ⟨by omega, by omega, h3⟩
theorem Keep.len_le : ∀ {r : Row} {i j : Nat}, Keep a b i j r → r.length ≤ a.length - i ∧ r.length ≤ b.length - j
  | [], _, _, _ => by simp
  | (p, q) :: r, i, j, ⟨h1, h2, h3, h4, _, h⟩ => by
    have := Keep.len_le h
    simp only [List.length_cons]
    omega
def Lst (a b : List α) (i j : Nat) (r : Row) : Prop := Keep a b i j r ∧ ∀ s, Keep a b i j s → ¬ Bet s r
theorem Lst.uniq {i j : Nat} {r s : Row} (h : Lst a b i j r) (k : Lst a b i j s) : r = s := by
  rcases Bet_tri r s with e | e | e
  · exact absurd e (k.2 _ h.1)
  · exact e
  · exact absurd e (h.2 _ k.1)
theorem Lst.edge {i j : Nat} (h : a.length ≤ i ∨ b.length ≤ j) : Lst a b i j [] := ⟨trivial, fun s k => by
  have := k.len_le
  have : s.length = 0 := by omega
  rw [List.length_eq_zero_iff.mp this]
  exact Bet_irr _⟩
/-- the least of the three ways on -/
theorem Lst.step {i j : Nat} (hi : i < a.length) (hj : j < b.length) {u v : Row} {rows : List Row} (hu : Lst a b (i + 1) j u) (hv : Lst a b i (j + 1) v)
    (hw : if a[i]? = b[j]? then ∃ w, Lst a b (i + 1) (j + 1) w ∧ rows = [u, v, (i, j) :: w] else rows = [u, v]) {r : Row} (hr : r ∈ rows) (hm : ∀ s ∈ rows, ¬ Bet s r) : Lst a b i j r := by
  constructor
  · split at hw
    · rename_i e
      obtain ⟨w, hw, rfl⟩ := hw
      simp only [List.mem_cons, List.not_mem_nil, or_false] at hr
      rcases hr with rfl | rfl | rfl
      · exact hu.1.mono (by omega) (by omega)
      · exact hv.1.mono (by omega) (by omega)
      · exact ⟨by omega, by omega, hi, hj, e, hw.1⟩
    · subst hw
      simp only [List.mem_cons, List.not_mem_nil, or_false] at hr
      rcases hr with rfl | rfl
      · exact hu.1.mono (by omega) (by omega)
      · exact hv.1.mono (by omega) (by omega)
  · have mu : u ∈ rows := by
      split at hw
      · obtain ⟨w, _, rfl⟩ := hw; simp
      · subst hw; simp
    have mv : v ∈ rows := by
      split at hw
      · obtain ⟨w, _, rfl⟩ := hw; simp
      · subst hw; simp
    rintro (_ | ⟨⟨p, q⟩, s⟩) k
    · exact nBet_nil _
    · obtain ⟨k1, k2, k3, k4, k5, k6⟩ := k
      by_cases e1 : i < p
      · exact nBet_trans (hu.2 _ ⟨e1, k2, k3, k4, k5, k6⟩) (hm _ mu)
      · by_cases e2 : j < q
        · exact nBet_trans (hv.2 _ ⟨k1, e2, k3, k4, k5, k6⟩) (hm _ mv)
        · have : p = i := by omega
          have : q = j := by omega
          subst p q
          rw [if_pos k5] at hw
          obtain ⟨w, hw, rfl⟩ := hw
          exact nBet_trans (fun z => hw.2 _ k6 ((Bet_cons _ _ _).mp z)) (hm ((i, j) :: w) (by simp))
theorem Lst.ex : ∀ (n i j : Nat), (a.length - i) + (b.length - j) < n → ∃ r, Lst a b i j r
  | 0, _, _, h => by omega
  | n + 1, i, j, h => by
    by_cases e : a.length ≤ i ∨ b.length ≤ j
    · exact ⟨_, Lst.edge e⟩
    · obtain ⟨u, hu⟩ := Lst.ex n (i + 1) j (by omega)
      obtain ⟨v, hv⟩ := Lst.ex n i (j + 1) (by omega)
      obtain ⟨w, hw⟩ := Lst.ex n (i + 1) (j + 1) (by omega)
      by_cases c : a[i]? = b[j]?
      · obtain ⟨r, h1, h2⟩ := min_ex [u, v, (i, j) :: w] (by simp)
        refine ⟨r, Lst.step (by omega) (by omega) hu hv (rows := [u, v, (i, j) :: w]) (by rw [if_pos c]; exact ⟨w, hw, rfl⟩) h1 h2⟩
      · obtain ⟨r, h1, h2⟩ := min_ex [u, v] (by simp)
        refine ⟨r, Lst.step (by omega) (by omega) hu hv (rows := [u, v]) (by rw [if_neg c]) h1 h2⟩
end
section
variable {α : Type} [DecidableEq α]
noncomputable def K (a b : List α) (i j : Nat) : Row := Classical.choose (Lst.ex (a := a) (b := b) _ i j (Nat.lt_succ_self _))
variable {a b : List α}
theorem K_lst (i j : Nat) : Lst a b i j (K a b i j) := Classical.choose_spec (Lst.ex (a := a) (b := b) _ i j (Nat.lt_succ_self _))
theorem K_eq {i j : Nat} {r : Row} (h : Lst a b i j r) : K a b i j = r := (K_lst i j).uniq h
theorem K_edge {i j : Nat} (h : a.length ≤ i ∨ b.length ≤ j) : K a b i j = [] := K_eq (Lst.edge h)
noncomputable def L (a b : List α) (i j : Nat) : Nat := (K a b i j).length
theorem L_ge {i j : Nat} {s : Row} (h : Keep a b i j s) : s.length ≤ L a b i j := by
  have := (K_lst i j).2 s h
  by_cases c : s.length ≤ L a b i j
  · exact c
  · exact absurd (.inl (by unfold L at c; omega)) this
theorem L_edge {i j : Nat} (h : a.length ≤ i ∨ b.length ≤ j) : L a b i j = 0 := by unfold L; rw [K_edge h]; rfl
theorem L_step {i j : Nat} (hi : i < a.length) (hj : j < b.length) : L a b i j = if a[i]? = b[j]? then max (max (L a b (i + 1) j) (L a b i (j + 1))) (1 + L a b (i + 1) (j + 1)) else max (L a b (i + 1) j) (L a b i (j + 1)) := by
  have h1 : L a b (i + 1) j ≤ L a b i j := L_ge ((K_lst (i + 1) j).1.mono (by omega) (by omega))
  have h2 : L a b i (j + 1) ≤ L a b i j := L_ge ((K_lst i (j + 1)).1.mono (by omega) (by omega))
  have h3 : a[i]? = b[j]? → 1 + L a b (i + 1) (j + 1) ≤ L a b i j := fun e => by
    have := L_ge (a := a) (b := b) (i := i) (j := j) (s := (i, j) :: K a b (i + 1) (j + 1)) ⟨by omega, by omega, hi, hj, e, (K_lst (i + 1) (j + 1)).1⟩
    unfold L at this ⊢
    simp only [List.length_cons] at this
    omega
  have h4 : L a b i j ≤ L a b (i + 1) j ∨ L a b i j ≤ L a b i (j + 1) ∨ (a[i]? = b[j]? ∧ L a b i j ≤ 1 + L a b (i + 1) (j + 1)) := by
    have hk := (K_lst (a := a) (b := b) i j).1
    cases e : K a b i j with
    | nil => left; unfold L; rw [e]; simp
    | cons pq s =>
      obtain ⟨p, q⟩ := pq
      rw [e] at hk
      obtain ⟨k1, k2, k3, k4, k5, k6⟩ := hk
      have hL : L a b i j = ((p, q) :: s).length := by unfold L; rw [e]
      by_cases e1 : i < p
      · left; rw [hL]; exact L_ge ⟨e1, k2, k3, k4, k5, k6⟩
      · by_cases e2 : j < q
        · right; left; rw [hL]; exact L_ge ⟨k1, e2, k3, k4, k5, k6⟩
        · have : p = i := by omega
          have : q = j := by omega
          subst p q
          right; right
          refine ⟨k5, ?_⟩
          rw [hL, List.length_cons]
          have := L_ge k6
          omega
  split
  · rename_i e
    have := h3 e
    omega
  · rename_i e
    rcases h4 with h4 | h4 | h4
    · omega
    · omega
    · exact absurd h4.1 e
/-- a place at which a longest keeping can begin -/
def Beg (a b : List α) (i j at_ : Nat) : Prop := j ≤ at_ ∧ at_ < b.length ∧ a[i]? = b[at_]? ∧ 1 + L a b (i + 1) (at_ + 1) = L a b i j
theorem L_lt {i j : Nat} (h : 0 < L a b i j) : i < a.length ∧ j < b.length := by
  constructor
  · by_cases c : i < a.length
    · exact c
    · rw [L_edge (.inl (by omega))] at h; omega
  · by_cases c : j < b.length
    · exact c
    · rw [L_edge (.inr (by omega))] at h; omega
theorem K_cons {i j : Nat} (h : 0 < L a b i j) : ∃ p q s, K a b i j = (p, q) :: s ∧ i ≤ p ∧ (p = i → Beg a b i j q ∧ (∀ at_, Beg a b i j at_ → q ≤ at_) ∧ s = K a b (i + 1) (q + 1)) ∧ (i < p → K a b (i + 1) j = K a b i j ∧ ¬ ∃ at_, Beg a b i j at_) := by
  have hi := (L_lt h).1
  have hk := (K_lst (a := a) (b := b) i j)
  cases e : K a b i j with
  | nil => unfold L at h; rw [e] at h; simp at h
  | cons pq s =>
    obtain ⟨p, q⟩ := pq
    rw [e] at hk
    obtain ⟨⟨k1, k2, k3, k4, k5, k6⟩, least⟩ := hk
    have hL : L a b i j = s.length + 1 := by unfold L; rw [e]; rfl
    refine ⟨p, q, s, rfl, k1, ?_, ?_⟩
    · rintro rfl
      have t1 : ∀ t, Keep a b (p + 1) (q + 1) t → ¬ Bet t s := fun t kt bt => least ((p, q) :: t) ⟨k1, k2, k3, k4, k5, kt⟩ ((Bet_cons _ _ _).mpr bt)
      have t2 : K a b (p + 1) (q + 1) = s := K_eq ⟨k6, t1⟩
      refine ⟨⟨k2, k4, k5, ?_⟩, ?_, t2.symm⟩
      · rw [hL]; unfold L; rw [t2]; omega
      · rintro at_ ⟨b1, b2, b3, b4⟩
        by_cases c : q ≤ at_
        · exact c
        · exfalso
          refine least ((p, at_) :: K a b (p + 1) (at_ + 1)) ⟨k1, b1, k3, b2, b3, (K_lst _ _).1⟩ (.inr ⟨?_, ?_⟩)
          · unfold L at b4 hL; simp only [List.length_cons]; omega
          · rw [rLt, if_neg (by simp only [Prod.mk.injEq, true_and]; omega)]
            simp only [pLt, decide_eq_true_eq]; first | omega | (simp; omega)
    · intro hp
      refine ⟨K_eq ⟨⟨hp, k2, k3, k4, k5, k6⟩, fun t kt => least t (kt.mono (by omega) (by omega))⟩, ?_⟩
      rintro ⟨at_, b1, b2, b3, b4⟩
      refine least ((i, at_) :: K a b (i + 1) (at_ + 1)) ⟨by omega, b1, hi, b2, b3, (K_lst _ _).1⟩ (.inr ⟨?_, ?_⟩)
      · unfold L at b4 hL; simp only [List.length_cons]; omega
      · rw [rLt, if_neg (by simp only [Prod.mk.injEq, true_and]; omega)]
        simp only [pLt, decide_eq_true_eq]; omega
/-! all keepings -/
theorem Keep_snoc : ∀ {r : Row} {i j p q : Nat}, Keep a b i j (r ++ [(p, q)]) ↔ Keep a b i j r ∧ i ≤ p ∧ j ≤ q ∧ (∀ e, r.getLast? = some e → e.1 < p ∧ e.2 < q) ∧ p < a.length ∧ q < b.length ∧ a[p]? = b[q]?
  | [], i, j, p, q => by simp [Keep]
  | (x, y) :: r, i, j, p, q => by
    simp only [List.cons_append, Keep, Keep_snoc (r := r)]
    have e : ((x, y) :: r).getLast? = some (r.getLast?.getD (x, y)) := List.getLast?_cons
    rw [e]
    constructor
    · rintro ⟨h1, h2, h3, h4, h5, h6, h7, h8, h9, h10, h11, h12⟩
      refine ⟨⟨h1, h2, h3, h4, h5, h6⟩, by omega, by omega, ?_, h10, h11, h12⟩
      rintro e' he
      cases he
      cases hr : r.getLast? with
      | none => exact ⟨by simp; omega, by simp; omega⟩
      | some z => exact h9 z hr
    · rintro ⟨⟨h1, h2, h3, h4, h5, h6⟩, h7, h8, h9, h10, h11, h12⟩
      have h9' := h9 _ rfl
      refine ⟨h1, h2, h3, h4, h5, h6, ?_, ?_, ?_, h10, h11, h12⟩
      · cases hr : r.getLast? with
        | none => rw [hr] at h9'; exact h9'.1
        | some z =>
          rw [hr] at h9'
          have : z ∈ r := List.mem_of_getLast? hr
          have hz : ∀ {r : Row} {i j : Nat} {z : Nat × Nat}, Keep a b i j r → z ∈ r → i ≤ z.1 ∧ j ≤ z.2 := by
            intro r
            induction r with
            | nil => intro i j z _ h; cases h
            | cons w r ih =>
              obtain ⟨w1, w2⟩ := w
              rintro i j z ⟨g1, g2, g3, g4, g5, g6⟩ h
              rcases List.mem_cons.mp h with rfl | h
              · exact ⟨g1, g2⟩
              · have := ih g6 h
                omega
          have := hz h6 this
          simp only [Option.getD_some] at h9'
          omega
      · cases hr : r.getLast? with
        | none => rw [hr] at h9'; exact h9'.2
        | some z =>
          rw [hr] at h9'
          have : z ∈ r := List.mem_of_getLast? hr
          have hz : ∀ {r : Row} {i j : Nat} {z : Nat × Nat}, Keep a b i j r → z ∈ r → i ≤ z.1 ∧ j ≤ z.2 := by
            intro r
            induction r with
            | nil => intro i j z _ h; cases h
            | cons w r ih =>
              obtain ⟨w1, w2⟩ := w
              rintro i j z ⟨g1, g2, g3, g4, g5, g6⟩ h
              rcases List.mem_cons.mp h with rfl | h
              · exact ⟨g1, g2⟩
              · have := ih g6 h
                omega
          have := hz h6 this
          simp only [Option.getD_some] at h9'
          omega
      · intro z hz
        rw [hz] at h9'
        exact h9'
end
end K01
namespace K01
section
variable {α : Type} [DecidableEq α]
/-! ### all keepings, row by row -/
def startOf (r : Row) : Nat := match r.getLast? with | none => 0 | some e => e.2 + 1
def extOf (a b : List α) (i : Nat) (r : Row) : List Row := ((List.range (b.length - startOf r)).filter fun k => a[i]? = b[startOf r + k]?).map fun k => r ++ [(i, startOf r + k)]
def allK (a b : List α) : Nat → List Row
  | 0 => [[]]
  | i + 1 => allK a b i ++ (allK a b i).flatMap (extOf a b i)
variable {a b : List α}
theorem allK_sound : ∀ {n : Nat}, n ≤ a.length → ∀ r ∈ allK a b n, Keep a b 0 0 r ∧ ∀ e, r.getLast? = some e → e.1 < n
  | 0, _, r, h => by
    rw [allK, List.mem_singleton] at h
    subst h
    exact ⟨trivial, fun e h => by cases h⟩
  | n + 1, hn, r, h => by
    rw [allK, List.mem_append, List.mem_flatMap] at h
    rcases h with h | ⟨w, hw, h⟩
    · obtain ⟨h1, h2⟩ := allK_sound (by omega) r h
      exact ⟨h1, fun e he => by have := h2 e he; omega⟩
    · obtain ⟨h1, h2⟩ := allK_sound (by omega) w hw
      unfold extOf at h
      obtain ⟨k, hk, rfl⟩ := List.mem_map.mp h
      obtain ⟨hk1, hk2⟩ := List.mem_filter.mp hk
      have hk1 := List.mem_range.mp hk1
      refine ⟨Keep_snoc.mpr ⟨h1, Nat.zero_le _, Nat.zero_le _, ?_, by omega, by omega, of_decide_eq_true hk2⟩, ?_⟩
      · intro e he
        refine ⟨h2 e he, ?_⟩
        unfold startOf
        rw [he]
        show e.2 < e.2 + 1 + k
        omega
      · intro e he
        rw [List.getLast?_concat] at he
        cases he
        show n < n + 1
        omega
theorem allK_full : ∀ {n : Nat} {r : Row}, Keep a b 0 0 r → (∀ e, r.getLast? = some e → e.1 < n) → r ∈ allK a b n
  | 0, r, h, hl => by
    cases e : r.getLast? with
    | none =>
      have : r = [] := by simpa using e
      rw [this, allK]
      exact List.mem_singleton.mpr rfl
    | some z => have := hl z e; omega
  | n + 1, r, h, hl => by
    rw [allK, List.mem_append, List.mem_flatMap]
    cases e : r.getLast? with
    | none => exact .inl (allK_full h fun z hz => by rw [hz] at e; cases e)
    | some z =>
      by_cases c : z.1 < n
      · exact .inl (allK_full h fun z' hz => by rw [hz] at e; cases e; exact c)
      · right
        have hz := hl z e
        have e1 : r = r.dropLast ++ [z] := by
          have hne : r ≠ [] := by rintro rfl; cases e
          have := List.dropLast_concat_getLast hne
          rw [List.getLast?_eq_some_getLast hne] at e
          cases e
          exact this.symm
        obtain ⟨p, q⟩ := z
        generalize r.dropLast = w at e1
        subst e1
        obtain ⟨h1, _, _, h4, h5, h6, h7⟩ := Keep_snoc.mp h
        have hp : p = n := by dsimp only at c hz; omega
        subst hp
        refine ⟨w, allK_full h1 fun z hz => (h4 z hz).1, ?_⟩
        have hs : startOf w ≤ q := by
          unfold startOf
          cases ew : w.getLast? with
          | none => exact Nat.zero_le _
          | some z => exact (h4 z ew).2
        have hq : startOf w + (q - startOf w) = q := by omega
        refine List.mem_map.mpr ⟨q - startOf w, List.mem_filter.mpr ⟨List.mem_range.mpr (by omega), ?_⟩, ?_⟩
        · rw [hq]; exact decide_eq_true h7
        · rw [hq]
theorem allK_len : ∀ n : Nat, (allK a b n).length ≤ (b.length + 1) ^ n
  | 0 => by simp [allK]
  | n + 1 => by
    have ih := allK_len n
    rw [allK, List.length_append]
    have h1 : ∀ xs : List Row, (xs.flatMap (extOf a b n)).length ≤ xs.length * b.length := by
      intro xs
      induction xs with
      | nil => simp
      | cons x r ih =>
        rw [List.flatMap_cons, List.length_append, List.length_cons, Nat.succ_mul]
        have : (extOf a b n x).length ≤ b.length := by
          unfold extOf
          rw [List.length_map]
          refine Nat.le_trans (List.length_filter_le _ _) ?_
          rw [List.length_range]
          omega
        omega
    have h2 := h1 (allK a b n)
    have h3 : (b.length + 1) ^ (n + 1) = (b.length + 1) ^ n * b.length + (b.length + 1) ^ n := by rw [Nat.pow_succ, Nat.mul_add, Nat.mul_one]
    have h4 := Nat.mul_le_mul_right b.length ih
    omega
theorem allK_ne (n : Nat) : [] ∈ allK a b n := allK_full trivial (fun e h => by cases h)
/-- the least of all is the least keeping -/
theorem allK_min {r : Row} (h : r ∈ allK a b a.length) (hm : ∀ s ∈ allK a b a.length, ¬ Bet s r) : r = K a b 0 0 :=
  (K_eq ⟨(allK_sound (Nat.le_refl _) r h).1, fun s hs => hm s (allK_full hs fun e he => by
    have e1 : s = s.dropLast ++ [e] := by
      have hne : s ≠ [] := by rintro rfl; cases he
      have := List.dropLast_concat_getLast hne
      rw [List.getLast?_eq_some_getLast hne] at he
      cases he
      exact this.symm
    obtain ⟨p, q⟩ := e
    rw [e1] at hs
    exact (Keep_snoc.mp hs).2.2.2.2.1)⟩).symm
/-! ### the script of a keeping -/
def stepOf (a b : List α) (i j p q : Nat) : List (Nat × α) := ((a.drop i).take (p - i)).map (fun x => (0, x)) ++ ((b.drop j).take (q - j)).map (fun x => (1, x)) ++ (match a[p]? with | some x => [(2, x)] | none => [])
def scrOf (a b : List α) : Nat → Nat → Row → List (Nat × α)
  | _, _, [] => []
  | i, j, (p, q) :: r => stepOf a b i j p q ++ scrOf a b (p + 1) (q + 1) r
theorem drop_split {xs : List α} {i p : Nat} (h : i ≤ p) (hp : p < xs.length) : ∃ x, xs[p]? = some x ∧ xs.drop i = (xs.drop i).take (p - i) ++ x :: xs.drop (p + 1) := by
  refine ⟨xs[p], List.getElem?_eq_getElem hp, ?_⟩
  have h1 : xs.drop i = (xs.drop i).take (p - i) ++ (xs.drop i).drop (p - i) := (List.take_append_drop _ _).symm
  have h2 : (xs.drop i).drop (p - i) = xs.drop p := by rw [List.drop_drop]; congr 1; omega
  rw [h2, List.drop_eq_getElem_cons hp] at h1
  exact h1
theorem scr_facts : ∀ {r : Row} {i j : Nat}, Keep a b i j r → i ≤ a.length → j ≤ b.length →
    ((scrOf a b i j (r ++ [(a.length, b.length)])).filter fun x => decide (x.1 ≠ 1)).map (·.2) = a.drop i ∧
    ((scrOf a b i j (r ++ [(a.length, b.length)])).filter fun x => decide (x.1 ≠ 0)).map (·.2) = b.drop j ∧
    (scrOf a b i j (r ++ [(a.length, b.length)])).length + r.length = (a.length - i) + (b.length - j)
  | [], i, j, _, hi, hj => by
    have e1 : a[a.length]? = none := by simp
    have h1 : (a.drop i).take (a.length - i) = a.drop i := List.take_of_length_le (by simp)
    have h2 : (b.drop j).take (b.length - j) = b.drop j := List.take_of_length_le (by simp)
    have f1 : ∀ xs : List α, (List.filter (fun x : Nat × α => decide (x.1 ≠ 1)) (xs.map (fun x => (0, x)))).map (·.2) = xs := fun xs => by
      induction xs with
      | nil => rfl
      | cons x r ih => simpa using ih
    have f2 : ∀ xs : List α, (List.filter (fun x : Nat × α => decide (x.1 ≠ 1)) (xs.map (fun x => (1, x)))).map (·.2) = [] := fun xs => by
      induction xs with
      | nil => rfl
      | cons x r ih => simpa using ih
    have f3 : ∀ xs : List α, (List.filter (fun x : Nat × α => decide (x.1 ≠ 0)) (xs.map (fun x => (0, x)))).map (·.2) = [] := fun xs => by
      induction xs with
      | nil => rfl
      | cons x r ih => simpa using ih
    have f4 : ∀ xs : List α, (List.filter (fun x : Nat × α => decide (x.1 ≠ 0)) (xs.map (fun x => (1, x)))).map (·.2) = xs := fun xs => by
      induction xs with
      | nil => rfl
      | cons x r ih => simpa using ih
    simp only [List.nil_append, scrOf, stepOf, e1, h1, h2, List.append_nil, List.filter_append, List.map_append, f1, f2, f3, f4, List.length_append, List.length_map, List.length_drop, List.length_nil]
    exact ⟨trivial, trivial, by omega⟩
  | (p, q) :: r, i, j, ⟨h1, h2, h3, h4, h5, h6⟩, hi, hj => by
    obtain ⟨x, ex, dx⟩ := drop_split h1 h3
    obtain ⟨y, ey, dy⟩ := drop_split h2 h4
    have : y = x := by rw [h5, ey] at ex; cases ex; rfl
    subst this
    obtain ⟨g1, g2, g3⟩ := scr_facts h6 (by omega) (by omega)
    have f1 : ∀ xs : List α, (List.filter (fun x : Nat × α => decide (x.1 ≠ 1)) (xs.map (fun x => (0, x)))).map (·.2) = xs := fun xs => by
      induction xs with
      | nil => rfl
      | cons x r ih => simpa using ih
    have f2 : ∀ xs : List α, (List.filter (fun x : Nat × α => decide (x.1 ≠ 1)) (xs.map (fun x => (1, x)))).map (·.2) = [] := fun xs => by
      induction xs with
      | nil => rfl
      | cons x r ih => simpa using ih
    have f3 : ∀ xs : List α, (List.filter (fun x : Nat × α => decide (x.1 ≠ 0)) (xs.map (fun x => (0, x)))).map (·.2) = [] := fun xs => by
      induction xs with
      | nil => rfl
      | cons x r ih => simpa using ih
    have f4 : ∀ xs : List α, (List.filter (fun x : Nat × α => decide (x.1 ≠ 0)) (xs.map (fun x => (1, x)))).map (·.2) = xs := fun xs => by
      induction xs with
      | nil => rfl
      | cons x r ih => simpa using ih
    rw [List.cons_append, scrOf]
    have k1 : ∀ (t : List (Nat × α)), (List.filter (fun x : Nat × α => decide (x.1 ≠ 1)) (stepOf a b i j p q ++ t)).map (·.2) = (a.drop i).take (p - i) ++ y :: ((List.filter (fun x : Nat × α => decide (x.1 ≠ 1)) t).map (·.2)) := fun t => by
      unfold stepOf
      rw [ex]
      simp only [List.filter_append, List.map_append, f1, f2, List.append_nil, List.append_assoc]
      rfl
    have k2 : ∀ (t : List (Nat × α)), (List.filter (fun x : Nat × α => decide (x.1 ≠ 0)) (stepOf a b i j p q ++ t)).map (·.2) = (b.drop j).take (q - j) ++ y :: ((List.filter (fun x : Nat × α => decide (x.1 ≠ 0)) t).map (·.2)) := fun t => by
      unfold stepOf
      rw [ex]
      simp only [List.filter_append, List.map_append, f3, f4, List.nil_append, List.append_assoc]
      rfl
    refine ⟨?_, ?_, ?_⟩
    · rw [k1, g1, ← dx]
    · rw [k2, g2, ← dy]
    · rw [List.length_append, List.length_cons]
      have : (stepOf a b i j p q).length = (p - i) + (q - j) + 1 := by
        unfold stepOf
        rw [ex]
        simp only [List.length_append, List.length_map, List.length_take, List.length_drop, List.length_cons, List.length_nil]
        omega
      omega
end
end K01
namespace K01
open PySem PySem.Spec PyProof.Rows L2 DL
/-! ### the functions of the text's defs -/
def M_l_cell := runP 2 2 g_l_cell
def M_l_draws := runP 2 8 g_l_draws
def M_l_is_integer := runP 1 1 g_l_is_integer
def M_l_is : Nat → List PyData → Option PyData
  | 0 => fun _ => none
  | n + 1 => runP 2 3 (g_l_is (M_l_is n) M_l_is_integer)
def M_l_take := runI 2 4 g_l_take
def M_l_made_line := runI 1 1 (g_l_made_line M_l_take)
def M_l_made_text := runI 2 3 (g_l_made_text M_l_take M_l_made_line)
def M_l_bent_lines := runI 2 5 (g_l_bent_lines M_l_take M_l_made_line)
def M_l_keeping := runP 2 7 g_l_keeping
def M_l_all_keepings := runP 2 8 g_l_all_keepings
def M_is_begun := runP 5 6 g_is_begun
def M_most_kept := runP 2 7 g_most_kept
def M_told_keeping := runP 2 9 (g_told_keeping M_is_begun M_most_kept)
def M_told_script := runP 2 8 (g_told_script M_told_keeping)

/-- the maker of drawn things: its draws, how many were taken -/
def made (ds : List Int) (k : Nat) : PyData := .dict [(.str "draws", .list (ds.map .int)), (.str "at", .int k)]
def Good (ds : List Int) : Prop := ds.length = 60 ∧ ∀ d ∈ ds, 0 ≤ d ∧ d < 5040
theorem made_at (ds : List Int) (k : Nat) : ixD (made ds k) (.str "at") = some (.int k) := by rfl
theorem made_draws (ds : List Int) (k : Nat) : ixD (made ds k) (.str "draws") = some (.list (ds.map .int)) := by rfl
theorem made_put (ds : List Int) (k j : Nat) : putKD (made ds k) (.str "at") (.int j) = some (made ds j) := by
  show (if (2 : Nat) < sizeLine then some (PyData.dict (dputD [(.str "draws", .list (ds.map .int)), (.str "at", .int k)] (.str "at") (.int j))) else none) = _
  rw [if_pos (lt_line (by decide))]
  rfl
theorem take_ok {ds : List Int} (G : Good ds) (k : Nat) (n : Int) (hn : 0 < n) : ∃ r : Nat, (r : Int) < n ∧ M_l_take (made ds k) [.int n] = some (.int r, made ds (k + 1)) := by
  obtain ⟨hl, hd⟩ := G
  have h4 : k / 60 % 4 < 4 := Nat.mod_lt _ (by decide)
  have hk : k % 60 < ds.length := by rw [hl]; exact Nat.mod_lt _ (by decide)
  obtain ⟨dd, hdd⟩ : ∃ dd, ds[k % 60]? = some dd := ⟨_, List.getElem?_eq_getElem hk⟩
  obtain ⟨q, hq0, hq1, hq⟩ : ∃ q : Int, 0 < q ∧ q < 1000 ∧ ([.int 1, .int 7, .int 59, .int 211] : List PyData)[k / 60 % 4]? = some (.int q) := by
    have : k / 60 % 4 = 0 ∨ k / 60 % 4 = 1 ∨ k / 60 % 4 = 2 ∨ k / 60 % 4 = 3 := by omega
    rcases this with e | e | e | e <;> rw [e]
    · exact ⟨1, by decide, by decide, rfl⟩
    · exact ⟨7, by decide, by decide, rfl⟩
    · exact ⟨59, by decide, by decide, rfl⟩
    · exact ⟨211, by decide, by decide, rfl⟩
  have g0 := Int.emod_nonneg (dd / q + (k : Int) / 240) (show n ≠ 0 by omega)
  refine ⟨((dd / q + (k : Int) / 240) % n).toNat, by rw [Int.toNat_of_nonneg g0]; exact Int.emod_lt_of_pos _ hn, ?_⟩
  rw [Int.toNat_of_nonneg g0]
  show outI (g_l_take [none, some (.int n), none, none] (some (made ds k))) = _
  have L : lenD [.list (ds.map .int)] = some (.int 60) := by rw [len_map, hl]; rfl
  have e1 : ((k : Int) % 60).toNat = k % 60 := by omega
  have e2 : ((k : Int) / 60 % 4).toNat = k / 60 % 4 := by omega
  have x1 : ixD (.list (ds.map .int)) (.int ((k : Int) % 60)) = some (.int dd) := ix_lst' (by omega) (by rw [e1, List.getElem?_map, hdd]; rfl)
  have x2 : ixD (.tuple [.int 1, .int 7, .int 59, .int 211]) (.int ((k : Int) / 60 % 4)) = some (.int q) := ix_tup' (by omega) (by rw [e2]; exact hq)
  have m0 : mulD (.int 4) (.int 60) = some (.int 240) := mul_int'' (a := 10) (b := 10) (by decide) (by decide) (by decide)
  have p1 : putKD (made ds k) (.str "at") (.int ((k : Int) + 1)) = some (made ds (k + 1)) := made_put ds k (k + 1)
  refine outI_of ?_
  unfold g_l_take
  apply sq
  · apply ev_set; exact ev_ioGet ev_C (made_at ds k)
  apply sq
  · (repeat' (first | exact p1 | with_reducible exact ev_C | ((with_reducible apply ev_V); exact rfl) | with_reducible exact ev_nil | with_reducible apply ev_cons | with_reducible apply ev_op | with_reducible apply ev_un | with_reducible apply ev_call | (with_reducible apply ev_tup) | (with_reducible apply ev_lst) | exact Nat.le_of_ble_eq_true rfl | with_reducible apply ev_sset | ((with_reducible apply set_eq); exact rfl) | with_reducible exact ev_noPart | with_reducible apply ev_ret | with_reducible apply ev_T | with_reducible apply ev_not | with_reducible apply ev_notV | with_reducible apply ev_isN | with_reducible apply ev_notN | with_reducible apply ev_part | with_reducible apply ev_ioGet | with_reducible apply ev_putIo | with_reducible exact add_int _ _ | with_reducible exact sub_int' _ _ | with_reducible exact int_int _ | with_reducible exact neg_int' _ | with_reducible exact tuple_strs _ | with_reducible exact tuple_lst _ | with_reducible exact list_lst _ | with_reducible exact items_lst _ | with_reducible exact items_tup _ | with_reducible exact items_txt _ | with_reducible apply ev_items | with_reducible apply ev_rng | with_reducible apply ev_sl | with_reducible exact len_txt _ | with_reducible exact len_tup _ | with_reducible exact len_lst _ | with_reducible exact eq_int' _ _ | with_reducible exact ne_int' _ _ | with_reducible exact lt_int' _ _ | with_reducible exact gt_int' _ _ | with_reducible exact le_int' _ _ | with_reducible exact ge_int' _ _))
  apply sq
  · apply ev_set; exact ev_ioGet ev_C (made_draws ds (k + 1))
  (repeat' (first | exact L | exact x1 | exact x2 | exact m0 | exact mod_int'' (by decide) | exact mod_int'' hn | exact fdiv_int (by decide) (by decide) | exact fdiv_int hq0 (by omega) | (with_reducible rfl) | with_reducible exact ev_C | ((with_reducible apply ev_V); exact rfl) | with_reducible exact ev_nil | with_reducible apply ev_cons | with_reducible apply ev_op | with_reducible apply ev_un | with_reducible apply ev_call | (with_reducible apply ev_tup) | (with_reducible apply ev_lst) | exact Nat.le_of_ble_eq_true rfl | with_reducible apply ev_sset | ((with_reducible apply set_eq); exact rfl) | with_reducible exact ev_noPart | with_reducible apply ev_ret | with_reducible apply ev_T | with_reducible apply ev_not | with_reducible apply ev_notV | with_reducible apply ev_isN | with_reducible apply ev_notN | with_reducible apply ev_part | with_reducible apply ev_ioGet | with_reducible apply ev_putIo | with_reducible exact add_int _ _ | with_reducible exact sub_int' _ _ | with_reducible exact int_int _ | with_reducible exact neg_int' _ | with_reducible exact tuple_strs _ | with_reducible exact tuple_lst _ | with_reducible exact list_lst _ | with_reducible exact items_lst _ | with_reducible exact items_tup _ | with_reducible exact items_txt _ | with_reducible apply ev_items | with_reducible apply ev_rng | with_reducible apply ev_sl | with_reducible exact len_txt _ | with_reducible exact len_tup _ | with_reducible exact len_lst _ | with_reducible exact eq_int' _ _ | with_reducible exact ne_int' _ _ | with_reducible exact lt_int' _ _ | with_reducible exact gt_int' _ _ | with_reducible exact le_int' _ _ | with_reducible exact ge_int' _ _))

/-! ### lines, texts -/
def lines : List Str := ["a", "b", "c", "d", "a b", "", "x < y : z", "e"]
theorem line_ok {ds : List Int} (G : Good ds) (k : Nat) : ∃ x ∈ lines, M_l_made_line (made ds k) [] = some (.str x, made ds (k + 1)) := by
  obtain ⟨r, h1, e⟩ := take_ok G k 8 (by decide)
  have hr : r < lines.length := by show r < 8; omega
  obtain ⟨x, hx⟩ : ∃ x, lines[r]? = some x := ⟨_, List.getElem?_eq_getElem hr⟩
  refine ⟨x, List.mem_of_getElem? hx, ?_⟩
  have x1 : ixD (.tuple [.str "a", .str "b", .str "c", .str "d", .str "a b", .str "", .str "x < y : z", .str "e"]) (.int r) = some (.str x) := ix_txt (l := lines) hx
  show outI (g_l_made_line M_l_take [none] (some (made ds k))) = _
  refine outI_of ?_
  unfold g_l_made_line
  (repeat' (first | with_reducible apply ev_callI | with_reducible exact e | with_reducible exact x1 | with_reducible exact ev_C | ((with_reducible apply ev_V); exact rfl) | with_reducible exact ev_nil | with_reducible apply ev_cons | with_reducible apply ev_op | with_reducible apply ev_un | with_reducible apply ev_call | (with_reducible apply ev_tup) | (with_reducible apply ev_lst) | exact Nat.le_of_ble_eq_true rfl | with_reducible apply ev_sset | ((with_reducible apply set_eq); exact rfl) | with_reducible exact ev_noPart | with_reducible apply ev_ret | with_reducible apply ev_T | with_reducible apply ev_not | with_reducible apply ev_notV | with_reducible apply ev_isN | with_reducible apply ev_notN | with_reducible apply ev_part | with_reducible apply ev_ioGet | with_reducible apply ev_putIo | with_reducible exact add_int _ _ | with_reducible exact sub_int' _ _ | with_reducible exact int_int _ | with_reducible exact neg_int' _ | with_reducible exact tuple_strs _ | with_reducible exact tuple_lst _ | with_reducible exact list_lst _ | with_reducible exact items_lst _ | with_reducible exact items_tup _ | with_reducible exact items_txt _ | with_reducible apply ev_items | with_reducible apply ev_rng | with_reducible apply ev_sl | with_reducible exact len_txt _ | with_reducible exact len_tup _ | with_reducible exact len_lst _ | with_reducible exact eq_int' _ _ | with_reducible exact ne_int' _ _ | with_reducible exact lt_int' _ _ | with_reducible exact gt_int' _ _ | with_reducible exact le_int' _ _ | with_reducible exact ge_int' _ _))
/-- a text of few of the lines -/
def Txt (n : Nat) (l : List Str) : Prop := l.length ≤ n ∧ ∀ x ∈ l, x ∈ lines
/-- some draws of lines in a row -/
theorem lc_lines {ds : List Int} (G : Good ds) {ρ : DEnv} {b : BF} (hb : ∀ d ρ, ∃ ρ1, b d ρ = some ρ1) : ∀ (xs : List PyData) (k : Nat), ∃ (l : List Str) (k' : Nat), l.length = xs.length ∧ (∀ x ∈ l, x ∈ lines) ∧
    lcF b tYesF (fCallI M_l_made_line fNil) ρ xs (some (made ds k)) = some (l.map .str, some (made ds k'))
  | [], k => ⟨[], k, rfl, (fun _ z => by cases z), rfl⟩
  | d :: r, k => by
    obtain ⟨ρ1, h1⟩ := hb d ρ
    obtain ⟨x, hx, e⟩ := line_ok G k
    obtain ⟨l, k', h2, h3, h4⟩ := lc_lines G (ρ := ρ) hb r (k + 1)
    refine ⟨x :: l, k', by simp [h2], ?_, ?_⟩
    · intro y hy
      rcases List.mem_cons.mp hy with rfl | hy
      · exact hx
      · exact h3 y hy
    · rw [lcF, h1, Option.bind_some]
      show ((fCallI M_l_made_line fNil ρ1 (some (made ds k))).bind fun q => (lcF b tYesF (fCallI M_l_made_line fNil) ρ r q.2).map fun r => (q.1 :: r.1, r.2)) = _
      rw [ev_callI (ev_nil) e, Option.bind_some]
      dsimp only
      rw [h4]
      rfl
theorem text_ok {ds : List Int} (G : Good ds) (k : Nat) (n : Nat) (hn : n ≤ 100) : ∃ (l : List Str) (k' : Nat), Txt n l ∧ M_l_made_text (made ds k) [.int n] = some (txt l, made ds k') := by
  obtain ⟨r, h1, e⟩ := take_ok G k ((n : Int) + 1) (by omega)
  obtain ⟨l, k', h2, h3, h4⟩ := lc_lines G (ρ := wipeD [none, some (.int n), none] [2]) (b := bName 2) (fun d ρ => ⟨_, rfl⟩) ((List.range r).map fun k => PyData.int (k : Nat)) (k + 1)
  have hl : l.length = r := by rw [h2]; simp
  refine ⟨l, k', ⟨by omega, h3⟩, ?_⟩
  show outI (g_l_made_text M_l_take M_l_made_line [none, some (.int n), none] (some (made ds k))) = _
  refine outI_of ?_
  unfold g_l_made_text
  have hr := range1_nat (n := r) (by omega)
  (repeat' (first | with_reducible apply ev_callI | with_reducible exact e | with_reducible apply ev_lc | with_reducible exact hr | with_reducible exact ev_C | ((with_reducible apply ev_V); exact rfl) | with_reducible exact ev_nil | with_reducible apply ev_cons | with_reducible apply ev_op | with_reducible apply ev_un | with_reducible apply ev_call | (with_reducible apply ev_tup) | (with_reducible apply ev_lst) | exact Nat.le_of_ble_eq_true rfl | with_reducible apply ev_sset | ((with_reducible apply set_eq); exact rfl) | with_reducible exact ev_noPart | with_reducible apply ev_ret | with_reducible apply ev_T | with_reducible apply ev_not | with_reducible apply ev_notV | with_reducible apply ev_isN | with_reducible apply ev_notN | with_reducible apply ev_part | with_reducible apply ev_ioGet | with_reducible apply ev_putIo | with_reducible exact add_int _ _ | with_reducible exact sub_int' _ _ | with_reducible exact int_int _ | with_reducible exact neg_int' _ | with_reducible exact tuple_strs _ | with_reducible exact tuple_lst _ | with_reducible exact list_lst _ | with_reducible exact items_lst _ | with_reducible exact items_tup _ | with_reducible exact items_txt _ | with_reducible apply ev_items | with_reducible apply ev_rng | with_reducible apply ev_sl | with_reducible exact len_txt _ | with_reducible exact len_tup _ | with_reducible exact len_lst _ | with_reducible exact eq_int' _ _ | with_reducible exact ne_int' _ _ | with_reducible exact lt_int' _ _ | with_reducible exact gt_int' _ _ | with_reducible exact le_int' _ _ | with_reducible exact ge_int' _ _))
  · exact h4
  · rw [List.length_map]; omega
/-! bent lines -/
theorem bent1 {ds : List Int} (G : Good ds) (k : Nat) (n : Nat) (l : List Str) (ρ : DEnv) (h0 : ρ.length = 5) (h1 : ρ[1]? = some (some (txt l))) (hT : Txt n l) (hn : n ≤ 100) : ∃ (l' : List Str) (k' : Nat) (ρ' : DEnv), Txt (n + 1) l' ∧ ρ'.length = 5 ∧ ρ'[1]? = some (some (txt l')) ∧
    (fSeq (fSet 3 (fCallI M_l_take (fCons (fOp addD (fCall lenD (fCons (fV 1) fNil)) (fC (.int 1))) fNil)))
    (fSeq (fSet 4 (fCallI M_l_take (fCons (fC (.int 4)) fNil)))
    (fIfS (fT (fOp eqD (fV 4) (fC (.int 0))))
    (fSet 1 (fOp addD (fSl (fV 1) fNoPart (fPart (fV 3))) (fSl (fV 1) (fPart (fOp addD (fV 3) (fC (.int 1)))) fNoPart)))
    (fIfS (fT (fOp eqD (fV 4) (fC (.int 1))))
    (fSet 1 (fOp addD (fOp addD (fSl (fV 1) fNoPart (fPart (fV 3))) (fTup (fCons (fCallI M_l_made_line fNil) fNil))) (fSl (fV 1) (fPart (fOp addD (fV 3) (fC (.int 1)))) fNoPart)))
    (fSet 1 (fOp addD (fOp addD (fSl (fV 1) fNoPart (fPart (fV 3))) (fTup (fCons (fCallI M_l_made_line fNil) fNil))) (fSl (fV 1) (fPart (fV 3)) fNoPart))))))) ρ (some (made ds k)) = some (.nx ρ' (some (made ds k'))) := by
  obtain ⟨p, hp, e1⟩ := take_ok G k ((l.length : Int) + 1) (by omega)
  obtain ⟨q, hq, e2⟩ := take_ok G (k + 1) 4 (by decide)
  obtain ⟨x, hx, e3⟩ := line_ok G (k + 1 + 1)
  obtain ⟨r0, r1, r2, r3, r4, rfl⟩ : ∃ a b c d e, ρ = [a, b, c, d, e] := by
    match ρ, h0 with
    | [a, b, c, d, e], _ => exact ⟨a, b, c, d, e, rfl⟩
  cases h1
  have hp' : p ≤ l.length := by omega
  have hl := hT.1
  have mem : ∀ y, y ∈ l.take p ∨ y ∈ l.drop p ∨ y ∈ l.drop (p + 1) → y ∈ lines := fun y hy => hT.2 y (by
    rcases hy with h | h | h
    · exact List.mem_of_mem_take h
    · exact List.mem_of_mem_drop h
    · exact List.mem_of_mem_drop h)
  have s1 : slD (txt l) none (some (.ofNat p)) = some (txt (l.take p)) := sl_txt_to l p
  have s2 : slD (txt l) (some (.ofNat p)) none = some (txt (l.drop p)) := sl_txt_from l p
  have s3 : slD (txt l) (some ((p : Int) + 1)) none = some (txt (l.drop (p + 1))) := sl_txt_from l (p + 1)
  have a1 : addD (txt (l.take p)) (txt (l.drop (p + 1))) = some (txt (l.take p ++ l.drop (p + 1))) := add_txt (by rw [List.length_take, List.length_drop]; omega)
  have a2 : addD (txt (l.take p)) (.tuple [.str x]) = some (txt (l.take p ++ [x])) := add_txt (r := [x]) (by rw [List.length_take]; simp; omega)
  have a3 : addD (txt (l.take p ++ [x])) (txt (l.drop (p + 1))) = some (txt (l.take p ++ [x] ++ l.drop (p + 1))) := add_txt (by rw [List.length_append, List.length_take, List.length_drop]; simp; omega)
  have a4 : addD (txt (l.take p ++ [x])) (txt (l.drop p)) = some (txt (l.take p ++ [x] ++ l.drop p)) := add_txt (by rw [List.length_append, List.length_take, List.length_drop]; simp; omega)
  by_cases c1 : q = 0
  · subst c1
    refine ⟨l.take p ++ l.drop (p + 1), k + 1 + 1, [r0, some (txt (l.take p ++ l.drop (p + 1))), r2, some (.int p), some (.int (0 : Nat))], ⟨by rw [List.length_append, List.length_take, List.length_drop]; omega, fun y hy => mem y (by rcases List.mem_append.mp hy with h | h; exact .inl h; exact .inr (.inr h))⟩, rfl, rfl, ?_⟩
    apply sq
    · (repeat' (first | with_reducible apply ev_callI | with_reducible exact e1 | with_reducible exact ev_C | ((with_reducible apply ev_V); exact rfl) | with_reducible exact ev_nil | with_reducible apply ev_cons | with_reducible apply ev_op | with_reducible apply ev_un | with_reducible apply ev_call | (with_reducible apply ev_tup) | (with_reducible apply ev_lst) | exact Nat.le_of_ble_eq_true rfl | with_reducible apply ev_sset | ((with_reducible apply set_eq); exact rfl) | with_reducible exact ev_noPart | with_reducible apply ev_ret | with_reducible apply ev_T | with_reducible apply ev_not | with_reducible apply ev_notV | with_reducible apply ev_isN | with_reducible apply ev_notN | with_reducible apply ev_part | with_reducible apply ev_ioGet | with_reducible apply ev_putIo | with_reducible exact add_int _ _ | with_reducible exact sub_int' _ _ | with_reducible exact int_int _ | with_reducible exact neg_int' _ | with_reducible exact tuple_strs _ | with_reducible exact tuple_lst _ | with_reducible exact list_lst _ | with_reducible exact items_lst _ | with_reducible exact items_tup _ | with_reducible exact items_txt _ | with_reducible apply ev_items | with_reducible apply ev_rng | with_reducible apply ev_sl | with_reducible exact len_txt _ | with_reducible exact len_tup _ | with_reducible exact len_lst _ | with_reducible exact eq_int' _ _ | with_reducible exact ne_int' _ _ | with_reducible exact lt_int' _ _ | with_reducible exact gt_int' _ _ | with_reducible exact le_int' _ _ | with_reducible exact ge_int' _ _))
    apply sq
    · (repeat' (first | with_reducible apply ev_callI | with_reducible exact e2 | with_reducible exact ev_C | ((with_reducible apply ev_V); exact rfl) | with_reducible exact ev_nil | with_reducible apply ev_cons | with_reducible apply ev_op | with_reducible apply ev_un | with_reducible apply ev_call | (with_reducible apply ev_tup) | (with_reducible apply ev_lst) | exact Nat.le_of_ble_eq_true rfl | with_reducible apply ev_sset | ((with_reducible apply set_eq); exact rfl) | with_reducible exact ev_noPart | with_reducible apply ev_ret | with_reducible apply ev_T | with_reducible apply ev_not | with_reducible apply ev_notV | with_reducible apply ev_isN | with_reducible apply ev_notN | with_reducible apply ev_part | with_reducible apply ev_ioGet | with_reducible apply ev_putIo | with_reducible exact add_int _ _ | with_reducible exact sub_int' _ _ | with_reducible exact int_int _ | with_reducible exact neg_int' _ | with_reducible exact tuple_strs _ | with_reducible exact tuple_lst _ | with_reducible exact list_lst _ | with_reducible exact items_lst _ | with_reducible exact items_tup _ | with_reducible exact items_txt _ | with_reducible apply ev_items | with_reducible apply ev_rng | with_reducible apply ev_sl | with_reducible exact len_txt _ | with_reducible exact len_tup _ | with_reducible exact len_lst _ | with_reducible exact eq_int' _ _ | with_reducible exact ne_int' _ _ | with_reducible exact lt_int' _ _ | with_reducible exact gt_int' _ _ | with_reducible exact le_int' _ _ | with_reducible exact ge_int' _ _))
    apply ift
    · (repeat' (first | exact eq_nat 0 0 | with_reducible exact ev_C | ((with_reducible apply ev_V); exact rfl) | with_reducible exact ev_nil | with_reducible apply ev_cons | with_reducible apply ev_op | with_reducible apply ev_un | with_reducible apply ev_call | (with_reducible apply ev_tup) | (with_reducible apply ev_lst) | exact Nat.le_of_ble_eq_true rfl | with_reducible apply ev_sset | ((with_reducible apply set_eq); exact rfl) | with_reducible exact ev_noPart | with_reducible apply ev_ret | with_reducible apply ev_T | with_reducible apply ev_not | with_reducible apply ev_notV | with_reducible apply ev_isN | with_reducible apply ev_notN | with_reducible apply ev_part | with_reducible apply ev_ioGet | with_reducible apply ev_putIo | with_reducible exact add_int _ _ | with_reducible exact sub_int' _ _ | with_reducible exact int_int _ | with_reducible exact neg_int' _ | with_reducible exact tuple_strs _ | with_reducible exact tuple_lst _ | with_reducible exact list_lst _ | with_reducible exact items_lst _ | with_reducible exact items_tup _ | with_reducible exact items_txt _ | with_reducible apply ev_items | with_reducible apply ev_rng | with_reducible apply ev_sl | with_reducible exact len_txt _ | with_reducible exact len_tup _ | with_reducible exact len_lst _ | with_reducible exact eq_int' _ _ | with_reducible exact ne_int' _ _ | with_reducible exact lt_int' _ _ | with_reducible exact gt_int' _ _ | with_reducible exact le_int' _ _ | with_reducible exact ge_int' _ _))
    (repeat' (first | exact s1 | exact s3 | exact a1 | with_reducible exact ev_noPart | with_reducible exact ev_C | ((with_reducible apply ev_V); exact rfl) | with_reducible exact ev_nil | with_reducible apply ev_cons | with_reducible apply ev_op | with_reducible apply ev_un | with_reducible apply ev_call | (with_reducible apply ev_tup) | (with_reducible apply ev_lst) | exact Nat.le_of_ble_eq_true rfl | with_reducible apply ev_sset | ((with_reducible apply set_eq); exact rfl) | with_reducible exact ev_noPart | with_reducible apply ev_ret | with_reducible apply ev_T | with_reducible apply ev_not | with_reducible apply ev_notV | with_reducible apply ev_isN | with_reducible apply ev_notN | with_reducible apply ev_part | with_reducible apply ev_ioGet | with_reducible apply ev_putIo | with_reducible exact add_int _ _ | with_reducible exact sub_int' _ _ | with_reducible exact int_int _ | with_reducible exact neg_int' _ | with_reducible exact tuple_strs _ | with_reducible exact tuple_lst _ | with_reducible exact list_lst _ | with_reducible exact items_lst _ | with_reducible exact items_tup _ | with_reducible exact items_txt _ | with_reducible apply ev_items | with_reducible apply ev_rng | with_reducible apply ev_sl | with_reducible exact len_txt _ | with_reducible exact len_tup _ | with_reducible exact len_lst _ | with_reducible exact eq_int' _ _ | with_reducible exact ne_int' _ _ | with_reducible exact lt_int' _ _ | with_reducible exact gt_int' _ _ | with_reducible exact le_int' _ _ | with_reducible exact ge_int' _ _))
  · by_cases c2 : q = 1
    · subst c2
      refine ⟨l.take p ++ [x] ++ l.drop (p + 1), k + 1 + 1 + 1, [r0, some (txt (l.take p ++ [x] ++ l.drop (p + 1))), r2, some (.int p), some (.int (1 : Nat))], ⟨by rw [List.length_append, List.length_append, List.length_take, List.length_drop]; simp; omega, fun y hy => ?_⟩, rfl, rfl, ?_⟩
      · rcases List.mem_append.mp hy with h | h
        · rcases List.mem_append.mp h with h | h
          · exact mem y (.inl h)
          · rw [List.mem_singleton.mp h]; exact hx
        · exact mem y (.inr (.inr h))
      apply sq
      · (repeat' (first | with_reducible apply ev_callI | with_reducible exact e1 | with_reducible exact ev_C | ((with_reducible apply ev_V); exact rfl) | with_reducible exact ev_nil | with_reducible apply ev_cons | with_reducible apply ev_op | with_reducible apply ev_un | with_reducible apply ev_call | (with_reducible apply ev_tup) | (with_reducible apply ev_lst) | exact Nat.le_of_ble_eq_true rfl | with_reducible apply ev_sset | ((with_reducible apply set_eq); exact rfl) | with_reducible exact ev_noPart | with_reducible apply ev_ret | with_reducible apply ev_T | with_reducible apply ev_not | with_reducible apply ev_notV | with_reducible apply ev_isN | with_reducible apply ev_notN | with_reducible apply ev_part | with_reducible apply ev_ioGet | with_reducible apply ev_putIo | with_reducible exact add_int _ _ | with_reducible exact sub_int' _ _ | with_reducible exact int_int _ | with_reducible exact neg_int' _ | with_reducible exact tuple_strs _ | with_reducible exact tuple_lst _ | with_reducible exact list_lst _ | with_reducible exact items_lst _ | with_reducible exact items_tup _ | with_reducible exact items_txt _ | with_reducible apply ev_items | with_reducible apply ev_rng | with_reducible apply ev_sl | with_reducible exact len_txt _ | with_reducible exact len_tup _ | with_reducible exact len_lst _ | with_reducible exact eq_int' _ _ | with_reducible exact ne_int' _ _ | with_reducible exact lt_int' _ _ | with_reducible exact gt_int' _ _ | with_reducible exact le_int' _ _ | with_reducible exact ge_int' _ _))
      apply sq
      · (repeat' (first | with_reducible apply ev_callI | with_reducible exact e2 | with_reducible exact ev_C | ((with_reducible apply ev_V); exact rfl) | with_reducible exact ev_nil | with_reducible apply ev_cons | with_reducible apply ev_op | with_reducible apply ev_un | with_reducible apply ev_call | (with_reducible apply ev_tup) | (with_reducible apply ev_lst) | exact Nat.le_of_ble_eq_true rfl | with_reducible apply ev_sset | ((with_reducible apply set_eq); exact rfl) | with_reducible exact ev_noPart | with_reducible apply ev_ret | with_reducible apply ev_T | with_reducible apply ev_not | with_reducible apply ev_notV | with_reducible apply ev_isN | with_reducible apply ev_notN | with_reducible apply ev_part | with_reducible apply ev_ioGet | with_reducible apply ev_putIo | with_reducible exact add_int _ _ | with_reducible exact sub_int' _ _ | with_reducible exact int_int _ | with_reducible exact neg_int' _ | with_reducible exact tuple_strs _ | with_reducible exact tuple_lst _ | with_reducible exact list_lst _ | with_reducible exact items_lst _ | with_reducible exact items_tup _ | with_reducible exact items_txt _ | with_reducible apply ev_items | with_reducible apply ev_rng | with_reducible apply ev_sl | with_reducible exact len_txt _ | with_reducible exact len_tup _ | with_reducible exact len_lst _ | with_reducible exact eq_int' _ _ | with_reducible exact ne_int' _ _ | with_reducible exact lt_int' _ _ | with_reducible exact gt_int' _ _ | with_reducible exact le_int' _ _ | with_reducible exact ge_int' _ _))
      apply iff
      · (repeat' (first | exact eq_nat 1 0 | with_reducible exact ev_C | ((with_reducible apply ev_V); exact rfl) | with_reducible exact ev_nil | with_reducible apply ev_cons | with_reducible apply ev_op | with_reducible apply ev_un | with_reducible apply ev_call | (with_reducible apply ev_tup) | (with_reducible apply ev_lst) | exact Nat.le_of_ble_eq_true rfl | with_reducible apply ev_sset | ((with_reducible apply set_eq); exact rfl) | with_reducible exact ev_noPart | with_reducible apply ev_ret | with_reducible apply ev_T | with_reducible apply ev_not | with_reducible apply ev_notV | with_reducible apply ev_isN | with_reducible apply ev_notN | with_reducible apply ev_part | with_reducible apply ev_ioGet | with_reducible apply ev_putIo | with_reducible exact add_int _ _ | with_reducible exact sub_int' _ _ | with_reducible exact int_int _ | with_reducible exact neg_int' _ | with_reducible exact tuple_strs _ | with_reducible exact tuple_lst _ | with_reducible exact list_lst _ | with_reducible exact items_lst _ | with_reducible exact items_tup _ | with_reducible exact items_txt _ | with_reducible apply ev_items | with_reducible apply ev_rng | with_reducible apply ev_sl | with_reducible exact len_txt _ | with_reducible exact len_tup _ | with_reducible exact len_lst _ | with_reducible exact eq_int' _ _ | with_reducible exact ne_int' _ _ | with_reducible exact lt_int' _ _ | with_reducible exact gt_int' _ _ | with_reducible exact le_int' _ _ | with_reducible exact ge_int' _ _))
      apply ift
      · (repeat' (first | exact eq_nat 1 1 | with_reducible exact ev_C | ((with_reducible apply ev_V); exact rfl) | with_reducible exact ev_nil | with_reducible apply ev_cons | with_reducible apply ev_op | with_reducible apply ev_un | with_reducible apply ev_call | (with_reducible apply ev_tup) | (with_reducible apply ev_lst) | exact Nat.le_of_ble_eq_true rfl | with_reducible apply ev_sset | ((with_reducible apply set_eq); exact rfl) | with_reducible exact ev_noPart | with_reducible apply ev_ret | with_reducible apply ev_T | with_reducible apply ev_not | with_reducible apply ev_notV | with_reducible apply ev_isN | with_reducible apply ev_notN | with_reducible apply ev_part | with_reducible apply ev_ioGet | with_reducible apply ev_putIo | with_reducible exact add_int _ _ | with_reducible exact sub_int' _ _ | with_reducible exact int_int _ | with_reducible exact neg_int' _ | with_reducible exact tuple_strs _ | with_reducible exact tuple_lst _ | with_reducible exact list_lst _ | with_reducible exact items_lst _ | with_reducible exact items_tup _ | with_reducible exact items_txt _ | with_reducible apply ev_items | with_reducible apply ev_rng | with_reducible apply ev_sl | with_reducible exact len_txt _ | with_reducible exact len_tup _ | with_reducible exact len_lst _ | with_reducible exact eq_int' _ _ | with_reducible exact ne_int' _ _ | with_reducible exact lt_int' _ _ | with_reducible exact gt_int' _ _ | with_reducible exact le_int' _ _ | with_reducible exact ge_int' _ _))
      (repeat' (first | with_reducible apply ev_callI | with_reducible exact e3 | exact s1 | exact s3 | exact a2 | exact a3 | with_reducible exact ev_noPart | with_reducible exact ev_C | ((with_reducible apply ev_V); exact rfl) | with_reducible exact ev_nil | with_reducible apply ev_cons | with_reducible apply ev_op | with_reducible apply ev_un | with_reducible apply ev_call | (with_reducible apply ev_tup) | (with_reducible apply ev_lst) | exact Nat.le_of_ble_eq_true rfl | with_reducible apply ev_sset | ((with_reducible apply set_eq); exact rfl) | with_reducible exact ev_noPart | with_reducible apply ev_ret | with_reducible apply ev_T | with_reducible apply ev_not | with_reducible apply ev_notV | with_reducible apply ev_isN | with_reducible apply ev_notN | with_reducible apply ev_part | with_reducible apply ev_ioGet | with_reducible apply ev_putIo | with_reducible exact add_int _ _ | with_reducible exact sub_int' _ _ | with_reducible exact int_int _ | with_reducible exact neg_int' _ | with_reducible exact tuple_strs _ | with_reducible exact tuple_lst _ | with_reducible exact list_lst _ | with_reducible exact items_lst _ | with_reducible exact items_tup _ | with_reducible exact items_txt _ | with_reducible apply ev_items | with_reducible apply ev_rng | with_reducible apply ev_sl | with_reducible exact len_txt _ | with_reducible exact len_tup _ | with_reducible exact len_lst _ | with_reducible exact eq_int' _ _ | with_reducible exact ne_int' _ _ | with_reducible exact lt_int' _ _ | with_reducible exact gt_int' _ _ | with_reducible exact le_int' _ _ | with_reducible exact ge_int' _ _))
    · refine ⟨l.take p ++ [x] ++ l.drop p, k + 1 + 1 + 1, [r0, some (txt (l.take p ++ [x] ++ l.drop p)), r2, some (.int p), some (.int q)], ⟨by rw [List.length_append, List.length_append, List.length_take, List.length_drop]; simp; omega, fun y hy => ?_⟩, rfl, rfl, ?_⟩
      · rcases List.mem_append.mp hy with h | h
        · rcases List.mem_append.mp h with h | h
          · exact mem y (.inl h)
          · rw [List.mem_singleton.mp h]; exact hx
        · exact mem y (.inr (.inl h))
      apply sq
      · (repeat' (first | with_reducible apply ev_callI | with_reducible exact e1 | with_reducible exact ev_C | ((with_reducible apply ev_V); exact rfl) | with_reducible exact ev_nil | with_reducible apply ev_cons | with_reducible apply ev_op | with_reducible apply ev_un | with_reducible apply ev_call | (with_reducible apply ev_tup) | (with_reducible apply ev_lst) | exact Nat.le_of_ble_eq_true rfl | with_reducible apply ev_sset | ((with_reducible apply set_eq); exact rfl) | with_reducible exact ev_noPart | with_reducible apply ev_ret | with_reducible apply ev_T | with_reducible apply ev_not | with_reducible apply ev_notV | with_reducible apply ev_isN | with_reducible apply ev_notN | with_reducible apply ev_part | with_reducible apply ev_ioGet | with_reducible apply ev_putIo | with_reducible exact add_int _ _ | with_reducible exact sub_int' _ _ | with_reducible exact int_int _ | with_reducible exact neg_int' _ | with_reducible exact tuple_strs _ | with_reducible exact tuple_lst _ | with_reducible exact list_lst _ | with_reducible exact items_lst _ | with_reducible exact items_tup _ | with_reducible exact items_txt _ | with_reducible apply ev_items | with_reducible apply ev_rng | with_reducible apply ev_sl | with_reducible exact len_txt _ | with_reducible exact len_tup _ | with_reducible exact len_lst _ | with_reducible exact eq_int' _ _ | with_reducible exact ne_int' _ _ | with_reducible exact lt_int' _ _ | with_reducible exact gt_int' _ _ | with_reducible exact le_int' _ _ | with_reducible exact ge_int' _ _))
      apply sq
      · (repeat' (first | with_reducible apply ev_callI | with_reducible exact e2 | with_reducible exact ev_C | ((with_reducible apply ev_V); exact rfl) | with_reducible exact ev_nil | with_reducible apply ev_cons | with_reducible apply ev_op | with_reducible apply ev_un | with_reducible apply ev_call | (with_reducible apply ev_tup) | (with_reducible apply ev_lst) | exact Nat.le_of_ble_eq_true rfl | with_reducible apply ev_sset | ((with_reducible apply set_eq); exact rfl) | with_reducible exact ev_noPart | with_reducible apply ev_ret | with_reducible apply ev_T | with_reducible apply ev_not | with_reducible apply ev_notV | with_reducible apply ev_isN | with_reducible apply ev_notN | with_reducible apply ev_part | with_reducible apply ev_ioGet | with_reducible apply ev_putIo | with_reducible exact add_int _ _ | with_reducible exact sub_int' _ _ | with_reducible exact int_int _ | with_reducible exact neg_int' _ | with_reducible exact tuple_strs _ | with_reducible exact tuple_lst _ | with_reducible exact list_lst _ | with_reducible exact items_lst _ | with_reducible exact items_tup _ | with_reducible exact items_txt _ | with_reducible apply ev_items | with_reducible apply ev_rng | with_reducible apply ev_sl | with_reducible exact len_txt _ | with_reducible exact len_tup _ | with_reducible exact len_lst _ | with_reducible exact eq_int' _ _ | with_reducible exact ne_int' _ _ | with_reducible exact lt_int' _ _ | with_reducible exact gt_int' _ _ | with_reducible exact le_int' _ _ | with_reducible exact ge_int' _ _))
      have z1 : eqD (.int q) (.int 0) = some (.bool false) := by rw [show (.int 0 : PyData) = .int (0 : Nat) from rfl, eq_nat, decide_eq_false c1]
      have z2 : eqD (.int q) (.int 1) = some (.bool false) := by rw [show (.int 1 : PyData) = .int (1 : Nat) from rfl, eq_nat, decide_eq_false c2]
      apply iff
      · (repeat' (first | exact z1 | with_reducible exact ev_C | ((with_reducible apply ev_V); exact rfl) | with_reducible exact ev_nil | with_reducible apply ev_cons | with_reducible apply ev_op | with_reducible apply ev_un | with_reducible apply ev_call | (with_reducible apply ev_tup) | (with_reducible apply ev_lst) | exact Nat.le_of_ble_eq_true rfl | with_reducible apply ev_sset | ((with_reducible apply set_eq); exact rfl) | with_reducible exact ev_noPart | with_reducible apply ev_ret | with_reducible apply ev_T | with_reducible apply ev_not | with_reducible apply ev_notV | with_reducible apply ev_isN | with_reducible apply ev_notN | with_reducible apply ev_part | with_reducible apply ev_ioGet | with_reducible apply ev_putIo | with_reducible exact add_int _ _ | with_reducible exact sub_int' _ _ | with_reducible exact int_int _ | with_reducible exact neg_int' _ | with_reducible exact tuple_strs _ | with_reducible exact tuple_lst _ | with_reducible exact list_lst _ | with_reducible exact items_lst _ | with_reducible exact items_tup _ | with_reducible exact items_txt _ | with_reducible apply ev_items | with_reducible apply ev_rng | with_reducible apply ev_sl | with_reducible exact len_txt _ | with_reducible exact len_tup _ | with_reducible exact len_lst _ | with_reducible exact eq_int' _ _ | with_reducible exact ne_int' _ _ | with_reducible exact lt_int' _ _ | with_reducible exact gt_int' _ _ | with_reducible exact le_int' _ _ | with_reducible exact ge_int' _ _))
      apply iff
      · (repeat' (first | exact z2 | with_reducible exact ev_C | ((with_reducible apply ev_V); exact rfl) | with_reducible exact ev_nil | with_reducible apply ev_cons | with_reducible apply ev_op | with_reducible apply ev_un | with_reducible apply ev_call | (with_reducible apply ev_tup) | (with_reducible apply ev_lst) | exact Nat.le_of_ble_eq_true rfl | with_reducible apply ev_sset | ((with_reducible apply set_eq); exact rfl) | with_reducible exact ev_noPart | with_reducible apply ev_ret | with_reducible apply ev_T | with_reducible apply ev_not | with_reducible apply ev_notV | with_reducible apply ev_isN | with_reducible apply ev_notN | with_reducible apply ev_part | with_reducible apply ev_ioGet | with_reducible apply ev_putIo | with_reducible exact add_int _ _ | with_reducible exact sub_int' _ _ | with_reducible exact int_int _ | with_reducible exact neg_int' _ | with_reducible exact tuple_strs _ | with_reducible exact tuple_lst _ | with_reducible exact list_lst _ | with_reducible exact items_lst _ | with_reducible exact items_tup _ | with_reducible exact items_txt _ | with_reducible apply ev_items | with_reducible apply ev_rng | with_reducible apply ev_sl | with_reducible exact len_txt _ | with_reducible exact len_tup _ | with_reducible exact len_lst _ | with_reducible exact eq_int' _ _ | with_reducible exact ne_int' _ _ | with_reducible exact lt_int' _ _ | with_reducible exact gt_int' _ _ | with_reducible exact le_int' _ _ | with_reducible exact ge_int' _ _))
      (repeat' (first | with_reducible apply ev_callI | with_reducible exact e3 | exact s1 | exact s2 | exact a2 | exact a4 | with_reducible exact ev_noPart | with_reducible exact ev_C | ((with_reducible apply ev_V); exact rfl) | with_reducible exact ev_nil | with_reducible apply ev_cons | with_reducible apply ev_op | with_reducible apply ev_un | with_reducible apply ev_call | (with_reducible apply ev_tup) | (with_reducible apply ev_lst) | exact Nat.le_of_ble_eq_true rfl | with_reducible apply ev_sset | ((with_reducible apply set_eq); exact rfl) | with_reducible exact ev_noPart | with_reducible apply ev_ret | with_reducible apply ev_T | with_reducible apply ev_not | with_reducible apply ev_notV | with_reducible apply ev_isN | with_reducible apply ev_notN | with_reducible apply ev_part | with_reducible apply ev_ioGet | with_reducible apply ev_putIo | with_reducible exact add_int _ _ | with_reducible exact sub_int' _ _ | with_reducible exact int_int _ | with_reducible exact neg_int' _ | with_reducible exact tuple_strs _ | with_reducible exact tuple_lst _ | with_reducible exact list_lst _ | with_reducible exact items_lst _ | with_reducible exact items_tup _ | with_reducible exact items_txt _ | with_reducible apply ev_items | with_reducible apply ev_rng | with_reducible apply ev_sl | with_reducible exact len_txt _ | with_reducible exact len_tup _ | with_reducible exact len_lst _ | with_reducible exact eq_int' _ _ | with_reducible exact ne_int' _ _ | with_reducible exact lt_int' _ _ | with_reducible exact gt_int' _ _ | with_reducible exact le_int' _ _ | with_reducible exact ge_int' _ _))
theorem bent_ok {ds : List Int} (G : Good ds) (k : Nat) (n : Nat) (l : List Str) (hT : Txt n l) (hn : n ≤ 50) : ∃ (l' : List Str) (k' : Nat), Txt (n + 3) l' ∧ M_l_bent_lines (made ds k) [txt l] = some (txt l', made ds k') := by
  obtain ⟨r, h1, e⟩ := take_ok G k 3 (by decide)
  obtain ⟨ρ', m', h4, ⟨l', k', h5, h6, h7, h8⟩⟩ := for_up (s := fSeq (fSet 3 (fCallI M_l_take (fCons (fOp addD (fCall lenD (fCons (fV 1) fNil)) (fC (.int 1))) fNil)))
    (fSeq (fSet 4 (fCallI M_l_take (fCons (fC (.int 4)) fNil)))
    (fIfS (fT (fOp eqD (fV 4) (fC (.int 0))))
    (fSet 1 (fOp addD (fSl (fV 1) fNoPart (fPart (fV 3))) (fSl (fV 1) (fPart (fOp addD (fV 3) (fC (.int 1)))) fNoPart)))
    (fIfS (fT (fOp eqD (fV 4) (fC (.int 1))))
    (fSet 1 (fOp addD (fOp addD (fSl (fV 1) fNoPart (fPart (fV 3))) (fTup (fCons (fCallI M_l_made_line fNil) fNil))) (fSl (fV 1) (fPart (fOp addD (fV 3) (fC (.int 1)))) fNoPart)))
    (fSet 1 (fOp addD (fOp addD (fSl (fV 1) fNoPart (fPart (fV 3))) (fTup (fCons (fCallI M_l_made_line fNil) fNil))) (fSl (fV 1) (fPart (fV 3)) fNoPart))))))) (b := bName 2) (1 + r) (fun k => PyData.int (k : Nat))
    (fun i ρ m => ∃ (l' : List Str) (k' : Nat), Txt (n + i) l' ∧ ρ.length = 5 ∧ ρ[1]? = some (some (txt l')) ∧ m = some (made ds k'))
    (ρ := [none, some (txt l), none, none, none]) (m := some (made ds (k + 1))) ⟨l, k + 1, hT, rfl, rfl, rfl⟩ (by
      rintro i ρ m hi ⟨l1, k1, g1, g2, g3, rfl⟩
      obtain ⟨l2, k2, ρ2, j1, j2, j3, j4⟩ := bent1 G k1 (n + i) l1 (ρ.set 2 (some (.int i))) (by rw [List.length_set]; exact g2) (by rw [List.getElem?_set_ne (by decide)]; exact g3) g1 (by omega)
      exact ⟨ρ.set 2 (some (.int i)), ρ2, _, rfl, j4, l2, k2, j1, j2, j3, rfl⟩)
  refine ⟨l', k', ⟨by have := h5.1; omega, h5.2⟩, ?_⟩
  show outI (g_l_bent_lines M_l_take M_l_made_line [none, some (txt l), none, none, none] (some (made ds k))) = _
  refine outI_of ?_
  unfold g_l_bent_lines
  subst h8
  have hr : range1D [.int (1 + (r : Int))] = some ((List.range (1 + r)).map fun k => PyData.int (k : Nat)) := range1_nat (n := 1 + r) (by omega)
  apply sq
  · apply fo
    · (repeat' (first | with_reducible apply ev_callI | with_reducible exact e | with_reducible exact hr | with_reducible exact ev_C | ((with_reducible apply ev_V); exact rfl) | with_reducible exact ev_nil | with_reducible apply ev_cons | with_reducible apply ev_op | with_reducible apply ev_un | with_reducible apply ev_call | (with_reducible apply ev_tup) | (with_reducible apply ev_lst) | exact Nat.le_of_ble_eq_true rfl | with_reducible apply ev_sset | ((with_reducible apply set_eq); exact rfl) | with_reducible exact ev_noPart | with_reducible apply ev_ret | with_reducible apply ev_T | with_reducible apply ev_not | with_reducible apply ev_notV | with_reducible apply ev_isN | with_reducible apply ev_notN | with_reducible apply ev_part | with_reducible apply ev_ioGet | with_reducible apply ev_putIo | with_reducible exact add_int _ _ | with_reducible exact sub_int' _ _ | with_reducible exact int_int _ | with_reducible exact neg_int' _ | with_reducible exact tuple_strs _ | with_reducible exact tuple_lst _ | with_reducible exact list_lst _ | with_reducible exact items_lst _ | with_reducible exact items_tup _ | with_reducible exact items_txt _ | with_reducible apply ev_items | with_reducible apply ev_rng | with_reducible apply ev_sl | with_reducible exact len_txt _ | with_reducible exact len_tup _ | with_reducible exact len_lst _ | with_reducible exact eq_int' _ _ | with_reducible exact ne_int' _ _ | with_reducible exact lt_int' _ _ | with_reducible exact gt_int' _ _ | with_reducible exact le_int' _ _ | with_reducible exact ge_int' _ _))
    · exact h4
  · exact ev_ret (ev_V h7)
end K01
namespace K01
open PySem PySem.Spec PyProof.Rows L2 DL
/-! ### rows as data -/
def pr (p : Nat × Nat) : PyData := .tuple [.int (p.1 : Nat), .int (p.2 : Nat)]
def kp (r : Row) : PyData := .tuple (r.map pr)
def lp (r : Row) : PyData := .tuple [.int (0 - (r.length : Nat)), kp r]
theorem pr_eqv (p q : Nat × Nat) : PyData.eqv (pr p) (pr q) = decide (p = q) := by
  obtain ⟨a, b⟩ := p
  obtain ⟨c, d⟩ := q
  simp only [pr, PyData.eqv, PyData.eqvAll, Bool.and_true]
  by_cases h : a = c <;> by_cases k : b = d <;> simp [h, k] <;> omega
theorem kp_eqv' : ∀ r s : Row, PyData.eqvAll (r.map pr) (s.map pr) = decide (r = s)
  | [], [] => by simp [PyData.eqvAll]
  | [], _ :: _ => by simp [PyData.eqvAll]
  | _ :: _, [] => by simp [PyData.eqvAll]
  | p :: r, q :: s => by
    rw [List.map_cons, List.map_cons, PyData.eqvAll, pr_eqv, kp_eqv' r s]
    by_cases h : p = q <;> by_cases k : r = s <;> simp [h, k]
theorem kp_eqv (r s : Row) : PyData.eqv (kp r) (kp s) = decide (r = s) := by
  unfold kp
  rw [PyData.eqv]
  exact kp_eqv' r s
theorem pr_alike (p q : Nat × Nat) : PySem.W.alike (pr p) (pr q) = true := by simp [pr, PySem.W.alike, PySem.W.alikeAll]
theorem kp_alike' : ∀ r s : Row, PySem.W.alikeAll (r.map pr) (s.map pr) = true
  | [], _ => by simp [PySem.W.alikeAll]
  | _ :: _, [] => by simp [PySem.W.alikeAll]
  | p :: r, q :: s => by rw [List.map_cons, List.map_cons, PySem.W.alikeAll, pr_alike, kp_alike' r s]; rfl
theorem kp_alike (r s : Row) : PySem.W.alike (kp r) (kp s) = true := by unfold kp; rw [PySem.W.alike]; exact kp_alike' r s
theorem kp_lt' : ∀ r s : Row, PyProof.Rows.lexLt PyProof.Rows.itemOrd (PySem.W.keyToksAll (r.map pr)) (PySem.W.keyToksAll (s.map pr)) = rLt r s
  | [], [] => PyProof.Rows.lex_irrefl _
  | [], q :: s => by
    rw [List.map_cons, PySem.W.toks_all_cons]
    simp only [List.map_nil, PySem.W.keyToksAll]
    rw [PyProof.Rows.lex_diff (O := PyProof.Rows.itemOrd) (by simp)]
    rfl
  | p :: r, [] => by
    rw [List.map_cons, PySem.W.toks_all_cons]
    simp only [List.map_nil, PySem.W.keyToksAll]
    rw [PyProof.Rows.lex_diff (O := PyProof.Rows.itemOrd) (by simp)]
    rfl
  | p :: r, q :: s => by
    rw [List.map_cons, List.map_cons, PySem.W.dataLt_cons (pr_alike p q), pr_eqv, kp_lt' r s, rLt]
    by_cases c : p = q
    · rw [if_pos (decide_eq_true c), if_pos c]
    · rw [if_neg (by simp [c]), if_neg c]
      unfold pr pLt
      rw [PySem.W.dataLt_ii]
      exact decide_eq_decide.mpr (by omega)
theorem lp_lt (r s : Row) : PySem.W.dataLt (lp r) (lp s) = true ↔ Bet r s := by
  unfold lp
  rw [PySem.W.dataLt_pair (by simp [PySem.W.alike]) (kp_alike r s), PySem.W.dataLt_int, kp_eqv]
  have e : PySem.W.dataLt (kp r) (kp s) = rLt r s := by unfold kp; rw [PySem.W.dataLt_tuple]; exact kp_lt' r s
  have e2 : PyData.eqv (.int (0 - (r.length : Nat))) (.int (0 - (s.length : Nat))) = decide (r.length = s.length) := by
    rw [PyData.eqv]
    by_cases h : r.length = s.length
    · simp [h]
    · simp [h]; omega
  rw [e, e2]
  unfold Bet
  by_cases h : r.length = s.length
  · rw [if_pos (decide_eq_true h)]
    by_cases k : r = s
    · subst k
      simp [rLt_irr]
    · rw [if_neg (by simp [k])]
      constructor
      · intro z; exact .inr ⟨h, z⟩
      · rintro (z | z)
        · omega
        · exact z.2
  · rw [if_neg (by simp [h])]
    simp only [decide_eq_true_eq]
    constructor
    · intro k; exact .inl (by omega)
    · rintro (k | k)
      · omega
      · exact absurd k.1 h
theorem kp_plain' : ∀ r : Row, plainAll (r.map pr) = true
  | [] => by simp [plainAll]
  | p :: r => by rw [List.map_cons, plainAll, kp_plain' r]; simp [pr, DL.plain, plainAll]
theorem kp_depth' : ∀ r : Row, PyData.depthAll (r.map pr) ≤ 5
  | [] => by simp [PyData.depthAll]
  | p :: r => by
    have := kp_depth' r
    rw [List.map_cons, PyData.depthAll]
    have e : (pr p).depth ≤ 3 := by simp [pr, PyData.depth, PyData.depthAll]
    omega
theorem lp_plain (r : Row) : DL.plain (lp r) = true := by
  have := kp_plain' r
  simp [lp, kp, DL.plain, plainAll, this]
theorem lp_depth (r : Row) : (lp r).depth ≤ 60 := by
  have := kp_depth' r
  simp only [lp, kp, PyData.depth, PyData.depthAll]
  omega
theorem lp_min (xs : List Row) (h : xs ≠ []) : ∃ r ∈ xs, minLD [.list (xs.map lp)] = some (lp r) ∧ ∀ s ∈ xs, ¬ Bet s r :=
  min_spec lp Bet lp_lt Bet_irr Bet_trans nBet_trans lp_plain lp_depth (fun _ h => by cases h) (fun r s => by
    have := kp_alike r s
    simp [lp, PySem.W.alike, PySem.W.alikeAll, this]) xs h
theorem lp_ix (r : Row) : ixD (lp r) (.int 1) = some (kp r) := ix_tup' (by decide) rfl
theorem len_kp (r : Row) : lenD [kp r] = some (.int (r.length : Nat)) := len_mapT pr r
theorem add_kp {r s : Row} (h : r.length + s.length ≤ 16777216) : addD (kp r) (kp s) = some (kp (r ++ s)) := add_mapT h
/-! ### equal lines -/
theorem eq_line {x y : Str} (hx : x ∈ lines) (hy : y ∈ lines) : eqD (.str x) (.str y) = some (.bool (decide (x = y))) := by
  have h : ∀ z ∈ lines, PyData.strOk z = true := by decide +kernel
  unfold eqD
  rw [if_pos (by simp [DL.plain, SeqAt.shaped, PyData.canLay0, PyData.depth, h x hx, h y hy])]
  simp only [PyData.eqv]
  rfl
/-- the two texts, of few lines -/
structure Pair (a b : List Str) : Prop where
  la : a.length ≤ 7
  lb : b.length ≤ 7
  ma : ∀ x ∈ a, x ∈ lines
  mb : ∀ x ∈ b, x ∈ lines
theorem Pair.eq {a b : List Str} (P : Pair a b) {i j : Nat} {x y : Str} (h1 : a[i]? = some x) (h2 : b[j]? = some y) : eqD (.str x) (.str y) = some (.bool (decide (a[i]? = b[j]?))) := by
  rw [eq_line (P.ma _ (List.mem_of_getElem? h1)) (P.mb _ (List.mem_of_getElem? h2)), h1, h2]
  congr 2
  simp
/-! ### the table -/
def trow (m : Nat) (g : Nat → Nat) : PyData := .list ((List.range (m + 1)).map fun j => .int (g j : Nat))
def tab (n m : Nat) (f : Nat → Nat → Nat) : PyData := .list ((List.range (n + 1)).map fun i => trow m (f i))
theorem tab_ix {n m i : Nat} {f : Nat → Nat → Nat} (h : i ≤ n) : ixD (tab n m f) (.int i) = some (trow m (f i)) := ix_map (e := fun i => trow m (f i)) (List.getElem?_range (by omega))
theorem trow_ix {m j : Nat} {g : Nat → Nat} (h : j ≤ m) : ixD (trow m g) (.int j) = some (.int (g j : Nat)) := ix_map (e := fun j => PyData.int (g j : Nat)) (List.getElem?_range (by omega))
theorem trow_congr {m : Nat} {g g' : Nat → Nat} (h : ∀ j, j ≤ m → g j = g' j) : trow m g = trow m g' := by
  unfold trow
  congr 1
  apply List.map_congr_left
  intro j hj
  rw [h j (by have := List.mem_range.mp hj; omega)]
theorem tab_congr {n m : Nat} {f g : Nat → Nat → Nat} (h : ∀ i j, i ≤ n → j ≤ m → f i j = g i j) : tab n m f = tab n m g := by
  unfold tab
  congr 1
  apply List.map_congr_left
  intro i hi
  exact trow_congr fun j hj => h i j (by have := List.mem_range.mp hi; omega) hj
def put2 (f : Nat → Nat → Nat) (i j v : Nat) : Nat → Nat → Nat := fun i' j' => if i' = i ∧ j' = j then v else f i' j'
theorem range_set {α : Type} {n k : Nat} (e : Nat → α) (v : α) : ((List.range n).map e).set k v = (List.range n).map fun i => if i = k then v else e i := by
  refine List.ext_getElem (by simp) fun i h1 h2 => ?_
  rw [List.getElem_set]
  simp only [List.getElem_map, List.getElem_range]
  by_cases h : k = i
  · rw [if_pos h, if_pos h.symm]
  · rw [if_neg h, if_neg (Ne.symm h)]
theorem tab_set {n m i j v : Nat} {f : Nat → Nat → Nat} (hi : i ≤ n) (hj : j ≤ m) : set2D (tab n m f) (.int i) (.int j) (.int v) = some (tab n m (put2 f i j v)) := by
  have e1 : ∀ l k : Nat, k < l → ixN l (k : Int) = some k := fun l k h => by
    unfold ixN
    rw [if_pos (by omega), if_pos (by omega)]
    rfl
  have e2 : ((List.range (n + 1)).map fun i => trow m (f i))[i]? = some (.list ((List.range (m + 1)).map fun j => .int (f i j : Nat))) := by
    rw [List.getElem?_map, List.getElem?_range (by omega)]; rfl
  unfold set2D tab
  dsimp only
  rw [e1 _ _ (by simp; omega), Option.bind_some, e2]
  dsimp only
  rw [e1 _ _ (by simp; omega), Option.map_some, range_set, range_set]
  congr 2
  apply List.map_congr_left
  intro i' _
  by_cases c : i' = i
  · subst c
    rw [if_pos rfl]
    unfold trow
    congr 1
    apply List.map_congr_left
    intro j' _
    unfold put2
    by_cases d : j' = j
    · rw [if_pos d, if_pos ⟨rfl, d⟩]
    · rw [if_neg d, if_neg (fun z => d z.2)]
  · rw [if_neg c]
    exact trow_congr fun j' _ => by unfold put2; rw [if_neg (fun z => c z.1)]
end K01
namespace K01
open PySem PySem.Spec PyProof.Rows L2 DL
section
variable {a b : List Str}
theorem ix_ok {a : List Str} {i : Nat} (h : i < a.length) : ∃ x, a[i]? = some x ∧ ixD (txt a) (.int i) = some (.str x) :=
  ⟨a[i], List.getElem?_eq_getElem h, ix_txt (List.getElem?_eq_getElem h)⟩
/-! ### most_kept -/
theorem repl_zero : ∀ k : Nat, (List.replicate k [PyData.int 0]).flatten = (List.range k).map fun _ => PyData.int ((0 : Nat) : Int)
  | 0 => rfl
  | k + 1 => by
    rw [List.replicate_succ', List.range_succ, List.map_append, List.flatten_append, repl_zero k]
    rfl
theorem most_ok (P : Pair a b) : M_most_kept [txt a, txt b] = some (tab a.length b.length (L a b)) := by
  have hn := P.la
  have hm := P.lb
  have r1 : range1D [.int ((a.length : Nat) + 1)] = some ((List.range (a.length + 1)).map fun k => PyData.int (k : Nat)) := range1_nat (n := a.length + 1) (by omega)
  have rp : repLD (.list [.int 0]) (.int ((b.length : Nat) + 1)) = some (trow b.length fun _ => 0) := by
    have e : ((b.length : Int) + 1).toNat = b.length + 1 := by omega
    unfold repLD
    dsimp only
    rw [e, if_pos (by rw [decide_eq_true (by omega : -(2 ^ 63) ≤ ((b.length : Int) + 1)), decide_eq_true (by omega : ((b.length : Int) + 1) < 2 ^ 63), szOk_le (by simp; omega)]; rfl)]
    rw [repl_zero]
    rfl
  have lc : ∀ ρ : DEnv, ρ.length = 7 → ρ[1]? = some (some (txt b)) → lcF (bName 6) tYesF (fOp repLD (fLst (fCons (fC (.int 0)) fNil)) (fOp addD (fCall lenD (fCons (fV 1) fNil)) (fC (.int 1)))) ρ ((List.range (a.length + 1)).map fun k => PyData.int (k : Nat)) none = some ((List.range (a.length + 1)).map fun _ => trow b.length fun _ => 0, none) := fun ρ h0 h1 =>
    lc_mapA (fun k : Nat => PyData.int (k : Nat)) (fun _ => trow b.length fun _ => 0) none _ fun k _ => ⟨ρ.set 6 (some (.int k)), rfl, by
      have h2 : (ρ.set 6 (some (.int k)))[1]? = some (some (txt b)) := by rw [List.getElem?_set_ne (by decide)]; exact h1
      (repeat' (first | with_reducible exact ev_V h2 | with_reducible exact rp | with_reducible exact ev_C | ((with_reducible apply ev_V); exact rfl) | with_reducible exact ev_nil | with_reducible apply ev_cons | with_reducible apply ev_op | with_reducible apply ev_un | with_reducible apply ev_call | (with_reducible apply ev_tup) | (with_reducible apply ev_lst) | exact Nat.le_of_ble_eq_true rfl | with_reducible apply ev_sset | ((with_reducible apply set_eq); first | (simp only [List.set_cons_succ, List.set_cons_zero]; done) | (simp only [List.set_cons_succ, List.set_cons_zero]; exact rfl) | exact rfl) | with_reducible exact ev_noPart | with_reducible apply ev_ret | with_reducible apply ev_T | with_reducible apply ev_not | with_reducible apply ev_notV | with_reducible apply ev_isN | with_reducible apply ev_notN | with_reducible apply ev_part | with_reducible apply ev_ioGet | with_reducible apply ev_putIo | with_reducible exact add_int _ _ | with_reducible exact sub_int' _ _ | with_reducible exact int_int _ | with_reducible exact neg_int' _ | with_reducible exact tuple_strs _ | with_reducible exact tuple_lst _ | with_reducible exact list_lst _ | with_reducible exact items_lst _ | with_reducible exact items_tup _ | with_reducible exact items_txt _ | with_reducible apply ev_items | with_reducible apply ev_rng | with_reducible apply ev_sl | with_reducible exact len_txt _ | with_reducible exact len_tup _ | with_reducible exact len_lst _ | with_reducible exact eq_int' _ _ | with_reducible exact ne_int' _ _ | with_reducible exact lt_int' _ _ | with_reducible exact gt_int' _ _ | with_reducible exact le_int' _ _ | with_reducible exact ge_int' _ _))⟩
  obtain ⟨ρ', m', h1, ⟨f, r3, r4, r5, r6, rfl, rfl, hf⟩⟩ := for_down (b := bName 3) (s := fFor (fRng range3D (fCons (fOp subD (fCall lenD (fCons (fV 1) fNil)) (fC (.int 1))) (fCons (fUn negD (fC (.int 1))) (fCons (fUn negD (fC (.int 1))) fNil)))) (bName 4)
    (fSeq (fSet 5 (fCall max2D (fCons (fOp ixD (fOp ixD (fV 2) (fOp addD (fV 3) (fC (.int 1)))) (fV 4)) (fCons (fOp ixD (fOp ixD (fV 2) (fV 3)) (fOp addD (fV 4) (fC (.int 1)))) fNil))))
    (fSet2 2 (fV 3) (fV 4) (fIf (fT (fOp eqD (fOp ixD (fV 0) (fV 3)) (fOp ixD (fV 1) (fV 4)))) (fCall max2D (fCons (fV 5) (fCons (fOp addD (fC (.int 1)) (fOp ixD (fOp ixD (fV 2) (fOp addD (fV 3) (fC (.int 1)))) (fOp addD (fV 4) (fC (.int 1))))) fNil))) (fV 5)))))
    a.length (fun k => PyData.int (k : Nat)) (fun i ρ m => ∃ f r3 r4 r5 r6, ρ = [some (txt a), some (txt b), some (tab a.length b.length f), r3, r4, r5, r6] ∧ m = none ∧ ∀ i' j', i' ≤ a.length → j' ≤ b.length → (i ≤ i' ∨ j' = b.length) → f i' j' = L a b i' j')
    (ρ := [some (txt a), some (txt b), some (tab a.length b.length fun _ _ => 0), none, none, none, none]) (m := none)
    ⟨fun _ _ => 0, none, none, none, none, rfl, rfl, fun i' j' h1 h2 h3 => (L_edge (by omega)).symm⟩ (by
      rintro i ρ m hi ⟨f, r3, r4, r5, r6, rfl, rfl, hf⟩
      obtain ⟨x, ex, ix⟩ := ix_ok hi
      obtain ⟨ρ', m', h1, ⟨f', s4, s5, s6, rfl, rfl, hf'⟩⟩ := for_down (b := bName 4) (s := (fSeq (fSet 5 (fCall max2D (fCons (fOp ixD (fOp ixD (fV 2) (fOp addD (fV 3) (fC (.int 1)))) (fV 4)) (fCons (fOp ixD (fOp ixD (fV 2) (fV 3)) (fOp addD (fV 4) (fC (.int 1)))) fNil))))
        (fSet2 2 (fV 3) (fV 4) (fIf (fT (fOp eqD (fOp ixD (fV 0) (fV 3)) (fOp ixD (fV 1) (fV 4)))) (fCall max2D (fCons (fV 5) (fCons (fOp addD (fC (.int 1)) (fOp ixD (fOp ixD (fV 2) (fOp addD (fV 3) (fC (.int 1)))) (fOp addD (fV 4) (fC (.int 1))))) fNil))) (fV 5)))))
        b.length (fun k => PyData.int (k : Nat)) (fun j ρ m => ∃ f r4 r5 r6, ρ = [some (txt a), some (txt b), some (tab a.length b.length f), some (.int (i : Nat)), r4, r5, r6] ∧ m = none ∧ ∀ i' j', i' ≤ a.length → j' ≤ b.length → (i + 1 ≤ i' ∨ (i' = i ∧ j ≤ j') ∨ j' = b.length) → f i' j' = L a b i' j')
        (ρ := [some (txt a), some (txt b), some (tab a.length b.length f), some (.int (i : Nat)), r4, r5, r6]) (m := none)
        ⟨f, r4, r5, r6, rfl, rfl, fun i' j' h1 h2 h3 => hf i' j' h1 h2 (by omega)⟩ (by
          rintro j ρ m hj ⟨f, r4, r5, r6, rfl, rfl, hf⟩
          obtain ⟨y, ey, iy⟩ := ix_ok hj
          have t1 : ixD (tab a.length b.length f) (.int ((i : Nat) + 1)) = some (trow b.length (f (i + 1))) := tab_ix (i := i + 1) (by omega)
          have t2 : ixD (tab a.length b.length f) (.int (i : Nat)) = some (trow b.length (f i)) := tab_ix (by omega)
          have t3 : ixD (trow b.length (f (i + 1))) (.int (j : Nat)) = some (.int (L a b (i + 1) j : Nat)) := by rw [trow_ix (by omega), hf _ _ (by omega) (by omega) (by omega)]
          have t4 : ixD (trow b.length (f i)) (.int ((j : Nat) + 1)) = some (.int (L a b i (j + 1) : Nat)) := by rw [show (j : Int) + 1 = ((j + 1 : Nat) : Int) from rfl, trow_ix (by omega), hf _ _ (by omega) (by omega) (by omega)]
          have t5 : ixD (trow b.length (f (i + 1))) (.int ((j : Nat) + 1)) = some (.int (L a b (i + 1) (j + 1) : Nat)) := by rw [show (j : Int) + 1 = ((j + 1 : Nat) : Int) from rfl, trow_ix (by omega), hf _ _ (by omega) (by omega) (by omega)]
          have e1 := P.eq ex ey
          have ls := L_step (a := a) (b := b) hi hj
          have m1 := max2_nat (L a b (i + 1) j) (L a b i (j + 1))
          have m2 : max2D [.int (max (L a b (i + 1) j) (L a b i (j + 1)) : Nat), .int (1 + (L a b (i + 1) (j + 1) : Nat))] = _ := max2_nat (max (L a b (i + 1) j) (L a b i (j + 1))) (1 + L a b (i + 1) (j + 1))
          refine ⟨_, _, none, rfl, ?_, ⟨put2 f i j (L a b i j), some (.int (j : Nat)), some (.int (max (L a b (i + 1) j) (L a b i (j + 1)) : Nat)), r6, rfl, rfl, ?_⟩⟩
          · apply sq
            · (repeat' (first | with_reducible exact t1 | with_reducible exact t2 | with_reducible exact t3 | with_reducible exact t4 | with_reducible exact m1 | with_reducible exact ev_C | ((with_reducible apply ev_V); exact rfl) | with_reducible exact ev_nil | with_reducible apply ev_cons | with_reducible apply ev_op | with_reducible apply ev_un | with_reducible apply ev_call | (with_reducible apply ev_tup) | (with_reducible apply ev_lst) | exact Nat.le_of_ble_eq_true rfl | with_reducible apply ev_sset | ((with_reducible apply set_eq); first | (simp only [List.set_cons_succ, List.set_cons_zero]; done) | (simp only [List.set_cons_succ, List.set_cons_zero]; exact rfl) | exact rfl) | with_reducible exact ev_noPart | with_reducible apply ev_ret | with_reducible apply ev_T | with_reducible apply ev_not | with_reducible apply ev_notV | with_reducible apply ev_isN | with_reducible apply ev_notN | with_reducible apply ev_part | with_reducible apply ev_ioGet | with_reducible apply ev_putIo | with_reducible exact add_int _ _ | with_reducible exact sub_int' _ _ | with_reducible exact int_int _ | with_reducible exact neg_int' _ | with_reducible exact tuple_strs _ | with_reducible exact tuple_lst _ | with_reducible exact list_lst _ | with_reducible exact items_lst _ | with_reducible exact items_tup _ | with_reducible exact items_txt _ | with_reducible apply ev_items | with_reducible apply ev_rng | with_reducible apply ev_sl | with_reducible exact len_txt _ | with_reducible exact len_tup _ | with_reducible exact len_lst _ | with_reducible exact eq_int' _ _ | with_reducible exact ne_int' _ _ | with_reducible exact lt_int' _ _ | with_reducible exact gt_int' _ _ | with_reducible exact le_int' _ _ | with_reducible exact ge_int' _ _))
            · apply ev_set2 (x := .int (L a b i j : Nat)) (m1 := none) (e4 := rfl) (e5 := tab_set (by omega) (by omega))
              rotate_left
              · exact ev_V rfl
              · exact ev_V rfl
              by_cases c : a[i]? = b[j]?
              · rw [decide_eq_true c] at e1
                rw [if_pos c] at ls
                refine (ev_if_t (m1 := none) (ev_T ?_)).trans ?_
                · (repeat' (first | with_reducible exact ix | with_reducible exact iy | with_reducible exact e1 | with_reducible exact ev_C | ((with_reducible apply ev_V); exact rfl) | with_reducible exact ev_nil | with_reducible apply ev_cons | with_reducible apply ev_op | with_reducible apply ev_un | with_reducible apply ev_call | (with_reducible apply ev_tup) | (with_reducible apply ev_lst) | exact Nat.le_of_ble_eq_true rfl | with_reducible apply ev_sset | ((with_reducible apply set_eq); first | (simp only [List.set_cons_succ, List.set_cons_zero]; done) | (simp only [List.set_cons_succ, List.set_cons_zero]; exact rfl) | exact rfl) | with_reducible exact ev_noPart | with_reducible apply ev_ret | with_reducible apply ev_T | with_reducible apply ev_not | with_reducible apply ev_notV | with_reducible apply ev_isN | with_reducible apply ev_notN | with_reducible apply ev_part | with_reducible apply ev_ioGet | with_reducible apply ev_putIo | with_reducible exact add_int _ _ | with_reducible exact sub_int' _ _ | with_reducible exact int_int _ | with_reducible exact neg_int' _ | with_reducible exact tuple_strs _ | with_reducible exact tuple_lst _ | with_reducible exact list_lst _ | with_reducible exact items_lst _ | with_reducible exact items_tup _ | with_reducible exact items_txt _ | with_reducible apply ev_items | with_reducible apply ev_rng | with_reducible apply ev_sl | with_reducible exact len_txt _ | with_reducible exact len_tup _ | with_reducible exact len_lst _ | with_reducible exact eq_int' _ _ | with_reducible exact ne_int' _ _ | with_reducible exact lt_int' _ _ | with_reducible exact gt_int' _ _ | with_reducible exact le_int' _ _ | with_reducible exact ge_int' _ _))
                · rw [ls]
                  (repeat' (first | with_reducible exact t1 | with_reducible exact t5 | with_reducible exact m2 | with_reducible exact ev_C | ((with_reducible apply ev_V); exact rfl) | with_reducible exact ev_nil | with_reducible apply ev_cons | with_reducible apply ev_op | with_reducible apply ev_un | with_reducible apply ev_call | (with_reducible apply ev_tup) | (with_reducible apply ev_lst) | exact Nat.le_of_ble_eq_true rfl | with_reducible apply ev_sset | ((with_reducible apply set_eq); first | (simp only [List.set_cons_succ, List.set_cons_zero]; done) | (simp only [List.set_cons_succ, List.set_cons_zero]; exact rfl) | exact rfl) | with_reducible exact ev_noPart | with_reducible apply ev_ret | with_reducible apply ev_T | with_reducible apply ev_not | with_reducible apply ev_notV | with_reducible apply ev_isN | with_reducible apply ev_notN | with_reducible apply ev_part | with_reducible apply ev_ioGet | with_reducible apply ev_putIo | with_reducible exact add_int _ _ | with_reducible exact sub_int' _ _ | with_reducible exact int_int _ | with_reducible exact neg_int' _ | with_reducible exact tuple_strs _ | with_reducible exact tuple_lst _ | with_reducible exact list_lst _ | with_reducible exact items_lst _ | with_reducible exact items_tup _ | with_reducible exact items_txt _ | with_reducible apply ev_items | with_reducible apply ev_rng | with_reducible apply ev_sl | with_reducible exact len_txt _ | with_reducible exact len_tup _ | with_reducible exact len_lst _ | with_reducible exact eq_int' _ _ | with_reducible exact ne_int' _ _ | with_reducible exact lt_int' _ _ | with_reducible exact gt_int' _ _ | with_reducible exact le_int' _ _ | with_reducible exact ge_int' _ _))
              · rw [decide_eq_false c] at e1
                rw [if_neg c] at ls
                refine (ev_if_f (m1 := none) (ev_T ?_)).trans ?_
                · (repeat' (first | with_reducible exact ix | with_reducible exact iy | with_reducible exact e1 | with_reducible exact ev_C | ((with_reducible apply ev_V); exact rfl) | with_reducible exact ev_nil | with_reducible apply ev_cons | with_reducible apply ev_op | with_reducible apply ev_un | with_reducible apply ev_call | (with_reducible apply ev_tup) | (with_reducible apply ev_lst) | exact Nat.le_of_ble_eq_true rfl | with_reducible apply ev_sset | ((with_reducible apply set_eq); first | (simp only [List.set_cons_succ, List.set_cons_zero]; done) | (simp only [List.set_cons_succ, List.set_cons_zero]; exact rfl) | exact rfl) | with_reducible exact ev_noPart | with_reducible apply ev_ret | with_reducible apply ev_T | with_reducible apply ev_not | with_reducible apply ev_notV | with_reducible apply ev_isN | with_reducible apply ev_notN | with_reducible apply ev_part | with_reducible apply ev_ioGet | with_reducible apply ev_putIo | with_reducible exact add_int _ _ | with_reducible exact sub_int' _ _ | with_reducible exact int_int _ | with_reducible exact neg_int' _ | with_reducible exact tuple_strs _ | with_reducible exact tuple_lst _ | with_reducible exact list_lst _ | with_reducible exact items_lst _ | with_reducible exact items_tup _ | with_reducible exact items_txt _ | with_reducible apply ev_items | with_reducible apply ev_rng | with_reducible apply ev_sl | with_reducible exact len_txt _ | with_reducible exact len_tup _ | with_reducible exact len_lst _ | with_reducible exact eq_int' _ _ | with_reducible exact ne_int' _ _ | with_reducible exact lt_int' _ _ | with_reducible exact gt_int' _ _ | with_reducible exact le_int' _ _ | with_reducible exact ge_int' _ _))
                · rw [ls]
                  exact ev_V rfl
          · intro i' j' h1 h2 h3
            unfold put2
            by_cases c : i' = i ∧ j' = j
            · rw [if_pos c, c.1, c.2]
            · rw [if_neg c]
              exact hf i' j' h1 h2 (by omega))
      refine ⟨[some (txt a), some (txt b), some (tab a.length b.length f), some (.int (i : Nat)), r4, r5, r6], _, none, rfl, ?_, ⟨f', some (.int (i : Nat)), s4, s5, s6, rfl, rfl, fun i' j' k1 k2 k3 => hf' i' j' k1 k2 (by omega)⟩⟩
      have r3 := range3_nat (n := b.length) (by omega)
      apply fo
      · (repeat' (first | with_reducible exact r3 | with_reducible exact ev_C | ((with_reducible apply ev_V); exact rfl) | with_reducible exact ev_nil | with_reducible apply ev_cons | with_reducible apply ev_op | with_reducible apply ev_un | with_reducible apply ev_call | (with_reducible apply ev_tup) | (with_reducible apply ev_lst) | exact Nat.le_of_ble_eq_true rfl | with_reducible apply ev_sset | ((with_reducible apply set_eq); first | (simp only [List.set_cons_succ, List.set_cons_zero]; done) | (simp only [List.set_cons_succ, List.set_cons_zero]; exact rfl) | exact rfl) | with_reducible exact ev_noPart | with_reducible apply ev_ret | with_reducible apply ev_T | with_reducible apply ev_not | with_reducible apply ev_notV | with_reducible apply ev_isN | with_reducible apply ev_notN | with_reducible apply ev_part | with_reducible apply ev_ioGet | with_reducible apply ev_putIo | with_reducible exact add_int _ _ | with_reducible exact sub_int' _ _ | with_reducible exact int_int _ | with_reducible exact neg_int' _ | with_reducible exact tuple_strs _ | with_reducible exact tuple_lst _ | with_reducible exact list_lst _ | with_reducible exact items_lst _ | with_reducible exact items_tup _ | with_reducible exact items_txt _ | with_reducible apply ev_items | with_reducible apply ev_rng | with_reducible apply ev_sl | with_reducible exact len_txt _ | with_reducible exact len_tup _ | with_reducible exact len_lst _ | with_reducible exact eq_int' _ _ | with_reducible exact ne_int' _ _ | with_reducible exact lt_int' _ _ | with_reducible exact gt_int' _ _ | with_reducible exact le_int' _ _ | with_reducible exact ge_int' _ _))
      · exact h1)
  have et : tab a.length b.length f = tab a.length b.length (L a b) := tab_congr fun i j h1 h2 => hf i j h1 h2 (by omega)
  rw [et] at h1
  have r3 := range3_nat (n := a.length) (by omega)
  show outL (g_most_kept [some (txt a), some (txt b), none, none, none, none, none] none) = _
  refine outL_of (m := none) ?_
  unfold g_most_kept
  apply sq
  · apply ev_sset
    · apply ev_lc
      · (repeat' (first | with_reducible exact r1 | with_reducible exact ev_C | ((with_reducible apply ev_V); exact rfl) | with_reducible exact ev_nil | with_reducible apply ev_cons | with_reducible apply ev_op | with_reducible apply ev_un | with_reducible apply ev_call | (with_reducible apply ev_tup) | (with_reducible apply ev_lst) | exact Nat.le_of_ble_eq_true rfl | with_reducible apply ev_sset | ((with_reducible apply set_eq); first | (simp only [List.set_cons_succ, List.set_cons_zero]; done) | (simp only [List.set_cons_succ, List.set_cons_zero]; exact rfl) | exact rfl) | with_reducible exact ev_noPart | with_reducible apply ev_ret | with_reducible apply ev_T | with_reducible apply ev_not | with_reducible apply ev_notV | with_reducible apply ev_isN | with_reducible apply ev_notN | with_reducible apply ev_part | with_reducible apply ev_ioGet | with_reducible apply ev_putIo | with_reducible exact add_int _ _ | with_reducible exact sub_int' _ _ | with_reducible exact int_int _ | with_reducible exact neg_int' _ | with_reducible exact tuple_strs _ | with_reducible exact tuple_lst _ | with_reducible exact list_lst _ | with_reducible exact items_lst _ | with_reducible exact items_tup _ | with_reducible exact items_txt _ | with_reducible apply ev_items | with_reducible apply ev_rng | with_reducible apply ev_sl | with_reducible exact len_txt _ | with_reducible exact len_tup _ | with_reducible exact len_lst _ | with_reducible exact eq_int' _ _ | with_reducible exact ne_int' _ _ | with_reducible exact lt_int' _ _ | with_reducible exact gt_int' _ _ | with_reducible exact le_int' _ _ | with_reducible exact ge_int' _ _))
      · exact lc _ rfl rfl
      · simp; omega
    · exact rfl
  apply sq
  · apply fo
    · (repeat' (first | with_reducible exact r3 | with_reducible exact ev_C | ((with_reducible apply ev_V); exact rfl) | with_reducible exact ev_nil | with_reducible apply ev_cons | with_reducible apply ev_op | with_reducible apply ev_un | with_reducible apply ev_call | (with_reducible apply ev_tup) | (with_reducible apply ev_lst) | exact Nat.le_of_ble_eq_true rfl | with_reducible apply ev_sset | ((with_reducible apply set_eq); first | (simp only [List.set_cons_succ, List.set_cons_zero]; done) | (simp only [List.set_cons_succ, List.set_cons_zero]; exact rfl) | exact rfl) | with_reducible exact ev_noPart | with_reducible apply ev_ret | with_reducible apply ev_T | with_reducible apply ev_not | with_reducible apply ev_notV | with_reducible apply ev_isN | with_reducible apply ev_notN | with_reducible apply ev_part | with_reducible apply ev_ioGet | with_reducible apply ev_putIo | with_reducible exact add_int _ _ | with_reducible exact sub_int' _ _ | with_reducible exact int_int _ | with_reducible exact neg_int' _ | with_reducible exact tuple_strs _ | with_reducible exact tuple_lst _ | with_reducible exact list_lst _ | with_reducible exact items_lst _ | with_reducible exact items_tup _ | with_reducible exact items_txt _ | with_reducible apply ev_items | with_reducible apply ev_rng | with_reducible apply ev_sl | with_reducible exact len_txt _ | with_reducible exact len_tup _ | with_reducible exact len_lst _ | with_reducible exact eq_int' _ _ | with_reducible exact ne_int' _ _ | with_reducible exact lt_int' _ _ | with_reducible exact gt_int' _ _ | with_reducible exact le_int' _ _ | with_reducible exact ge_int' _ _))
    · exact h1
  · exact ev_retO rfl
end
end K01
namespace K01
open PySem PySem.Spec PyProof.Rows L2 DL
section
variable {a b : List Str}
/-! ### is_begun -/
def begB (a b : List Str) (T : Nat → Nat → Nat) (i j k : Nat) : Bool := decide (a[i]? = b[j + k]?) && decide (1 + T (i + 1) (j + k + 1) = T i j)
theorem table_ix {i j : Nat} (hi : i ≤ a.length) (hj : j ≤ b.length) : ∃ r, ixD (tab a.length b.length (L a b)) (.int (i : Nat)) = some r ∧ ixD r (.int (j : Nat)) = some (.int (L a b i j : Nat)) :=
  ⟨_, tab_ix hi, trow_ix hj⟩
theorem begB_iff {i j k : Nat} (hk : j + k < b.length) : begB a b (L a b) i j k = true ↔ Beg a b i j (j + k) := by
  unfold begB Beg
  simp only [Bool.and_eq_true, decide_eq_true_eq]
  constructor
  · rintro ⟨h1, h2⟩; exact ⟨by omega, hk, h1, h2⟩
  · rintro ⟨_, _, h1, h2⟩; exact ⟨h1, h2⟩
theorem begun_ok (P : Pair a b) {i j : Nat} (hi : i < a.length) (hj : j ≤ b.length) : ∃ β : Bool, M_is_begun [txt a, txt b, tab a.length b.length (L a b), .int (i : Nat), .int (j : Nat)] = some (.bool β) ∧ (β = true ↔ ∃ at_, Beg a b i j at_) := by
  have hn := P.la
  have hm := P.lb
  obtain ⟨x, ex, ix⟩ := ix_ok hi
  have r2 := range2_nat (i := j) (j := b.length) (by omega) (by omega)
  obtain ⟨rI, tI, tI'⟩ := table_ix (a := a) (b := b) (i := i) (j := j) (by omega) hj
  obtain ⟨g1, g2⟩ := for_any (m := none) (b := bName 5) (s := fIfS (fAnd (fT (fOp eqD (fOp ixD (fV 0) (fV 3)) (fOp ixD (fV 1) (fV 5)))) (fT (fOp eqD (fOp addD (fC (.int 1)) (fOp ixD (fOp ixD (fV 2) (fOp addD (fV 3) (fC (.int 1)))) (fOp addD (fV 5) (fC (.int 1))))) (fOp ixD (fOp ixD (fV 2) (fV 3)) (fV 4)))))
    (fRet (fC (.bool true)))
    fNext) (fun k : Nat => PyData.int ((j + k : Nat) : Int)) (begB a b (L a b) i j) (fun ρ => ∃ r5, ρ = [some (txt a), some (txt b), some (tab a.length b.length (L a b)), some (.int (i : Nat)), some (.int (j : Nat)), r5]) (.bool true) (List.range (b.length - j))
    [some (txt a), some (txt b), some (tab a.length b.length (L a b)), some (.int (i : Nat)), some (.int (j : Nat)), none] ⟨none, rfl⟩ (by
      rintro k hk ρ ⟨r5, rfl⟩
      have hk := List.mem_range.mp hk
      obtain ⟨y, ey, iy⟩ := ix_ok (a := b) (i := j + k) (by omega)
      have e1 := P.eq ex ey
      obtain ⟨rJ, tJ, tJ'⟩ := table_ix (a := a) (b := b) (i := i + 1) (j := j + k + 1) (by omega) (by omega)
      have tJ : ixD (tab a.length b.length (L a b)) (.int ((i : Nat) + 1)) = some rJ := tJ
      have tJ' : ixD rJ (.int (((j + k : Nat) : Int) + 1)) = some (.int (L a b (i + 1) (j + k + 1) : Nat)) := tJ'
      have e2 : eqD (.int (1 + (L a b (i + 1) (j + k + 1) : Nat))) (.int (L a b i j : Nat)) = _ := eq_nat (1 + L a b (i + 1) (j + k + 1)) (L a b i j)
      refine ⟨[some (txt a), some (txt b), some (tab a.length b.length (L a b)), some (.int (i : Nat)), some (.int (j : Nat)), some (.int ((j + k : Nat) : Int))], rfl, ?_, ?_⟩
      · intro h
        unfold begB at h
        obtain ⟨h1, h2⟩ := Bool.and_eq_true_iff.mp h
        rw [h1] at e1
        rw [h2] at e2
        apply ift
        · apply ev_and_t
          · (repeat' (first | with_reducible exact ix | with_reducible exact iy | with_reducible exact e1 | with_reducible exact ev_C | ((with_reducible apply ev_V); exact rfl) | with_reducible exact ev_nil | with_reducible apply ev_cons | with_reducible apply ev_op | with_reducible apply ev_un | with_reducible apply ev_call | (with_reducible apply ev_tup) | (with_reducible apply ev_lst) | exact Nat.le_of_ble_eq_true rfl | with_reducible apply ev_sset | ((with_reducible apply set_eq); first | (simp only [List.set_cons_succ, List.set_cons_zero]; done) | (simp only [List.set_cons_succ, List.set_cons_zero]; exact rfl) | exact rfl) | with_reducible exact ev_noPart | with_reducible apply ev_ret | with_reducible apply ev_T | with_reducible apply ev_not | with_reducible apply ev_notV | with_reducible apply ev_isN | with_reducible apply ev_notN | with_reducible apply ev_part | with_reducible apply ev_ioGet | with_reducible apply ev_putIo | with_reducible exact add_int _ _ | with_reducible exact sub_int' _ _ | with_reducible exact int_int _ | with_reducible exact neg_int' _ | with_reducible exact tuple_strs _ | with_reducible exact tuple_lst _ | with_reducible exact list_lst _ | with_reducible exact items_lst _ | with_reducible exact items_tup _ | with_reducible exact items_txt _ | with_reducible apply ev_items | with_reducible apply ev_rng | with_reducible apply ev_sl | with_reducible exact len_txt _ | with_reducible exact len_tup _ | with_reducible exact len_lst _ | with_reducible exact eq_int' _ _ | with_reducible exact ne_int' _ _ | with_reducible exact lt_int' _ _ | with_reducible exact gt_int' _ _ | with_reducible exact le_int' _ _ | with_reducible exact ge_int' _ _))
          · (repeat' (first | with_reducible exact tJ | with_reducible exact tJ' | with_reducible exact tI | with_reducible exact tI' | with_reducible exact e2 | with_reducible exact ev_C | ((with_reducible apply ev_V); exact rfl) | with_reducible exact ev_nil | with_reducible apply ev_cons | with_reducible apply ev_op | with_reducible apply ev_un | with_reducible apply ev_call | (with_reducible apply ev_tup) | (with_reducible apply ev_lst) | exact Nat.le_of_ble_eq_true rfl | with_reducible apply ev_sset | ((with_reducible apply set_eq); first | (simp only [List.set_cons_succ, List.set_cons_zero]; done) | (simp only [List.set_cons_succ, List.set_cons_zero]; exact rfl) | exact rfl) | with_reducible exact ev_noPart | with_reducible apply ev_ret | with_reducible apply ev_T | with_reducible apply ev_not | with_reducible apply ev_notV | with_reducible apply ev_isN | with_reducible apply ev_notN | with_reducible apply ev_part | with_reducible apply ev_ioGet | with_reducible apply ev_putIo | with_reducible exact add_int _ _ | with_reducible exact sub_int' _ _ | with_reducible exact int_int _ | with_reducible exact neg_int' _ | with_reducible exact tuple_strs _ | with_reducible exact tuple_lst _ | with_reducible exact list_lst _ | with_reducible exact items_lst _ | with_reducible exact items_tup _ | with_reducible exact items_txt _ | with_reducible apply ev_items | with_reducible apply ev_rng | with_reducible apply ev_sl | with_reducible exact len_txt _ | with_reducible exact len_tup _ | with_reducible exact len_lst _ | with_reducible exact eq_int' _ _ | with_reducible exact ne_int' _ _ | with_reducible exact lt_int' _ _ | with_reducible exact gt_int' _ _ | with_reducible exact le_int' _ _ | with_reducible exact ge_int' _ _))
        · exact ev_ret ev_C
      · intro h
        refine ⟨[some (txt a), some (txt b), some (tab a.length b.length (L a b)), some (.int (i : Nat)), some (.int (j : Nat)), some (.int ((j + k : Nat) : Int))], ?_, ⟨some (.int ((j + k : Nat) : Int)), rfl⟩⟩
        unfold begB at h
        cases h1 : decide (a[i]? = b[j + k]?) with
        | false =>
          rw [h1] at e1
          apply iff
          · apply ev_and_f
            · (repeat' (first | with_reducible exact ix | with_reducible exact iy | with_reducible exact e1 | with_reducible exact ev_C | ((with_reducible apply ev_V); exact rfl) | with_reducible exact ev_nil | with_reducible apply ev_cons | with_reducible apply ev_op | with_reducible apply ev_un | with_reducible apply ev_call | (with_reducible apply ev_tup) | (with_reducible apply ev_lst) | exact Nat.le_of_ble_eq_true rfl | with_reducible apply ev_sset | ((with_reducible apply set_eq); first | (simp only [List.set_cons_succ, List.set_cons_zero]; done) | (simp only [List.set_cons_succ, List.set_cons_zero]; exact rfl) | exact rfl) | with_reducible exact ev_noPart | with_reducible apply ev_ret | with_reducible apply ev_T | with_reducible apply ev_not | with_reducible apply ev_notV | with_reducible apply ev_isN | with_reducible apply ev_notN | with_reducible apply ev_part | with_reducible apply ev_ioGet | with_reducible apply ev_putIo | with_reducible exact add_int _ _ | with_reducible exact sub_int' _ _ | with_reducible exact int_int _ | with_reducible exact neg_int' _ | with_reducible exact tuple_strs _ | with_reducible exact tuple_lst _ | with_reducible exact list_lst _ | with_reducible exact items_lst _ | with_reducible exact items_tup _ | with_reducible exact items_txt _ | with_reducible apply ev_items | with_reducible apply ev_rng | with_reducible apply ev_sl | with_reducible exact len_txt _ | with_reducible exact len_tup _ | with_reducible exact len_lst _ | with_reducible exact eq_int' _ _ | with_reducible exact ne_int' _ _ | with_reducible exact lt_int' _ _ | with_reducible exact gt_int' _ _ | with_reducible exact le_int' _ _ | with_reducible exact ge_int' _ _))
          · rfl
        | true =>
          rw [h1, Bool.true_and] at h
          rw [h1] at e1
          rw [h] at e2
          apply iff
          · apply ev_and_t
            · (repeat' (first | with_reducible exact ix | with_reducible exact iy | with_reducible exact e1 | with_reducible exact ev_C | ((with_reducible apply ev_V); exact rfl) | with_reducible exact ev_nil | with_reducible apply ev_cons | with_reducible apply ev_op | with_reducible apply ev_un | with_reducible apply ev_call | (with_reducible apply ev_tup) | (with_reducible apply ev_lst) | exact Nat.le_of_ble_eq_true rfl | with_reducible apply ev_sset | ((with_reducible apply set_eq); first | (simp only [List.set_cons_succ, List.set_cons_zero]; done) | (simp only [List.set_cons_succ, List.set_cons_zero]; exact rfl) | exact rfl) | with_reducible exact ev_noPart | with_reducible apply ev_ret | with_reducible apply ev_T | with_reducible apply ev_not | with_reducible apply ev_notV | with_reducible apply ev_isN | with_reducible apply ev_notN | with_reducible apply ev_part | with_reducible apply ev_ioGet | with_reducible apply ev_putIo | with_reducible exact add_int _ _ | with_reducible exact sub_int' _ _ | with_reducible exact int_int _ | with_reducible exact neg_int' _ | with_reducible exact tuple_strs _ | with_reducible exact tuple_lst _ | with_reducible exact list_lst _ | with_reducible exact items_lst _ | with_reducible exact items_tup _ | with_reducible exact items_txt _ | with_reducible apply ev_items | with_reducible apply ev_rng | with_reducible apply ev_sl | with_reducible exact len_txt _ | with_reducible exact len_tup _ | with_reducible exact len_lst _ | with_reducible exact eq_int' _ _ | with_reducible exact ne_int' _ _ | with_reducible exact lt_int' _ _ | with_reducible exact gt_int' _ _ | with_reducible exact le_int' _ _ | with_reducible exact ge_int' _ _))
            · (repeat' (first | with_reducible exact tJ | with_reducible exact tJ' | with_reducible exact tI | with_reducible exact tI' | with_reducible exact e2 | with_reducible exact ev_C | ((with_reducible apply ev_V); exact rfl) | with_reducible exact ev_nil | with_reducible apply ev_cons | with_reducible apply ev_op | with_reducible apply ev_un | with_reducible apply ev_call | (with_reducible apply ev_tup) | (with_reducible apply ev_lst) | exact Nat.le_of_ble_eq_true rfl | with_reducible apply ev_sset | ((with_reducible apply set_eq); first | (simp only [List.set_cons_succ, List.set_cons_zero]; done) | (simp only [List.set_cons_succ, List.set_cons_zero]; exact rfl) | exact rfl) | with_reducible exact ev_noPart | with_reducible apply ev_ret | with_reducible apply ev_T | with_reducible apply ev_not | with_reducible apply ev_notV | with_reducible apply ev_isN | with_reducible apply ev_notN | with_reducible apply ev_part | with_reducible apply ev_ioGet | with_reducible apply ev_putIo | with_reducible exact add_int _ _ | with_reducible exact sub_int' _ _ | with_reducible exact int_int _ | with_reducible exact neg_int' _ | with_reducible exact tuple_strs _ | with_reducible exact tuple_lst _ | with_reducible exact list_lst _ | with_reducible exact items_lst _ | with_reducible exact items_tup _ | with_reducible exact items_txt _ | with_reducible apply ev_items | with_reducible apply ev_rng | with_reducible apply ev_sl | with_reducible exact len_txt _ | with_reducible exact len_tup _ | with_reducible exact len_lst _ | with_reducible exact eq_int' _ _ | with_reducible exact ne_int' _ _ | with_reducible exact lt_int' _ _ | with_reducible exact gt_int' _ _ | with_reducible exact le_int' _ _ | with_reducible exact ge_int' _ _))
          · rfl)
  refine ⟨(List.range (b.length - j)).any (begB a b (L a b) i j), ?_, ?_⟩
  · show outL (g_is_begun [some (txt a), some (txt b), some (tab a.length b.length (L a b)), some (.int (i : Nat)), some (.int (j : Nat)), none] none) = _
    refine outL_of (m := none) ?_
    unfold g_is_begun
    cases h : (List.range (b.length - j)).any (begB a b (L a b) i j) with
    | true =>
      apply ev_seq_rt
      apply fo
      · (repeat' (first | with_reducible exact r2 | with_reducible exact ev_C | ((with_reducible apply ev_V); exact rfl) | with_reducible exact ev_nil | with_reducible apply ev_cons | with_reducible apply ev_op | with_reducible apply ev_un | with_reducible apply ev_call | (with_reducible apply ev_tup) | (with_reducible apply ev_lst) | exact Nat.le_of_ble_eq_true rfl | with_reducible apply ev_sset | ((with_reducible apply set_eq); first | (simp only [List.set_cons_succ, List.set_cons_zero]; done) | (simp only [List.set_cons_succ, List.set_cons_zero]; exact rfl) | exact rfl) | with_reducible exact ev_noPart | with_reducible apply ev_ret | with_reducible apply ev_T | with_reducible apply ev_not | with_reducible apply ev_notV | with_reducible apply ev_isN | with_reducible apply ev_notN | with_reducible apply ev_part | with_reducible apply ev_ioGet | with_reducible apply ev_putIo | with_reducible exact add_int _ _ | with_reducible exact sub_int' _ _ | with_reducible exact int_int _ | with_reducible exact neg_int' _ | with_reducible exact tuple_strs _ | with_reducible exact tuple_lst _ | with_reducible exact list_lst _ | with_reducible exact items_lst _ | with_reducible exact items_tup _ | with_reducible exact items_txt _ | with_reducible apply ev_items | with_reducible apply ev_rng | with_reducible apply ev_sl | with_reducible exact len_txt _ | with_reducible exact len_tup _ | with_reducible exact len_lst _ | with_reducible exact eq_int' _ _ | with_reducible exact ne_int' _ _ | with_reducible exact lt_int' _ _ | with_reducible exact gt_int' _ _ | with_reducible exact le_int' _ _ | with_reducible exact ge_int' _ _))
      · exact g1 h
    | false =>
      obtain ⟨ρ', g3, _⟩ := g2 h
      apply sq
      · apply fo
        · (repeat' (first | with_reducible exact r2 | with_reducible exact ev_C | ((with_reducible apply ev_V); exact rfl) | with_reducible exact ev_nil | with_reducible apply ev_cons | with_reducible apply ev_op | with_reducible apply ev_un | with_reducible apply ev_call | (with_reducible apply ev_tup) | (with_reducible apply ev_lst) | exact Nat.le_of_ble_eq_true rfl | with_reducible apply ev_sset | ((with_reducible apply set_eq); first | (simp only [List.set_cons_succ, List.set_cons_zero]; done) | (simp only [List.set_cons_succ, List.set_cons_zero]; exact rfl) | exact rfl) | with_reducible exact ev_noPart | with_reducible apply ev_ret | with_reducible apply ev_T | with_reducible apply ev_not | with_reducible apply ev_notV | with_reducible apply ev_isN | with_reducible apply ev_notN | with_reducible apply ev_part | with_reducible apply ev_ioGet | with_reducible apply ev_putIo | with_reducible exact add_int _ _ | with_reducible exact sub_int' _ _ | with_reducible exact int_int _ | with_reducible exact neg_int' _ | with_reducible exact tuple_strs _ | with_reducible exact tuple_lst _ | with_reducible exact list_lst _ | with_reducible exact items_lst _ | with_reducible exact items_tup _ | with_reducible exact items_txt _ | with_reducible apply ev_items | with_reducible apply ev_rng | with_reducible apply ev_sl | with_reducible exact len_txt _ | with_reducible exact len_tup _ | with_reducible exact len_lst _ | with_reducible exact eq_int' _ _ | with_reducible exact ne_int' _ _ | with_reducible exact lt_int' _ _ | with_reducible exact gt_int' _ _ | with_reducible exact le_int' _ _ | with_reducible exact ge_int' _ _))
        · exact g3
      · exact ev_ret ev_C
  · rw [List.any_eq_true]
    constructor
    · rintro ⟨k, hk, h⟩
      exact ⟨_, (begB_iff (by have := List.mem_range.mp hk; omega)).mp h⟩
    · rintro ⟨at_, h⟩
      obtain ⟨k, rfl⟩ : ∃ k, at_ = j + k := ⟨at_ - j, by have := h.1; omega⟩
      exact ⟨k, List.mem_range.mpr (by have := h.2.1; omega), (begB_iff h.2.1).mpr h⟩
/-! ### told_keeping -/
theorem told_ok (P : Pair a b) : M_told_keeping [txt a, txt b] = some (kp (K a b 0 0)) := by
  have hn := P.la
  have hm := P.lb
  obtain ⟨ρ', m', h1, ⟨r4, r5, r6, r7, r8, rfl, rfl⟩⟩ := ev_while_ix (c := (fT (fOp gtD (fOp ixD (fOp ixD (fV 2) (fV 4)) (fV 5)) (fC (.int 0))))) (s := (fSeq (fWhile (fAnd (fT (fOp eqD (fOp ixD (fOp ixD (fV 2) (fOp addD (fV 4) (fC (.int 1)))) (fV 5)) (fOp ixD (fOp ixD (fV 2) (fV 4)) (fV 5)))) (fNot (fT (fCall M_is_begun (fCons (fV 0) (fCons (fV 1) (fCons (fV 2) (fCons (fV 4) (fCons (fV 5) fNil)))))))))
    (fAug 4 (fC (.int 1))))
    (fSeq (fSet 6 (fLc (fRng range2D (fCons (fV 5) (fCons (fCall lenD (fCons (fV 1) fNil)) fNil))) (bName 8) (fT (fOp eqD (fOp ixD (fV 0) (fV 4)) (fOp ixD (fV 1) (fV 8)))) (fV 8) (List.map (·.2) ([("at", 8)] : List (Str × Nat)))))
    (fSeq (fSet 7 (fLc (fItems (fV 6)) (bName 8) (fT (fOp eqD (fOp addD (fC (.int 1)) (fOp ixD (fOp ixD (fV 2) (fOp addD (fV 4) (fC (.int 1)))) (fOp addD (fV 8) (fC (.int 1))))) (fOp ixD (fOp ixD (fV 2) (fV 4)) (fV 5)))) (fV 8) (List.map (·.2) ([("at", 8)] : List (Str × Nat)))))
    (fSeq (fAppend 3 (fTup (fCons (fV 4) (fCons (fOp ixD (fV 7) (fC (.int 0))) fNil))))
    (fAsg (fTup (fCons (fOp addD (fV 4) (fC (.int 1))) (fCons (fOp addD (fOp ixD (fV 7) (fC (.int 0))) (fC (.int 1))) fNil))) (bTup (bCons (bName 4) (bCons (bName 5) bNil)))))))))
    (fun k ρ m => ∃ pre i j r6 r7 r8, ρ = [some (txt a), some (txt b), some (tab a.length b.length (L a b)), some (.list (List.map pr pre)), some (.int (i : Nat)), some (.int (j : Nat)), r6, r7, r8] ∧ m = none ∧ i ≤ a.length ∧ j ≤ b.length ∧ K a b 0 0 = pre ++ K a b i j ∧ k = L a b i j)
    (fun ρ m => ∃ r4 r5 r6 r7 r8, ρ = [some (txt a), some (txt b), some (tab a.length b.length (L a b)), some (.list (List.map pr (K a b 0 0))), r4, r5, r6, r7, r8] ∧ m = none)
    (k := L a b 0 0) (ρ := [some (txt a), some (txt b), some (tab a.length b.length (L a b)), some (.list []), some (.int 0), some (.int 0), none, none, none]) (m := none)
    ⟨[], 0, 0, none, none, none, rfl, rfl, Nat.zero_le _, Nat.zero_le _, rfl, rfl⟩
    (by
      have := (K_lst (a := a) (b := b) 0 0).1.len_le
      unfold L
      omega)
    (by
      rintro k ρ m ⟨pre, i, j, r6, r7, r8, rfl, rfl, hi, hj, hK, rfl⟩
      obtain ⟨rI, tI, tI'⟩ := table_ix (a := a) (b := b) hi hj
      have eg := gt_nat (L a b i j) 0
      by_cases c : 0 < L a b i j
      · right
        rw [decide_eq_true c] at eg
        have hl : pre.length + L a b i j ≤ 7 := by
          have := (K_lst (a := a) (b := b) 0 0).1.len_le
          rw [hK] at this
          unfold L
          simp at this
          omega
        -- the inner loop
        obtain ⟨ρ', m', h1, ⟨i', q, s, rfl, rfl, hi', k1, k2, k3, k4, k5⟩⟩ := ev_while_ix (c := (fAnd (fT (fOp eqD (fOp ixD (fOp ixD (fV 2) (fOp addD (fV 4) (fC (.int 1)))) (fV 5)) (fOp ixD (fOp ixD (fV 2) (fV 4)) (fV 5)))) (fNot (fT (fCall M_is_begun (fCons (fV 0) (fCons (fV 1) (fCons (fV 2) (fCons (fV 4) (fCons (fV 5) fNil)))))))))) (s := (fAug 4 (fC (.int 1))))
          (fun k ρ m => ∃ i', ρ = [some (txt a), some (txt b), some (tab a.length b.length (L a b)), some (.list (List.map pr pre)), some (.int (i' : Nat)), some (.int (j : Nat)), r6, r7, r8] ∧ m = none ∧ i' ≤ a.length ∧ K a b i' j = K a b i j ∧ k = a.length - i')
          (fun ρ m => ∃ i' q s, ρ = [some (txt a), some (txt b), some (tab a.length b.length (L a b)), some (.list (List.map pr pre)), some (.int (i' : Nat)), some (.int (j : Nat)), r6, r7, r8] ∧ m = none ∧ i' < a.length ∧ L a b i' j = L a b i j ∧ K a b i j = (i', q) :: s ∧ Beg a b i' j q ∧ (∀ at_, Beg a b i' j at_ → q ≤ at_) ∧ s = K a b (i' + 1) (q + 1))
          (k := a.length - i) (ρ := [some (txt a), some (txt b), some (tab a.length b.length (L a b)), some (.list (List.map pr pre)), some (.int (i : Nat)), some (.int (j : Nat)), r6, r7, r8]) (m := none)
          ⟨i, rfl, rfl, hi, rfl, rfl⟩ (by omega) (by
            rintro k ρ m ⟨i', rfl, rfl, hi', hK', rfl⟩
            have hL : L a b i' j = L a b i j := by unfold L; rw [hK']
            have c' : 0 < L a b i' j := by omega
            have hi2 := (L_lt c').1
            obtain ⟨p, q, s, e1, e2, e3, e4⟩ := K_cons c'
            obtain ⟨β, hβ, eβ⟩ := begun_ok P hi2 hj
            obtain ⟨rI, tI, tI'⟩ := table_ix (a := a) (b := b) (i := i') (j := j) hi' hj
            obtain ⟨rJ, tJ, tJ'⟩ := table_ix (a := a) (b := b) (i := i' + 1) (j := j) (by omega) hj
            have tJ : ixD (tab a.length b.length (L a b)) (.int ((i' : Nat) + 1)) = some rJ := tJ
            have ee := eq_nat (L a b (i' + 1) j) (L a b i' j)
            by_cases cp : i' < p
            · obtain ⟨f1, f2⟩ := e4 cp
              have hβ0 : β = false := by
                cases β with
                | false => rfl
                | true => exact absurd (eβ.mp rfl) f2
              subst hβ0
              have hLL : L a b (i' + 1) j = L a b i' j := by unfold L; rw [f1]
              rw [decide_eq_true hLL] at ee
              right
              refine ⟨none, _, none, a.length - (i' + 1), ?_, ?_, ⟨i' + 1, rfl, rfl, by omega, by rw [f1, hK'], rfl⟩, by omega⟩
              · apply ev_and_t
                · (repeat' (first | with_reducible exact tI | with_reducible exact tI' | with_reducible exact tJ | with_reducible exact tJ' | with_reducible exact ee | with_reducible exact ev_C | ((with_reducible apply ev_V); exact rfl) | with_reducible exact ev_nil | with_reducible apply ev_cons | with_reducible apply ev_op | with_reducible apply ev_un | with_reducible apply ev_call | (with_reducible apply ev_tup) | (with_reducible apply ev_lst) | exact Nat.le_of_ble_eq_true rfl | with_reducible apply ev_sset | ((with_reducible apply set_eq); first | (simp only [List.set_cons_succ, List.set_cons_zero]; done) | (simp only [List.set_cons_succ, List.set_cons_zero]; exact rfl) | exact rfl) | with_reducible exact ev_noPart | with_reducible apply ev_ret | with_reducible apply ev_T | with_reducible apply ev_not | with_reducible apply ev_notV | with_reducible apply ev_isN | with_reducible apply ev_notN | with_reducible apply ev_part | with_reducible apply ev_ioGet | with_reducible apply ev_putIo | with_reducible exact add_int _ _ | with_reducible exact sub_int' _ _ | with_reducible exact int_int _ | with_reducible exact neg_int' _ | with_reducible exact tuple_strs _ | with_reducible exact tuple_lst _ | with_reducible exact list_lst _ | with_reducible exact items_lst _ | with_reducible exact items_tup _ | with_reducible exact items_txt _ | with_reducible apply ev_items | with_reducible apply ev_rng | with_reducible apply ev_sl | with_reducible exact len_txt _ | with_reducible exact len_tup _ | with_reducible exact len_lst _ | with_reducible exact eq_int' _ _ | with_reducible exact ne_int' _ _ | with_reducible exact lt_int' _ _ | with_reducible exact gt_int' _ _ | with_reducible exact le_int' _ _ | with_reducible exact ge_int' _ _))
                · refine ev_not (b := false) (ev_T ?_)
                  (repeat' (first | with_reducible exact hβ | with_reducible exact ev_C | ((with_reducible apply ev_V); exact rfl) | with_reducible exact ev_nil | with_reducible apply ev_cons | with_reducible apply ev_op | with_reducible apply ev_un | with_reducible apply ev_call | (with_reducible apply ev_tup) | (with_reducible apply ev_lst) | exact Nat.le_of_ble_eq_true rfl | with_reducible apply ev_sset | ((with_reducible apply set_eq); first | (simp only [List.set_cons_succ, List.set_cons_zero]; done) | (simp only [List.set_cons_succ, List.set_cons_zero]; exact rfl) | exact rfl) | with_reducible exact ev_noPart | with_reducible apply ev_ret | with_reducible apply ev_T | with_reducible apply ev_not | with_reducible apply ev_notV | with_reducible apply ev_isN | with_reducible apply ev_notN | with_reducible apply ev_part | with_reducible apply ev_ioGet | with_reducible apply ev_putIo | with_reducible exact add_int _ _ | with_reducible exact sub_int' _ _ | with_reducible exact int_int _ | with_reducible exact neg_int' _ | with_reducible exact tuple_strs _ | with_reducible exact tuple_lst _ | with_reducible exact list_lst _ | with_reducible exact items_lst _ | with_reducible exact items_tup _ | with_reducible exact items_txt _ | with_reducible apply ev_items | with_reducible apply ev_rng | with_reducible apply ev_sl | with_reducible exact len_txt _ | with_reducible exact len_tup _ | with_reducible exact len_lst _ | with_reducible exact eq_int' _ _ | with_reducible exact ne_int' _ _ | with_reducible exact lt_int' _ _ | with_reducible exact gt_int' _ _ | with_reducible exact le_int' _ _ | with_reducible exact ge_int' _ _))
              · exact ev_aug (k := 1) (j := (i' : Int)) ev_C rfl
            · have hp : p = i' := by omega
              subst hp
              obtain ⟨g1, g2, g3⟩ := e3 rfl
              left
              refine ⟨none, ?_, ⟨p, q, s, rfl, rfl, hi2, hL, by rw [← hK', e1], g1, g2, g3⟩⟩
              have hβ1 : β = true := eβ.mpr ⟨q, g1⟩
              subst hβ1
              cases h : decide (L a b (p + 1) j = L a b p j) with
              | false =>
                rw [h] at ee
                apply ev_and_f
                (repeat' (first | with_reducible exact tI | with_reducible exact tI' | with_reducible exact tJ | with_reducible exact tJ' | with_reducible exact ee | with_reducible exact ev_C | ((with_reducible apply ev_V); exact rfl) | with_reducible exact ev_nil | with_reducible apply ev_cons | with_reducible apply ev_op | with_reducible apply ev_un | with_reducible apply ev_call | (with_reducible apply ev_tup) | (with_reducible apply ev_lst) | exact Nat.le_of_ble_eq_true rfl | with_reducible apply ev_sset | ((with_reducible apply set_eq); first | (simp only [List.set_cons_succ, List.set_cons_zero]; done) | (simp only [List.set_cons_succ, List.set_cons_zero]; exact rfl) | exact rfl) | with_reducible exact ev_noPart | with_reducible apply ev_ret | with_reducible apply ev_T | with_reducible apply ev_not | with_reducible apply ev_notV | with_reducible apply ev_isN | with_reducible apply ev_notN | with_reducible apply ev_part | with_reducible apply ev_ioGet | with_reducible apply ev_putIo | with_reducible exact add_int _ _ | with_reducible exact sub_int' _ _ | with_reducible exact int_int _ | with_reducible exact neg_int' _ | with_reducible exact tuple_strs _ | with_reducible exact tuple_lst _ | with_reducible exact list_lst _ | with_reducible exact items_lst _ | with_reducible exact items_tup _ | with_reducible exact items_txt _ | with_reducible apply ev_items | with_reducible apply ev_rng | with_reducible apply ev_sl | with_reducible exact len_txt _ | with_reducible exact len_tup _ | with_reducible exact len_lst _ | with_reducible exact eq_int' _ _ | with_reducible exact ne_int' _ _ | with_reducible exact lt_int' _ _ | with_reducible exact gt_int' _ _ | with_reducible exact le_int' _ _ | with_reducible exact ge_int' _ _))
              | true =>
                rw [h] at ee
                apply ev_and_t
                · (repeat' (first | with_reducible exact tI | with_reducible exact tI' | with_reducible exact tJ | with_reducible exact tJ' | with_reducible exact ee | with_reducible exact ev_C | ((with_reducible apply ev_V); exact rfl) | with_reducible exact ev_nil | with_reducible apply ev_cons | with_reducible apply ev_op | with_reducible apply ev_un | with_reducible apply ev_call | (with_reducible apply ev_tup) | (with_reducible apply ev_lst) | exact Nat.le_of_ble_eq_true rfl | with_reducible apply ev_sset | ((with_reducible apply set_eq); first | (simp only [List.set_cons_succ, List.set_cons_zero]; done) | (simp only [List.set_cons_succ, List.set_cons_zero]; exact rfl) | exact rfl) | with_reducible exact ev_noPart | with_reducible apply ev_ret | with_reducible apply ev_T | with_reducible apply ev_not | with_reducible apply ev_notV | with_reducible apply ev_isN | with_reducible apply ev_notN | with_reducible apply ev_part | with_reducible apply ev_ioGet | with_reducible apply ev_putIo | with_reducible exact add_int _ _ | with_reducible exact sub_int' _ _ | with_reducible exact int_int _ | with_reducible exact neg_int' _ | with_reducible exact tuple_strs _ | with_reducible exact tuple_lst _ | with_reducible exact list_lst _ | with_reducible exact items_lst _ | with_reducible exact items_tup _ | with_reducible exact items_txt _ | with_reducible apply ev_items | with_reducible apply ev_rng | with_reducible apply ev_sl | with_reducible exact len_txt _ | with_reducible exact len_tup _ | with_reducible exact len_lst _ | with_reducible exact eq_int' _ _ | with_reducible exact ne_int' _ _ | with_reducible exact lt_int' _ _ | with_reducible exact gt_int' _ _ | with_reducible exact le_int' _ _ | with_reducible exact ge_int' _ _))
                · refine ev_not (b := true) (ev_T ?_)
                  (repeat' (first | with_reducible exact hβ | with_reducible exact ev_C | ((with_reducible apply ev_V); exact rfl) | with_reducible exact ev_nil | with_reducible apply ev_cons | with_reducible apply ev_op | with_reducible apply ev_un | with_reducible apply ev_call | (with_reducible apply ev_tup) | (with_reducible apply ev_lst) | exact Nat.le_of_ble_eq_true rfl | with_reducible apply ev_sset | ((with_reducible apply set_eq); first | (simp only [List.set_cons_succ, List.set_cons_zero]; done) | (simp only [List.set_cons_succ, List.set_cons_zero]; exact rfl) | exact rfl) | with_reducible exact ev_noPart | with_reducible apply ev_ret | with_reducible apply ev_T | with_reducible apply ev_not | with_reducible apply ev_notV | with_reducible apply ev_isN | with_reducible apply ev_notN | with_reducible apply ev_part | with_reducible apply ev_ioGet | with_reducible apply ev_putIo | with_reducible exact add_int _ _ | with_reducible exact sub_int' _ _ | with_reducible exact int_int _ | with_reducible exact neg_int' _ | with_reducible exact tuple_strs _ | with_reducible exact tuple_lst _ | with_reducible exact list_lst _ | with_reducible exact items_lst _ | with_reducible exact items_tup _ | with_reducible exact items_txt _ | with_reducible apply ev_items | with_reducible apply ev_rng | with_reducible apply ev_sl | with_reducible exact len_txt _ | with_reducible exact len_tup _ | with_reducible exact len_lst _ | with_reducible exact eq_int' _ _ | with_reducible exact ne_int' _ _ | with_reducible exact lt_int' _ _ | with_reducible exact gt_int' _ _ | with_reducible exact le_int' _ _ | with_reducible exact ge_int' _ _)))
        obtain ⟨x, ex, ix⟩ := ix_ok hi'
        obtain ⟨rI', tJ, tJ'⟩ := table_ix (a := a) (b := b) (i := i') (j := j) (by omega) hj
        have r2 := range2_nat (i := j) (j := b.length) (by omega) (by omega)
        have hq : ∃ q', q = j + q' := ⟨q - j, by have := k3.1; omega⟩
        obtain ⟨q', rfl⟩ := hq
        have lc1 := lc_map (ρ := [some (txt a), some (txt b), some (tab a.length b.length (L a b)), some (.list (List.map pr pre)), some (.int (i' : Nat)), some (.int (j : Nat)), r6, r7, none]) (b := bName 8) (ft := (fT (fOp eqD (fOp ixD (fV 0) (fV 4)) (fOp ixD (fV 1) (fV 8))))) (fe := fV 8) (fun k : Nat => PyData.int ((j + k : Nat) : Int)) (fun k => decide (a[i']? = b[j + k]?)) (fun k => PyData.int ((j + k : Nat) : Int)) none (List.range (b.length - j)) (by
          intro k hk
          have hk := List.mem_range.mp hk
          obtain ⟨y, ey, iy⟩ := ix_ok (a := b) (i := j + k) (by omega)
          have e1 := P.eq ex ey
          refine ⟨[some (txt a), some (txt b), some (tab a.length b.length (L a b)), some (.list (List.map pr pre)), some (.int (i' : Nat)), some (.int (j : Nat)), r6, r7, some (.int ((j + k : Nat) : Int))], rfl, ?_, fun _ => ev_V rfl⟩
          (repeat' (first | with_reducible exact ix | with_reducible exact iy | with_reducible exact e1 | with_reducible exact ev_C | ((with_reducible apply ev_V); exact rfl) | with_reducible exact ev_nil | with_reducible apply ev_cons | with_reducible apply ev_op | with_reducible apply ev_un | with_reducible apply ev_call | (with_reducible apply ev_tup) | (with_reducible apply ev_lst) | exact Nat.le_of_ble_eq_true rfl | with_reducible apply ev_sset | ((with_reducible apply set_eq); first | (simp only [List.set_cons_succ, List.set_cons_zero]; done) | (simp only [List.set_cons_succ, List.set_cons_zero]; exact rfl) | exact rfl) | with_reducible exact ev_noPart | with_reducible apply ev_ret | with_reducible apply ev_T | with_reducible apply ev_not | with_reducible apply ev_notV | with_reducible apply ev_isN | with_reducible apply ev_notN | with_reducible apply ev_part | with_reducible apply ev_ioGet | with_reducible apply ev_putIo | with_reducible exact add_int _ _ | with_reducible exact sub_int' _ _ | with_reducible exact int_int _ | with_reducible exact neg_int' _ | with_reducible exact tuple_strs _ | with_reducible exact tuple_lst _ | with_reducible exact list_lst _ | with_reducible exact items_lst _ | with_reducible exact items_tup _ | with_reducible exact items_txt _ | with_reducible apply ev_items | with_reducible apply ev_rng | with_reducible apply ev_sl | with_reducible exact len_txt _ | with_reducible exact len_tup _ | with_reducible exact len_lst _ | with_reducible exact eq_int' _ _ | with_reducible exact ne_int' _ _ | with_reducible exact lt_int' _ _ | with_reducible exact gt_int' _ _ | with_reducible exact le_int' _ _ | with_reducible exact ge_int' _ _)))
        let r6' : Option PyData := some (.list ((List.filter (fun k => decide (a[i']? = b[j + k]?)) (List.range (b.length - j))).map fun k => PyData.int ((j + k : Nat) : Int)))
        have lc2 := lc_map (ρ := [some (txt a), some (txt b), some (tab a.length b.length (L a b)), some (.list (List.map pr pre)), some (.int (i' : Nat)), some (.int (j : Nat)), r6', r7, none]) (b := bName 8) (ft := (fT (fOp eqD (fOp addD (fC (.int 1)) (fOp ixD (fOp ixD (fV 2) (fOp addD (fV 4) (fC (.int 1)))) (fOp addD (fV 8) (fC (.int 1))))) (fOp ixD (fOp ixD (fV 2) (fV 4)) (fV 5))))) (fe := fV 8) (fun k : Nat => PyData.int ((j + k : Nat) : Int)) (fun k => decide (1 + L a b (i' + 1) (j + k + 1) = L a b i' j)) (fun k => PyData.int ((j + k : Nat) : Int)) none (List.filter (fun k => decide (a[i']? = b[j + k]?)) (List.range (b.length - j))) (by
          intro k hk
          have hk := List.mem_range.mp (List.mem_filter.mp hk).1
          obtain ⟨rJ, tK, tK'⟩ := table_ix (a := a) (b := b) (i := i' + 1) (j := j + k + 1) (by omega) (by omega)
          have tK : ixD (tab a.length b.length (L a b)) (.int ((i' : Nat) + 1)) = some rJ := tK
          have tK' : ixD rJ (.int (((j + k : Nat) : Int) + 1)) = some (.int (L a b (i' + 1) (j + k + 1) : Nat)) := tK'
          have e2 : eqD (.int (1 + (L a b (i' + 1) (j + k + 1) : Nat))) (.int (L a b i' j : Nat)) = _ := eq_nat (1 + L a b (i' + 1) (j + k + 1)) (L a b i' j)
          refine ⟨[some (txt a), some (txt b), some (tab a.length b.length (L a b)), some (.list (List.map pr pre)), some (.int (i' : Nat)), some (.int (j : Nat)), r6', r7, some (.int ((j + k : Nat) : Int))], rfl, ?_, fun _ => ev_V rfl⟩
          (repeat' (first | with_reducible exact tK | with_reducible exact tK' | with_reducible exact tJ | with_reducible exact tJ' | with_reducible exact e2 | with_reducible exact ev_C | ((with_reducible apply ev_V); exact rfl) | with_reducible exact ev_nil | with_reducible apply ev_cons | with_reducible apply ev_op | with_reducible apply ev_un | with_reducible apply ev_call | (with_reducible apply ev_tup) | (with_reducible apply ev_lst) | exact Nat.le_of_ble_eq_true rfl | with_reducible apply ev_sset | ((with_reducible apply set_eq); first | (simp only [List.set_cons_succ, List.set_cons_zero]; done) | (simp only [List.set_cons_succ, List.set_cons_zero]; exact rfl) | exact rfl) | with_reducible exact ev_noPart | with_reducible apply ev_ret | with_reducible apply ev_T | with_reducible apply ev_not | with_reducible apply ev_notV | with_reducible apply ev_isN | with_reducible apply ev_notN | with_reducible apply ev_part | with_reducible apply ev_ioGet | with_reducible apply ev_putIo | with_reducible exact add_int _ _ | with_reducible exact sub_int' _ _ | with_reducible exact int_int _ | with_reducible exact neg_int' _ | with_reducible exact tuple_strs _ | with_reducible exact tuple_lst _ | with_reducible exact list_lst _ | with_reducible exact items_lst _ | with_reducible exact items_tup _ | with_reducible exact items_txt _ | with_reducible apply ev_items | with_reducible apply ev_rng | with_reducible apply ev_sl | with_reducible exact len_txt _ | with_reducible exact len_tup _ | with_reducible exact len_lst _ | with_reducible exact eq_int' _ _ | with_reducible exact ne_int' _ _ | with_reducible exact lt_int' _ _ | with_reducible exact gt_int' _ _ | with_reducible exact le_int' _ _ | with_reducible exact ge_int' _ _)))
        rw [List.filter_filter] at lc2
        have hF : (List.filter (fun k => decide (1 + L a b (i' + 1) (j + k + 1) = L a b i' j) && decide (a[i']? = b[j + k]?)) (List.range (b.length - j)))[0]? = some q' := by
          refine first_in (by have := k3.2.1; omega) ?_ fun k hk => ?_
          · rw [decide_eq_true k3.2.2.1, decide_eq_true k3.2.2.2]; rfl
          · cases h : (decide (1 + L a b (i' + 1) (j + k + 1) = L a b i' j) && decide (a[i']? = b[j + k]?)) with
            | false => rfl
            | true =>
              obtain ⟨h1, h2⟩ := Bool.and_eq_true_iff.mp h
              have hb : Beg a b i' j (j + k) := ⟨by omega, by have := k3.2.1; omega, of_decide_eq_true h2, of_decide_eq_true h1⟩
              have := k4 _ hb
              omega
        generalize hfl : (List.filter (fun k => decide (1 + L a b (i' + 1) (j + k + 1) = L a b i' j) && decide (a[i']? = b[j + k]?)) (List.range (b.length - j))) = fl at lc2 hF
        have hx : ixD (.list (fl.map fun k => PyData.int ((j + k : Nat) : Int))) (.int 0) = some (.int ((j + q' : Nat) : Int)) := ix_map (e := fun k : Nat => PyData.int ((j + k : Nat) : Int)) (i := 0) hF
        have hfl2 : fl.length ≤ 7 := by
          rw [← hfl]
          refine Nat.le_trans (List.length_filter_le _ _) ?_
          simp
          omega
        have hpl : (List.filter (fun k => decide (a[i']? = b[j + k]?)) (List.range (b.length - j))).length ≤ 7 := by
          refine Nat.le_trans (List.length_filter_le _ _) ?_
          simp
          omega
        have k2' : L a b i j = s.length + 1 := by unfold L; rw [k2]; rfl
        refine ⟨none, [some (txt a), some (txt b), some (tab a.length b.length (L a b)), some (.list (List.map pr (pre ++ [(i', j + q')]))), some (.int ((i' + 1 : Nat) : Int)), some (.int ((j + q' + 1 : Nat) : Int)), r6', some (.list (fl.map fun k => PyData.int ((j + k : Nat) : Int))), r8], none, L a b (i' + 1) (j + q' + 1), ?_, ?_, ⟨pre ++ [(i', j + q')], i' + 1, j + q' + 1, _, _, _, rfl, rfl, by omega, by have := k3.2.1; omega, ?_, rfl⟩, ?_⟩
        · (repeat' (first | with_reducible exact tI | with_reducible exact tI' | exact eg | with_reducible exact ev_C | ((with_reducible apply ev_V); exact rfl) | with_reducible exact ev_nil | with_reducible apply ev_cons | with_reducible apply ev_op | with_reducible apply ev_un | with_reducible apply ev_call | (with_reducible apply ev_tup) | (with_reducible apply ev_lst) | exact Nat.le_of_ble_eq_true rfl | with_reducible apply ev_sset | ((with_reducible apply set_eq); first | (simp only [List.set_cons_succ, List.set_cons_zero]; done) | (simp only [List.set_cons_succ, List.set_cons_zero]; exact rfl) | exact rfl) | with_reducible exact ev_noPart | with_reducible apply ev_ret | with_reducible apply ev_T | with_reducible apply ev_not | with_reducible apply ev_notV | with_reducible apply ev_isN | with_reducible apply ev_notN | with_reducible apply ev_part | with_reducible apply ev_ioGet | with_reducible apply ev_putIo | with_reducible exact add_int _ _ | with_reducible exact sub_int' _ _ | with_reducible exact int_int _ | with_reducible exact neg_int' _ | with_reducible exact tuple_strs _ | with_reducible exact tuple_lst _ | with_reducible exact list_lst _ | with_reducible exact items_lst _ | with_reducible exact items_tup _ | with_reducible exact items_txt _ | with_reducible apply ev_items | with_reducible apply ev_rng | with_reducible apply ev_sl | with_reducible exact len_txt _ | with_reducible exact len_tup _ | with_reducible exact len_lst _ | with_reducible exact eq_int' _ _ | with_reducible exact ne_int' _ _ | with_reducible exact lt_int' _ _ | with_reducible exact gt_int' _ _ | with_reducible exact le_int' _ _ | with_reducible exact ge_int' _ _))
        · apply sq h1
          apply sq
          · apply ev_sset
            · apply ev_lc
              · (repeat' (first | with_reducible exact r2 | with_reducible exact ev_C | ((with_reducible apply ev_V); exact rfl) | with_reducible exact ev_nil | with_reducible apply ev_cons | with_reducible apply ev_op | with_reducible apply ev_un | with_reducible apply ev_call | (with_reducible apply ev_tup) | (with_reducible apply ev_lst) | exact Nat.le_of_ble_eq_true rfl | with_reducible apply ev_sset | ((with_reducible apply set_eq); first | (simp only [List.set_cons_succ, List.set_cons_zero]; done) | (simp only [List.set_cons_succ, List.set_cons_zero]; exact rfl) | exact rfl) | with_reducible exact ev_noPart | with_reducible apply ev_ret | with_reducible apply ev_T | with_reducible apply ev_not | with_reducible apply ev_notV | with_reducible apply ev_isN | with_reducible apply ev_notN | with_reducible apply ev_part | with_reducible apply ev_ioGet | with_reducible apply ev_putIo | with_reducible exact add_int _ _ | with_reducible exact sub_int' _ _ | with_reducible exact int_int _ | with_reducible exact neg_int' _ | with_reducible exact tuple_strs _ | with_reducible exact tuple_lst _ | with_reducible exact list_lst _ | with_reducible exact items_lst _ | with_reducible exact items_tup _ | with_reducible exact items_txt _ | with_reducible apply ev_items | with_reducible apply ev_rng | with_reducible apply ev_sl | with_reducible exact len_txt _ | with_reducible exact len_tup _ | with_reducible exact len_lst _ | with_reducible exact eq_int' _ _ | with_reducible exact ne_int' _ _ | with_reducible exact lt_int' _ _ | with_reducible exact gt_int' _ _ | with_reducible exact le_int' _ _ | with_reducible exact ge_int' _ _))
              · exact lc1
              · rw [List.length_map]; omega
            · exact rfl
          apply sq
          · apply ev_sset
            · apply ev_lc
              · (repeat' (first | with_reducible exact ev_C | ((with_reducible apply ev_V); exact rfl) | with_reducible exact ev_nil | with_reducible apply ev_cons | with_reducible apply ev_op | with_reducible apply ev_un | with_reducible apply ev_call | (with_reducible apply ev_tup) | (with_reducible apply ev_lst) | exact Nat.le_of_ble_eq_true rfl | with_reducible apply ev_sset | ((with_reducible apply set_eq); first | (simp only [List.set_cons_succ, List.set_cons_zero]; done) | (simp only [List.set_cons_succ, List.set_cons_zero]; exact rfl) | exact rfl) | with_reducible exact ev_noPart | with_reducible apply ev_ret | with_reducible apply ev_T | with_reducible apply ev_not | with_reducible apply ev_notV | with_reducible apply ev_isN | with_reducible apply ev_notN | with_reducible apply ev_part | with_reducible apply ev_ioGet | with_reducible apply ev_putIo | with_reducible exact add_int _ _ | with_reducible exact sub_int' _ _ | with_reducible exact int_int _ | with_reducible exact neg_int' _ | with_reducible exact tuple_strs _ | with_reducible exact tuple_lst _ | with_reducible exact list_lst _ | with_reducible exact items_lst _ | with_reducible exact items_tup _ | with_reducible exact items_txt _ | with_reducible apply ev_items | with_reducible apply ev_rng | with_reducible apply ev_sl | with_reducible exact len_txt _ | with_reducible exact len_tup _ | with_reducible exact len_lst _ | with_reducible exact eq_int' _ _ | with_reducible exact ne_int' _ _ | with_reducible exact lt_int' _ _ | with_reducible exact gt_int' _ _ | with_reducible exact le_int' _ _ | with_reducible exact ge_int' _ _))
              · exact lc2
              · rw [List.length_map]; omega
            · exact rfl
          apply sq
          · apply ev_append
            · (repeat' (first | with_reducible exact hx | with_reducible exact ev_C | ((with_reducible apply ev_V); exact rfl) | with_reducible exact ev_nil | with_reducible apply ev_cons | with_reducible apply ev_op | with_reducible apply ev_un | with_reducible apply ev_call | (with_reducible apply ev_tup) | (with_reducible apply ev_lst) | exact Nat.le_of_ble_eq_true rfl | with_reducible apply ev_sset | ((with_reducible apply set_eq); first | (simp only [List.set_cons_succ, List.set_cons_zero]; done) | (simp only [List.set_cons_succ, List.set_cons_zero]; exact rfl) | exact rfl) | with_reducible exact ev_noPart | with_reducible apply ev_ret | with_reducible apply ev_T | with_reducible apply ev_not | with_reducible apply ev_notV | with_reducible apply ev_isN | with_reducible apply ev_notN | with_reducible apply ev_part | with_reducible apply ev_ioGet | with_reducible apply ev_putIo | with_reducible exact add_int _ _ | with_reducible exact sub_int' _ _ | with_reducible exact int_int _ | with_reducible exact neg_int' _ | with_reducible exact tuple_strs _ | with_reducible exact tuple_lst _ | with_reducible exact list_lst _ | with_reducible exact items_lst _ | with_reducible exact items_tup _ | with_reducible exact items_txt _ | with_reducible apply ev_items | with_reducible apply ev_rng | with_reducible apply ev_sl | with_reducible exact len_txt _ | with_reducible exact len_tup _ | with_reducible exact len_lst _ | with_reducible exact eq_int' _ _ | with_reducible exact ne_int' _ _ | with_reducible exact lt_int' _ _ | with_reducible exact gt_int' _ _ | with_reducible exact le_int' _ _ | with_reducible exact ge_int' _ _))
            · exact rfl
            · rw [List.length_map]; omega
          · apply ev_asg
            · (repeat' (first | with_reducible exact hx | with_reducible exact ev_C | ((with_reducible apply ev_V); exact rfl) | with_reducible exact ev_nil | with_reducible apply ev_cons | with_reducible apply ev_op | with_reducible apply ev_un | with_reducible apply ev_call | (with_reducible apply ev_tup) | (with_reducible apply ev_lst) | exact Nat.le_of_ble_eq_true rfl | with_reducible apply ev_sset | ((with_reducible apply set_eq); first | (simp only [List.set_cons_succ, List.set_cons_zero]; done) | (simp only [List.set_cons_succ, List.set_cons_zero]; exact rfl) | exact rfl) | with_reducible exact ev_noPart | with_reducible apply ev_ret | with_reducible apply ev_T | with_reducible apply ev_not | with_reducible apply ev_notV | with_reducible apply ev_isN | with_reducible apply ev_notN | with_reducible apply ev_part | with_reducible apply ev_ioGet | with_reducible apply ev_putIo | with_reducible exact add_int _ _ | with_reducible exact sub_int' _ _ | with_reducible exact int_int _ | with_reducible exact neg_int' _ | with_reducible exact tuple_strs _ | with_reducible exact tuple_lst _ | with_reducible exact list_lst _ | with_reducible exact items_lst _ | with_reducible exact items_tup _ | with_reducible exact items_txt _ | with_reducible apply ev_items | with_reducible apply ev_rng | with_reducible apply ev_sl | with_reducible exact len_txt _ | with_reducible exact len_tup _ | with_reducible exact len_lst _ | with_reducible exact eq_int' _ _ | with_reducible exact ne_int' _ _ | with_reducible exact lt_int' _ _ | with_reducible exact gt_int' _ _ | with_reducible exact le_int' _ _ | with_reducible exact ge_int' _ _))
            · rw [List.map_append]
              rfl
        · rw [hK, k2, k5, List.append_assoc]
          rfl
        · rw [k2', k5]
          exact Nat.lt_succ_self _
      · left
        have h0 : L a b i j = 0 := by omega
        rw [decide_eq_false c] at eg
        refine ⟨none, ?_, ⟨some (.int (i : Nat)), some (.int (j : Nat)), r6, r7, r8, ?_, rfl⟩⟩
        · (repeat' (first | with_reducible exact tI | with_reducible exact tI' | exact eg | with_reducible exact ev_C | ((with_reducible apply ev_V); exact rfl) | with_reducible exact ev_nil | with_reducible apply ev_cons | with_reducible apply ev_op | with_reducible apply ev_un | with_reducible apply ev_call | (with_reducible apply ev_tup) | (with_reducible apply ev_lst) | exact Nat.le_of_ble_eq_true rfl | with_reducible apply ev_sset | ((with_reducible apply set_eq); first | (simp only [List.set_cons_succ, List.set_cons_zero]; done) | (simp only [List.set_cons_succ, List.set_cons_zero]; exact rfl) | exact rfl) | with_reducible exact ev_noPart | with_reducible apply ev_ret | with_reducible apply ev_T | with_reducible apply ev_not | with_reducible apply ev_notV | with_reducible apply ev_isN | with_reducible apply ev_notN | with_reducible apply ev_part | with_reducible apply ev_ioGet | with_reducible apply ev_putIo | with_reducible exact add_int _ _ | with_reducible exact sub_int' _ _ | with_reducible exact int_int _ | with_reducible exact neg_int' _ | with_reducible exact tuple_strs _ | with_reducible exact tuple_lst _ | with_reducible exact list_lst _ | with_reducible exact items_lst _ | with_reducible exact items_tup _ | with_reducible exact items_txt _ | with_reducible apply ev_items | with_reducible apply ev_rng | with_reducible apply ev_sl | with_reducible exact len_txt _ | with_reducible exact len_tup _ | with_reducible exact len_lst _ | with_reducible exact eq_int' _ _ | with_reducible exact ne_int' _ _ | with_reducible exact lt_int' _ _ | with_reducible exact gt_int' _ _ | with_reducible exact le_int' _ _ | with_reducible exact ge_int' _ _))
        · have : K a b i j = [] := List.length_eq_zero_iff.mp h0
          rw [hK, this, List.append_nil])
  show outL (g_told_keeping M_is_begun M_most_kept [some (txt a), some (txt b), none, none, none, none, none, none, none] none) = _
  refine outL_of (m := none) ?_
  unfold g_told_keeping
  have mo := most_ok P
  apply sq
  · (repeat' (first | with_reducible exact mo | with_reducible exact ev_C | ((with_reducible apply ev_V); exact rfl) | with_reducible exact ev_nil | with_reducible apply ev_cons | with_reducible apply ev_op | with_reducible apply ev_un | with_reducible apply ev_call | (with_reducible apply ev_tup) | (with_reducible apply ev_lst) | exact Nat.le_of_ble_eq_true rfl | with_reducible apply ev_sset | ((with_reducible apply set_eq); first | (simp only [List.set_cons_succ, List.set_cons_zero]; done) | (simp only [List.set_cons_succ, List.set_cons_zero]; exact rfl) | exact rfl) | with_reducible exact ev_noPart | with_reducible apply ev_ret | with_reducible apply ev_T | with_reducible apply ev_not | with_reducible apply ev_notV | with_reducible apply ev_isN | with_reducible apply ev_notN | with_reducible apply ev_part | with_reducible apply ev_ioGet | with_reducible apply ev_putIo | with_reducible exact add_int _ _ | with_reducible exact sub_int' _ _ | with_reducible exact int_int _ | with_reducible exact neg_int' _ | with_reducible exact tuple_strs _ | with_reducible exact tuple_lst _ | with_reducible exact list_lst _ | with_reducible exact items_lst _ | with_reducible exact items_tup _ | with_reducible exact items_txt _ | with_reducible apply ev_items | with_reducible apply ev_rng | with_reducible apply ev_sl | with_reducible exact len_txt _ | with_reducible exact len_tup _ | with_reducible exact len_lst _ | with_reducible exact eq_int' _ _ | with_reducible exact ne_int' _ _ | with_reducible exact lt_int' _ _ | with_reducible exact gt_int' _ _ | with_reducible exact le_int' _ _ | with_reducible exact ge_int' _ _))
  apply sq
  · (repeat' (first | with_reducible exact ev_C | ((with_reducible apply ev_V); exact rfl) | with_reducible exact ev_nil | with_reducible apply ev_cons | with_reducible apply ev_op | with_reducible apply ev_un | with_reducible apply ev_call | (with_reducible apply ev_tup) | (with_reducible apply ev_lst) | exact Nat.le_of_ble_eq_true rfl | with_reducible apply ev_sset | ((with_reducible apply set_eq); first | (simp only [List.set_cons_succ, List.set_cons_zero]; done) | (simp only [List.set_cons_succ, List.set_cons_zero]; exact rfl) | exact rfl) | with_reducible exact ev_noPart | with_reducible apply ev_ret | with_reducible apply ev_T | with_reducible apply ev_not | with_reducible apply ev_notV | with_reducible apply ev_isN | with_reducible apply ev_notN | with_reducible apply ev_part | with_reducible apply ev_ioGet | with_reducible apply ev_putIo | with_reducible exact add_int _ _ | with_reducible exact sub_int' _ _ | with_reducible exact int_int _ | with_reducible exact neg_int' _ | with_reducible exact tuple_strs _ | with_reducible exact tuple_lst _ | with_reducible exact list_lst _ | with_reducible exact items_lst _ | with_reducible exact items_tup _ | with_reducible exact items_txt _ | with_reducible apply ev_items | with_reducible apply ev_rng | with_reducible apply ev_sl | with_reducible exact len_txt _ | with_reducible exact len_tup _ | with_reducible exact len_lst _ | with_reducible exact eq_int' _ _ | with_reducible exact ne_int' _ _ | with_reducible exact lt_int' _ _ | with_reducible exact gt_int' _ _ | with_reducible exact le_int' _ _ | with_reducible exact ge_int' _ _))
  apply sq
  · apply ev_asg
    · (repeat' (first | with_reducible exact ev_C | ((with_reducible apply ev_V); exact rfl) | with_reducible exact ev_nil | with_reducible apply ev_cons | with_reducible apply ev_op | with_reducible apply ev_un | with_reducible apply ev_call | (with_reducible apply ev_tup) | (with_reducible apply ev_lst) | exact Nat.le_of_ble_eq_true rfl | with_reducible apply ev_sset | ((with_reducible apply set_eq); first | (simp only [List.set_cons_succ, List.set_cons_zero]; done) | (simp only [List.set_cons_succ, List.set_cons_zero]; exact rfl) | exact rfl) | with_reducible exact ev_noPart | with_reducible apply ev_ret | with_reducible apply ev_T | with_reducible apply ev_not | with_reducible apply ev_notV | with_reducible apply ev_isN | with_reducible apply ev_notN | with_reducible apply ev_part | with_reducible apply ev_ioGet | with_reducible apply ev_putIo | with_reducible exact add_int _ _ | with_reducible exact sub_int' _ _ | with_reducible exact int_int _ | with_reducible exact neg_int' _ | with_reducible exact tuple_strs _ | with_reducible exact tuple_lst _ | with_reducible exact list_lst _ | with_reducible exact items_lst _ | with_reducible exact items_tup _ | with_reducible exact items_txt _ | with_reducible apply ev_items | with_reducible apply ev_rng | with_reducible apply ev_sl | with_reducible exact len_txt _ | with_reducible exact len_tup _ | with_reducible exact len_lst _ | with_reducible exact eq_int' _ _ | with_reducible exact ne_int' _ _ | with_reducible exact lt_int' _ _ | with_reducible exact gt_int' _ _ | with_reducible exact le_int' _ _ | with_reducible exact ge_int' _ _))
    · exact rfl
  apply sq h1
  (repeat' (first | with_reducible exact ev_C | ((with_reducible apply ev_V); exact rfl) | with_reducible exact ev_nil | with_reducible apply ev_cons | with_reducible apply ev_op | with_reducible apply ev_un | with_reducible apply ev_call | (with_reducible apply ev_tup) | (with_reducible apply ev_lst) | exact Nat.le_of_ble_eq_true rfl | with_reducible apply ev_sset | ((with_reducible apply set_eq); first | (simp only [List.set_cons_succ, List.set_cons_zero]; done) | (simp only [List.set_cons_succ, List.set_cons_zero]; exact rfl) | exact rfl) | with_reducible exact ev_noPart | with_reducible apply ev_ret | with_reducible apply ev_T | with_reducible apply ev_not | with_reducible apply ev_notV | with_reducible apply ev_isN | with_reducible apply ev_notN | with_reducible apply ev_part | with_reducible apply ev_ioGet | with_reducible apply ev_putIo | with_reducible exact add_int _ _ | with_reducible exact sub_int' _ _ | with_reducible exact int_int _ | with_reducible exact neg_int' _ | with_reducible exact tuple_strs _ | with_reducible exact tuple_lst _ | with_reducible exact list_lst _ | with_reducible exact items_lst _ | with_reducible exact items_tup _ | with_reducible exact items_txt _ | with_reducible apply ev_items | with_reducible apply ev_rng | with_reducible apply ev_sl | with_reducible exact len_txt _ | with_reducible exact len_tup _ | with_reducible exact len_lst _ | with_reducible exact eq_int' _ _ | with_reducible exact ne_int' _ _ | with_reducible exact lt_int' _ _ | with_reducible exact gt_int' _ _ | with_reducible exact le_int' _ _ | with_reducible exact ge_int' _ _))
  exact tuple_lst _
end
end K01
namespace K01
open PySem PySem.Spec PyProof.Rows L2 DL
section
variable {a b : List Str}
/-! ### the law's own keeping -/
def bestD (l : List ((Nat × Nat) × Row)) : PyData := .dict ((.none, .none) :: l.map (enD pr kp))
theorem best_get {l : List ((Nat × Nat) × Row)} {i j : Nat} {r : Row} (h : look l (i, j) = some r) : dgetT (bestD l) [.inl (i : Nat), .inl (j : Nat)] = some (kp r) := by
  show dgetD (l.map (enD pr kp)) (pr (i, j)) = _
  rw [dget_look pr_eqv, h]; rfl
theorem lc_lp (xs : List Row) (hx : ∀ r ∈ xs, r.length ≤ 1000) (ρ : DEnv) (i : Nat) (hi : i < ρ.length) (m : Io) : lcF (bName i) tYesF (fTup (fCons (fOp subD (fC (.int 0)) (fCall lenD (fCons (fV i) fNil))) (fCons (fV i) fNil))) ρ (xs.map kp) m = some (xs.map lp, m) :=
  lc_mapA kp lp m xs fun r hr => ⟨ρ.set i (some (kp r)), rfl, by
    have hv : (ρ.set i (some (kp r)))[i]? = some (some (kp r)) := by rw [List.getElem?_set_self hi]
    have hl := len_kp r
    show _ = some (PyData.tuple [.int (0 - (r.length : Nat)), kp r], m)
    (repeat' (first | with_reducible exact ev_V hv | with_reducible exact hl | with_reducible exact ev_C | ((with_reducible apply ev_V); exact rfl) | with_reducible exact ev_nil | with_reducible apply ev_cons | with_reducible apply ev_op | with_reducible apply ev_un | with_reducible apply ev_call | (with_reducible apply ev_tup) | (with_reducible apply ev_lst) | exact Nat.le_of_ble_eq_true rfl | with_reducible apply ev_sset | ((with_reducible apply set_eq); first | (simp only [List.set_cons_succ, List.set_cons_zero]; done) | (simp only [List.set_cons_succ, List.set_cons_zero]; exact rfl) | exact rfl) | with_reducible exact ev_noPart | with_reducible apply ev_ret | with_reducible apply ev_T | with_reducible apply ev_not | with_reducible apply ev_notV | with_reducible apply ev_isN | with_reducible apply ev_notN | with_reducible apply ev_part | with_reducible apply ev_ioGet | with_reducible apply ev_putIo | with_reducible exact add_int _ _ | with_reducible exact sub_int' _ _ | with_reducible exact int_int _ | with_reducible exact neg_int' _ | with_reducible exact tuple_strs _ | with_reducible exact tuple_lst _ | with_reducible exact list_lst _ | with_reducible exact items_lst _ | with_reducible exact items_tup _ | with_reducible exact items_txt _ | with_reducible apply ev_items | with_reducible apply ev_rng | with_reducible apply ev_sl | with_reducible exact len_txt _ | with_reducible exact len_tup _ | with_reducible exact len_lst _ | with_reducible exact eq_int' _ _ | with_reducible exact ne_int' _ _ | with_reducible exact lt_int' _ _ | with_reducible exact gt_int' _ _ | with_reducible exact le_int' _ _ | with_reducible exact ge_int' _ _))⟩
theorem K_len (P : Pair a b) (i j : Nat) : (K a b i j).length ≤ 7 := by
  have := (K_lst (a := a) (b := b) i j).1.len_le
  have := P.la
  omega
theorem keeping_ok (P : Pair a b) : M_l_keeping [txt a, txt b] = some (kp (K a b 0 0)) := by
  have hn := P.la
  have hm := P.lb
  have lgn : listRg (.int ((a.length : Nat) + 1)) = _ := listRg_nat (n := a.length + 1) (by omega)
  have lgm : listRg (.int ((b.length : Nat) + 1)) = _ := listRg_nat (n := b.length + 1) (by omega)
  have rvn := rev_map (fun k : Nat => PyData.int (k : Nat)) (List.range (a.length + 1))
  have rvm := rev_map (fun k : Nat => PyData.int (k : Nat)) (List.range (b.length + 1))
  obtain ⟨ρ', m', h1, ⟨l, r3, r4, r5, r6, rfl, rfl, hl, hf⟩⟩ := for_down (b := bName 3) (s := fFor (fItems (fUn revD (fUn listRg (fOp addD (fCall lenD (fCons (fV 1) fNil)) (fC (.int 1)))))) (bName 4)
    (fIfS (fOr (fT (fOp eqD (fV 3) (fCall lenD (fCons (fV 0) fNil)))) (fT (fOp eqD (fV 4) (fCall lenD (fCons (fV 1) fNil)))))
    (fPutT 2 (fKey (fCons (fV 3) (fCons (fV 4) fNil))) (fTup fNil))
    (fSeq (fSet 5 (fLst (fCons (fGetT (fV 2) (fKey (fCons (fOp addD (fV 3) (fC (.int 1))) (fCons (fV 4) fNil)))) (fCons (fGetT (fV 2) (fKey (fCons (fV 3) (fCons (fOp addD (fV 4) (fC (.int 1))) fNil)))) fNil))))
    (fSeq (fIfS (fT (fOp eqD (fOp ixD (fV 0) (fV 3)) (fOp ixD (fV 1) (fV 4))))
    (fAppend 5 (fOp addD (fTup (fCons (fTup (fCons (fV 3) (fCons (fV 4) fNil))) fNil)) (fGetT (fV 2) (fKey (fCons (fOp addD (fV 3) (fC (.int 1))) (fCons (fOp addD (fV 4) (fC (.int 1))) fNil))))))
    fNext)
    (fPutT 2 (fKey (fCons (fV 3) (fCons (fV 4) fNil))) (fOp ixD (fCall minLD (fCons (fLc (fItems (fV 5)) (bName 6) tYesF (fTup (fCons (fOp subD (fC (.int 0)) (fCall lenD (fCons (fV 6) fNil))) (fCons (fV 6) fNil))) (List.map (·.2) ([("row", 6)] : List (Str × Nat)))) fNil)) (fC (.int 1))))))))
    (a.length + 1) (fun k => PyData.int (k : Nat)) (fun i ρ m => ∃ l r3 r4 r5 r6, ρ = [some (txt a), some (txt b), some (bestD l), r3, r4, r5, r6] ∧ m = none ∧ l.length + 100 * i ≤ 100 * (a.length + 1) ∧ ∀ i' j', i' ≤ a.length → j' ≤ b.length → i ≤ i' → look l (i', j') = some (K a b i' j'))
    (ρ := [some (txt a), some (txt b), some (bestD []), none, none, none, none]) (m := none)
    ⟨[], none, none, none, none, rfl, rfl, by simp, fun i' j' h1 h2 h3 => by omega⟩ (by
      rintro i ρ m hi ⟨l, r3, r4, r5, r6, rfl, rfl, hl, hf⟩
      obtain ⟨ρ', m', h1, ⟨l', s4, s5, s6, rfl, rfl, hl', hf'⟩⟩ := for_down (b := bName 4) (s := (fIfS (fOr (fT (fOp eqD (fV 3) (fCall lenD (fCons (fV 0) fNil)))) (fT (fOp eqD (fV 4) (fCall lenD (fCons (fV 1) fNil)))))
        (fPutT 2 (fKey (fCons (fV 3) (fCons (fV 4) fNil))) (fTup fNil))
        (fSeq (fSet 5 (fLst (fCons (fGetT (fV 2) (fKey (fCons (fOp addD (fV 3) (fC (.int 1))) (fCons (fV 4) fNil)))) (fCons (fGetT (fV 2) (fKey (fCons (fV 3) (fCons (fOp addD (fV 4) (fC (.int 1))) fNil)))) fNil))))
        (fSeq (fIfS (fT (fOp eqD (fOp ixD (fV 0) (fV 3)) (fOp ixD (fV 1) (fV 4))))
        (fAppend 5 (fOp addD (fTup (fCons (fTup (fCons (fV 3) (fCons (fV 4) fNil))) fNil)) (fGetT (fV 2) (fKey (fCons (fOp addD (fV 3) (fC (.int 1))) (fCons (fOp addD (fV 4) (fC (.int 1))) fNil))))))
        fNext)
        (fPutT 2 (fKey (fCons (fV 3) (fCons (fV 4) fNil))) (fOp ixD (fCall minLD (fCons (fLc (fItems (fV 5)) (bName 6) tYesF (fTup (fCons (fOp subD (fC (.int 0)) (fCall lenD (fCons (fV 6) fNil))) (fCons (fV 6) fNil))) (List.map (·.2) ([("row", 6)] : List (Str × Nat)))) fNil)) (fC (.int 1))))))))
        (b.length + 1) (fun k => PyData.int (k : Nat)) (fun j ρ m => ∃ l' r4 r5 r6, ρ = [some (txt a), some (txt b), some (bestD l'), some (.int (i : Nat)), r4, r5, r6] ∧ m = none ∧ l'.length + j ≤ l.length + (b.length + 1) ∧ ∀ i' j', i' ≤ a.length → j' ≤ b.length → (i + 1 ≤ i' ∨ (i' = i ∧ j ≤ j')) → look l' (i', j') = some (K a b i' j'))
        (ρ := [some (txt a), some (txt b), some (bestD l), some (.int (i : Nat)), r4, r5, r6]) (m := none)
        ⟨l, r4, r5, r6, rfl, rfl, by omega, fun i' j' h1 h2 h3 => hf i' j' h1 h2 (by omega)⟩ (by
          rintro j ρ m hj ⟨l', r4, r5, r6, rfl, rfl, hl', hf'⟩
          have put : ∀ r : Row, r = K a b i j → ∃ l2 : List ((Nat × Nat) × Row), dputD (l'.map (enD pr kp)) (pr (i, j)) (kp r) = l2.map (enD pr kp) ∧ l2.length + j ≤ l.length + (b.length + 1) ∧ ∀ i' j', i' ≤ a.length → j' ≤ b.length → (i + 1 ≤ i' ∨ (i' = i ∧ j ≤ j')) → look l2 (i', j') = some (K a b i' j') := fun r hr => by
            obtain ⟨l2, g1, g2, g3, g4, _⟩ := dput_look (val := kp) pr_eqv (i, j) r l'
            refine ⟨l2, g1, by omega, fun i' j' k1 k2 k3 => ?_⟩
            by_cases c : (i', j') = (i, j)
            · cases c; rw [g3, hr]
            · rw [g4 _ c]
              refine hf' i' j' k1 k2 ?_
              simp only [Prod.mk.injEq] at c
              omega
          have ei := eq_nat i a.length
          have ej := eq_nat j b.length
          by_cases ce : a.length ≤ i ∨ b.length ≤ j
          · obtain ⟨l2, g1, g2, g3⟩ := put [] (K_edge ce).symm
            refine ⟨_, _, none, rfl, ?_, ⟨l2, some (.int (j : Nat)), r5, r6, rfl, rfl, g2, g3⟩⟩
            apply ift
            · by_cases c1 : i = a.length
              · rw [decide_eq_true c1] at ei
                apply ev_or_t
                (repeat' (first | with_reducible exact ei | with_reducible exact ev_C | ((with_reducible apply ev_V); exact rfl) | with_reducible exact ev_nil | with_reducible apply ev_cons | with_reducible apply ev_op | with_reducible apply ev_un | with_reducible apply ev_call | (with_reducible apply ev_tup) | (with_reducible apply ev_lst) | exact Nat.le_of_ble_eq_true rfl | with_reducible apply ev_sset | ((with_reducible apply set_eq); first | (simp only [List.set_cons_succ, List.set_cons_zero]; done) | (simp only [List.set_cons_succ, List.set_cons_zero]; exact rfl) | exact rfl) | with_reducible exact ev_noPart | with_reducible apply ev_ret | with_reducible apply ev_T | with_reducible apply ev_not | with_reducible apply ev_notV | with_reducible apply ev_isN | with_reducible apply ev_notN | with_reducible apply ev_part | with_reducible apply ev_ioGet | with_reducible apply ev_putIo | with_reducible exact add_int _ _ | with_reducible exact sub_int' _ _ | with_reducible exact int_int _ | with_reducible exact neg_int' _ | with_reducible exact tuple_strs _ | with_reducible exact tuple_lst _ | with_reducible exact list_lst _ | with_reducible exact items_lst _ | with_reducible exact items_tup _ | with_reducible exact items_txt _ | with_reducible apply ev_items | with_reducible apply ev_rng | with_reducible apply ev_sl | with_reducible exact len_txt _ | with_reducible exact len_tup _ | with_reducible exact len_lst _ | with_reducible exact eq_int' _ _ | with_reducible exact ne_int' _ _ | with_reducible exact lt_int' _ _ | with_reducible exact gt_int' _ _ | with_reducible exact le_int' _ _ | with_reducible exact ge_int' _ _))
              · rw [decide_eq_false c1] at ei
                have c2 : j = b.length := by omega
                rw [decide_eq_true c2] at ej
                apply ev_or_f
                · (repeat' (first | with_reducible exact ei | with_reducible exact ev_C | ((with_reducible apply ev_V); exact rfl) | with_reducible exact ev_nil | with_reducible apply ev_cons | with_reducible apply ev_op | with_reducible apply ev_un | with_reducible apply ev_call | (with_reducible apply ev_tup) | (with_reducible apply ev_lst) | exact Nat.le_of_ble_eq_true rfl | with_reducible apply ev_sset | ((with_reducible apply set_eq); first | (simp only [List.set_cons_succ, List.set_cons_zero]; done) | (simp only [List.set_cons_succ, List.set_cons_zero]; exact rfl) | exact rfl) | with_reducible exact ev_noPart | with_reducible apply ev_ret | with_reducible apply ev_T | with_reducible apply ev_not | with_reducible apply ev_notV | with_reducible apply ev_isN | with_reducible apply ev_notN | with_reducible apply ev_part | with_reducible apply ev_ioGet | with_reducible apply ev_putIo | with_reducible exact add_int _ _ | with_reducible exact sub_int' _ _ | with_reducible exact int_int _ | with_reducible exact neg_int' _ | with_reducible exact tuple_strs _ | with_reducible exact tuple_lst _ | with_reducible exact list_lst _ | with_reducible exact items_lst _ | with_reducible exact items_tup _ | with_reducible exact items_txt _ | with_reducible apply ev_items | with_reducible apply ev_rng | with_reducible apply ev_sl | with_reducible exact len_txt _ | with_reducible exact len_tup _ | with_reducible exact len_lst _ | with_reducible exact eq_int' _ _ | with_reducible exact ne_int' _ _ | with_reducible exact lt_int' _ _ | with_reducible exact gt_int' _ _ | with_reducible exact le_int' _ _ | with_reducible exact ge_int' _ _))
                · (repeat' (first | with_reducible exact ej | with_reducible exact ev_C | ((with_reducible apply ev_V); exact rfl) | with_reducible exact ev_nil | with_reducible apply ev_cons | with_reducible apply ev_op | with_reducible apply ev_un | with_reducible apply ev_call | (with_reducible apply ev_tup) | (with_reducible apply ev_lst) | exact Nat.le_of_ble_eq_true rfl | with_reducible apply ev_sset | ((with_reducible apply set_eq); first | (simp only [List.set_cons_succ, List.set_cons_zero]; done) | (simp only [List.set_cons_succ, List.set_cons_zero]; exact rfl) | exact rfl) | with_reducible exact ev_noPart | with_reducible apply ev_ret | with_reducible apply ev_T | with_reducible apply ev_not | with_reducible apply ev_notV | with_reducible apply ev_isN | with_reducible apply ev_notN | with_reducible apply ev_part | with_reducible apply ev_ioGet | with_reducible apply ev_putIo | with_reducible exact add_int _ _ | with_reducible exact sub_int' _ _ | with_reducible exact int_int _ | with_reducible exact neg_int' _ | with_reducible exact tuple_strs _ | with_reducible exact tuple_lst _ | with_reducible exact list_lst _ | with_reducible exact items_lst _ | with_reducible exact items_tup _ | with_reducible exact items_txt _ | with_reducible apply ev_items | with_reducible apply ev_rng | with_reducible apply ev_sl | with_reducible exact len_txt _ | with_reducible exact len_tup _ | with_reducible exact len_lst _ | with_reducible exact eq_int' _ _ | with_reducible exact ne_int' _ _ | with_reducible exact lt_int' _ _ | with_reducible exact gt_int' _ _ | with_reducible exact le_int' _ _ | with_reducible exact ge_int' _ _))
            · refine (ev_putT (ks := [.inl (i : Nat), .inl (j : Nat)]) (kvs := l'.map (enD pr kp)) (x := kp []) (m1 := none) (m2 := none) rfl (ev_key (xs := [.int (i : Nat), .int (j : Nat)]) (ev_cons (ev_V rfl) (ev_cons (ev_V rfl) ev_nil)) rfl (Nat.le_of_ble_eq_true rfl)) rfl (by rw [List.length_map]; omega)).trans ?_
              rw [show (PyData.tuple (([.inl (i : Nat), .inl (j : Nat)] : List Key).map keyD)) = pr (i, j) from rfl, g1]
              rfl
          · have hi' : i < a.length := by omega
            have hj' : j < b.length := by omega
            obtain ⟨x, ex, ix⟩ := ix_ok hi'
            obtain ⟨y, ey, iy⟩ := ix_ok hj'
            have e1 := P.eq ex ey
            have hu := hf' (i + 1) j (by omega) (by omega) (by omega)
            have hv := hf' i (j + 1) (by omega) (by omega) (by omega)
            have hw := hf' (i + 1) (j + 1) (by omega) (by omega) (by omega)
            have du := best_get hu
            have dv := best_get hv
            have dw := best_get hw
            have Lu := K_lst (a := a) (b := b) (i + 1) j
            have Lv := K_lst (a := a) (b := b) i (j + 1)
            have Lw := K_lst (a := a) (b := b) (i + 1) (j + 1)
            have kl := K_len P
            rw [decide_eq_false (by omega : ¬ i = a.length)] at ei
            rw [decide_eq_false (by omega : ¬ j = b.length)] at ej
            -- the step, by rows
            have fin : ∀ rows : List Row, rows ≠ [] → rows.length ≤ 3 → (∀ r ∈ rows, r.length ≤ 1000) → (if a[i]? = b[j]? then ∃ w, Lst a b (i + 1) (j + 1) w ∧ rows = [K a b (i + 1) j, K a b i (j + 1), (i, j) :: w] else rows = [K a b (i + 1) j, K a b i (j + 1)]) →
                ∀ s6, ∃ (l2 : List ((Nat × Nat) × Row)), (fPutT 2 (fKey (fCons (fV 3) (fCons (fV 4) fNil))) (fOp ixD (fCall minLD (fCons (fLc (fItems (fV 5)) (bName 6) tYesF (fTup (fCons (fOp subD (fC (.int 0)) (fCall lenD (fCons (fV 6) fNil))) (fCons (fV 6) fNil))) (List.map (·.2) ([("row", 6)] : List (Str × Nat)))) fNil)) (fC (.int 1))))
                  [some (txt a), some (txt b), some (bestD l'), some (.int (i : Nat)), some (.int (j : Nat)), some (.list (rows.map kp)), s6] none = some (.nx [some (txt a), some (txt b), some (bestD l2), some (.int (i : Nat)), some (.int (j : Nat)), some (.list (rows.map kp)), s6] none) ∧ l2.length + j ≤ l.length + (b.length + 1) ∧ ∀ i' j', i' ≤ a.length → j' ≤ b.length → (i + 1 ≤ i' ∨ (i' = i ∧ j ≤ j')) → look l2 (i', j') = some (K a b i' j') := by
              intro rows hne h3 hlen hrows s6
              obtain ⟨r, hr, hmin, hleast⟩ := lp_min rows hne
              obtain ⟨l2, g1, g2, g3⟩ := put r (K_eq (Lst.step hi' hj' Lu Lv hrows hr hleast)).symm
              have hlc := lc_lp rows hlen [some (txt a), some (txt b), some (bestD l'), some (.int (i : Nat)), some (.int (j : Nat)), some (.list (rows.map kp)), none] 6 (by simp) none
              have hix := lp_ix r
              refine ⟨l2, ?_, g2, g3⟩
              have E : fOp ixD (fCall minLD (fCons (fLc (fItems (fV 5)) (bName 6) tYesF (fTup (fCons (fOp subD (fC (.int 0)) (fCall lenD (fCons (fV 6) fNil))) (fCons (fV 6) fNil))) (List.map (·.2) ([("row", 6)] : List (Str × Nat)))) fNil)) (fC (.int 1)) [some (txt a), some (txt b), some (bestD l'), some (.int (i : Nat)), some (.int (j : Nat)), some (.list (rows.map kp)), s6] none = some (kp r, none) := by
                apply ev_op
                · apply ev_call
                  · apply ev_cons
                    · apply ev_lc
                      · (repeat' (first | with_reducible exact ev_C | ((with_reducible apply ev_V); exact rfl) | with_reducible exact ev_nil | with_reducible apply ev_cons | with_reducible apply ev_op | with_reducible apply ev_un | with_reducible apply ev_call | (with_reducible apply ev_tup) | (with_reducible apply ev_lst) | exact Nat.le_of_ble_eq_true rfl | with_reducible apply ev_sset | ((with_reducible apply set_eq); first | (simp only [List.set_cons_succ, List.set_cons_zero]; done) | (simp only [List.set_cons_succ, List.set_cons_zero]; exact rfl) | exact rfl) | with_reducible exact ev_noPart | with_reducible apply ev_ret | with_reducible apply ev_T | with_reducible apply ev_not | with_reducible apply ev_notV | with_reducible apply ev_isN | with_reducible apply ev_notN | with_reducible apply ev_part | with_reducible apply ev_ioGet | with_reducible apply ev_putIo | with_reducible exact add_int _ _ | with_reducible exact sub_int' _ _ | with_reducible exact int_int _ | with_reducible exact neg_int' _ | with_reducible exact tuple_strs _ | with_reducible exact tuple_lst _ | with_reducible exact list_lst _ | with_reducible exact items_lst _ | with_reducible exact items_tup _ | with_reducible exact items_txt _ | with_reducible apply ev_items | with_reducible apply ev_rng | with_reducible apply ev_sl | with_reducible exact len_txt _ | with_reducible exact len_tup _ | with_reducible exact len_lst _ | with_reducible exact eq_int' _ _ | with_reducible exact ne_int' _ _ | with_reducible exact lt_int' _ _ | with_reducible exact gt_int' _ _ | with_reducible exact le_int' _ _ | with_reducible exact ge_int' _ _))
                      · exact hlc
                      · rw [List.length_map]; omega
                    · exact ev_nil
                  · exact hmin
                · exact ev_C
                · exact hix
              refine (ev_putT (ks := [.inl (i : Nat), .inl (j : Nat)]) (kvs := l'.map (enD pr kp)) (x := kp r) (m1 := none) (m2 := none) E (ev_key (xs := [.int (i : Nat), .int (j : Nat)]) (ev_cons (ev_V rfl) (ev_cons (ev_V rfl) ev_nil)) rfl (Nat.le_of_ble_eq_true rfl)) rfl (by rw [List.length_map]; omega)).trans ?_
              rw [show (PyData.tuple (([.inl (i : Nat), .inl (j : Nat)] : List Key).map keyD)) = pr (i, j) from rfl, g1]
              rfl
            by_cases c : a[i]? = b[j]?
            · rw [decide_eq_true c] at e1
              obtain ⟨l2, g1, g2, g3⟩ := fin [K a b (i + 1) j, K a b i (j + 1), (i, j) :: K a b (i + 1) (j + 1)] (by simp) (by simp) (by
                intro r hr
                simp only [List.mem_cons, List.not_mem_nil, or_false] at hr
                have h1 := kl (i + 1) j
                have h2 := kl i (j + 1)
                have h3 := kl (i + 1) (j + 1)
                rcases hr with rfl | rfl | rfl
                · omega
                · omega
                · simp only [List.length_cons]; omega) (by rw [if_pos c]; exact ⟨_, Lw, rfl⟩) r6
              refine ⟨[some (txt a), some (txt b), some (bestD l'), some (.int (i : Nat)), some (.int (j : Nat)), r5, r6], _, none, rfl, ?_, ⟨l2, some (.int (j : Nat)), some (.list (List.map kp [K a b (i + 1) j, K a b i (j + 1), (i, j) :: K a b (i + 1) (j + 1)])), r6, rfl, rfl, g2, g3⟩⟩
              have ad : addD (.tuple [.tuple [.int (i : Nat), .int (j : Nat)]]) (kp (K a b (i + 1) (j + 1))) = some (kp ((i, j) :: K a b (i + 1) (j + 1))) := add_kp (r := [(i, j)]) (by have := kl (i + 1) (j + 1); simp; omega)
              apply iff
              · apply ev_or_f
                · (repeat' (first | with_reducible exact ei | with_reducible exact ev_C | ((with_reducible apply ev_V); exact rfl) | with_reducible exact ev_nil | with_reducible apply ev_cons | with_reducible apply ev_op | with_reducible apply ev_un | with_reducible apply ev_call | (with_reducible apply ev_tup) | (with_reducible apply ev_lst) | exact Nat.le_of_ble_eq_true rfl | with_reducible apply ev_sset | ((with_reducible apply set_eq); first | (simp only [List.set_cons_succ, List.set_cons_zero]; done) | (simp only [List.set_cons_succ, List.set_cons_zero]; exact rfl) | exact rfl) | with_reducible exact ev_noPart | with_reducible apply ev_ret | with_reducible apply ev_T | with_reducible apply ev_not | with_reducible apply ev_notV | with_reducible apply ev_isN | with_reducible apply ev_notN | with_reducible apply ev_part | with_reducible apply ev_ioGet | with_reducible apply ev_putIo | with_reducible exact add_int _ _ | with_reducible exact sub_int' _ _ | with_reducible exact int_int _ | with_reducible exact neg_int' _ | with_reducible exact tuple_strs _ | with_reducible exact tuple_lst _ | with_reducible exact list_lst _ | with_reducible exact items_lst _ | with_reducible exact items_tup _ | with_reducible exact items_txt _ | with_reducible apply ev_items | with_reducible apply ev_rng | with_reducible apply ev_sl | with_reducible exact len_txt _ | with_reducible exact len_tup _ | with_reducible exact len_lst _ | with_reducible exact eq_int' _ _ | with_reducible exact ne_int' _ _ | with_reducible exact lt_int' _ _ | with_reducible exact gt_int' _ _ | with_reducible exact le_int' _ _ | with_reducible exact ge_int' _ _))
                · (repeat' (first | with_reducible exact ej | with_reducible exact ev_C | ((with_reducible apply ev_V); exact rfl) | with_reducible exact ev_nil | with_reducible apply ev_cons | with_reducible apply ev_op | with_reducible apply ev_un | with_reducible apply ev_call | (with_reducible apply ev_tup) | (with_reducible apply ev_lst) | exact Nat.le_of_ble_eq_true rfl | with_reducible apply ev_sset | ((with_reducible apply set_eq); first | (simp only [List.set_cons_succ, List.set_cons_zero]; done) | (simp only [List.set_cons_succ, List.set_cons_zero]; exact rfl) | exact rfl) | with_reducible exact ev_noPart | with_reducible apply ev_ret | with_reducible apply ev_T | with_reducible apply ev_not | with_reducible apply ev_notV | with_reducible apply ev_isN | with_reducible apply ev_notN | with_reducible apply ev_part | with_reducible apply ev_ioGet | with_reducible apply ev_putIo | with_reducible exact add_int _ _ | with_reducible exact sub_int' _ _ | with_reducible exact int_int _ | with_reducible exact neg_int' _ | with_reducible exact tuple_strs _ | with_reducible exact tuple_lst _ | with_reducible exact list_lst _ | with_reducible exact items_lst _ | with_reducible exact items_tup _ | with_reducible exact items_txt _ | with_reducible apply ev_items | with_reducible apply ev_rng | with_reducible apply ev_sl | with_reducible exact len_txt _ | with_reducible exact len_tup _ | with_reducible exact len_lst _ | with_reducible exact eq_int' _ _ | with_reducible exact ne_int' _ _ | with_reducible exact lt_int' _ _ | with_reducible exact gt_int' _ _ | with_reducible exact le_int' _ _ | with_reducible exact ge_int' _ _))
              apply sq
              · (repeat' (first | with_reducible apply ev_getT | with_reducible apply ev_key | exact du | exact dv | with_reducible exact keys2 _ _ | with_reducible exact ev_C | ((with_reducible apply ev_V); exact rfl) | with_reducible exact ev_nil | with_reducible apply ev_cons | with_reducible apply ev_op | with_reducible apply ev_un | with_reducible apply ev_call | (with_reducible apply ev_tup) | (with_reducible apply ev_lst) | exact Nat.le_of_ble_eq_true rfl | with_reducible apply ev_sset | ((with_reducible apply set_eq); first | (simp only [List.set_cons_succ, List.set_cons_zero]; done) | (simp only [List.set_cons_succ, List.set_cons_zero]; exact rfl) | exact rfl) | with_reducible exact ev_noPart | with_reducible apply ev_ret | with_reducible apply ev_T | with_reducible apply ev_not | with_reducible apply ev_notV | with_reducible apply ev_isN | with_reducible apply ev_notN | with_reducible apply ev_part | with_reducible apply ev_ioGet | with_reducible apply ev_putIo | with_reducible exact add_int _ _ | with_reducible exact sub_int' _ _ | with_reducible exact int_int _ | with_reducible exact neg_int' _ | with_reducible exact tuple_strs _ | with_reducible exact tuple_lst _ | with_reducible exact list_lst _ | with_reducible exact items_lst _ | with_reducible exact items_tup _ | with_reducible exact items_txt _ | with_reducible apply ev_items | with_reducible apply ev_rng | with_reducible apply ev_sl | with_reducible exact len_txt _ | with_reducible exact len_tup _ | with_reducible exact len_lst _ | with_reducible exact eq_int' _ _ | with_reducible exact ne_int' _ _ | with_reducible exact lt_int' _ _ | with_reducible exact gt_int' _ _ | with_reducible exact le_int' _ _ | with_reducible exact ge_int' _ _))
              apply sq
              · apply ift
                · (repeat' (first | with_reducible exact ix | with_reducible exact iy | with_reducible exact e1 | with_reducible exact ev_C | ((with_reducible apply ev_V); exact rfl) | with_reducible exact ev_nil | with_reducible apply ev_cons | with_reducible apply ev_op | with_reducible apply ev_un | with_reducible apply ev_call | (with_reducible apply ev_tup) | (with_reducible apply ev_lst) | exact Nat.le_of_ble_eq_true rfl | with_reducible apply ev_sset | ((with_reducible apply set_eq); first | (simp only [List.set_cons_succ, List.set_cons_zero]; done) | (simp only [List.set_cons_succ, List.set_cons_zero]; exact rfl) | exact rfl) | with_reducible exact ev_noPart | with_reducible apply ev_ret | with_reducible apply ev_T | with_reducible apply ev_not | with_reducible apply ev_notV | with_reducible apply ev_isN | with_reducible apply ev_notN | with_reducible apply ev_part | with_reducible apply ev_ioGet | with_reducible apply ev_putIo | with_reducible exact add_int _ _ | with_reducible exact sub_int' _ _ | with_reducible exact int_int _ | with_reducible exact neg_int' _ | with_reducible exact tuple_strs _ | with_reducible exact tuple_lst _ | with_reducible exact list_lst _ | with_reducible exact items_lst _ | with_reducible exact items_tup _ | with_reducible exact items_txt _ | with_reducible apply ev_items | with_reducible apply ev_rng | with_reducible apply ev_sl | with_reducible exact len_txt _ | with_reducible exact len_tup _ | with_reducible exact len_lst _ | with_reducible exact eq_int' _ _ | with_reducible exact ne_int' _ _ | with_reducible exact lt_int' _ _ | with_reducible exact gt_int' _ _ | with_reducible exact le_int' _ _ | with_reducible exact ge_int' _ _))
                · apply ev_append
                  · (repeat' (first | with_reducible apply ev_getT | with_reducible apply ev_key | exact dw | with_reducible exact keys2 _ _ | exact ad | with_reducible exact ev_C | ((with_reducible apply ev_V); exact rfl) | with_reducible exact ev_nil | with_reducible apply ev_cons | with_reducible apply ev_op | with_reducible apply ev_un | with_reducible apply ev_call | (with_reducible apply ev_tup) | (with_reducible apply ev_lst) | exact Nat.le_of_ble_eq_true rfl | with_reducible apply ev_sset | ((with_reducible apply set_eq); first | (simp only [List.set_cons_succ, List.set_cons_zero]; done) | (simp only [List.set_cons_succ, List.set_cons_zero]; exact rfl) | exact rfl) | with_reducible exact ev_noPart | with_reducible apply ev_ret | with_reducible apply ev_T | with_reducible apply ev_not | with_reducible apply ev_notV | with_reducible apply ev_isN | with_reducible apply ev_notN | with_reducible apply ev_part | with_reducible apply ev_ioGet | with_reducible apply ev_putIo | with_reducible exact add_int _ _ | with_reducible exact sub_int' _ _ | with_reducible exact int_int _ | with_reducible exact neg_int' _ | with_reducible exact tuple_strs _ | with_reducible exact tuple_lst _ | with_reducible exact list_lst _ | with_reducible exact items_lst _ | with_reducible exact items_tup _ | with_reducible exact items_txt _ | with_reducible apply ev_items | with_reducible apply ev_rng | with_reducible apply ev_sl | with_reducible exact len_txt _ | with_reducible exact len_tup _ | with_reducible exact len_lst _ | with_reducible exact eq_int' _ _ | with_reducible exact ne_int' _ _ | with_reducible exact lt_int' _ _ | with_reducible exact gt_int' _ _ | with_reducible exact le_int' _ _ | with_reducible exact ge_int' _ _))
                  · exact rfl
                  · exact (by decide : 2 < 16777216)
              · exact g1
            · rw [decide_eq_false c] at e1
              obtain ⟨l2, g1, g2, g3⟩ := fin [K a b (i + 1) j, K a b i (j + 1)] (by simp) (by simp) (by
                intro r hr
                simp only [List.mem_cons, List.not_mem_nil, or_false] at hr
                have h1 := kl (i + 1) j
                have h2 := kl i (j + 1)
                rcases hr with rfl | rfl
                · omega
                · omega) (by rw [if_neg c]) r6
              refine ⟨[some (txt a), some (txt b), some (bestD l'), some (.int (i : Nat)), some (.int (j : Nat)), r5, r6], _, none, rfl, ?_, ⟨l2, some (.int (j : Nat)), some (.list (List.map kp [K a b (i + 1) j, K a b i (j + 1)])), r6, rfl, rfl, g2, g3⟩⟩
              apply iff
              · apply ev_or_f
                · (repeat' (first | with_reducible exact ei | with_reducible exact ev_C | ((with_reducible apply ev_V); exact rfl) | with_reducible exact ev_nil | with_reducible apply ev_cons | with_reducible apply ev_op | with_reducible apply ev_un | with_reducible apply ev_call | (with_reducible apply ev_tup) | (with_reducible apply ev_lst) | exact Nat.le_of_ble_eq_true rfl | with_reducible apply ev_sset | ((with_reducible apply set_eq); first | (simp only [List.set_cons_succ, List.set_cons_zero]; done) | (simp only [List.set_cons_succ, List.set_cons_zero]; exact rfl) | exact rfl) | with_reducible exact ev_noPart | with_reducible apply ev_ret | with_reducible apply ev_T | with_reducible apply ev_not | with_reducible apply ev_notV | with_reducible apply ev_isN | with_reducible apply ev_notN | with_reducible apply ev_part | with_reducible apply ev_ioGet | with_reducible apply ev_putIo | with_reducible exact add_int _ _ | with_reducible exact sub_int' _ _ | with_reducible exact int_int _ | with_reducible exact neg_int' _ | with_reducible exact tuple_strs _ | with_reducible exact tuple_lst _ | with_reducible exact list_lst _ | with_reducible exact items_lst _ | with_reducible exact items_tup _ | with_reducible exact items_txt _ | with_reducible apply ev_items | with_reducible apply ev_rng | with_reducible apply ev_sl | with_reducible exact len_txt _ | with_reducible exact len_tup _ | with_reducible exact len_lst _ | with_reducible exact eq_int' _ _ | with_reducible exact ne_int' _ _ | with_reducible exact lt_int' _ _ | with_reducible exact gt_int' _ _ | with_reducible exact le_int' _ _ | with_reducible exact ge_int' _ _))
                · (repeat' (first | with_reducible exact ej | with_reducible exact ev_C | ((with_reducible apply ev_V); exact rfl) | with_reducible exact ev_nil | with_reducible apply ev_cons | with_reducible apply ev_op | with_reducible apply ev_un | with_reducible apply ev_call | (with_reducible apply ev_tup) | (with_reducible apply ev_lst) | exact Nat.le_of_ble_eq_true rfl | with_reducible apply ev_sset | ((with_reducible apply set_eq); first | (simp only [List.set_cons_succ, List.set_cons_zero]; done) | (simp only [List.set_cons_succ, List.set_cons_zero]; exact rfl) | exact rfl) | with_reducible exact ev_noPart | with_reducible apply ev_ret | with_reducible apply ev_T | with_reducible apply ev_not | with_reducible apply ev_notV | with_reducible apply ev_isN | with_reducible apply ev_notN | with_reducible apply ev_part | with_reducible apply ev_ioGet | with_reducible apply ev_putIo | with_reducible exact add_int _ _ | with_reducible exact sub_int' _ _ | with_reducible exact int_int _ | with_reducible exact neg_int' _ | with_reducible exact tuple_strs _ | with_reducible exact tuple_lst _ | with_reducible exact list_lst _ | with_reducible exact items_lst _ | with_reducible exact items_tup _ | with_reducible exact items_txt _ | with_reducible apply ev_items | with_reducible apply ev_rng | with_reducible apply ev_sl | with_reducible exact len_txt _ | with_reducible exact len_tup _ | with_reducible exact len_lst _ | with_reducible exact eq_int' _ _ | with_reducible exact ne_int' _ _ | with_reducible exact lt_int' _ _ | with_reducible exact gt_int' _ _ | with_reducible exact le_int' _ _ | with_reducible exact ge_int' _ _))
              apply sq
              · (repeat' (first | with_reducible apply ev_getT | with_reducible apply ev_key | exact du | exact dv | with_reducible exact keys2 _ _ | with_reducible exact ev_C | ((with_reducible apply ev_V); exact rfl) | with_reducible exact ev_nil | with_reducible apply ev_cons | with_reducible apply ev_op | with_reducible apply ev_un | with_reducible apply ev_call | (with_reducible apply ev_tup) | (with_reducible apply ev_lst) | exact Nat.le_of_ble_eq_true rfl | with_reducible apply ev_sset | ((with_reducible apply set_eq); first | (simp only [List.set_cons_succ, List.set_cons_zero]; done) | (simp only [List.set_cons_succ, List.set_cons_zero]; exact rfl) | exact rfl) | with_reducible exact ev_noPart | with_reducible apply ev_ret | with_reducible apply ev_T | with_reducible apply ev_not | with_reducible apply ev_notV | with_reducible apply ev_isN | with_reducible apply ev_notN | with_reducible apply ev_part | with_reducible apply ev_ioGet | with_reducible apply ev_putIo | with_reducible exact add_int _ _ | with_reducible exact sub_int' _ _ | with_reducible exact int_int _ | with_reducible exact neg_int' _ | with_reducible exact tuple_strs _ | with_reducible exact tuple_lst _ | with_reducible exact list_lst _ | with_reducible exact items_lst _ | with_reducible exact items_tup _ | with_reducible exact items_txt _ | with_reducible apply ev_items | with_reducible apply ev_rng | with_reducible apply ev_sl | with_reducible exact len_txt _ | with_reducible exact len_tup _ | with_reducible exact len_lst _ | with_reducible exact eq_int' _ _ | with_reducible exact ne_int' _ _ | with_reducible exact lt_int' _ _ | with_reducible exact gt_int' _ _ | with_reducible exact le_int' _ _ | with_reducible exact ge_int' _ _))
              apply sq
              · apply iff
                · (repeat' (first | with_reducible exact ix | with_reducible exact iy | with_reducible exact e1 | with_reducible exact ev_C | ((with_reducible apply ev_V); exact rfl) | with_reducible exact ev_nil | with_reducible apply ev_cons | with_reducible apply ev_op | with_reducible apply ev_un | with_reducible apply ev_call | (with_reducible apply ev_tup) | (with_reducible apply ev_lst) | exact Nat.le_of_ble_eq_true rfl | with_reducible apply ev_sset | ((with_reducible apply set_eq); first | (simp only [List.set_cons_succ, List.set_cons_zero]; done) | (simp only [List.set_cons_succ, List.set_cons_zero]; exact rfl) | exact rfl) | with_reducible exact ev_noPart | with_reducible apply ev_ret | with_reducible apply ev_T | with_reducible apply ev_not | with_reducible apply ev_notV | with_reducible apply ev_isN | with_reducible apply ev_notN | with_reducible apply ev_part | with_reducible apply ev_ioGet | with_reducible apply ev_putIo | with_reducible exact add_int _ _ | with_reducible exact sub_int' _ _ | with_reducible exact int_int _ | with_reducible exact neg_int' _ | with_reducible exact tuple_strs _ | with_reducible exact tuple_lst _ | with_reducible exact list_lst _ | with_reducible exact items_lst _ | with_reducible exact items_tup _ | with_reducible exact items_txt _ | with_reducible apply ev_items | with_reducible apply ev_rng | with_reducible apply ev_sl | with_reducible exact len_txt _ | with_reducible exact len_tup _ | with_reducible exact len_lst _ | with_reducible exact eq_int' _ _ | with_reducible exact ne_int' _ _ | with_reducible exact lt_int' _ _ | with_reducible exact gt_int' _ _ | with_reducible exact le_int' _ _ | with_reducible exact ge_int' _ _))
                · exact rfl
              · exact g1)
      refine ⟨[some (txt a), some (txt b), some (bestD l), some (.int (i : Nat)), r4, r5, r6], _, none, rfl, ?_, ⟨l', some (.int (i : Nat)), s4, s5, s6, rfl, rfl, by omega, fun i' j' k1 k2 k3 => hf' i' j' k1 k2 (by omega)⟩⟩
      apply fo
      · (repeat' (first | with_reducible exact lgm | with_reducible exact rvm | with_reducible exact ev_C | ((with_reducible apply ev_V); exact rfl) | with_reducible exact ev_nil | with_reducible apply ev_cons | with_reducible apply ev_op | with_reducible apply ev_un | with_reducible apply ev_call | (with_reducible apply ev_tup) | (with_reducible apply ev_lst) | exact Nat.le_of_ble_eq_true rfl | with_reducible apply ev_sset | ((with_reducible apply set_eq); first | (simp only [List.set_cons_succ, List.set_cons_zero]; done) | (simp only [List.set_cons_succ, List.set_cons_zero]; exact rfl) | exact rfl) | with_reducible exact ev_noPart | with_reducible apply ev_ret | with_reducible apply ev_T | with_reducible apply ev_not | with_reducible apply ev_notV | with_reducible apply ev_isN | with_reducible apply ev_notN | with_reducible apply ev_part | with_reducible apply ev_ioGet | with_reducible apply ev_putIo | with_reducible exact add_int _ _ | with_reducible exact sub_int' _ _ | with_reducible exact int_int _ | with_reducible exact neg_int' _ | with_reducible exact tuple_strs _ | with_reducible exact tuple_lst _ | with_reducible exact list_lst _ | with_reducible exact items_lst _ | with_reducible exact items_tup _ | with_reducible exact items_txt _ | with_reducible apply ev_items | with_reducible apply ev_rng | with_reducible apply ev_sl | with_reducible exact len_txt _ | with_reducible exact len_tup _ | with_reducible exact len_lst _ | with_reducible exact eq_int' _ _ | with_reducible exact ne_int' _ _ | with_reducible exact lt_int' _ _ | with_reducible exact gt_int' _ _ | with_reducible exact le_int' _ _ | with_reducible exact ge_int' _ _))
      · exact h1)
  have fin := best_get (hf 0 0 (Nat.zero_le _) (Nat.zero_le _) (Nat.zero_le _))
  show outL (g_l_keeping [some (txt a), some (txt b), none, none, none, none, none] none) = _
  refine outL_of (m := none) ?_
  unfold g_l_keeping
  apply sq
  · (repeat' (first | with_reducible exact ev_C | ((with_reducible apply ev_V); exact rfl) | with_reducible exact ev_nil | with_reducible apply ev_cons | with_reducible apply ev_op | with_reducible apply ev_un | with_reducible apply ev_call | (with_reducible apply ev_tup) | (with_reducible apply ev_lst) | exact Nat.le_of_ble_eq_true rfl | with_reducible apply ev_sset | ((with_reducible apply set_eq); first | (simp only [List.set_cons_succ, List.set_cons_zero]; done) | (simp only [List.set_cons_succ, List.set_cons_zero]; exact rfl) | exact rfl) | with_reducible exact ev_noPart | with_reducible apply ev_ret | with_reducible apply ev_T | with_reducible apply ev_not | with_reducible apply ev_notV | with_reducible apply ev_isN | with_reducible apply ev_notN | with_reducible apply ev_part | with_reducible apply ev_ioGet | with_reducible apply ev_putIo | with_reducible exact add_int _ _ | with_reducible exact sub_int' _ _ | with_reducible exact int_int _ | with_reducible exact neg_int' _ | with_reducible exact tuple_strs _ | with_reducible exact tuple_lst _ | with_reducible exact list_lst _ | with_reducible exact items_lst _ | with_reducible exact items_tup _ | with_reducible exact items_txt _ | with_reducible apply ev_items | with_reducible apply ev_rng | with_reducible apply ev_sl | with_reducible exact len_txt _ | with_reducible exact len_tup _ | with_reducible exact len_lst _ | with_reducible exact eq_int' _ _ | with_reducible exact ne_int' _ _ | with_reducible exact lt_int' _ _ | with_reducible exact gt_int' _ _ | with_reducible exact le_int' _ _ | with_reducible exact ge_int' _ _))
  apply sq
  · apply fo
    · (repeat' (first | with_reducible exact lgn | with_reducible exact rvn | with_reducible exact ev_C | ((with_reducible apply ev_V); exact rfl) | with_reducible exact ev_nil | with_reducible apply ev_cons | with_reducible apply ev_op | with_reducible apply ev_un | with_reducible apply ev_call | (with_reducible apply ev_tup) | (with_reducible apply ev_lst) | exact Nat.le_of_ble_eq_true rfl | with_reducible apply ev_sset | ((with_reducible apply set_eq); first | (simp only [List.set_cons_succ, List.set_cons_zero]; done) | (simp only [List.set_cons_succ, List.set_cons_zero]; exact rfl) | exact rfl) | with_reducible exact ev_noPart | with_reducible apply ev_ret | with_reducible apply ev_T | with_reducible apply ev_not | with_reducible apply ev_notV | with_reducible apply ev_isN | with_reducible apply ev_notN | with_reducible apply ev_part | with_reducible apply ev_ioGet | with_reducible apply ev_putIo | with_reducible exact add_int _ _ | with_reducible exact sub_int' _ _ | with_reducible exact int_int _ | with_reducible exact neg_int' _ | with_reducible exact tuple_strs _ | with_reducible exact tuple_lst _ | with_reducible exact list_lst _ | with_reducible exact items_lst _ | with_reducible exact items_tup _ | with_reducible exact items_txt _ | with_reducible apply ev_items | with_reducible apply ev_rng | with_reducible apply ev_sl | with_reducible exact len_txt _ | with_reducible exact len_tup _ | with_reducible exact len_lst _ | with_reducible exact eq_int' _ _ | with_reducible exact ne_int' _ _ | with_reducible exact lt_int' _ _ | with_reducible exact gt_int' _ _ | with_reducible exact le_int' _ _ | with_reducible exact ge_int' _ _))
    · exact h1
  · apply ev_ret
    (repeat' (first | with_reducible apply ev_getT | with_reducible apply ev_key | exact fin | with_reducible exact keys2 _ _ | with_reducible exact ev_C | ((with_reducible apply ev_V); exact rfl) | with_reducible exact ev_nil | with_reducible apply ev_cons | with_reducible apply ev_op | with_reducible apply ev_un | with_reducible apply ev_call | (with_reducible apply ev_tup) | (with_reducible apply ev_lst) | exact Nat.le_of_ble_eq_true rfl | with_reducible apply ev_sset | ((with_reducible apply set_eq); first | (simp only [List.set_cons_succ, List.set_cons_zero]; done) | (simp only [List.set_cons_succ, List.set_cons_zero]; exact rfl) | exact rfl) | with_reducible exact ev_noPart | with_reducible apply ev_ret | with_reducible apply ev_T | with_reducible apply ev_not | with_reducible apply ev_notV | with_reducible apply ev_isN | with_reducible apply ev_notN | with_reducible apply ev_part | with_reducible apply ev_ioGet | with_reducible apply ev_putIo | with_reducible exact add_int _ _ | with_reducible exact sub_int' _ _ | with_reducible exact int_int _ | with_reducible exact neg_int' _ | with_reducible exact tuple_strs _ | with_reducible exact tuple_lst _ | with_reducible exact list_lst _ | with_reducible exact items_lst _ | with_reducible exact items_tup _ | with_reducible exact items_txt _ | with_reducible apply ev_items | with_reducible apply ev_rng | with_reducible apply ev_sl | with_reducible exact len_txt _ | with_reducible exact len_tup _ | with_reducible exact len_lst _ | with_reducible exact eq_int' _ _ | with_reducible exact ne_int' _ _ | with_reducible exact lt_int' _ _ | with_reducible exact gt_int' _ _ | with_reducible exact le_int' _ _ | with_reducible exact ge_int' _ _))
end
end K01
namespace K01
open PySem PySem.Spec PyProof.Rows L2 DL
section
variable {a b : List Str}
/-! ### all keepings -/
theorem last_ix {r : Row} {z : Nat × Nat} (h : r.getLast? = some z) : ixD (kp r) (.int (-1)) = some (pr z) := by
  have hne : r ≠ [] := by rintro rfl; cases h
  have hl : 0 < r.length := List.length_pos_iff.mpr hne
  show atI (r.map pr) (-1) = _
  refine atI_of (j := r.length - 1) ?_ ?_
  · unfold ixN
    rw [List.length_map, if_neg (by omega), if_pos (by omega)]
    congr 1
    omega
  · rw [List.getElem?_map, ← List.getLast?_eq_getElem?, h]; rfl
theorem ext_len (i : Nat) (r : Row) : (extOf a b i r).length ≤ b.length := by
  unfold extOf
  rw [List.length_map]
  refine Nat.le_trans (List.length_filter_le _ _) ?_
  rw [List.length_range]
  omega
theorem rows_small (P : Pair a b) {i : Nat} (hi : i ≤ a.length) : (allK a b i).length ≤ 2097152 := by
  have h1 := allK_len (a := a) (b := b) i
  have hn := P.la
  have hm := P.lb
  have h2 : (b.length + 1) ^ i ≤ 8 ^ i := Nat.pow_le_pow_left (by omega) i
  have h3 : 8 ^ i ≤ 8 ^ 7 := Nat.pow_le_pow_right (by decide) (by omega)
  have : (8 : Nat) ^ 7 = 2097152 := by decide
  omega
theorem row_len (P : Pair a b) {i : Nat} (hi : i ≤ a.length) {r : Row} (h : r ∈ allK a b i) : r.length ≤ 7 := by
  have := (allK_sound hi r h).1.len_le
  have := P.la
  omega
theorem all_ok (P : Pair a b) : M_l_all_keepings [txt a, txt b] = some (.list ((allK a b a.length).map kp)) := by
  have hn := P.la
  have hm := P.lb
  obtain ⟨ρ', m', h1, ⟨r3, r4, r5, r6, r7, rfl, rfl⟩⟩ := for_up (b := bName 3) (s := (fSeq (fSet 4 (fCall listD (fCons (fV 2) fNil)))
    (fSeq (fFor (fItems (fV 2)) (bName 5)
    (fSeq (fSet 6 (fIf (fT (fOp gtD (fCall lenD (fCons (fV 5) fNil)) (fC (.int 0)))) (fOp addD (fOp ixD (fOp ixD (fV 5) (fUn negD (fC (.int 1)))) (fC (.int 1))) (fC (.int 1))) (fC (.int 0))))
    (fSet 4 (fOp addD (fV 4) (fLc (fRng range2D (fCons (fV 6) (fCons (fCall lenD (fCons (fV 1) fNil)) fNil))) (bName 7) (fT (fOp eqD (fOp ixD (fV 0) (fV 3)) (fOp ixD (fV 1) (fV 7)))) (fOp addD (fV 5) (fTup (fCons (fTup (fCons (fV 3) (fCons (fV 7) fNil))) fNil))) (List.map (·.2) ([("j", 7)] : List (Str × Nat))))))))
    (fSet 2 (fV 4))))) a.length (fun k => PyData.int (k : Nat))
    (fun i ρ m => ∃ r3 r4 r5 r6 r7, ρ = [some (txt a), some (txt b), some (.list ((allK a b i).map kp)), r3, r4, r5, r6, r7] ∧ m = none)
    (ρ := [some (txt a), some (txt b), some (.list [kp []]), none, none, none, none, none]) (m := none) ⟨none, none, none, none, none, rfl, rfl⟩ (by
      rintro i ρ m hi ⟨r3, r4, r5, r6, r7, rfl, rfl⟩
      have hs1 := rows_small P (Nat.le_of_lt hi)
      have hs2 := rows_small P (show i + 1 ≤ a.length from hi)
      obtain ⟨x, ex, ix⟩ := ix_ok hi
      obtain ⟨ρ', m', h1, ⟨s5, s6, s7, rfl, rfl⟩⟩ := for_inv (b := bName 5) (s := (fSeq (fSet 6 (fIf (fT (fOp gtD (fCall lenD (fCons (fV 5) fNil)) (fC (.int 0)))) (fOp addD (fOp ixD (fOp ixD (fV 5) (fUn negD (fC (.int 1)))) (fC (.int 1))) (fC (.int 1))) (fC (.int 0))))
        (fSet 4 (fOp addD (fV 4) (fLc (fRng range2D (fCons (fV 6) (fCons (fCall lenD (fCons (fV 1) fNil)) fNil))) (bName 7) (fT (fOp eqD (fOp ixD (fV 0) (fV 3)) (fOp ixD (fV 1) (fV 7)))) (fOp addD (fV 5) (fTup (fCons (fTup (fCons (fV 3) (fCons (fV 7) fNil))) fNil))) (List.map (·.2) ([("j", 7)] : List (Str × Nat)))))))) kp
        (fun pre ρ m => ∃ r5 r6 r7, ρ = [some (txt a), some (txt b), some (.list ((allK a b i).map kp)), some (.int (i : Nat)), some (.list ((allK a b i ++ pre.flatMap (extOf a b i)).map kp)), r5, r6, r7] ∧ m = none) (allK a b i)
        (ρ := [some (txt a), some (txt b), some (.list ((allK a b i).map kp)), some (.int (i : Nat)), some (.list ((allK a b i).map kp)), r5, r6, r7]) (m := none)
        ⟨r5, r6, r7, by rw [List.flatMap_nil, List.append_nil], rfl⟩ (by
          rintro pre r post ρ m hpre ⟨r5, r6, r7, rfl, rfl⟩
          have hr : r ∈ allK a b i := by rw [hpre]; simp
          have hrl := row_len P (Nat.le_of_lt hi) hr
          have hsz : (allK a b i).length + (pre.flatMap (extOf a b i)).length + (extOf a b i r).length ≤ 2097152 := by
            have : (allK a b (i + 1)).length = (allK a b i).length + ((allK a b i).flatMap (extOf a b i)).length := by rw [allK, List.length_append]
            have h2 : ((allK a b i).flatMap (extOf a b i)).length = (pre.flatMap (extOf a b i)).length + ((extOf a b i r).length + (post.flatMap (extOf a b i)).length) := by
              rw [hpre, List.flatMap_append, List.flatMap_cons, List.length_append, List.length_append]
            omega
          have hst : startOf r ≤ b.length := by
            unfold startOf
            cases e : r.getLast? with
            | none => exact Nat.zero_le _
            | some z =>
              have h0 := (allK_sound (Nat.le_of_lt hi) r hr).1
              have e1 : r = r.dropLast ++ [z] := by
                have hne : r ≠ [] := by rintro rfl; cases e
                have := List.dropLast_concat_getLast hne
                rw [List.getLast?_eq_some_getLast hne] at e
                cases e
                exact this.symm
              obtain ⟨p, q⟩ := z
              rw [e1] at h0
              exact (Keep_snoc.mp h0).2.2.2.2.2.1
          have hstart : (fIf (fT (fOp gtD (fCall lenD (fCons (fV 5) fNil)) (fC (.int 0)))) (fOp addD (fOp ixD (fOp ixD (fV 5) (fUn negD (fC (.int 1)))) (fC (.int 1))) (fC (.int 1))) (fC (.int 0)))
              [some (txt a), some (txt b), some (.list ((allK a b i).map kp)), some (.int (i : Nat)), some (.list ((allK a b i ++ pre.flatMap (extOf a b i)).map kp)), some (kp r), r6, r7] none = some (.int (startOf r : Nat), none) := by
            have hl := len_kp r
            have hg := gt_nat r.length 0
            unfold startOf
            cases e : r.getLast? with
            | none =>
              have hr0 : r = [] := by simpa using e
              subst hr0
              refine (ev_if_f (m1 := none) (ev_T ?_)).trans ev_C
              (repeat' (first | with_reducible exact hl | exact hg | with_reducible exact ev_C | ((with_reducible apply ev_V); exact rfl) | with_reducible exact ev_nil | with_reducible apply ev_cons | with_reducible apply ev_op | with_reducible apply ev_un | with_reducible apply ev_call | (with_reducible apply ev_tup) | (with_reducible apply ev_lst) | exact Nat.le_of_ble_eq_true rfl | with_reducible apply ev_sset | ((with_reducible apply set_eq); first | (simp only [List.set_cons_succ, List.set_cons_zero]; done) | (simp only [List.set_cons_succ, List.set_cons_zero]; exact rfl) | exact rfl) | with_reducible exact ev_noPart | with_reducible apply ev_ret | with_reducible apply ev_T | with_reducible apply ev_not | with_reducible apply ev_notV | with_reducible apply ev_isN | with_reducible apply ev_notN | with_reducible apply ev_part | with_reducible apply ev_ioGet | with_reducible apply ev_putIo | with_reducible exact add_int _ _ | with_reducible exact sub_int' _ _ | with_reducible exact int_int _ | with_reducible exact neg_int' _ | with_reducible exact tuple_strs _ | with_reducible exact tuple_lst _ | with_reducible exact list_lst _ | with_reducible exact items_lst _ | with_reducible exact items_tup _ | with_reducible exact items_txt _ | with_reducible apply ev_items | with_reducible apply ev_rng | with_reducible apply ev_sl | with_reducible exact len_txt _ | with_reducible exact len_tup _ | with_reducible exact len_lst _ | with_reducible exact eq_int' _ _ | with_reducible exact ne_int' _ _ | with_reducible exact lt_int' _ _ | with_reducible exact gt_int' _ _ | with_reducible exact le_int' _ _ | with_reducible exact ge_int' _ _))
            | some z =>
              have hr0 : 0 < r.length := List.length_pos_iff.mpr (by rintro rfl; cases e)
              rw [decide_eq_true hr0] at hg
              have hx := last_ix e
              have hy : ixD (pr z) (.int 1) = some (.int (z.2 : Nat)) := ix_tup' (by decide) rfl
              refine (ev_if_t (m1 := none) (ev_T ?_)).trans ?_
              · (repeat' (first | with_reducible exact hl | exact hg | with_reducible exact ev_C | ((with_reducible apply ev_V); exact rfl) | with_reducible exact ev_nil | with_reducible apply ev_cons | with_reducible apply ev_op | with_reducible apply ev_un | with_reducible apply ev_call | (with_reducible apply ev_tup) | (with_reducible apply ev_lst) | exact Nat.le_of_ble_eq_true rfl | with_reducible apply ev_sset | ((with_reducible apply set_eq); first | (simp only [List.set_cons_succ, List.set_cons_zero]; done) | (simp only [List.set_cons_succ, List.set_cons_zero]; exact rfl) | exact rfl) | with_reducible exact ev_noPart | with_reducible apply ev_ret | with_reducible apply ev_T | with_reducible apply ev_not | with_reducible apply ev_notV | with_reducible apply ev_isN | with_reducible apply ev_notN | with_reducible apply ev_part | with_reducible apply ev_ioGet | with_reducible apply ev_putIo | with_reducible exact add_int _ _ | with_reducible exact sub_int' _ _ | with_reducible exact int_int _ | with_reducible exact neg_int' _ | with_reducible exact tuple_strs _ | with_reducible exact tuple_lst _ | with_reducible exact list_lst _ | with_reducible exact items_lst _ | with_reducible exact items_tup _ | with_reducible exact items_txt _ | with_reducible apply ev_items | with_reducible apply ev_rng | with_reducible apply ev_sl | with_reducible exact len_txt _ | with_reducible exact len_tup _ | with_reducible exact len_lst _ | with_reducible exact eq_int' _ _ | with_reducible exact ne_int' _ _ | with_reducible exact lt_int' _ _ | with_reducible exact gt_int' _ _ | with_reducible exact le_int' _ _ | with_reducible exact ge_int' _ _))
              · show _ = some (PyData.int ((z.2 + 1 : Nat) : Int), none)
                (repeat' (first | with_reducible exact hx | with_reducible exact hy | with_reducible exact ev_C | ((with_reducible apply ev_V); exact rfl) | with_reducible exact ev_nil | with_reducible apply ev_cons | with_reducible apply ev_op | with_reducible apply ev_un | with_reducible apply ev_call | (with_reducible apply ev_tup) | (with_reducible apply ev_lst) | exact Nat.le_of_ble_eq_true rfl | with_reducible apply ev_sset | ((with_reducible apply set_eq); first | (simp only [List.set_cons_succ, List.set_cons_zero]; done) | (simp only [List.set_cons_succ, List.set_cons_zero]; exact rfl) | exact rfl) | with_reducible exact ev_noPart | with_reducible apply ev_ret | with_reducible apply ev_T | with_reducible apply ev_not | with_reducible apply ev_notV | with_reducible apply ev_isN | with_reducible apply ev_notN | with_reducible apply ev_part | with_reducible apply ev_ioGet | with_reducible apply ev_putIo | with_reducible exact add_int _ _ | with_reducible exact sub_int' _ _ | with_reducible exact int_int _ | with_reducible exact neg_int' _ | with_reducible exact tuple_strs _ | with_reducible exact tuple_lst _ | with_reducible exact list_lst _ | with_reducible exact items_lst _ | with_reducible exact items_tup _ | with_reducible exact items_txt _ | with_reducible apply ev_items | with_reducible apply ev_rng | with_reducible apply ev_sl | with_reducible exact len_txt _ | with_reducible exact len_tup _ | with_reducible exact len_lst _ | with_reducible exact eq_int' _ _ | with_reducible exact ne_int' _ _ | with_reducible exact lt_int' _ _ | with_reducible exact gt_int' _ _ | with_reducible exact le_int' _ _ | with_reducible exact ge_int' _ _))
                rfl
          have hlc := lc_map (ρ := [some (txt a), some (txt b), some (.list ((allK a b i).map kp)), some (.int (i : Nat)), some (.list ((allK a b i ++ pre.flatMap (extOf a b i)).map kp)), some (kp r), some (.int (startOf r : Nat)), none]) (b := bName 7) (ft := fT (fOp eqD (fOp ixD (fV 0) (fV 3)) (fOp ixD (fV 1) (fV 7)))) (fe := (fOp addD (fV 5) (fTup (fCons (fTup (fCons (fV 3) (fCons (fV 7) fNil))) fNil))))
            (fun k : Nat => PyData.int ((startOf r + k : Nat) : Int)) (fun k => decide (a[i]? = b[startOf r + k]?)) (fun k => kp (r ++ [(i, startOf r + k)])) none (List.range (b.length - startOf r)) (by
              intro k hk
              have hk := List.mem_range.mp hk
              obtain ⟨y, ey, iy⟩ := ix_ok (a := b) (i := startOf r + k) (by omega)
              have e1 := P.eq ex ey
              have ad : addD (kp r) (.tuple [.tuple [.int (i : Nat), .int ((startOf r + k : Nat) : Int)]]) = some (kp (r ++ [(i, startOf r + k)])) := add_kp (s := [(i, startOf r + k)]) (by simp; omega)
              refine ⟨[some (txt a), some (txt b), some (.list ((allK a b i).map kp)), some (.int (i : Nat)), some (.list ((allK a b i ++ pre.flatMap (extOf a b i)).map kp)), some (kp r), some (.int (startOf r : Nat)), some (.int ((startOf r + k : Nat) : Int))], rfl, ?_, fun _ => ?_⟩
              · (repeat' (first | with_reducible exact ix | with_reducible exact iy | with_reducible exact e1 | with_reducible exact ev_C | ((with_reducible apply ev_V); exact rfl) | with_reducible exact ev_nil | with_reducible apply ev_cons | with_reducible apply ev_op | with_reducible apply ev_un | with_reducible apply ev_call | (with_reducible apply ev_tup) | (with_reducible apply ev_lst) | exact Nat.le_of_ble_eq_true rfl | with_reducible apply ev_sset | ((with_reducible apply set_eq); first | (simp only [List.set_cons_succ, List.set_cons_zero]; done) | (simp only [List.set_cons_succ, List.set_cons_zero]; exact rfl) | exact rfl) | with_reducible exact ev_noPart | with_reducible apply ev_ret | with_reducible apply ev_T | with_reducible apply ev_not | with_reducible apply ev_notV | with_reducible apply ev_isN | with_reducible apply ev_notN | with_reducible apply ev_part | with_reducible apply ev_ioGet | with_reducible apply ev_putIo | with_reducible exact add_int _ _ | with_reducible exact sub_int' _ _ | with_reducible exact int_int _ | with_reducible exact neg_int' _ | with_reducible exact tuple_strs _ | with_reducible exact tuple_lst _ | with_reducible exact list_lst _ | with_reducible exact items_lst _ | with_reducible exact items_tup _ | with_reducible exact items_txt _ | with_reducible apply ev_items | with_reducible apply ev_rng | with_reducible apply ev_sl | with_reducible exact len_txt _ | with_reducible exact len_tup _ | with_reducible exact len_lst _ | with_reducible exact eq_int' _ _ | with_reducible exact ne_int' _ _ | with_reducible exact lt_int' _ _ | with_reducible exact gt_int' _ _ | with_reducible exact le_int' _ _ | with_reducible exact ge_int' _ _))
              · (repeat' (first | with_reducible exact ad | with_reducible exact ev_C | ((with_reducible apply ev_V); exact rfl) | with_reducible exact ev_nil | with_reducible apply ev_cons | with_reducible apply ev_op | with_reducible apply ev_un | with_reducible apply ev_call | (with_reducible apply ev_tup) | (with_reducible apply ev_lst) | exact Nat.le_of_ble_eq_true rfl | with_reducible apply ev_sset | ((with_reducible apply set_eq); first | (simp only [List.set_cons_succ, List.set_cons_zero]; done) | (simp only [List.set_cons_succ, List.set_cons_zero]; exact rfl) | exact rfl) | with_reducible exact ev_noPart | with_reducible apply ev_ret | with_reducible apply ev_T | with_reducible apply ev_not | with_reducible apply ev_notV | with_reducible apply ev_isN | with_reducible apply ev_notN | with_reducible apply ev_part | with_reducible apply ev_ioGet | with_reducible apply ev_putIo | with_reducible exact add_int _ _ | with_reducible exact sub_int' _ _ | with_reducible exact int_int _ | with_reducible exact neg_int' _ | with_reducible exact tuple_strs _ | with_reducible exact tuple_lst _ | with_reducible exact list_lst _ | with_reducible exact items_lst _ | with_reducible exact items_tup _ | with_reducible exact items_txt _ | with_reducible apply ev_items | with_reducible apply ev_rng | with_reducible apply ev_sl | with_reducible exact len_txt _ | with_reducible exact len_tup _ | with_reducible exact len_lst _ | with_reducible exact eq_int' _ _ | with_reducible exact ne_int' _ _ | with_reducible exact lt_int' _ _ | with_reducible exact gt_int' _ _ | with_reducible exact le_int' _ _ | with_reducible exact ge_int' _ _)))
          have hlc' : ((List.range (b.length - startOf r)).filter fun k => decide (a[i]? = b[startOf r + k]?)).map (fun k => kp (r ++ [(i, startOf r + k)])) = (extOf a b i r).map kp := by
            unfold extOf
            rw [List.map_map]
            rfl
          rw [hlc'] at hlc
          have r2 := range2_nat (i := startOf r) (j := b.length) (by omega) (by omega)
          have ad2 : addD (.list ((allK a b i ++ pre.flatMap (extOf a b i)).map kp)) (.list ((extOf a b i r).map kp)) = some (.list ((allK a b i ++ (pre ++ [r]).flatMap (extOf a b i)).map kp)) := by
            rw [add_mapL (by rw [List.length_append]; omega)]
            rw [List.flatMap_append, List.flatMap_cons, List.flatMap_nil, List.append_nil, List.append_assoc]
          refine ⟨_, _, none, rfl, ?_, ⟨some (kp r), some (.int (startOf r : Nat)), r7, rfl, rfl⟩⟩
          apply sq
          · apply ev_sset
            · exact hstart
            · exact rfl
          · apply ev_sset
            · apply ev_op
              · exact ev_V rfl
              · apply ev_lc
                · (repeat' (first | with_reducible exact r2 | with_reducible exact ev_C | ((with_reducible apply ev_V); exact rfl) | with_reducible exact ev_nil | with_reducible apply ev_cons | with_reducible apply ev_op | with_reducible apply ev_un | with_reducible apply ev_call | (with_reducible apply ev_tup) | (with_reducible apply ev_lst) | exact Nat.le_of_ble_eq_true rfl | with_reducible apply ev_sset | ((with_reducible apply set_eq); first | (simp only [List.set_cons_succ, List.set_cons_zero]; done) | (simp only [List.set_cons_succ, List.set_cons_zero]; exact rfl) | exact rfl) | with_reducible exact ev_noPart | with_reducible apply ev_ret | with_reducible apply ev_T | with_reducible apply ev_not | with_reducible apply ev_notV | with_reducible apply ev_isN | with_reducible apply ev_notN | with_reducible apply ev_part | with_reducible apply ev_ioGet | with_reducible apply ev_putIo | with_reducible exact add_int _ _ | with_reducible exact sub_int' _ _ | with_reducible exact int_int _ | with_reducible exact neg_int' _ | with_reducible exact tuple_strs _ | with_reducible exact tuple_lst _ | with_reducible exact list_lst _ | with_reducible exact items_lst _ | with_reducible exact items_tup _ | with_reducible exact items_txt _ | with_reducible apply ev_items | with_reducible apply ev_rng | with_reducible apply ev_sl | with_reducible exact len_txt _ | with_reducible exact len_tup _ | with_reducible exact len_lst _ | with_reducible exact eq_int' _ _ | with_reducible exact ne_int' _ _ | with_reducible exact lt_int' _ _ | with_reducible exact gt_int' _ _ | with_reducible exact le_int' _ _ | with_reducible exact ge_int' _ _))
                · exact hlc
                · rw [List.length_map]
                  have := ext_len (a := a) (b := b) i r
                  omega
              · exact ad2
            · exact rfl)
      refine ⟨[some (txt a), some (txt b), some (.list ((allK a b i).map kp)), some (.int (i : Nat)), r4, r5, r6, r7], _, none, rfl, ?_, ⟨some (.int (i : Nat)), some (.list ((allK a b (i + 1)).map kp)), s5, s6, s7, rfl, rfl⟩⟩
      apply sq
      · (repeat' (first | with_reducible exact ev_C | ((with_reducible apply ev_V); exact rfl) | with_reducible exact ev_nil | with_reducible apply ev_cons | with_reducible apply ev_op | with_reducible apply ev_un | with_reducible apply ev_call | (with_reducible apply ev_tup) | (with_reducible apply ev_lst) | exact Nat.le_of_ble_eq_true rfl | with_reducible apply ev_sset | ((with_reducible apply set_eq); first | (simp only [List.set_cons_succ, List.set_cons_zero]; done) | (simp only [List.set_cons_succ, List.set_cons_zero]; exact rfl) | exact rfl) | with_reducible exact ev_noPart | with_reducible apply ev_ret | with_reducible apply ev_T | with_reducible apply ev_not | with_reducible apply ev_notV | with_reducible apply ev_isN | with_reducible apply ev_notN | with_reducible apply ev_part | with_reducible apply ev_ioGet | with_reducible apply ev_putIo | with_reducible exact add_int _ _ | with_reducible exact sub_int' _ _ | with_reducible exact int_int _ | with_reducible exact neg_int' _ | with_reducible exact tuple_strs _ | with_reducible exact tuple_lst _ | with_reducible exact list_lst _ | with_reducible exact items_lst _ | with_reducible exact items_tup _ | with_reducible exact items_txt _ | with_reducible apply ev_items | with_reducible apply ev_rng | with_reducible apply ev_sl | with_reducible exact len_txt _ | with_reducible exact len_tup _ | with_reducible exact len_lst _ | with_reducible exact eq_int' _ _ | with_reducible exact ne_int' _ _ | with_reducible exact lt_int' _ _ | with_reducible exact gt_int' _ _ | with_reducible exact le_int' _ _ | with_reducible exact ge_int' _ _))
      apply sq
      · apply fo
        · (repeat' (first | with_reducible exact ev_C | ((with_reducible apply ev_V); exact rfl) | with_reducible exact ev_nil | with_reducible apply ev_cons | with_reducible apply ev_op | with_reducible apply ev_un | with_reducible apply ev_call | (with_reducible apply ev_tup) | (with_reducible apply ev_lst) | exact Nat.le_of_ble_eq_true rfl | with_reducible apply ev_sset | ((with_reducible apply set_eq); first | (simp only [List.set_cons_succ, List.set_cons_zero]; done) | (simp only [List.set_cons_succ, List.set_cons_zero]; exact rfl) | exact rfl) | with_reducible exact ev_noPart | with_reducible apply ev_ret | with_reducible apply ev_T | with_reducible apply ev_not | with_reducible apply ev_notV | with_reducible apply ev_isN | with_reducible apply ev_notN | with_reducible apply ev_part | with_reducible apply ev_ioGet | with_reducible apply ev_putIo | with_reducible exact add_int _ _ | with_reducible exact sub_int' _ _ | with_reducible exact int_int _ | with_reducible exact neg_int' _ | with_reducible exact tuple_strs _ | with_reducible exact tuple_lst _ | with_reducible exact list_lst _ | with_reducible exact items_lst _ | with_reducible exact items_tup _ | with_reducible exact items_txt _ | with_reducible apply ev_items | with_reducible apply ev_rng | with_reducible apply ev_sl | with_reducible exact len_txt _ | with_reducible exact len_tup _ | with_reducible exact len_lst _ | with_reducible exact eq_int' _ _ | with_reducible exact ne_int' _ _ | with_reducible exact lt_int' _ _ | with_reducible exact gt_int' _ _ | with_reducible exact le_int' _ _ | with_reducible exact ge_int' _ _))
        · exact h1
      · (repeat' (first | with_reducible exact ev_C | ((with_reducible apply ev_V); exact rfl) | with_reducible exact ev_nil | with_reducible apply ev_cons | with_reducible apply ev_op | with_reducible apply ev_un | with_reducible apply ev_call | (with_reducible apply ev_tup) | (with_reducible apply ev_lst) | exact Nat.le_of_ble_eq_true rfl | with_reducible apply ev_sset | ((with_reducible apply set_eq); first | (simp only [List.set_cons_succ, List.set_cons_zero]; done) | (simp only [List.set_cons_succ, List.set_cons_zero]; exact rfl) | exact rfl) | with_reducible exact ev_noPart | with_reducible apply ev_ret | with_reducible apply ev_T | with_reducible apply ev_not | with_reducible apply ev_notV | with_reducible apply ev_isN | with_reducible apply ev_notN | with_reducible apply ev_part | with_reducible apply ev_ioGet | with_reducible apply ev_putIo | with_reducible exact add_int _ _ | with_reducible exact sub_int' _ _ | with_reducible exact int_int _ | with_reducible exact neg_int' _ | with_reducible exact tuple_strs _ | with_reducible exact tuple_lst _ | with_reducible exact list_lst _ | with_reducible exact items_lst _ | with_reducible exact items_tup _ | with_reducible exact items_txt _ | with_reducible apply ev_items | with_reducible apply ev_rng | with_reducible apply ev_sl | with_reducible exact len_txt _ | with_reducible exact len_tup _ | with_reducible exact len_lst _ | with_reducible exact eq_int' _ _ | with_reducible exact ne_int' _ _ | with_reducible exact lt_int' _ _ | with_reducible exact gt_int' _ _ | with_reducible exact le_int' _ _ | with_reducible exact ge_int' _ _)))
  have r1 := range1_nat (n := a.length) (by omega)
  show outL (g_l_all_keepings [some (txt a), some (txt b), none, none, none, none, none, none] none) = _
  refine outL_of (m := none) ?_
  unfold g_l_all_keepings
  apply sq
  · (repeat' (first | with_reducible exact ev_C | ((with_reducible apply ev_V); exact rfl) | with_reducible exact ev_nil | with_reducible apply ev_cons | with_reducible apply ev_op | with_reducible apply ev_un | with_reducible apply ev_call | (with_reducible apply ev_tup) | (with_reducible apply ev_lst) | exact Nat.le_of_ble_eq_true rfl | with_reducible apply ev_sset | ((with_reducible apply set_eq); first | (simp only [List.set_cons_succ, List.set_cons_zero]; done) | (simp only [List.set_cons_succ, List.set_cons_zero]; exact rfl) | exact rfl) | with_reducible exact ev_noPart | with_reducible apply ev_ret | with_reducible apply ev_T | with_reducible apply ev_not | with_reducible apply ev_notV | with_reducible apply ev_isN | with_reducible apply ev_notN | with_reducible apply ev_part | with_reducible apply ev_ioGet | with_reducible apply ev_putIo | with_reducible exact add_int _ _ | with_reducible exact sub_int' _ _ | with_reducible exact int_int _ | with_reducible exact neg_int' _ | with_reducible exact tuple_strs _ | with_reducible exact tuple_lst _ | with_reducible exact list_lst _ | with_reducible exact items_lst _ | with_reducible exact items_tup _ | with_reducible exact items_txt _ | with_reducible apply ev_items | with_reducible apply ev_rng | with_reducible apply ev_sl | with_reducible exact len_txt _ | with_reducible exact len_tup _ | with_reducible exact len_lst _ | with_reducible exact eq_int' _ _ | with_reducible exact ne_int' _ _ | with_reducible exact lt_int' _ _ | with_reducible exact gt_int' _ _ | with_reducible exact le_int' _ _ | with_reducible exact ge_int' _ _))
  apply sq
  · apply fo
    · (repeat' (first | with_reducible exact r1 | with_reducible exact ev_C | ((with_reducible apply ev_V); exact rfl) | with_reducible exact ev_nil | with_reducible apply ev_cons | with_reducible apply ev_op | with_reducible apply ev_un | with_reducible apply ev_call | (with_reducible apply ev_tup) | (with_reducible apply ev_lst) | exact Nat.le_of_ble_eq_true rfl | with_reducible apply ev_sset | ((with_reducible apply set_eq); first | (simp only [List.set_cons_succ, List.set_cons_zero]; done) | (simp only [List.set_cons_succ, List.set_cons_zero]; exact rfl) | exact rfl) | with_reducible exact ev_noPart | with_reducible apply ev_ret | with_reducible apply ev_T | with_reducible apply ev_not | with_reducible apply ev_notV | with_reducible apply ev_isN | with_reducible apply ev_notN | with_reducible apply ev_part | with_reducible apply ev_ioGet | with_reducible apply ev_putIo | with_reducible exact add_int _ _ | with_reducible exact sub_int' _ _ | with_reducible exact int_int _ | with_reducible exact neg_int' _ | with_reducible exact tuple_strs _ | with_reducible exact tuple_lst _ | with_reducible exact list_lst _ | with_reducible exact items_lst _ | with_reducible exact items_tup _ | with_reducible exact items_txt _ | with_reducible apply ev_items | with_reducible apply ev_rng | with_reducible apply ev_sl | with_reducible exact len_txt _ | with_reducible exact len_tup _ | with_reducible exact len_lst _ | with_reducible exact eq_int' _ _ | with_reducible exact ne_int' _ _ | with_reducible exact lt_int' _ _ | with_reducible exact gt_int' _ _ | with_reducible exact le_int' _ _ | with_reducible exact ge_int' _ _))
    · exact h1
  · (repeat' (first | with_reducible exact ev_C | ((with_reducible apply ev_V); exact rfl) | with_reducible exact ev_nil | with_reducible apply ev_cons | with_reducible apply ev_op | with_reducible apply ev_un | with_reducible apply ev_call | (with_reducible apply ev_tup) | (with_reducible apply ev_lst) | exact Nat.le_of_ble_eq_true rfl | with_reducible apply ev_sset | ((with_reducible apply set_eq); first | (simp only [List.set_cons_succ, List.set_cons_zero]; done) | (simp only [List.set_cons_succ, List.set_cons_zero]; exact rfl) | exact rfl) | with_reducible exact ev_noPart | with_reducible apply ev_ret | with_reducible apply ev_T | with_reducible apply ev_not | with_reducible apply ev_notV | with_reducible apply ev_isN | with_reducible apply ev_notN | with_reducible apply ev_part | with_reducible apply ev_ioGet | with_reducible apply ev_putIo | with_reducible exact add_int _ _ | with_reducible exact sub_int' _ _ | with_reducible exact int_int _ | with_reducible exact neg_int' _ | with_reducible exact tuple_strs _ | with_reducible exact tuple_lst _ | with_reducible exact list_lst _ | with_reducible exact items_lst _ | with_reducible exact items_tup _ | with_reducible exact items_txt _ | with_reducible apply ev_items | with_reducible apply ev_rng | with_reducible apply ev_sl | with_reducible exact len_txt _ | with_reducible exact len_tup _ | with_reducible exact len_lst _ | with_reducible exact eq_int' _ _ | with_reducible exact ne_int' _ _ | with_reducible exact lt_int' _ _ | with_reducible exact gt_int' _ _ | with_reducible exact le_int' _ _ | with_reducible exact ge_int' _ _))
/-! ### told_script -/
def tg : Nat → Str
  | 0 => "bar"
  | 1 => "add"
  | _ => "keep"
def en (e : Nat × Str) : PyData := .tuple [.str (tg e.1), .str e.2]
theorem lc_tag (l : List Str) (t : Nat) (ρ : DEnv) (i : Nat) (hi : i < ρ.length) (m : Io) (c : Str) (hc : c = tg t) : lcF (bName i) tYesF (fTup (fCons (fC (.str c)) (fCons (fV i) fNil))) ρ (l.map .str) m = some ((l.map fun x => (t, x)).map en, m) := by
  subst hc
  rw [lc_mapA PyData.str (fun x => en (t, x)) m l fun x hx => ⟨ρ.set i (some (.str x)), rfl, by
    have hv : (ρ.set i (some (.str x)))[i]? = some (some (.str x)) := by rw [List.getElem?_set_self hi]
    show _ = some (PyData.tuple [.str (tg t), .str x], m)
    (repeat' (first | with_reducible exact ev_V hv | with_reducible exact ev_C | ((with_reducible apply ev_V); exact rfl) | with_reducible exact ev_nil | with_reducible apply ev_cons | with_reducible apply ev_op | with_reducible apply ev_un | with_reducible apply ev_call | (with_reducible apply ev_tup) | (with_reducible apply ev_lst) | exact Nat.le_of_ble_eq_true rfl | with_reducible apply ev_sset | ((with_reducible apply set_eq); first | (simp only [List.set_cons_succ, List.set_cons_zero]; done) | (simp only [List.set_cons_succ, List.set_cons_zero]; exact rfl) | exact rfl) | with_reducible exact ev_noPart | with_reducible apply ev_ret | with_reducible apply ev_T | with_reducible apply ev_not | with_reducible apply ev_notV | with_reducible apply ev_isN | with_reducible apply ev_notN | with_reducible apply ev_part | with_reducible apply ev_ioGet | with_reducible apply ev_putIo | with_reducible exact add_int _ _ | with_reducible exact sub_int' _ _ | with_reducible exact int_int _ | with_reducible exact neg_int' _ | with_reducible exact tuple_strs _ | with_reducible exact tuple_lst _ | with_reducible exact list_lst _ | with_reducible exact items_lst _ | with_reducible exact items_tup _ | with_reducible exact items_txt _ | with_reducible apply ev_items | with_reducible apply ev_rng | with_reducible apply ev_sl | with_reducible exact len_txt _ | with_reducible exact len_tup _ | with_reducible exact len_lst _ | with_reducible exact eq_int' _ _ | with_reducible exact ne_int' _ _ | with_reducible exact lt_int' _ _ | with_reducible exact gt_int' _ _ | with_reducible exact le_int' _ _ | with_reducible exact ge_int' _ _))⟩]
  rw [List.map_map]
  rfl
theorem step_len (P : Pair a b) (i j p q : Nat) : (stepOf a b i j p q).length ≤ 15 := by
  have := P.la
  have := P.lb
  unfold stepOf
  cases e : a[p]? with
  | none =>
    simp only [List.length_append, List.length_map, List.length_take, List.length_drop, List.length_nil]
    omega
  | some x =>
    simp only [List.length_append, List.length_map, List.length_take, List.length_drop, List.length_cons, List.length_nil]
    omega
theorem script_loop (P : Pair a b) : ∀ (r : Row) (i j : Nat) (acc : List (Nat × Str)) (r5 r6 r7 : Option PyData), acc.length + 15 * r.length ≤ 10000 → ∃ s3 s4 s5 s6 s7, forF (bTup (bCons (bName 5) (bCons (bName 6) bNil)))
    (fSeq (fExtend 2 (fLc (fItems (fSl (fV 0) (fPart (fV 3)) (fPart (fV 5)))) (bName 7) tYesF (fTup (fCons (fC (.str "bar")) (fCons (fV 7) fNil))) (List.map (·.2) ([("line", 7)] : List (Str × Nat)))))
    (fSeq (fExtend 2 (fLc (fItems (fSl (fV 1) (fPart (fV 4)) (fPart (fV 6)))) (bName 7) tYesF (fTup (fCons (fC (.str "add")) (fCons (fV 7) fNil))) (List.map (·.2) ([("line", 7)] : List (Str × Nat)))))
    (fSeq (fIfS (fT (fOp ltD (fV 5) (fCall lenD (fCons (fV 0) fNil))))
    (fAppend 2 (fTup (fCons (fC (.str "keep")) (fCons (fOp ixD (fV 0) (fV 5)) fNil))))
    fNext)
    (fPar 3 4 (fCons (fOp addD (fV 5) (fC (.int 1))) (fCons (fOp addD (fV 6) (fC (.int 1))) fNil)))))) (r.map pr)
    [some (txt a), some (txt b), some (.list (acc.map en)), some (.int (i : Nat)), some (.int (j : Nat)), r5, r6, r7] none = some (.nx [some (txt a), some (txt b), some (.list ((acc ++ scrOf a b i j r).map en)), s3, s4, s5, s6, s7] none)
  | [], i, j, acc, r5, r6, r7, _ => ⟨_, _, _, _, _, by rw [scrOf, List.append_nil]; rfl⟩
  | (p, q) :: r, i, j, acc, r5, r6, r7, h => by
    have hst := step_len P i j p q
    simp only [List.length_cons] at h
    obtain ⟨s3, s4, s5, s6, s7, ih⟩ := script_loop P r (p + 1) (q + 1) (acc ++ stepOf a b i j p q) (some (.int (p : Nat))) (some (.int (q : Nat))) r7 (by rw [List.length_append]; omega)
    refine ⟨s3, s4, s5, s6, s7, ?_⟩
    rw [List.map_cons]
    have hd : scrOf a b i j ((p, q) :: r) = stepOf a b i j p q ++ scrOf a b (p + 1) (q + 1) r := rfl
    rw [hd, ← List.append_assoc, ← ih]
    have hn := P.la
    have hm := P.lb
    have sl1 := sl_txt_in a i p
    have sl2 := sl_txt_in b j q
    have lt := lt_nat p a.length
    generalize hA : ((a.drop i).take (p - i)).map (fun x => ((0 : Nat), x)) = A
    generalize hB : ((b.drop j).take (q - j)).map (fun x => ((1 : Nat), x)) = B
    have hAl : A.length ≤ 7 := by rw [← hA]; simp; omega
    have hBl : B.length ≤ 7 := by rw [← hB]; simp; omega
    refine for_nx (ρ1 := [some (txt a), some (txt b), some (.list (acc.map en)), some (.int (i : Nat)), some (.int (j : Nat)), some (.int (p : Nat)), some (.int (q : Nat)), r7]) rfl ?_
    apply sq
    · apply ev_extend (xs := acc.map en) (ys := A.map en)
      · apply ev_lc
        · (repeat' (first | with_reducible exact sl1 | with_reducible exact ev_C | ((with_reducible apply ev_V); exact rfl) | with_reducible exact ev_nil | with_reducible apply ev_cons | with_reducible apply ev_op | with_reducible apply ev_un | with_reducible apply ev_call | (with_reducible apply ev_tup) | (with_reducible apply ev_lst) | exact Nat.le_of_ble_eq_true rfl | with_reducible apply ev_sset | ((with_reducible apply set_eq); first | (simp only [List.set_cons_succ, List.set_cons_zero]; done) | (simp only [List.set_cons_succ, List.set_cons_zero]; exact rfl) | exact rfl) | with_reducible exact ev_noPart | with_reducible apply ev_ret | with_reducible apply ev_T | with_reducible apply ev_not | with_reducible apply ev_notV | with_reducible apply ev_isN | with_reducible apply ev_notN | with_reducible apply ev_part | with_reducible apply ev_ioGet | with_reducible apply ev_putIo | with_reducible exact add_int _ _ | with_reducible exact sub_int' _ _ | with_reducible exact int_int _ | with_reducible exact neg_int' _ | with_reducible exact tuple_strs _ | with_reducible exact tuple_lst _ | with_reducible exact list_lst _ | with_reducible exact items_lst _ | with_reducible exact items_tup _ | with_reducible exact items_txt _ | with_reducible apply ev_items | with_reducible apply ev_rng | with_reducible apply ev_sl | with_reducible exact len_txt _ | with_reducible exact len_tup _ | with_reducible exact len_lst _ | with_reducible exact eq_int' _ _ | with_reducible exact ne_int' _ _ | with_reducible exact lt_int' _ _ | with_reducible exact gt_int' _ _ | with_reducible exact le_int' _ _ | with_reducible exact ge_int' _ _))
        · rw [← hA]; exact lc_tag _ 0 _ 7 (by simp [wipeD]) none "bar" rfl
        · rw [List.length_map]; omega
      · exact rfl
      · rw [List.length_map, List.length_map]; omega
    apply sq
    · apply ev_extend (xs := acc.map en ++ A.map en) (ys := B.map en)
      · apply ev_lc
        · (repeat' (first | with_reducible exact sl2 | with_reducible exact ev_C | ((with_reducible apply ev_V); exact rfl) | with_reducible exact ev_nil | with_reducible apply ev_cons | with_reducible apply ev_op | with_reducible apply ev_un | with_reducible apply ev_call | (with_reducible apply ev_tup) | (with_reducible apply ev_lst) | exact Nat.le_of_ble_eq_true rfl | with_reducible apply ev_sset | ((with_reducible apply set_eq); first | (simp only [List.set_cons_succ, List.set_cons_zero]; done) | (simp only [List.set_cons_succ, List.set_cons_zero]; exact rfl) | exact rfl) | with_reducible exact ev_noPart | with_reducible apply ev_ret | with_reducible apply ev_T | with_reducible apply ev_not | with_reducible apply ev_notV | with_reducible apply ev_isN | with_reducible apply ev_notN | with_reducible apply ev_part | with_reducible apply ev_ioGet | with_reducible apply ev_putIo | with_reducible exact add_int _ _ | with_reducible exact sub_int' _ _ | with_reducible exact int_int _ | with_reducible exact neg_int' _ | with_reducible exact tuple_strs _ | with_reducible exact tuple_lst _ | with_reducible exact list_lst _ | with_reducible exact items_lst _ | with_reducible exact items_tup _ | with_reducible exact items_txt _ | with_reducible apply ev_items | with_reducible apply ev_rng | with_reducible apply ev_sl | with_reducible exact len_txt _ | with_reducible exact len_tup _ | with_reducible exact len_lst _ | with_reducible exact eq_int' _ _ | with_reducible exact ne_int' _ _ | with_reducible exact lt_int' _ _ | with_reducible exact gt_int' _ _ | with_reducible exact le_int' _ _ | with_reducible exact ge_int' _ _))
        · rw [← hB]; exact lc_tag _ 1 _ 7 (by simp [wipeD]) none "add" rfl
        · rw [List.length_map]; omega
      · exact rfl
      · rw [List.length_append, List.length_map, List.length_map, List.length_map]; omega
    by_cases c : p < a.length
    · obtain ⟨x, ex, ix⟩ := ix_ok c
      rw [decide_eq_true c] at lt
      have hs : stepOf a b i j p q = A ++ B ++ [(2, x)] := by unfold stepOf; rw [ex, hA, hB]
      apply sq
      · apply ift
        · (repeat' (first | with_reducible exact lt | with_reducible exact ev_C | ((with_reducible apply ev_V); exact rfl) | with_reducible exact ev_nil | with_reducible apply ev_cons | with_reducible apply ev_op | with_reducible apply ev_un | with_reducible apply ev_call | (with_reducible apply ev_tup) | (with_reducible apply ev_lst) | exact Nat.le_of_ble_eq_true rfl | with_reducible apply ev_sset | ((with_reducible apply set_eq); first | (simp only [List.set_cons_succ, List.set_cons_zero]; done) | (simp only [List.set_cons_succ, List.set_cons_zero]; exact rfl) | exact rfl) | with_reducible exact ev_noPart | with_reducible apply ev_ret | with_reducible apply ev_T | with_reducible apply ev_not | with_reducible apply ev_notV | with_reducible apply ev_isN | with_reducible apply ev_notN | with_reducible apply ev_part | with_reducible apply ev_ioGet | with_reducible apply ev_putIo | with_reducible exact add_int _ _ | with_reducible exact sub_int' _ _ | with_reducible exact int_int _ | with_reducible exact neg_int' _ | with_reducible exact tuple_strs _ | with_reducible exact tuple_lst _ | with_reducible exact list_lst _ | with_reducible exact items_lst _ | with_reducible exact items_tup _ | with_reducible exact items_txt _ | with_reducible apply ev_items | with_reducible apply ev_rng | with_reducible apply ev_sl | with_reducible exact len_txt _ | with_reducible exact len_tup _ | with_reducible exact len_lst _ | with_reducible exact eq_int' _ _ | with_reducible exact ne_int' _ _ | with_reducible exact lt_int' _ _ | with_reducible exact gt_int' _ _ | with_reducible exact le_int' _ _ | with_reducible exact ge_int' _ _))
        · apply ev_append (xs := acc.map en ++ A.map en ++ B.map en)
          · (repeat' (first | with_reducible exact ix | with_reducible exact ev_C | ((with_reducible apply ev_V); exact rfl) | with_reducible exact ev_nil | with_reducible apply ev_cons | with_reducible apply ev_op | with_reducible apply ev_un | with_reducible apply ev_call | (with_reducible apply ev_tup) | (with_reducible apply ev_lst) | exact Nat.le_of_ble_eq_true rfl | with_reducible apply ev_sset | ((with_reducible apply set_eq); first | (simp only [List.set_cons_succ, List.set_cons_zero]; done) | (simp only [List.set_cons_succ, List.set_cons_zero]; exact rfl) | exact rfl) | with_reducible exact ev_noPart | with_reducible apply ev_ret | with_reducible apply ev_T | with_reducible apply ev_not | with_reducible apply ev_notV | with_reducible apply ev_isN | with_reducible apply ev_notN | with_reducible apply ev_part | with_reducible apply ev_ioGet | with_reducible apply ev_putIo | with_reducible exact add_int _ _ | with_reducible exact sub_int' _ _ | with_reducible exact int_int _ | with_reducible exact neg_int' _ | with_reducible exact tuple_strs _ | with_reducible exact tuple_lst _ | with_reducible exact list_lst _ | with_reducible exact items_lst _ | with_reducible exact items_tup _ | with_reducible exact items_txt _ | with_reducible apply ev_items | with_reducible apply ev_rng | with_reducible apply ev_sl | with_reducible exact len_txt _ | with_reducible exact len_tup _ | with_reducible exact len_lst _ | with_reducible exact eq_int' _ _ | with_reducible exact ne_int' _ _ | with_reducible exact lt_int' _ _ | with_reducible exact gt_int' _ _ | with_reducible exact le_int' _ _ | with_reducible exact ge_int' _ _))
          · exact rfl
          · rw [List.length_append, List.length_append, List.length_map, List.length_map, List.length_map]; omega
      · refine (ev_par (x := .int ((p : Int) + 1)) (y := .int ((q : Int) + 1)) (m1 := none) ?_).trans ?_
        · (repeat' (first | with_reducible exact ev_C | ((with_reducible apply ev_V); exact rfl) | with_reducible exact ev_nil | with_reducible apply ev_cons | with_reducible apply ev_op | with_reducible apply ev_un | with_reducible apply ev_call | (with_reducible apply ev_tup) | (with_reducible apply ev_lst) | exact Nat.le_of_ble_eq_true rfl | with_reducible apply ev_sset | ((with_reducible apply set_eq); first | (simp only [List.set_cons_succ, List.set_cons_zero]; done) | (simp only [List.set_cons_succ, List.set_cons_zero]; exact rfl) | exact rfl) | with_reducible exact ev_noPart | with_reducible apply ev_ret | with_reducible apply ev_T | with_reducible apply ev_not | with_reducible apply ev_notV | with_reducible apply ev_isN | with_reducible apply ev_notN | with_reducible apply ev_part | with_reducible apply ev_ioGet | with_reducible apply ev_putIo | with_reducible exact add_int _ _ | with_reducible exact sub_int' _ _ | with_reducible exact int_int _ | with_reducible exact neg_int' _ | with_reducible exact tuple_strs _ | with_reducible exact tuple_lst _ | with_reducible exact list_lst _ | with_reducible exact items_lst _ | with_reducible exact items_tup _ | with_reducible exact items_txt _ | with_reducible apply ev_items | with_reducible apply ev_rng | with_reducible apply ev_sl | with_reducible exact len_txt _ | with_reducible exact len_tup _ | with_reducible exact len_lst _ | with_reducible exact eq_int' _ _ | with_reducible exact ne_int' _ _ | with_reducible exact lt_int' _ _ | with_reducible exact gt_int' _ _ | with_reducible exact le_int' _ _ | with_reducible exact ge_int' _ _))
        · rw [hs]
          simp only [List.map_append, List.set_cons_succ, List.set_cons_zero, List.append_assoc]
          rfl
    · rw [decide_eq_false c] at lt
      have hs : stepOf a b i j p q = A ++ B := by unfold stepOf; rw [List.getElem?_eq_none (by omega), hA, hB]; simp
      apply sq
      · apply iff
        · (repeat' (first | with_reducible exact lt | with_reducible exact ev_C | ((with_reducible apply ev_V); exact rfl) | with_reducible exact ev_nil | with_reducible apply ev_cons | with_reducible apply ev_op | with_reducible apply ev_un | with_reducible apply ev_call | (with_reducible apply ev_tup) | (with_reducible apply ev_lst) | exact Nat.le_of_ble_eq_true rfl | with_reducible apply ev_sset | ((with_reducible apply set_eq); first | (simp only [List.set_cons_succ, List.set_cons_zero]; done) | (simp only [List.set_cons_succ, List.set_cons_zero]; exact rfl) | exact rfl) | with_reducible exact ev_noPart | with_reducible apply ev_ret | with_reducible apply ev_T | with_reducible apply ev_not | with_reducible apply ev_notV | with_reducible apply ev_isN | with_reducible apply ev_notN | with_reducible apply ev_part | with_reducible apply ev_ioGet | with_reducible apply ev_putIo | with_reducible exact add_int _ _ | with_reducible exact sub_int' _ _ | with_reducible exact int_int _ | with_reducible exact neg_int' _ | with_reducible exact tuple_strs _ | with_reducible exact tuple_lst _ | with_reducible exact list_lst _ | with_reducible exact items_lst _ | with_reducible exact items_tup _ | with_reducible exact items_txt _ | with_reducible apply ev_items | with_reducible apply ev_rng | with_reducible apply ev_sl | with_reducible exact len_txt _ | with_reducible exact len_tup _ | with_reducible exact len_lst _ | with_reducible exact eq_int' _ _ | with_reducible exact ne_int' _ _ | with_reducible exact lt_int' _ _ | with_reducible exact gt_int' _ _ | with_reducible exact le_int' _ _ | with_reducible exact ge_int' _ _))
        · exact rfl
      · refine (ev_par (x := .int ((p : Int) + 1)) (y := .int ((q : Int) + 1)) (m1 := none) ?_).trans ?_
        · (repeat' (first | with_reducible exact ev_C | ((with_reducible apply ev_V); exact rfl) | with_reducible exact ev_nil | with_reducible apply ev_cons | with_reducible apply ev_op | with_reducible apply ev_un | with_reducible apply ev_call | (with_reducible apply ev_tup) | (with_reducible apply ev_lst) | exact Nat.le_of_ble_eq_true rfl | with_reducible apply ev_sset | ((with_reducible apply set_eq); first | (simp only [List.set_cons_succ, List.set_cons_zero]; done) | (simp only [List.set_cons_succ, List.set_cons_zero]; exact rfl) | exact rfl) | with_reducible exact ev_noPart | with_reducible apply ev_ret | with_reducible apply ev_T | with_reducible apply ev_not | with_reducible apply ev_notV | with_reducible apply ev_isN | with_reducible apply ev_notN | with_reducible apply ev_part | with_reducible apply ev_ioGet | with_reducible apply ev_putIo | with_reducible exact add_int _ _ | with_reducible exact sub_int' _ _ | with_reducible exact int_int _ | with_reducible exact neg_int' _ | with_reducible exact tuple_strs _ | with_reducible exact tuple_lst _ | with_reducible exact list_lst _ | with_reducible exact items_lst _ | with_reducible exact items_tup _ | with_reducible exact items_txt _ | with_reducible apply ev_items | with_reducible apply ev_rng | with_reducible apply ev_sl | with_reducible exact len_txt _ | with_reducible exact len_tup _ | with_reducible exact len_lst _ | with_reducible exact eq_int' _ _ | with_reducible exact ne_int' _ _ | with_reducible exact lt_int' _ _ | with_reducible exact gt_int' _ _ | with_reducible exact le_int' _ _ | with_reducible exact ge_int' _ _))
        · rw [hs]
          simp only [List.map_append, List.set_cons_succ, List.set_cons_zero, List.append_assoc]
          rfl
noncomputable def dueOf (a b : List Str) : List (Nat × Str) := scrOf a b 0 0 (K a b 0 0 ++ [(a.length, b.length)])
theorem script_ok (P : Pair a b) : M_told_script [txt a, txt b] = some (.tuple ((dueOf a b).map en)) := by
  have hk := K_len P 0 0
  obtain ⟨s3, s4, s5, s6, s7, h⟩ := script_loop P (K a b 0 0 ++ [(a.length, b.length)]) 0 0 [] none none none (by simp; omega)
  have told := told_ok P
  have ad : addD (kp (K a b 0 0)) (.tuple [.tuple [.int (a.length : Nat), .int (b.length : Nat)]]) = some (kp (K a b 0 0 ++ [(a.length, b.length)])) := add_kp (s := [(a.length, b.length)]) (by simp; omega)
  have it : itemsD (kp (K a b 0 0 ++ [(a.length, b.length)])) = some ((K a b 0 0 ++ [(a.length, b.length)]).map pr) := rfl
  show outL (g_told_script M_told_keeping [some (txt a), some (txt b), none, none, none, none, none, none] none) = _
  refine outL_of (m := none) ?_
  unfold g_told_script
  apply sq
  · (repeat' (first | with_reducible exact ev_C | ((with_reducible apply ev_V); exact rfl) | with_reducible exact ev_nil | with_reducible apply ev_cons | with_reducible apply ev_op | with_reducible apply ev_un | with_reducible apply ev_call | (with_reducible apply ev_tup) | (with_reducible apply ev_lst) | exact Nat.le_of_ble_eq_true rfl | with_reducible apply ev_sset | ((with_reducible apply set_eq); first | (simp only [List.set_cons_succ, List.set_cons_zero]; done) | (simp only [List.set_cons_succ, List.set_cons_zero]; exact rfl) | exact rfl) | with_reducible exact ev_noPart | with_reducible apply ev_ret | with_reducible apply ev_T | with_reducible apply ev_not | with_reducible apply ev_notV | with_reducible apply ev_isN | with_reducible apply ev_notN | with_reducible apply ev_part | with_reducible apply ev_ioGet | with_reducible apply ev_putIo | with_reducible exact add_int _ _ | with_reducible exact sub_int' _ _ | with_reducible exact int_int _ | with_reducible exact neg_int' _ | with_reducible exact tuple_strs _ | with_reducible exact tuple_lst _ | with_reducible exact list_lst _ | with_reducible exact items_lst _ | with_reducible exact items_tup _ | with_reducible exact items_txt _ | with_reducible apply ev_items | with_reducible apply ev_rng | with_reducible apply ev_sl | with_reducible exact len_txt _ | with_reducible exact len_tup _ | with_reducible exact len_lst _ | with_reducible exact eq_int' _ _ | with_reducible exact ne_int' _ _ | with_reducible exact lt_int' _ _ | with_reducible exact gt_int' _ _ | with_reducible exact le_int' _ _ | with_reducible exact ge_int' _ _))
  apply sq
  · apply ev_asg
    · (repeat' (first | with_reducible exact ev_C | ((with_reducible apply ev_V); exact rfl) | with_reducible exact ev_nil | with_reducible apply ev_cons | with_reducible apply ev_op | with_reducible apply ev_un | with_reducible apply ev_call | (with_reducible apply ev_tup) | (with_reducible apply ev_lst) | exact Nat.le_of_ble_eq_true rfl | with_reducible apply ev_sset | ((with_reducible apply set_eq); first | (simp only [List.set_cons_succ, List.set_cons_zero]; done) | (simp only [List.set_cons_succ, List.set_cons_zero]; exact rfl) | exact rfl) | with_reducible exact ev_noPart | with_reducible apply ev_ret | with_reducible apply ev_T | with_reducible apply ev_not | with_reducible apply ev_notV | with_reducible apply ev_isN | with_reducible apply ev_notN | with_reducible apply ev_part | with_reducible apply ev_ioGet | with_reducible apply ev_putIo | with_reducible exact add_int _ _ | with_reducible exact sub_int' _ _ | with_reducible exact int_int _ | with_reducible exact neg_int' _ | with_reducible exact tuple_strs _ | with_reducible exact tuple_lst _ | with_reducible exact list_lst _ | with_reducible exact items_lst _ | with_reducible exact items_tup _ | with_reducible exact items_txt _ | with_reducible apply ev_items | with_reducible apply ev_rng | with_reducible apply ev_sl | with_reducible exact len_txt _ | with_reducible exact len_tup _ | with_reducible exact len_lst _ | with_reducible exact eq_int' _ _ | with_reducible exact ne_int' _ _ | with_reducible exact lt_int' _ _ | with_reducible exact gt_int' _ _ | with_reducible exact le_int' _ _ | with_reducible exact ge_int' _ _))
    · exact rfl
  apply sq
  · apply fo
    · (repeat' (first | with_reducible exact told | with_reducible exact ad | with_reducible exact it | with_reducible exact ev_C | ((with_reducible apply ev_V); exact rfl) | with_reducible exact ev_nil | with_reducible apply ev_cons | with_reducible apply ev_op | with_reducible apply ev_un | with_reducible apply ev_call | (with_reducible apply ev_tup) | (with_reducible apply ev_lst) | exact Nat.le_of_ble_eq_true rfl | with_reducible apply ev_sset | ((with_reducible apply set_eq); first | (simp only [List.set_cons_succ, List.set_cons_zero]; done) | (simp only [List.set_cons_succ, List.set_cons_zero]; exact rfl) | exact rfl) | with_reducible exact ev_noPart | with_reducible apply ev_ret | with_reducible apply ev_T | with_reducible apply ev_not | with_reducible apply ev_notV | with_reducible apply ev_isN | with_reducible apply ev_notN | with_reducible apply ev_part | with_reducible apply ev_ioGet | with_reducible apply ev_putIo | with_reducible exact add_int _ _ | with_reducible exact sub_int' _ _ | with_reducible exact int_int _ | with_reducible exact neg_int' _ | with_reducible exact tuple_strs _ | with_reducible exact tuple_lst _ | with_reducible exact list_lst _ | with_reducible exact items_lst _ | with_reducible exact items_tup _ | with_reducible exact items_txt _ | with_reducible apply ev_items | with_reducible apply ev_rng | with_reducible apply ev_sl | with_reducible exact len_txt _ | with_reducible exact len_tup _ | with_reducible exact len_lst _ | with_reducible exact eq_int' _ _ | with_reducible exact ne_int' _ _ | with_reducible exact lt_int' _ _ | with_reducible exact gt_int' _ _ | with_reducible exact le_int' _ _ | with_reducible exact ge_int' _ _))
    · exact h
  · (repeat' (first | with_reducible exact ev_C | ((with_reducible apply ev_V); exact rfl) | with_reducible exact ev_nil | with_reducible apply ev_cons | with_reducible apply ev_op | with_reducible apply ev_un | with_reducible apply ev_call | (with_reducible apply ev_tup) | (with_reducible apply ev_lst) | exact Nat.le_of_ble_eq_true rfl | with_reducible apply ev_sset | ((with_reducible apply set_eq); first | (simp only [List.set_cons_succ, List.set_cons_zero]; done) | (simp only [List.set_cons_succ, List.set_cons_zero]; exact rfl) | exact rfl) | with_reducible exact ev_noPart | with_reducible apply ev_ret | with_reducible apply ev_T | with_reducible apply ev_not | with_reducible apply ev_notV | with_reducible apply ev_isN | with_reducible apply ev_notN | with_reducible apply ev_part | with_reducible apply ev_ioGet | with_reducible apply ev_putIo | with_reducible exact add_int _ _ | with_reducible exact sub_int' _ _ | with_reducible exact int_int _ | with_reducible exact neg_int' _ | with_reducible exact tuple_strs _ | with_reducible exact tuple_lst _ | with_reducible exact list_lst _ | with_reducible exact items_lst _ | with_reducible exact items_tup _ | with_reducible exact items_txt _ | with_reducible apply ev_items | with_reducible apply ev_rng | with_reducible apply ev_sl | with_reducible exact len_txt _ | with_reducible exact len_tup _ | with_reducible exact len_lst _ | with_reducible exact eq_int' _ _ | with_reducible exact ne_int' _ _ | with_reducible exact lt_int' _ _ | with_reducible exact gt_int' _ _ | with_reducible exact le_int' _ _ | with_reducible exact ge_int' _ _))
    exact tuple_lst _
end
end K01
namespace K01
open PySem PySem.Spec PyProof.Rows L2 DL
/-! ### cells, draws -/
def scrD (ns : List Int) : PyData := .dict [(.list (ns.map .int), .none)]
theorem cell_ok (ns : List Int) (k : Nat) (hk : k < 100) : ∃ c : Int, M_l_cell [scrD ns, .int k] = some (.int c) := by
  have hl : lenD [scrD ns] = some (.int (ns.length : Nat)) := by show some (PyData.int ((ns.map PyData.int).length : Nat)) = _; rw [List.length_map]
  have lt := lt_nat k ns.length
  by_cases c : k < ns.length
  · rw [decide_eq_true c] at lt
    have ix : ixD (scrD ns) (.int k) = some (.int ns[k]) := by
      show atI (ns.map PyData.int) (k : Int) = _
      refine atI_of (j := k) (by unfold ixN; rw [List.length_map, if_pos (by omega), if_pos (by omega)]; rfl) (by rw [List.getElem?_map, List.getElem?_eq_getElem c]; rfl)
    refine ⟨ns[k], ?_⟩
    show outL (g_l_cell [some (scrD ns), some (.int k)] none) = _
    refine outL_of (m := none) ?_
    unfold g_l_cell
    apply ev_seq_rt
    apply ift
    · (repeat' (first | with_reducible exact hl | with_reducible exact lt | with_reducible exact ev_C | ((with_reducible apply ev_V); exact rfl) | with_reducible exact ev_nil | with_reducible apply ev_cons | with_reducible apply ev_op | with_reducible apply ev_un | with_reducible apply ev_call | (with_reducible apply ev_tup) | (with_reducible apply ev_lst) | exact Nat.le_of_ble_eq_true rfl | with_reducible apply ev_sset | ((with_reducible apply set_eq); first | (simp only [List.set_cons_succ, List.set_cons_zero]; done) | (simp only [List.set_cons_succ, List.set_cons_zero]; exact rfl) | exact rfl) | with_reducible exact ev_noPart | with_reducible apply ev_ret | with_reducible apply ev_T | with_reducible apply ev_not | with_reducible apply ev_notV | with_reducible apply ev_isN | with_reducible apply ev_notN | with_reducible apply ev_part | with_reducible apply ev_ioGet | with_reducible apply ev_putIo | with_reducible exact add_int _ _ | with_reducible exact sub_int' _ _ | with_reducible exact int_int _ | with_reducible exact neg_int' _ | with_reducible exact tuple_strs _ | with_reducible exact tuple_lst _ | with_reducible exact list_lst _ | with_reducible exact items_lst _ | with_reducible exact items_tup _ | with_reducible exact items_txt _ | with_reducible apply ev_items | with_reducible apply ev_rng | with_reducible apply ev_sl | with_reducible exact len_txt _ | with_reducible exact len_tup _ | with_reducible exact len_lst _ | with_reducible exact eq_int' _ _ | with_reducible exact ne_int' _ _ | with_reducible exact lt_int' _ _ | with_reducible exact gt_int' _ _ | with_reducible exact le_int' _ _ | with_reducible exact ge_int' _ _))
    · (repeat' (first | with_reducible exact ix | with_reducible exact ev_C | ((with_reducible apply ev_V); exact rfl) | with_reducible exact ev_nil | with_reducible apply ev_cons | with_reducible apply ev_op | with_reducible apply ev_un | with_reducible apply ev_call | (with_reducible apply ev_tup) | (with_reducible apply ev_lst) | exact Nat.le_of_ble_eq_true rfl | with_reducible apply ev_sset | ((with_reducible apply set_eq); first | (simp only [List.set_cons_succ, List.set_cons_zero]; done) | (simp only [List.set_cons_succ, List.set_cons_zero]; exact rfl) | exact rfl) | with_reducible exact ev_noPart | with_reducible apply ev_ret | with_reducible apply ev_T | with_reducible apply ev_not | with_reducible apply ev_notV | with_reducible apply ev_isN | with_reducible apply ev_notN | with_reducible apply ev_part | with_reducible apply ev_ioGet | with_reducible apply ev_putIo | with_reducible exact add_int _ _ | with_reducible exact sub_int' _ _ | with_reducible exact int_int _ | with_reducible exact neg_int' _ | with_reducible exact tuple_strs _ | with_reducible exact tuple_lst _ | with_reducible exact list_lst _ | with_reducible exact items_lst _ | with_reducible exact items_tup _ | with_reducible exact items_txt _ | with_reducible apply ev_items | with_reducible apply ev_rng | with_reducible apply ev_sl | with_reducible exact len_txt _ | with_reducible exact len_tup _ | with_reducible exact len_lst _ | with_reducible exact eq_int' _ _ | with_reducible exact ne_int' _ _ | with_reducible exact lt_int' _ _ | with_reducible exact gt_int' _ _ | with_reducible exact le_int' _ _ | with_reducible exact ge_int' _ _))
  · rw [decide_eq_false c] at lt
    refine ⟨5 * (k : Int) + 3, ?_⟩
    have mu : mulD (.int 5) (.int k) = some (.int (5 * k)) := mul_int'' (a := 10) (b := 10) (by decide) (by omega) (by decide)
    show outL (g_l_cell [some (scrD ns), some (.int k)] none) = _
    refine outL_of (m := none) ?_
    unfold g_l_cell
    apply sq
    · apply iff
      · (repeat' (first | with_reducible exact hl | with_reducible exact lt | with_reducible exact ev_C | ((with_reducible apply ev_V); exact rfl) | with_reducible exact ev_nil | with_reducible apply ev_cons | with_reducible apply ev_op | with_reducible apply ev_un | with_reducible apply ev_call | (with_reducible apply ev_tup) | (with_reducible apply ev_lst) | exact Nat.le_of_ble_eq_true rfl | with_reducible apply ev_sset | ((with_reducible apply set_eq); first | (simp only [List.set_cons_succ, List.set_cons_zero]; done) | (simp only [List.set_cons_succ, List.set_cons_zero]; exact rfl) | exact rfl) | with_reducible exact ev_noPart | with_reducible apply ev_ret | with_reducible apply ev_T | with_reducible apply ev_not | with_reducible apply ev_notV | with_reducible apply ev_isN | with_reducible apply ev_notN | with_reducible apply ev_part | with_reducible apply ev_ioGet | with_reducible apply ev_putIo | with_reducible exact add_int _ _ | with_reducible exact sub_int' _ _ | with_reducible exact int_int _ | with_reducible exact neg_int' _ | with_reducible exact tuple_strs _ | with_reducible exact tuple_lst _ | with_reducible exact list_lst _ | with_reducible exact items_lst _ | with_reducible exact items_tup _ | with_reducible exact items_txt _ | with_reducible apply ev_items | with_reducible apply ev_rng | with_reducible apply ev_sl | with_reducible exact len_txt _ | with_reducible exact len_tup _ | with_reducible exact len_lst _ | with_reducible exact eq_int' _ _ | with_reducible exact ne_int' _ _ | with_reducible exact lt_int' _ _ | with_reducible exact gt_int' _ _ | with_reducible exact le_int' _ _ | with_reducible exact ge_int' _ _))
      · exact rfl
    · (repeat' (first | with_reducible exact mu | with_reducible exact ev_C | ((with_reducible apply ev_V); exact rfl) | with_reducible exact ev_nil | with_reducible apply ev_cons | with_reducible apply ev_op | with_reducible apply ev_un | with_reducible apply ev_call | (with_reducible apply ev_tup) | (with_reducible apply ev_lst) | exact Nat.le_of_ble_eq_true rfl | with_reducible apply ev_sset | ((with_reducible apply set_eq); first | (simp only [List.set_cons_succ, List.set_cons_zero]; done) | (simp only [List.set_cons_succ, List.set_cons_zero]; exact rfl) | exact rfl) | with_reducible exact ev_noPart | with_reducible apply ev_ret | with_reducible apply ev_T | with_reducible apply ev_not | with_reducible apply ev_notV | with_reducible apply ev_isN | with_reducible apply ev_notN | with_reducible apply ev_part | with_reducible apply ev_ioGet | with_reducible apply ev_putIo | with_reducible exact add_int _ _ | with_reducible exact sub_int' _ _ | with_reducible exact int_int _ | with_reducible exact neg_int' _ | with_reducible exact tuple_strs _ | with_reducible exact tuple_lst _ | with_reducible exact list_lst _ | with_reducible exact items_lst _ | with_reducible exact items_tup _ | with_reducible exact items_txt _ | with_reducible apply ev_items | with_reducible apply ev_rng | with_reducible apply ev_sl | with_reducible exact len_txt _ | with_reducible exact len_tup _ | with_reducible exact len_lst _ | with_reducible exact eq_int' _ _ | with_reducible exact ne_int' _ _ | with_reducible exact lt_int' _ _ | with_reducible exact gt_int' _ _ | with_reducible exact le_int' _ _ | with_reducible exact ge_int' _ _))
theorem draws_ok (c : Int) : ∃ ds, Good ds ∧ M_l_draws [.int c, .int 60] = some (.list (ds.map .int)) := by
  let seed : Int := if c < 0 then -c else c
  have hs0 : 0 ≤ seed := by
    show 0 ≤ (if c < 0 then -c else c)
    split <;> omega
  let dg : Bool := decide ((10 : Int) ^ 18 ≤ seed)
  obtain ⟨ρ', m', h1, ⟨rest, ds, r6, r7, rfl, rfl, hl, hr, hd, hb⟩⟩ := for_up (b := bName 6) (s := (fIfS (fAnd (fT (fV 3)) (fT (fOp gtD (fV 2) (fC (.int 0)))))
    (fSeq (fAppend 5 (fOp modD (fCall DL.intD (fCons (fV 2) fNil)) (fC (.int 5040))))
    (fSet 2 (fOp fdivD (fV 2) (fC (.int 5040)))))
    (fSeq (fSet 7 (fOp modD (fCall DL.intD (fCons (fOp addD (fOp addD (fOp mulD (fV 4) (fC (.int 48271))) (fOp mulD (fOp addD (fV 6) (fC (.int 1))) (fC (.int 69621)))) (fC (.int 11))) fNil)) (fC (.int 2147483647))))
    (fSeq (fSet 7 (fOp modD (fCall DL.intD (fCons (fOp addD (fOp mulD (fV 7) (fV 7)) (fOp mulD (fC (.int 40692)) (fOp addD (fV 6) (fC (.int 3))))) fNil)) (fC (.int 2147483399))))
    (fAppend 5 (fOp modD (fCall DL.intD (fCons (fOp fdivD (fV 7) (fC (.int 64))) fNil)) (fC (.int 5040)))))))) 60 (fun k => PyData.int (k : Nat))
    (fun i ρ m => ∃ (rest : Int) (ds : List Int) (r6 r7 : Option PyData), ρ = [some (.int c), some (.int 60), some (.int rest), some (.bool dg), some (.int seed), some (.list (ds.map .int)), r6, r7] ∧ m = none ∧ ds.length = i ∧ 0 ≤ rest ∧ (∀ d ∈ ds, 0 ≤ d ∧ d < 5040) ∧ (dg = true → seed < 5040 ^ i * (rest + 1)))
    (ρ := [some (.int c), some (.int 60), some (.int seed), some (.bool dg), some (.int seed), some (.list []), none, none]) (m := none) ⟨seed, [], none, none, rfl, rfl, rfl, hs0, (fun d z => by cases z), fun _ => by omega⟩ (by
      rintro i ρ m hi ⟨rest, ds, r6, r7, rfl, rfl, hl, hr, hd, hb⟩
      have gt := gt_int' rest 0
      have m1 : modD (.int rest) (.int 5040) = some (.int (rest % 5040)) := mod_int'' (by decide)
      have f1 : fdivD (.int rest) (.int 5040) = some (.int (rest / 5040)) := fdiv_int (by decide) (by decide)
      have app : ∀ d : Int, (ds.map PyData.int) ++ [PyData.int d] = (ds ++ [d]).map .int := fun d => by rw [List.map_append]; rfl
      have szl : (ds.map PyData.int).length < 16777216 := by rw [List.length_map]; omega
      by_cases cc : dg = true ∧ 0 < rest
      · obtain ⟨c1, c2⟩ := cc
        rw [decide_eq_true c2] at gt
        refine ⟨_, [some (.int c), some (.int 60), some (.int (rest / 5040)), some (.bool dg), some (.int seed), some (.list ((ds ++ [rest % 5040]).map .int)), some (.int (i : Nat)), r7], none, rfl, ?_, ⟨rest / 5040, ds ++ [rest % 5040], _, _, rfl, rfl, by rw [List.length_append, hl]; rfl, by omega, ?_, fun h => ?_⟩⟩
        · rw [c1]
          apply ift
          · apply ev_and_t
            · (repeat' (first | with_reducible exact ev_C | ((with_reducible apply ev_V); exact rfl) | with_reducible exact ev_nil | with_reducible apply ev_cons | with_reducible apply ev_op | with_reducible apply ev_un | with_reducible apply ev_call | (with_reducible apply ev_tup) | (with_reducible apply ev_lst) | exact Nat.le_of_ble_eq_true rfl | with_reducible apply ev_sset | ((with_reducible apply set_eq); first | (simp only [List.set_cons_succ, List.set_cons_zero]; done) | (simp only [List.set_cons_succ, List.set_cons_zero]; exact rfl) | exact rfl) | with_reducible exact ev_noPart | with_reducible apply ev_ret | with_reducible apply ev_T | with_reducible apply ev_not | with_reducible apply ev_notV | with_reducible apply ev_isN | with_reducible apply ev_notN | with_reducible apply ev_part | with_reducible apply ev_ioGet | with_reducible apply ev_putIo | with_reducible exact add_int _ _ | with_reducible exact sub_int' _ _ | with_reducible exact int_int _ | with_reducible exact neg_int' _ | with_reducible exact tuple_strs _ | with_reducible exact tuple_lst _ | with_reducible exact list_lst _ | with_reducible exact items_lst _ | with_reducible exact items_tup _ | with_reducible exact items_txt _ | with_reducible apply ev_items | with_reducible apply ev_rng | with_reducible apply ev_sl | with_reducible exact len_txt _ | with_reducible exact len_tup _ | with_reducible exact len_lst _ | with_reducible exact eq_int' _ _ | with_reducible exact ne_int' _ _ | with_reducible exact lt_int' _ _ | with_reducible exact gt_int' _ _ | with_reducible exact le_int' _ _ | with_reducible exact ge_int' _ _))
            · (repeat' (first | with_reducible exact gt | with_reducible exact ev_C | ((with_reducible apply ev_V); exact rfl) | with_reducible exact ev_nil | with_reducible apply ev_cons | with_reducible apply ev_op | with_reducible apply ev_un | with_reducible apply ev_call | (with_reducible apply ev_tup) | (with_reducible apply ev_lst) | exact Nat.le_of_ble_eq_true rfl | with_reducible apply ev_sset | ((with_reducible apply set_eq); first | (simp only [List.set_cons_succ, List.set_cons_zero]; done) | (simp only [List.set_cons_succ, List.set_cons_zero]; exact rfl) | exact rfl) | with_reducible exact ev_noPart | with_reducible apply ev_ret | with_reducible apply ev_T | with_reducible apply ev_not | with_reducible apply ev_notV | with_reducible apply ev_isN | with_reducible apply ev_notN | with_reducible apply ev_part | with_reducible apply ev_ioGet | with_reducible apply ev_putIo | with_reducible exact add_int _ _ | with_reducible exact sub_int' _ _ | with_reducible exact int_int _ | with_reducible exact neg_int' _ | with_reducible exact tuple_strs _ | with_reducible exact tuple_lst _ | with_reducible exact list_lst _ | with_reducible exact items_lst _ | with_reducible exact items_tup _ | with_reducible exact items_txt _ | with_reducible apply ev_items | with_reducible apply ev_rng | with_reducible apply ev_sl | with_reducible exact len_txt _ | with_reducible exact len_tup _ | with_reducible exact len_lst _ | with_reducible exact eq_int' _ _ | with_reducible exact ne_int' _ _ | with_reducible exact lt_int' _ _ | with_reducible exact gt_int' _ _ | with_reducible exact le_int' _ _ | with_reducible exact ge_int' _ _))
          apply sq
          · apply ev_append
            · (repeat' (first | with_reducible exact m1 | with_reducible exact ev_C | ((with_reducible apply ev_V); exact rfl) | with_reducible exact ev_nil | with_reducible apply ev_cons | with_reducible apply ev_op | with_reducible apply ev_un | with_reducible apply ev_call | (with_reducible apply ev_tup) | (with_reducible apply ev_lst) | exact Nat.le_of_ble_eq_true rfl | with_reducible apply ev_sset | ((with_reducible apply set_eq); first | (simp only [List.set_cons_succ, List.set_cons_zero]; done) | (simp only [List.set_cons_succ, List.set_cons_zero]; exact rfl) | exact rfl) | with_reducible exact ev_noPart | with_reducible apply ev_ret | with_reducible apply ev_T | with_reducible apply ev_not | with_reducible apply ev_notV | with_reducible apply ev_isN | with_reducible apply ev_notN | with_reducible apply ev_part | with_reducible apply ev_ioGet | with_reducible apply ev_putIo | with_reducible exact add_int _ _ | with_reducible exact sub_int' _ _ | with_reducible exact int_int _ | with_reducible exact neg_int' _ | with_reducible exact tuple_strs _ | with_reducible exact tuple_lst _ | with_reducible exact list_lst _ | with_reducible exact items_lst _ | with_reducible exact items_tup _ | with_reducible exact items_txt _ | with_reducible apply ev_items | with_reducible apply ev_rng | with_reducible apply ev_sl | with_reducible exact len_txt _ | with_reducible exact len_tup _ | with_reducible exact len_lst _ | with_reducible exact eq_int' _ _ | with_reducible exact ne_int' _ _ | with_reducible exact lt_int' _ _ | with_reducible exact gt_int' _ _ | with_reducible exact le_int' _ _ | with_reducible exact ge_int' _ _))
            · exact rfl
            · exact szl
          · rw [app]
            (repeat' (first | with_reducible exact f1 | with_reducible exact ev_C | ((with_reducible apply ev_V); exact rfl) | with_reducible exact ev_nil | with_reducible apply ev_cons | with_reducible apply ev_op | with_reducible apply ev_un | with_reducible apply ev_call | (with_reducible apply ev_tup) | (with_reducible apply ev_lst) | exact Nat.le_of_ble_eq_true rfl | with_reducible apply ev_sset | ((with_reducible apply set_eq); first | (simp only [List.set_cons_succ, List.set_cons_zero]; done) | (simp only [List.set_cons_succ, List.set_cons_zero]; exact rfl) | exact rfl) | with_reducible exact ev_noPart | with_reducible apply ev_ret | with_reducible apply ev_T | with_reducible apply ev_not | with_reducible apply ev_notV | with_reducible apply ev_isN | with_reducible apply ev_notN | with_reducible apply ev_part | with_reducible apply ev_ioGet | with_reducible apply ev_putIo | with_reducible exact add_int _ _ | with_reducible exact sub_int' _ _ | with_reducible exact int_int _ | with_reducible exact neg_int' _ | with_reducible exact tuple_strs _ | with_reducible exact tuple_lst _ | with_reducible exact list_lst _ | with_reducible exact items_lst _ | with_reducible exact items_tup _ | with_reducible exact items_txt _ | with_reducible apply ev_items | with_reducible apply ev_rng | with_reducible apply ev_sl | with_reducible exact len_txt _ | with_reducible exact len_tup _ | with_reducible exact len_lst _ | with_reducible exact eq_int' _ _ | with_reducible exact ne_int' _ _ | with_reducible exact lt_int' _ _ | with_reducible exact gt_int' _ _ | with_reducible exact le_int' _ _ | with_reducible exact ge_int' _ _))
        · intro d hd'
          rcases List.mem_append.mp hd' with h | h
          · exact hd d h
          · rw [List.mem_singleton.mp h]; omega
        · have h1 := hb h
          have h2 : rest + 1 ≤ 5040 * (rest / 5040 + 1) := by omega
          have h3 : (0 : Int) ≤ 5040 ^ i := Int.pow_nonneg (by decide)
          have h4 := Int.mul_le_mul_of_nonneg_left h2 h3
          have h5 : (5040 : Int) ^ (i + 1) * (rest / 5040 + 1) = 5040 ^ i * (5040 * (rest / 5040 + 1)) := by rw [Int.pow_succ, Int.mul_assoc]
          omega
      · have hsb : seed.natAbs < 2 ^ (800 + 1) := by
          have e1 : (5040 : Int) ^ 60 < 2 ^ 800 := by decide
          have e2 : (10 : Int) ^ 18 < 2 ^ 800 := by decide
          have e4 : seed < 2 ^ 800 := by
            by_cases hdg : dg = true
            · have c2 : rest = 0 := by
                have : ¬ 0 < rest := fun z => cc ⟨hdg, z⟩
                omega
              have h1 := hb hdg
              rw [c2] at h1
              have h3 : (5040 : Int) ^ i ≤ 5040 ^ 60 := by
                have hN : (5040 : Nat) ^ i ≤ 5040 ^ 60 := Nat.pow_le_pow_right (by decide) (by omega)
                have := Int.ofNat_le.mpr hN
                rw [Int.natCast_pow, Int.natCast_pow] at this
                exact this
              omega
            · have : ¬ (10 : Int) ^ 18 ≤ seed := fun z => hdg (decide_eq_true z)
              omega
          have e5 : (2 : Int) ^ 801 = 2 * 2 ^ 800 := by decide
          have e6 : ((2 ^ (800 + 1) : Nat) : Int) = 2 ^ 801 := by decide
          omega
        have u1 : mulD (.int seed) (.int 48271) = some (.int (seed * 48271)) := mul_int'' (a := 800) (b := 20) hsb (by decide) (by decide)
        have u2 : mulD (.int ((i : Int) + 1)) (.int 69621) = some (.int (((i : Int) + 1) * 69621)) := mul_int'' (a := 20) (b := 20) (by omega) (by decide) (by decide)
        have v1 : modD (.int (seed * 48271 + ((i : Int) + 1) * 69621 + 11)) (.int 2147483647) = some (.int ((seed * 48271 + ((i : Int) + 1) * 69621 + 11) % 2147483647)) := mod_int'' (by decide)
        generalize hx : (seed * 48271 + ((i : Int) + 1) * 69621 + 11) % 2147483647 = x at v1
        have hx1 : 0 ≤ x ∧ x < 2147483647 := by omega
        have u3 : mulD (.int x) (.int x) = some (.int (x * x)) := mul_int'' (a := 40) (b := 40) (by omega) (by omega) (by decide)
        have u4 : mulD (.int 40692) (.int ((i : Int) + 3)) = some (.int (40692 * ((i : Int) + 3))) := mul_int'' (a := 20) (b := 20) (by decide) (by omega) (by decide)
        have v2 : modD (.int (x * x + 40692 * ((i : Int) + 3))) (.int 2147483399) = some (.int ((x * x + 40692 * ((i : Int) + 3)) % 2147483399)) := mod_int'' (by decide)
        generalize hy : (x * x + 40692 * ((i : Int) + 3)) % 2147483399 = y at v2
        have f2 : fdivD (.int y) (.int 64) = some (.int (y / 64)) := fdiv_int (by decide) (by decide)
        have v3 : modD (.int (y / 64)) (.int 5040) = some (.int (y / 64 % 5040)) := mod_int'' (by decide)
        refine ⟨_, [some (.int c), some (.int 60), some (.int rest), some (.bool dg), some (.int seed), some (.list ((ds ++ [y / 64 % 5040]).map .int)), some (.int (i : Nat)), some (.int y)], none, rfl, ?_, ⟨rest, ds ++ [y / 64 % 5040], _, _, rfl, rfl, by rw [List.length_append, hl]; rfl, hr, ?_, fun h => ?_⟩⟩
        · apply iff
          · by_cases c1 : dg = true
            · have c2 : ¬ 0 < rest := fun z => cc ⟨c1, z⟩
              rw [decide_eq_false c2] at gt
              rw [c1]
              apply ev_and_t
              · (repeat' (first | with_reducible exact ev_C | ((with_reducible apply ev_V); exact rfl) | with_reducible exact ev_nil | with_reducible apply ev_cons | with_reducible apply ev_op | with_reducible apply ev_un | with_reducible apply ev_call | (with_reducible apply ev_tup) | (with_reducible apply ev_lst) | exact Nat.le_of_ble_eq_true rfl | with_reducible apply ev_sset | ((with_reducible apply set_eq); first | (simp only [List.set_cons_succ, List.set_cons_zero]; done) | (simp only [List.set_cons_succ, List.set_cons_zero]; exact rfl) | exact rfl) | with_reducible exact ev_noPart | with_reducible apply ev_ret | with_reducible apply ev_T | with_reducible apply ev_not | with_reducible apply ev_notV | with_reducible apply ev_isN | with_reducible apply ev_notN | with_reducible apply ev_part | with_reducible apply ev_ioGet | with_reducible apply ev_putIo | with_reducible exact add_int _ _ | with_reducible exact sub_int' _ _ | with_reducible exact int_int _ | with_reducible exact neg_int' _ | with_reducible exact tuple_strs _ | with_reducible exact tuple_lst _ | with_reducible exact list_lst _ | with_reducible exact items_lst _ | with_reducible exact items_tup _ | with_reducible exact items_txt _ | with_reducible apply ev_items | with_reducible apply ev_rng | with_reducible apply ev_sl | with_reducible exact len_txt _ | with_reducible exact len_tup _ | with_reducible exact len_lst _ | with_reducible exact eq_int' _ _ | with_reducible exact ne_int' _ _ | with_reducible exact lt_int' _ _ | with_reducible exact gt_int' _ _ | with_reducible exact le_int' _ _ | with_reducible exact ge_int' _ _))
              · (repeat' (first | with_reducible exact gt | with_reducible exact ev_C | ((with_reducible apply ev_V); exact rfl) | with_reducible exact ev_nil | with_reducible apply ev_cons | with_reducible apply ev_op | with_reducible apply ev_un | with_reducible apply ev_call | (with_reducible apply ev_tup) | (with_reducible apply ev_lst) | exact Nat.le_of_ble_eq_true rfl | with_reducible apply ev_sset | ((with_reducible apply set_eq); first | (simp only [List.set_cons_succ, List.set_cons_zero]; done) | (simp only [List.set_cons_succ, List.set_cons_zero]; exact rfl) | exact rfl) | with_reducible exact ev_noPart | with_reducible apply ev_ret | with_reducible apply ev_T | with_reducible apply ev_not | with_reducible apply ev_notV | with_reducible apply ev_isN | with_reducible apply ev_notN | with_reducible apply ev_part | with_reducible apply ev_ioGet | with_reducible apply ev_putIo | with_reducible exact add_int _ _ | with_reducible exact sub_int' _ _ | with_reducible exact int_int _ | with_reducible exact neg_int' _ | with_reducible exact tuple_strs _ | with_reducible exact tuple_lst _ | with_reducible exact list_lst _ | with_reducible exact items_lst _ | with_reducible exact items_tup _ | with_reducible exact items_txt _ | with_reducible apply ev_items | with_reducible apply ev_rng | with_reducible apply ev_sl | with_reducible exact len_txt _ | with_reducible exact len_tup _ | with_reducible exact len_lst _ | with_reducible exact eq_int' _ _ | with_reducible exact ne_int' _ _ | with_reducible exact lt_int' _ _ | with_reducible exact gt_int' _ _ | with_reducible exact le_int' _ _ | with_reducible exact ge_int' _ _))
            · have c1 : dg = false := by cases h : dg; rfl; exact absurd h c1
              rw [c1]
              apply ev_and_f
              (repeat' (first | with_reducible exact ev_C | ((with_reducible apply ev_V); exact rfl) | with_reducible exact ev_nil | with_reducible apply ev_cons | with_reducible apply ev_op | with_reducible apply ev_un | with_reducible apply ev_call | (with_reducible apply ev_tup) | (with_reducible apply ev_lst) | exact Nat.le_of_ble_eq_true rfl | with_reducible apply ev_sset | ((with_reducible apply set_eq); first | (simp only [List.set_cons_succ, List.set_cons_zero]; done) | (simp only [List.set_cons_succ, List.set_cons_zero]; exact rfl) | exact rfl) | with_reducible exact ev_noPart | with_reducible apply ev_ret | with_reducible apply ev_T | with_reducible apply ev_not | with_reducible apply ev_notV | with_reducible apply ev_isN | with_reducible apply ev_notN | with_reducible apply ev_part | with_reducible apply ev_ioGet | with_reducible apply ev_putIo | with_reducible exact add_int _ _ | with_reducible exact sub_int' _ _ | with_reducible exact int_int _ | with_reducible exact neg_int' _ | with_reducible exact tuple_strs _ | with_reducible exact tuple_lst _ | with_reducible exact list_lst _ | with_reducible exact items_lst _ | with_reducible exact items_tup _ | with_reducible exact items_txt _ | with_reducible apply ev_items | with_reducible apply ev_rng | with_reducible apply ev_sl | with_reducible exact len_txt _ | with_reducible exact len_tup _ | with_reducible exact len_lst _ | with_reducible exact eq_int' _ _ | with_reducible exact ne_int' _ _ | with_reducible exact lt_int' _ _ | with_reducible exact gt_int' _ _ | with_reducible exact le_int' _ _ | with_reducible exact ge_int' _ _))
          apply sq
          · (repeat' (first | with_reducible exact u1 | with_reducible exact u2 | with_reducible exact v1 | with_reducible exact ev_C | ((with_reducible apply ev_V); exact rfl) | with_reducible exact ev_nil | with_reducible apply ev_cons | with_reducible apply ev_op | with_reducible apply ev_un | with_reducible apply ev_call | (with_reducible apply ev_tup) | (with_reducible apply ev_lst) | exact Nat.le_of_ble_eq_true rfl | with_reducible apply ev_sset | ((with_reducible apply set_eq); first | (simp only [List.set_cons_succ, List.set_cons_zero]; done) | (simp only [List.set_cons_succ, List.set_cons_zero]; exact rfl) | exact rfl) | with_reducible exact ev_noPart | with_reducible apply ev_ret | with_reducible apply ev_T | with_reducible apply ev_not | with_reducible apply ev_notV | with_reducible apply ev_isN | with_reducible apply ev_notN | with_reducible apply ev_part | with_reducible apply ev_ioGet | with_reducible apply ev_putIo | with_reducible exact add_int _ _ | with_reducible exact sub_int' _ _ | with_reducible exact int_int _ | with_reducible exact neg_int' _ | with_reducible exact tuple_strs _ | with_reducible exact tuple_lst _ | with_reducible exact list_lst _ | with_reducible exact items_lst _ | with_reducible exact items_tup _ | with_reducible exact items_txt _ | with_reducible apply ev_items | with_reducible apply ev_rng | with_reducible apply ev_sl | with_reducible exact len_txt _ | with_reducible exact len_tup _ | with_reducible exact len_lst _ | with_reducible exact eq_int' _ _ | with_reducible exact ne_int' _ _ | with_reducible exact lt_int' _ _ | with_reducible exact gt_int' _ _ | with_reducible exact le_int' _ _ | with_reducible exact ge_int' _ _))
          apply sq
          · (repeat' (first | with_reducible exact u3 | with_reducible exact u4 | with_reducible exact v2 | with_reducible exact ev_C | ((with_reducible apply ev_V); exact rfl) | with_reducible exact ev_nil | with_reducible apply ev_cons | with_reducible apply ev_op | with_reducible apply ev_un | with_reducible apply ev_call | (with_reducible apply ev_tup) | (with_reducible apply ev_lst) | exact Nat.le_of_ble_eq_true rfl | with_reducible apply ev_sset | ((with_reducible apply set_eq); first | (simp only [List.set_cons_succ, List.set_cons_zero]; done) | (simp only [List.set_cons_succ, List.set_cons_zero]; exact rfl) | exact rfl) | with_reducible exact ev_noPart | with_reducible apply ev_ret | with_reducible apply ev_T | with_reducible apply ev_not | with_reducible apply ev_notV | with_reducible apply ev_isN | with_reducible apply ev_notN | with_reducible apply ev_part | with_reducible apply ev_ioGet | with_reducible apply ev_putIo | with_reducible exact add_int _ _ | with_reducible exact sub_int' _ _ | with_reducible exact int_int _ | with_reducible exact neg_int' _ | with_reducible exact tuple_strs _ | with_reducible exact tuple_lst _ | with_reducible exact list_lst _ | with_reducible exact items_lst _ | with_reducible exact items_tup _ | with_reducible exact items_txt _ | with_reducible apply ev_items | with_reducible apply ev_rng | with_reducible apply ev_sl | with_reducible exact len_txt _ | with_reducible exact len_tup _ | with_reducible exact len_lst _ | with_reducible exact eq_int' _ _ | with_reducible exact ne_int' _ _ | with_reducible exact lt_int' _ _ | with_reducible exact gt_int' _ _ | with_reducible exact le_int' _ _ | with_reducible exact ge_int' _ _))
          · refine (ev_append (x := .int (y / 64 % 5040)) (xs := ds.map .int) (m1 := none) ?_ rfl szl).trans ?_
            · (repeat' (first | with_reducible exact f2 | with_reducible exact v3 | with_reducible exact ev_C | ((with_reducible apply ev_V); exact rfl) | with_reducible exact ev_nil | with_reducible apply ev_cons | with_reducible apply ev_op | with_reducible apply ev_un | with_reducible apply ev_call | (with_reducible apply ev_tup) | (with_reducible apply ev_lst) | exact Nat.le_of_ble_eq_true rfl | with_reducible apply ev_sset | ((with_reducible apply set_eq); first | (simp only [List.set_cons_succ, List.set_cons_zero]; done) | (simp only [List.set_cons_succ, List.set_cons_zero]; exact rfl) | exact rfl) | with_reducible exact ev_noPart | with_reducible apply ev_ret | with_reducible apply ev_T | with_reducible apply ev_not | with_reducible apply ev_notV | with_reducible apply ev_isN | with_reducible apply ev_notN | with_reducible apply ev_part | with_reducible apply ev_ioGet | with_reducible apply ev_putIo | with_reducible exact add_int _ _ | with_reducible exact sub_int' _ _ | with_reducible exact int_int _ | with_reducible exact neg_int' _ | with_reducible exact tuple_strs _ | with_reducible exact tuple_lst _ | with_reducible exact list_lst _ | with_reducible exact items_lst _ | with_reducible exact items_tup _ | with_reducible exact items_txt _ | with_reducible apply ev_items | with_reducible apply ev_rng | with_reducible apply ev_sl | with_reducible exact len_txt _ | with_reducible exact len_tup _ | with_reducible exact len_lst _ | with_reducible exact eq_int' _ _ | with_reducible exact ne_int' _ _ | with_reducible exact lt_int' _ _ | with_reducible exact gt_int' _ _ | with_reducible exact le_int' _ _ | with_reducible exact ge_int' _ _))
            · rw [app]
              rfl
        · intro d hd'
          rcases List.mem_append.mp hd' with h | h
          · exact hd d h
          · rw [List.mem_singleton.mp h]; omega
        · have h1 := hb h
          have h3 : (0 : Int) ≤ 5040 ^ i := Int.pow_nonneg (by decide)
          have h4 : (5040 : Int) ^ i * (rest + 1) ≤ 5040 ^ i * (5040 * (rest + 1)) := Int.mul_le_mul_of_nonneg_left (by omega) h3
          have h5 : (5040 : Int) ^ (i + 1) * (rest + 1) = 5040 ^ i * (5040 * (rest + 1)) := by rw [Int.pow_succ, Int.mul_assoc]
          omega)
  have pw : powD (.int 10) (.int 18) = some (.int (10 ^ 18)) := rfl
  have ab : absD [.int c] = some (.int seed) := rfl
  have ge := ge_int' seed (10 ^ 18)
  have r1 : range1D [.int 60] = some ((List.range 60).map fun k => PyData.int (k : Nat)) := range1_nat (n := 60) (by decide)
  refine ⟨ds, ⟨hl, hd⟩, ?_⟩
  show outL (g_l_draws [some (.int c), some (.int 60), none, none, none, none, none, none] none) = _
  refine outL_of (m := none) ?_
  unfold g_l_draws
  apply sq
  · (repeat' (first | with_reducible exact ab | with_reducible exact ev_C | ((with_reducible apply ev_V); exact rfl) | with_reducible exact ev_nil | with_reducible apply ev_cons | with_reducible apply ev_op | with_reducible apply ev_un | with_reducible apply ev_call | (with_reducible apply ev_tup) | (with_reducible apply ev_lst) | exact Nat.le_of_ble_eq_true rfl | with_reducible apply ev_sset | ((with_reducible apply set_eq); first | (simp only [List.set_cons_succ, List.set_cons_zero]; done) | (simp only [List.set_cons_succ, List.set_cons_zero]; exact rfl) | exact rfl) | with_reducible exact ev_noPart | with_reducible apply ev_ret | with_reducible apply ev_T | with_reducible apply ev_not | with_reducible apply ev_notV | with_reducible apply ev_isN | with_reducible apply ev_notN | with_reducible apply ev_part | with_reducible apply ev_ioGet | with_reducible apply ev_putIo | with_reducible exact add_int _ _ | with_reducible exact sub_int' _ _ | with_reducible exact int_int _ | with_reducible exact neg_int' _ | with_reducible exact tuple_strs _ | with_reducible exact tuple_lst _ | with_reducible exact list_lst _ | with_reducible exact items_lst _ | with_reducible exact items_tup _ | with_reducible exact items_txt _ | with_reducible apply ev_items | with_reducible apply ev_rng | with_reducible apply ev_sl | with_reducible exact len_txt _ | with_reducible exact len_tup _ | with_reducible exact len_lst _ | with_reducible exact eq_int' _ _ | with_reducible exact ne_int' _ _ | with_reducible exact lt_int' _ _ | with_reducible exact gt_int' _ _ | with_reducible exact le_int' _ _ | with_reducible exact ge_int' _ _))
  apply sq
  · (repeat' (first | with_reducible exact pw | with_reducible exact ge | with_reducible exact ev_C | ((with_reducible apply ev_V); exact rfl) | with_reducible exact ev_nil | with_reducible apply ev_cons | with_reducible apply ev_op | with_reducible apply ev_un | with_reducible apply ev_call | (with_reducible apply ev_tup) | (with_reducible apply ev_lst) | exact Nat.le_of_ble_eq_true rfl | with_reducible apply ev_sset | ((with_reducible apply set_eq); first | (simp only [List.set_cons_succ, List.set_cons_zero]; done) | (simp only [List.set_cons_succ, List.set_cons_zero]; exact rfl) | exact rfl) | with_reducible exact ev_noPart | with_reducible apply ev_ret | with_reducible apply ev_T | with_reducible apply ev_not | with_reducible apply ev_notV | with_reducible apply ev_isN | with_reducible apply ev_notN | with_reducible apply ev_part | with_reducible apply ev_ioGet | with_reducible apply ev_putIo | with_reducible exact add_int _ _ | with_reducible exact sub_int' _ _ | with_reducible exact int_int _ | with_reducible exact neg_int' _ | with_reducible exact tuple_strs _ | with_reducible exact tuple_lst _ | with_reducible exact list_lst _ | with_reducible exact items_lst _ | with_reducible exact items_tup _ | with_reducible exact items_txt _ | with_reducible apply ev_items | with_reducible apply ev_rng | with_reducible apply ev_sl | with_reducible exact len_txt _ | with_reducible exact len_tup _ | with_reducible exact len_lst _ | with_reducible exact eq_int' _ _ | with_reducible exact ne_int' _ _ | with_reducible exact lt_int' _ _ | with_reducible exact gt_int' _ _ | with_reducible exact le_int' _ _ | with_reducible exact ge_int' _ _))
  apply sq
  · (repeat' (first | with_reducible exact ev_C | ((with_reducible apply ev_V); exact rfl) | with_reducible exact ev_nil | with_reducible apply ev_cons | with_reducible apply ev_op | with_reducible apply ev_un | with_reducible apply ev_call | (with_reducible apply ev_tup) | (with_reducible apply ev_lst) | exact Nat.le_of_ble_eq_true rfl | with_reducible apply ev_sset | ((with_reducible apply set_eq); first | (simp only [List.set_cons_succ, List.set_cons_zero]; done) | (simp only [List.set_cons_succ, List.set_cons_zero]; exact rfl) | exact rfl) | with_reducible exact ev_noPart | with_reducible apply ev_ret | with_reducible apply ev_T | with_reducible apply ev_not | with_reducible apply ev_notV | with_reducible apply ev_isN | with_reducible apply ev_notN | with_reducible apply ev_part | with_reducible apply ev_ioGet | with_reducible apply ev_putIo | with_reducible exact add_int _ _ | with_reducible exact sub_int' _ _ | with_reducible exact int_int _ | with_reducible exact neg_int' _ | with_reducible exact tuple_strs _ | with_reducible exact tuple_lst _ | with_reducible exact list_lst _ | with_reducible exact items_lst _ | with_reducible exact items_tup _ | with_reducible exact items_txt _ | with_reducible apply ev_items | with_reducible apply ev_rng | with_reducible apply ev_sl | with_reducible exact len_txt _ | with_reducible exact len_tup _ | with_reducible exact len_lst _ | with_reducible exact eq_int' _ _ | with_reducible exact ne_int' _ _ | with_reducible exact lt_int' _ _ | with_reducible exact gt_int' _ _ | with_reducible exact le_int' _ _ | with_reducible exact ge_int' _ _))
  apply sq
  · (repeat' (first | with_reducible exact ev_C | ((with_reducible apply ev_V); exact rfl) | with_reducible exact ev_nil | with_reducible apply ev_cons | with_reducible apply ev_op | with_reducible apply ev_un | with_reducible apply ev_call | (with_reducible apply ev_tup) | (with_reducible apply ev_lst) | exact Nat.le_of_ble_eq_true rfl | with_reducible apply ev_sset | ((with_reducible apply set_eq); first | (simp only [List.set_cons_succ, List.set_cons_zero]; done) | (simp only [List.set_cons_succ, List.set_cons_zero]; exact rfl) | exact rfl) | with_reducible exact ev_noPart | with_reducible apply ev_ret | with_reducible apply ev_T | with_reducible apply ev_not | with_reducible apply ev_notV | with_reducible apply ev_isN | with_reducible apply ev_notN | with_reducible apply ev_part | with_reducible apply ev_ioGet | with_reducible apply ev_putIo | with_reducible exact add_int _ _ | with_reducible exact sub_int' _ _ | with_reducible exact int_int _ | with_reducible exact neg_int' _ | with_reducible exact tuple_strs _ | with_reducible exact tuple_lst _ | with_reducible exact list_lst _ | with_reducible exact items_lst _ | with_reducible exact items_tup _ | with_reducible exact items_txt _ | with_reducible apply ev_items | with_reducible apply ev_rng | with_reducible apply ev_sl | with_reducible exact len_txt _ | with_reducible exact len_tup _ | with_reducible exact len_lst _ | with_reducible exact eq_int' _ _ | with_reducible exact ne_int' _ _ | with_reducible exact lt_int' _ _ | with_reducible exact gt_int' _ _ | with_reducible exact le_int' _ _ | with_reducible exact ge_int' _ _))
  apply sq
  · apply fo
    · (repeat' (first | with_reducible exact r1 | with_reducible exact ev_C | ((with_reducible apply ev_V); exact rfl) | with_reducible exact ev_nil | with_reducible apply ev_cons | with_reducible apply ev_op | with_reducible apply ev_un | with_reducible apply ev_call | (with_reducible apply ev_tup) | (with_reducible apply ev_lst) | exact Nat.le_of_ble_eq_true rfl | with_reducible apply ev_sset | ((with_reducible apply set_eq); first | (simp only [List.set_cons_succ, List.set_cons_zero]; done) | (simp only [List.set_cons_succ, List.set_cons_zero]; exact rfl) | exact rfl) | with_reducible exact ev_noPart | with_reducible apply ev_ret | with_reducible apply ev_T | with_reducible apply ev_not | with_reducible apply ev_notV | with_reducible apply ev_isN | with_reducible apply ev_notN | with_reducible apply ev_part | with_reducible apply ev_ioGet | with_reducible apply ev_putIo | with_reducible exact add_int _ _ | with_reducible exact sub_int' _ _ | with_reducible exact int_int _ | with_reducible exact neg_int' _ | with_reducible exact tuple_strs _ | with_reducible exact tuple_lst _ | with_reducible exact list_lst _ | with_reducible exact items_lst _ | with_reducible exact items_tup _ | with_reducible exact items_txt _ | with_reducible apply ev_items | with_reducible apply ev_rng | with_reducible apply ev_sl | with_reducible exact len_txt _ | with_reducible exact len_tup _ | with_reducible exact len_lst _ | with_reducible exact eq_int' _ _ | with_reducible exact ne_int' _ _ | with_reducible exact lt_int' _ _ | with_reducible exact gt_int' _ _ | with_reducible exact le_int' _ _ | with_reducible exact ge_int' _ _))
    · exact h1
  · exact ev_retO rfl
/-! ### equal data, of equal kinds -/
theorem eq_self {d : PyData} (h1 : DL.plain d = true) (h2 : SeqAt.shaped d = true) (h3 : PyData.eqv d d = true) : eqD d d = some (.bool true) := by
  unfold eqD
  simp [h1, h2, h3]
theorem ne_self {d : PyData} (h1 : DL.plain d = true) (h2 : SeqAt.shaped d = true) (h3 : PyData.eqv d d = true) : neD d d = some (.bool false) := by
  unfold neD
  simp [h1, h2, h3]
theorem is_int (k : Nat) (i : Int) : M_l_is (k + 1) [.int i, .int i] = some (.bool true) := by
  have e := eq_int' i i
  rw [beq_self_eq_true] at e
  show outL (g_l_is (M_l_is k) M_l_is_integer [some (.int i), some (.int i), none] none) = _
  refine outL_of (m := none) ?_
  unfold g_l_is
  apply sq
  · exact (ev_ifS_f (m1 := none) rfl).trans rfl
  apply sq
  · exact (ev_ifS_f (m1 := none) rfl).trans rfl
  apply ev_seq_rt
  apply ift
  · exact rfl
  · apply ev_ret
    refine (ev_andV_t (m1 := none) rfl).trans ?_
    (repeat' (first | with_reducible exact e | with_reducible exact ev_C | ((with_reducible apply ev_V); exact rfl) | with_reducible exact ev_nil | with_reducible apply ev_cons | with_reducible apply ev_op | with_reducible apply ev_un | with_reducible apply ev_call | (with_reducible apply ev_tup) | (with_reducible apply ev_lst) | exact Nat.le_of_ble_eq_true rfl | with_reducible apply ev_sset | ((with_reducible apply set_eq); first | (simp only [List.set_cons_succ, List.set_cons_zero]; done) | (simp only [List.set_cons_succ, List.set_cons_zero]; exact rfl) | exact rfl) | with_reducible exact ev_noPart | with_reducible apply ev_ret | with_reducible apply ev_T | with_reducible apply ev_not | with_reducible apply ev_notV | with_reducible apply ev_isN | with_reducible apply ev_notN | with_reducible apply ev_part | with_reducible apply ev_ioGet | with_reducible apply ev_putIo | with_reducible exact add_int _ _ | with_reducible exact sub_int' _ _ | with_reducible exact int_int _ | with_reducible exact neg_int' _ | with_reducible exact tuple_strs _ | with_reducible exact tuple_lst _ | with_reducible exact list_lst _ | with_reducible exact items_lst _ | with_reducible exact items_tup _ | with_reducible exact items_txt _ | with_reducible apply ev_items | with_reducible apply ev_rng | with_reducible apply ev_sl | with_reducible exact len_txt _ | with_reducible exact len_tup _ | with_reducible exact len_lst _ | with_reducible exact eq_int' _ _ | with_reducible exact ne_int' _ _ | with_reducible exact lt_int' _ _ | with_reducible exact gt_int' _ _ | with_reducible exact le_int' _ _ | with_reducible exact ge_int' _ _))
theorem is_str (k : Nat) {x : Str} (hx : x ∈ lines ++ (["bar", "add", "keep"] : List Str)) : M_l_is (k + 1) [.str x, .str x] = some (.bool true) := by
  have h : ∀ z ∈ lines ++ (["bar", "add", "keep"] : List Str), PyData.strOk z = true := by decide +kernel
  have e : eqD (.str x) (.str x) = some (.bool true) := eq_self rfl (by simp [SeqAt.shaped, PyData.canLay0, PyData.depth, h x hx]) (by simp [PyData.eqv])
  show outL (g_l_is (M_l_is k) M_l_is_integer [some (.str x), some (.str x), none] none) = _
  refine outL_of (m := none) ?_
  unfold g_l_is
  apply sq
  · exact (ev_ifS_f (m1 := none) rfl).trans rfl
  apply sq
  · exact (ev_ifS_f (m1 := none) rfl).trans rfl
  apply sq
  · exact (ev_ifS_f (m1 := none) rfl).trans rfl
  apply ev_seq_rt
  apply ift
  · exact rfl
  · apply ev_ret
    refine (ev_andV_t (m1 := none) rfl).trans ?_
    (repeat' (first | with_reducible exact e | with_reducible exact ev_C | ((with_reducible apply ev_V); exact rfl) | with_reducible exact ev_nil | with_reducible apply ev_cons | with_reducible apply ev_op | with_reducible apply ev_un | with_reducible apply ev_call | (with_reducible apply ev_tup) | (with_reducible apply ev_lst) | exact Nat.le_of_ble_eq_true rfl | with_reducible apply ev_sset | ((with_reducible apply set_eq); first | (simp only [List.set_cons_succ, List.set_cons_zero]; done) | (simp only [List.set_cons_succ, List.set_cons_zero]; exact rfl) | exact rfl) | with_reducible exact ev_noPart | with_reducible apply ev_ret | with_reducible apply ev_T | with_reducible apply ev_not | with_reducible apply ev_notV | with_reducible apply ev_isN | with_reducible apply ev_notN | with_reducible apply ev_part | with_reducible apply ev_ioGet | with_reducible apply ev_putIo | with_reducible exact add_int _ _ | with_reducible exact sub_int' _ _ | with_reducible exact int_int _ | with_reducible exact neg_int' _ | with_reducible exact tuple_strs _ | with_reducible exact tuple_lst _ | with_reducible exact list_lst _ | with_reducible exact items_lst _ | with_reducible exact items_tup _ | with_reducible exact items_txt _ | with_reducible apply ev_items | with_reducible apply ev_rng | with_reducible apply ev_sl | with_reducible exact len_txt _ | with_reducible exact len_tup _ | with_reducible exact len_lst _ | with_reducible exact eq_int' _ _ | with_reducible exact ne_int' _ _ | with_reducible exact lt_int' _ _ | with_reducible exact gt_int' _ _ | with_reducible exact le_int' _ _ | with_reducible exact ge_int' _ _))
theorem all_true : ∀ n : Nat, allD [.list ((List.range n).map fun _ => PyData.bool true)] = some (.bool true) := by
  have h : ∀ xs : List Nat, boolsD (xs.map fun _ => PyData.bool true) = some (xs.map fun _ => true) := by
    intro xs
    induction xs with
    | nil => rfl
    | cons x r ih => rw [List.map_cons, boolsD, ih]; rfl
  intro n
  show (boolsD _).map _ = _
  rw [h, Option.map_some]
  congr 2
  rw [List.all_eq_true]
  intro b hb
  obtain ⟨_, _, rfl⟩ := List.mem_map.mp hb
  rfl
theorem is_tup (k : Nat) {xs : List PyData} (hp : DL.plainAll xs = true) (hl : xs.length ≤ 10000) (h : ∀ x ∈ xs, M_l_is k [x, x] = some (.bool true)) : M_l_is (k + 1) [.tuple xs, .tuple xs] = some (.bool true) := by
  have pl : DL.plain (.tuple xs) = true := by simp [DL.plain, hp]
  have isi : ∀ (T : String) (β : Bool) (j : Nat) (ρ : DEnv), ρ[j]? = some (some (.tuple xs)) → kitB "tuple" T = some β → fIsi T (fV j) ρ none = some (.bool β, none) := fun T β j ρ h1 h2 => ev_isi (ev_V h1) pl h2
  have ne := ne_nat xs.length xs.length
  rw [decide_eq_false (by simp)] at ne
  have r1 := range1_nat (n := xs.length) (by omega)
  have hlc := lc_mapA (ρ := [some (.tuple xs), some (.tuple xs), none]) (b := bName 2) (fe := (fCall (M_l_is k) (fCons (fOp ixD (fV 0) (fV 2)) (fCons (fOp ixD (fV 1) (fV 2)) fNil)))) (fun j : Nat => PyData.int (j : Nat)) (fun _ => PyData.bool true) none (List.range xs.length) (by
    intro j hj
    have hj := List.mem_range.mp hj
    have ix : ixD (.tuple xs) (.int (j : Nat)) = some xs[j] := ix_tup' (by omega) (by simp [hj])
    have hx := h xs[j] (List.getElem_mem _)
    refine ⟨[some (.tuple xs), some (.tuple xs), some (.int (j : Nat))], rfl, ?_⟩
    (repeat' (first | with_reducible exact ix | with_reducible exact hx | with_reducible exact ev_C | ((with_reducible apply ev_V); exact rfl) | with_reducible exact ev_nil | with_reducible apply ev_cons | with_reducible apply ev_op | with_reducible apply ev_un | with_reducible apply ev_call | (with_reducible apply ev_tup) | (with_reducible apply ev_lst) | exact Nat.le_of_ble_eq_true rfl | with_reducible apply ev_sset | ((with_reducible apply set_eq); first | (simp only [List.set_cons_succ, List.set_cons_zero]; done) | (simp only [List.set_cons_succ, List.set_cons_zero]; exact rfl) | exact rfl) | with_reducible exact ev_noPart | with_reducible apply ev_ret | with_reducible apply ev_T | with_reducible apply ev_not | with_reducible apply ev_notV | with_reducible apply ev_isN | with_reducible apply ev_notN | with_reducible apply ev_part | with_reducible apply ev_ioGet | with_reducible apply ev_putIo | with_reducible exact add_int _ _ | with_reducible exact sub_int' _ _ | with_reducible exact int_int _ | with_reducible exact neg_int' _ | with_reducible exact tuple_strs _ | with_reducible exact tuple_lst _ | with_reducible exact list_lst _ | with_reducible exact items_lst _ | with_reducible exact items_tup _ | with_reducible exact items_txt _ | with_reducible apply ev_items | with_reducible apply ev_rng | with_reducible apply ev_sl | with_reducible exact len_txt _ | with_reducible exact len_tup _ | with_reducible exact len_lst _ | with_reducible exact eq_int' _ _ | with_reducible exact ne_int' _ _ | with_reducible exact lt_int' _ _ | with_reducible exact gt_int' _ _ | with_reducible exact le_int' _ _ | with_reducible exact ge_int' _ _)))
  have al := all_true xs.length
  show outL (g_l_is (M_l_is k) M_l_is_integer [some (.tuple xs), some (.tuple xs), none] none) = _
  refine outL_of (m := none) ?_
  unfold g_l_is
  apply sq
  · exact (ev_ifS_f (m1 := none) rfl).trans rfl
  apply sq
  · apply iff
    · exact ev_T (isi "bool" false 1 _ rfl rfl)
    · exact rfl
  apply sq
  · apply iff
    · exact ev_T (isi "int" false 1 _ rfl rfl)
    · exact rfl
  apply sq
  · apply iff
    · exact ev_T (isi "str" false 1 _ rfl rfl)
    · exact rfl
  apply sq
  · apply iff
    · apply ev_or_f
      · exact ev_not (b := true) (ev_T (isi "tuple" true 0 _ rfl rfl))
      · (repeat' (first | with_reducible exact ne | with_reducible exact ev_C | ((with_reducible apply ev_V); exact rfl) | with_reducible exact ev_nil | with_reducible apply ev_cons | with_reducible apply ev_op | with_reducible apply ev_un | with_reducible apply ev_call | (with_reducible apply ev_tup) | (with_reducible apply ev_lst) | exact Nat.le_of_ble_eq_true rfl | with_reducible apply ev_sset | ((with_reducible apply set_eq); first | (simp only [List.set_cons_succ, List.set_cons_zero]; done) | (simp only [List.set_cons_succ, List.set_cons_zero]; exact rfl) | exact rfl) | with_reducible exact ev_noPart | with_reducible apply ev_ret | with_reducible apply ev_T | with_reducible apply ev_not | with_reducible apply ev_notV | with_reducible apply ev_isN | with_reducible apply ev_notN | with_reducible apply ev_part | with_reducible apply ev_ioGet | with_reducible apply ev_putIo | with_reducible exact add_int _ _ | with_reducible exact sub_int' _ _ | with_reducible exact int_int _ | with_reducible exact neg_int' _ | with_reducible exact tuple_strs _ | with_reducible exact tuple_lst _ | with_reducible exact list_lst _ | with_reducible exact items_lst _ | with_reducible exact items_tup _ | with_reducible exact items_txt _ | with_reducible apply ev_items | with_reducible apply ev_rng | with_reducible apply ev_sl | with_reducible exact len_txt _ | with_reducible exact len_tup _ | with_reducible exact len_lst _ | with_reducible exact eq_int' _ _ | with_reducible exact ne_int' _ _ | with_reducible exact lt_int' _ _ | with_reducible exact gt_int' _ _ | with_reducible exact le_int' _ _ | with_reducible exact ge_int' _ _))
    · exact rfl
  apply ev_ret
  apply ev_call
  · apply ev_cons
    · apply ev_lc
      · (repeat' (first | with_reducible exact r1 | with_reducible exact ev_C | ((with_reducible apply ev_V); exact rfl) | with_reducible exact ev_nil | with_reducible apply ev_cons | with_reducible apply ev_op | with_reducible apply ev_un | with_reducible apply ev_call | (with_reducible apply ev_tup) | (with_reducible apply ev_lst) | exact Nat.le_of_ble_eq_true rfl | with_reducible apply ev_sset | ((with_reducible apply set_eq); first | (simp only [List.set_cons_succ, List.set_cons_zero]; done) | (simp only [List.set_cons_succ, List.set_cons_zero]; exact rfl) | exact rfl) | with_reducible exact ev_noPart | with_reducible apply ev_ret | with_reducible apply ev_T | with_reducible apply ev_not | with_reducible apply ev_notV | with_reducible apply ev_isN | with_reducible apply ev_notN | with_reducible apply ev_part | with_reducible apply ev_ioGet | with_reducible apply ev_putIo | with_reducible exact add_int _ _ | with_reducible exact sub_int' _ _ | with_reducible exact int_int _ | with_reducible exact neg_int' _ | with_reducible exact tuple_strs _ | with_reducible exact tuple_lst _ | with_reducible exact list_lst _ | with_reducible exact items_lst _ | with_reducible exact items_tup _ | with_reducible exact items_txt _ | with_reducible apply ev_items | with_reducible apply ev_rng | with_reducible apply ev_sl | with_reducible exact len_txt _ | with_reducible exact len_tup _ | with_reducible exact len_lst _ | with_reducible exact eq_int' _ _ | with_reducible exact ne_int' _ _ | with_reducible exact lt_int' _ _ | with_reducible exact gt_int' _ _ | with_reducible exact le_int' _ _ | with_reducible exact ge_int' _ _))
      · exact hlc
      · simp; omega
    · exact ev_nil
  · exact al
end K01
namespace K01
open PySem PySem.Spec PyProof.Rows L2 DL
section
variable {a b : List Str}
theorem kp_lay' : ∀ r : Row, PyData.canLayAll0 (r.map pr) = true
  | [] => by simp [PyData.canLayAll0]
  | p :: r => by rw [List.map_cons, PyData.canLayAll0, kp_lay' r]; simp [pr, PyData.canLay0, PyData.canLayAll0]
theorem kp_plain (r : Row) : DL.plain (kp r) = true := by
  have := kp_plain' r
  simp [kp, DL.plain, this]
theorem kp_shaped (r : Row) : SeqAt.shaped (kp r) = true := by
  have h1 := kp_lay' r
  have h2 := kp_depth' r
  simp only [kp, SeqAt.shaped, PyData.canLay0, PyData.depth, h1, Bool.true_and, decide_eq_true_eq]
  omega
theorem kp_ne (r : Row) : neD (kp r) (kp r) = some (.bool false) := ne_self (kp_plain r) (kp_shaped r) (by rw [kp_eqv]; simp)
theorem txt_facts : ∀ {l : List Str}, (∀ x ∈ l, x ∈ lines) → DL.plainAll (l.map .str) = true ∧ PyData.canLayAll0 (l.map .str) = true ∧ PyData.depthAll (l.map .str) ≤ 1 ∧ PyData.eqvAll (l.map .str) (l.map .str) = true
  | [], _ => by simp [DL.plainAll, PyData.canLayAll0, PyData.depthAll, PyData.eqvAll]
  | x :: r, h => by
    have hs : ∀ z ∈ lines, PyData.strOk z = true := by decide +kernel
    obtain ⟨h1, h2, h3, h4⟩ := txt_facts (l := r) fun y hy => h y (List.mem_cons_of_mem _ hy)
    have := hs x (h x List.mem_cons_self)
    refine ⟨?_, ?_, ?_, ?_⟩
    · rw [List.map_cons, DL.plainAll, h1]; rfl
    · rw [List.map_cons, PyData.canLayAll0, h2]; simp [PyData.canLay0, this]
    · rw [List.map_cons, PyData.depthAll]; simp only [PyData.depth]; omega
    · rw [List.map_cons, PyData.eqvAll, h4]; simp [PyData.eqv]
theorem txt_ne {l : List Str} (h : ∀ x ∈ l, x ∈ lines) : neD (txt l) (txt l) = some (.bool false) := by
  obtain ⟨h1, h2, h3, h4⟩ := txt_facts h
  refine ne_self ?_ ?_ ?_
  · simp [txt, DL.plain, h1]
  · simp only [txt, SeqAt.shaped, PyData.canLay0, PyData.depth, h2, Bool.true_and, decide_eq_true_eq]; omega
  · simp [txt, PyData.eqv, h4]
theorem is_kp (k : Nat) {r : Row} (h : r.length ≤ 7) : M_l_is (k + 3) [kp r, kp r] = some (.bool true) :=
  is_tup (k + 2) (kp_plain' r) (by rw [List.length_map]; omega) fun x hx => by
    obtain ⟨p, _, rfl⟩ := List.mem_map.mp hx
    refine is_tup (k + 1) (by simp [DL.plain, DL.plainAll]) (by simp) fun y hy => ?_
    simp only [List.mem_cons, List.not_mem_nil, or_false] at hy
    rcases hy with rfl | rfl
    · exact is_int k _
    · exact is_int k _
theorem is_rows (k : Nat) {s : List (Nat × Str)} (h : s.length ≤ 1000) (hs : ∀ e ∈ s, e.2 ∈ lines) : M_l_is (k + 3) [.tuple (s.map en), .tuple (s.map en)] = some (.bool true) := by
  have hp : ∀ s : List (Nat × Str), DL.plainAll (s.map en) = true := by
    intro s
    induction s with
    | nil => simp [DL.plainAll]
    | cons x r ih => rw [List.map_cons, DL.plainAll, ih]; simp [en, DL.plain, DL.plainAll]
  refine is_tup (k + 2) (hp s) (by rw [List.length_map]; omega) fun x hx => ?_
  obtain ⟨e, he, rfl⟩ := List.mem_map.mp hx
  refine is_tup (k + 1) (by simp [DL.plain, DL.plainAll]) (by simp) fun y hy => ?_
  simp only [List.mem_cons, List.not_mem_nil, or_false] at hy
  rcases hy with rfl | rfl
  · refine is_str k (List.mem_append_right _ ?_)
    unfold tg
    split <;> simp
  · exact is_str k (List.mem_append_left _ (hs e he))
/-! ### the law's rows -/
theorem stepOf_mem (P : Pair a b) {i j p q : Nat} : ∀ e ∈ stepOf a b i j p q, e.2 ∈ lines := by
  intro e he
  unfold stepOf at he
  rcases List.mem_append.mp he with he | he
  · rcases List.mem_append.mp he with he | he
    · obtain ⟨x, hx, rfl⟩ := List.mem_map.mp he
      exact P.ma x (List.mem_of_mem_drop (List.mem_of_mem_take hx))
    · obtain ⟨x, hx, rfl⟩ := List.mem_map.mp he
      exact P.mb x (List.mem_of_mem_drop (List.mem_of_mem_take hx))
  · cases hx : a[p]? with
    | none => rw [hx] at he; cases he
    | some x =>
      rw [hx] at he
      rw [List.mem_singleton.mp he]
      exact P.ma x (List.mem_of_getElem? hx)
theorem scrOf_mem (P : Pair a b) : ∀ {r : Row} {i j : Nat}, ∀ e ∈ scrOf a b i j r, e.2 ∈ lines
  | [], _, _, e, he => by cases he
  | (p, q) :: r, i, j, e, he => by
    rcases List.mem_append.mp he with he | he
    · exact stepOf_mem P e he
    · exact scrOf_mem P e he
theorem law_loop (P : Pair a b) (r0 r1 r3 r6 r7 : Option PyData) (m : Io) : ∀ (r : Row) (i j : Nat) (acc : List (Nat × Str)) (r11 r12 r13 r14 : Option PyData), acc.length + 15 * r.length ≤ 10000 → ∃ s9 s10 s11 s12 s14, forF (bTup (bCons (bName 11) (bCons (bName 12) bNil)))
    (fSeq (fSet 8 (fOp addLD (fOp addD (fV 8) (fLc (fItems (fSl (fV 4) (fPart (fV 9)) (fPart (fV 11)))) (bName 14) tYesF (fTup (fCons (fC (.str "bar")) (fCons (fV 14) fNil))) (List.map (·.2) ([("line", 14)] : List (Str × Nat))))) (fLc (fItems (fSl (fV 5) (fPart (fV 10)) (fPart (fV 12)))) (bName 14) tYesF (fTup (fCons (fC (.str "add")) (fCons (fV 14) fNil))) (List.map (·.2) ([("line", 14)] : List (Str × Nat))))))
    (fSeq (fIfS (fT (fOp ltD (fV 11) (fCall lenD (fCons (fV 4) fNil))))
    (fAppend 8 (fTup (fCons (fC (.str "keep")) (fCons (fOp ixD (fV 4) (fV 11)) fNil))))
    fNext)
    (fSeq (fSet 9 (fOp addD (fV 11) (fC (.int 1))))
    (fSet 10 (fOp addD (fV 12) (fC (.int 1))))))) (r.map pr)
    [r0, r1, none, r3, some (txt a), some (txt b), r6, r7, some (.list (acc.map en)), some (.int (i : Nat)), some (.int (j : Nat)), r11, r12, r13, r14] m = some (.nx [r0, r1, none, r3, some (txt a), some (txt b), r6, r7, some (.list ((acc ++ scrOf a b i j r).map en)), s9, s10, s11, s12, r13, s14] m)
  | [], i, j, acc, r11, r12, r13, r14, _ => ⟨_, _, _, _, _, by rw [scrOf, List.append_nil]; rfl⟩
  | (p, q) :: r, i, j, acc, r11, r12, r13, r14, h => by
    have hst := step_len P i j p q
    simp only [List.length_cons] at h
    obtain ⟨s9, s10, s11, s12, s14, ih⟩ := law_loop P r0 r1 r3 r6 r7 m r (p + 1) (q + 1) (acc ++ stepOf a b i j p q) (some (.int (p : Nat))) (some (.int (q : Nat))) r13 r14 (by rw [List.length_append]; omega)
    refine ⟨s9, s10, s11, s12, s14, ?_⟩
    rw [List.map_cons]
    have hd : scrOf a b i j ((p, q) :: r) = stepOf a b i j p q ++ scrOf a b (p + 1) (q + 1) r := rfl
    rw [hd, ← List.append_assoc, ← ih]
    have hn := P.la
    have hm := P.lb
    have sl1 := sl_txt_in a i p
    have sl2 := sl_txt_in b j q
    have lt := lt_nat p a.length
    generalize hA : ((a.drop i).take (p - i)).map (fun x => ((0 : Nat), x)) = A
    generalize hB : ((b.drop j).take (q - j)).map (fun x => ((1 : Nat), x)) = B
    have hAl : A.length ≤ 7 := by rw [← hA]; simp; omega
    have hBl : B.length ≤ 7 := by rw [← hB]; simp; omega
    have ad1 : addD (.list (acc.map en)) (.list (A.map en)) = some (.list ((acc ++ A).map en)) := add_mapL (by omega)
    have ad2 : addLD (.list ((acc ++ A).map en)) (.list (B.map en)) = some (.list ((acc ++ A ++ B).map en)) := by
      rw [addL_lst (by rw [List.length_map, List.length_map, List.length_append]; omega), ← List.map_append]
    refine for_nx (ρ1 := [r0, r1, none, r3, some (txt a), some (txt b), r6, r7, some (.list (acc.map en)), some (.int (i : Nat)), some (.int (j : Nat)), some (.int (p : Nat)), some (.int (q : Nat)), r13, r14]) rfl ?_
    apply sq
    · apply ev_sset (x := .list ((acc ++ A ++ B).map en)) (m1 := m)
      · apply ev_op
        · apply ev_op
          · exact ev_V rfl
          · apply ev_lc
            · (repeat' (first | with_reducible exact sl1 | with_reducible exact ev_C | ((with_reducible apply ev_V); exact rfl) | with_reducible exact ev_nil | with_reducible apply ev_cons | with_reducible apply ev_op | with_reducible apply ev_un | with_reducible apply ev_call | (with_reducible apply ev_tup) | (with_reducible apply ev_lst) | exact Nat.le_of_ble_eq_true rfl | with_reducible apply ev_sset | ((with_reducible apply set_eq); first | (simp only [List.set_cons_succ, List.set_cons_zero]; done) | (simp only [List.set_cons_succ, List.set_cons_zero]; exact rfl) | exact rfl) | with_reducible exact ev_noPart | with_reducible apply ev_ret | with_reducible apply ev_T | with_reducible apply ev_not | with_reducible apply ev_notV | with_reducible apply ev_isN | with_reducible apply ev_notN | with_reducible apply ev_part | with_reducible apply ev_ioGet | with_reducible apply ev_putIo | with_reducible exact add_int _ _ | with_reducible exact sub_int' _ _ | with_reducible exact int_int _ | with_reducible exact neg_int' _ | with_reducible exact tuple_strs _ | with_reducible exact tuple_lst _ | with_reducible exact list_lst _ | with_reducible exact items_lst _ | with_reducible exact items_tup _ | with_reducible exact items_txt _ | with_reducible apply ev_items | with_reducible apply ev_rng | with_reducible apply ev_sl | with_reducible exact len_txt _ | with_reducible exact len_tup _ | with_reducible exact len_lst _ | with_reducible exact eq_int' _ _ | with_reducible exact ne_int' _ _ | with_reducible exact lt_int' _ _ | with_reducible exact gt_int' _ _ | with_reducible exact le_int' _ _ | with_reducible exact ge_int' _ _))
            · refine (lc_tag _ 0 _ 14 (by simp [wipeD]) m "bar" rfl).trans ?_
              rw [hA]
            · rw [List.length_map]; omega
          · exact ad1
        · apply ev_lc
          · (repeat' (first | with_reducible exact sl2 | with_reducible exact ev_C | ((with_reducible apply ev_V); exact rfl) | with_reducible exact ev_nil | with_reducible apply ev_cons | with_reducible apply ev_op | with_reducible apply ev_un | with_reducible apply ev_call | (with_reducible apply ev_tup) | (with_reducible apply ev_lst) | exact Nat.le_of_ble_eq_true rfl | with_reducible apply ev_sset | ((with_reducible apply set_eq); first | (simp only [List.set_cons_succ, List.set_cons_zero]; done) | (simp only [List.set_cons_succ, List.set_cons_zero]; exact rfl) | exact rfl) | with_reducible exact ev_noPart | with_reducible apply ev_ret | with_reducible apply ev_T | with_reducible apply ev_not | with_reducible apply ev_notV | with_reducible apply ev_isN | with_reducible apply ev_notN | with_reducible apply ev_part | with_reducible apply ev_ioGet | with_reducible apply ev_putIo | with_reducible exact add_int _ _ | with_reducible exact sub_int' _ _ | with_reducible exact int_int _ | with_reducible exact neg_int' _ | with_reducible exact tuple_strs _ | with_reducible exact tuple_lst _ | with_reducible exact list_lst _ | with_reducible exact items_lst _ | with_reducible exact items_tup _ | with_reducible exact items_txt _ | with_reducible apply ev_items | with_reducible apply ev_rng | with_reducible apply ev_sl | with_reducible exact len_txt _ | with_reducible exact len_tup _ | with_reducible exact len_lst _ | with_reducible exact eq_int' _ _ | with_reducible exact ne_int' _ _ | with_reducible exact lt_int' _ _ | with_reducible exact gt_int' _ _ | with_reducible exact le_int' _ _ | with_reducible exact ge_int' _ _))
          · refine (lc_tag _ 1 _ 14 (by simp [wipeD]) m "add" rfl).trans ?_
            rw [hB]
          · rw [List.length_map]; omega
        · exact ad2
      · exact rfl
    by_cases c : p < a.length
    · obtain ⟨x, ex, ix⟩ := ix_ok c
      rw [decide_eq_true c] at lt
      have hs : stepOf a b i j p q = A ++ B ++ [(2, x)] := by unfold stepOf; rw [ex, hA, hB]
      apply sq
      · apply ift
        · (repeat' (first | with_reducible exact lt | with_reducible exact ev_C | ((with_reducible apply ev_V); exact rfl) | with_reducible exact ev_nil | with_reducible apply ev_cons | with_reducible apply ev_op | with_reducible apply ev_un | with_reducible apply ev_call | (with_reducible apply ev_tup) | (with_reducible apply ev_lst) | exact Nat.le_of_ble_eq_true rfl | with_reducible apply ev_sset | ((with_reducible apply set_eq); first | (simp only [List.set_cons_succ, List.set_cons_zero]; done) | (simp only [List.set_cons_succ, List.set_cons_zero]; exact rfl) | exact rfl) | with_reducible exact ev_noPart | with_reducible apply ev_ret | with_reducible apply ev_T | with_reducible apply ev_not | with_reducible apply ev_notV | with_reducible apply ev_isN | with_reducible apply ev_notN | with_reducible apply ev_part | with_reducible apply ev_ioGet | with_reducible apply ev_putIo | with_reducible exact add_int _ _ | with_reducible exact sub_int' _ _ | with_reducible exact int_int _ | with_reducible exact neg_int' _ | with_reducible exact tuple_strs _ | with_reducible exact tuple_lst _ | with_reducible exact list_lst _ | with_reducible exact items_lst _ | with_reducible exact items_tup _ | with_reducible exact items_txt _ | with_reducible apply ev_items | with_reducible apply ev_rng | with_reducible apply ev_sl | with_reducible exact len_txt _ | with_reducible exact len_tup _ | with_reducible exact len_lst _ | with_reducible exact eq_int' _ _ | with_reducible exact ne_int' _ _ | with_reducible exact lt_int' _ _ | with_reducible exact gt_int' _ _ | with_reducible exact le_int' _ _ | with_reducible exact ge_int' _ _))
        · apply ev_append (xs := (acc ++ A ++ B).map en)
          · (repeat' (first | with_reducible exact ix | with_reducible exact ev_C | ((with_reducible apply ev_V); exact rfl) | with_reducible exact ev_nil | with_reducible apply ev_cons | with_reducible apply ev_op | with_reducible apply ev_un | with_reducible apply ev_call | (with_reducible apply ev_tup) | (with_reducible apply ev_lst) | exact Nat.le_of_ble_eq_true rfl | with_reducible apply ev_sset | ((with_reducible apply set_eq); first | (simp only [List.set_cons_succ, List.set_cons_zero]; done) | (simp only [List.set_cons_succ, List.set_cons_zero]; exact rfl) | exact rfl) | with_reducible exact ev_noPart | with_reducible apply ev_ret | with_reducible apply ev_T | with_reducible apply ev_not | with_reducible apply ev_notV | with_reducible apply ev_isN | with_reducible apply ev_notN | with_reducible apply ev_part | with_reducible apply ev_ioGet | with_reducible apply ev_putIo | with_reducible exact add_int _ _ | with_reducible exact sub_int' _ _ | with_reducible exact int_int _ | with_reducible exact neg_int' _ | with_reducible exact tuple_strs _ | with_reducible exact tuple_lst _ | with_reducible exact list_lst _ | with_reducible exact items_lst _ | with_reducible exact items_tup _ | with_reducible exact items_txt _ | with_reducible apply ev_items | with_reducible apply ev_rng | with_reducible apply ev_sl | with_reducible exact len_txt _ | with_reducible exact len_tup _ | with_reducible exact len_lst _ | with_reducible exact eq_int' _ _ | with_reducible exact ne_int' _ _ | with_reducible exact lt_int' _ _ | with_reducible exact gt_int' _ _ | with_reducible exact le_int' _ _ | with_reducible exact ge_int' _ _))
          · exact rfl
          · rw [List.length_map, List.length_append, List.length_append]; omega
      apply sq
      · (repeat' (first | with_reducible exact ev_C | ((with_reducible apply ev_V); exact rfl) | with_reducible exact ev_nil | with_reducible apply ev_cons | with_reducible apply ev_op | with_reducible apply ev_un | with_reducible apply ev_call | (with_reducible apply ev_tup) | (with_reducible apply ev_lst) | exact Nat.le_of_ble_eq_true rfl | with_reducible apply ev_sset | ((with_reducible apply set_eq); first | (simp only [List.set_cons_succ, List.set_cons_zero]; done) | (simp only [List.set_cons_succ, List.set_cons_zero]; exact rfl) | exact rfl) | with_reducible exact ev_noPart | with_reducible apply ev_ret | with_reducible apply ev_T | with_reducible apply ev_not | with_reducible apply ev_notV | with_reducible apply ev_isN | with_reducible apply ev_notN | with_reducible apply ev_part | with_reducible apply ev_ioGet | with_reducible apply ev_putIo | with_reducible exact add_int _ _ | with_reducible exact sub_int' _ _ | with_reducible exact int_int _ | with_reducible exact neg_int' _ | with_reducible exact tuple_strs _ | with_reducible exact tuple_lst _ | with_reducible exact list_lst _ | with_reducible exact items_lst _ | with_reducible exact items_tup _ | with_reducible exact items_txt _ | with_reducible apply ev_items | with_reducible apply ev_rng | with_reducible apply ev_sl | with_reducible exact len_txt _ | with_reducible exact len_tup _ | with_reducible exact len_lst _ | with_reducible exact eq_int' _ _ | with_reducible exact ne_int' _ _ | with_reducible exact lt_int' _ _ | with_reducible exact gt_int' _ _ | with_reducible exact le_int' _ _ | with_reducible exact ge_int' _ _))
      · rw [hs]
        apply ev_sset
        · (repeat' (first | with_reducible exact ev_C | ((with_reducible apply ev_V); exact rfl) | with_reducible exact ev_nil | with_reducible apply ev_cons | with_reducible apply ev_op | with_reducible apply ev_un | with_reducible apply ev_call | (with_reducible apply ev_tup) | (with_reducible apply ev_lst) | exact Nat.le_of_ble_eq_true rfl | with_reducible apply ev_sset | ((with_reducible apply set_eq); first | (simp only [List.set_cons_succ, List.set_cons_zero]; done) | (simp only [List.set_cons_succ, List.set_cons_zero]; exact rfl) | exact rfl) | with_reducible exact ev_noPart | with_reducible apply ev_ret | with_reducible apply ev_T | with_reducible apply ev_not | with_reducible apply ev_notV | with_reducible apply ev_isN | with_reducible apply ev_notN | with_reducible apply ev_part | with_reducible apply ev_ioGet | with_reducible apply ev_putIo | with_reducible exact add_int _ _ | with_reducible exact sub_int' _ _ | with_reducible exact int_int _ | with_reducible exact neg_int' _ | with_reducible exact tuple_strs _ | with_reducible exact tuple_lst _ | with_reducible exact list_lst _ | with_reducible exact items_lst _ | with_reducible exact items_tup _ | with_reducible exact items_txt _ | with_reducible apply ev_items | with_reducible apply ev_rng | with_reducible apply ev_sl | with_reducible exact len_txt _ | with_reducible exact len_tup _ | with_reducible exact len_lst _ | with_reducible exact eq_int' _ _ | with_reducible exact ne_int' _ _ | with_reducible exact lt_int' _ _ | with_reducible exact gt_int' _ _ | with_reducible exact le_int' _ _ | with_reducible exact ge_int' _ _))
        · simp only [List.map_append, List.set_cons_succ, List.set_cons_zero, List.append_assoc]
          rfl
    · rw [decide_eq_false c] at lt
      have hs : stepOf a b i j p q = A ++ B := by unfold stepOf; rw [List.getElem?_eq_none (by omega), hA, hB]; simp
      apply sq
      · apply iff
        · (repeat' (first | with_reducible exact lt | with_reducible exact ev_C | ((with_reducible apply ev_V); exact rfl) | with_reducible exact ev_nil | with_reducible apply ev_cons | with_reducible apply ev_op | with_reducible apply ev_un | with_reducible apply ev_call | (with_reducible apply ev_tup) | (with_reducible apply ev_lst) | exact Nat.le_of_ble_eq_true rfl | with_reducible apply ev_sset | ((with_reducible apply set_eq); first | (simp only [List.set_cons_succ, List.set_cons_zero]; done) | (simp only [List.set_cons_succ, List.set_cons_zero]; exact rfl) | exact rfl) | with_reducible exact ev_noPart | with_reducible apply ev_ret | with_reducible apply ev_T | with_reducible apply ev_not | with_reducible apply ev_notV | with_reducible apply ev_isN | with_reducible apply ev_notN | with_reducible apply ev_part | with_reducible apply ev_ioGet | with_reducible apply ev_putIo | with_reducible exact add_int _ _ | with_reducible exact sub_int' _ _ | with_reducible exact int_int _ | with_reducible exact neg_int' _ | with_reducible exact tuple_strs _ | with_reducible exact tuple_lst _ | with_reducible exact list_lst _ | with_reducible exact items_lst _ | with_reducible exact items_tup _ | with_reducible exact items_txt _ | with_reducible apply ev_items | with_reducible apply ev_rng | with_reducible apply ev_sl | with_reducible exact len_txt _ | with_reducible exact len_tup _ | with_reducible exact len_lst _ | with_reducible exact eq_int' _ _ | with_reducible exact ne_int' _ _ | with_reducible exact lt_int' _ _ | with_reducible exact gt_int' _ _ | with_reducible exact le_int' _ _ | with_reducible exact ge_int' _ _))
        · exact rfl
      apply sq
      · (repeat' (first | with_reducible exact ev_C | ((with_reducible apply ev_V); exact rfl) | with_reducible exact ev_nil | with_reducible apply ev_cons | with_reducible apply ev_op | with_reducible apply ev_un | with_reducible apply ev_call | (with_reducible apply ev_tup) | (with_reducible apply ev_lst) | exact Nat.le_of_ble_eq_true rfl | with_reducible apply ev_sset | ((with_reducible apply set_eq); first | (simp only [List.set_cons_succ, List.set_cons_zero]; done) | (simp only [List.set_cons_succ, List.set_cons_zero]; exact rfl) | exact rfl) | with_reducible exact ev_noPart | with_reducible apply ev_ret | with_reducible apply ev_T | with_reducible apply ev_not | with_reducible apply ev_notV | with_reducible apply ev_isN | with_reducible apply ev_notN | with_reducible apply ev_part | with_reducible apply ev_ioGet | with_reducible apply ev_putIo | with_reducible exact add_int _ _ | with_reducible exact sub_int' _ _ | with_reducible exact int_int _ | with_reducible exact neg_int' _ | with_reducible exact tuple_strs _ | with_reducible exact tuple_lst _ | with_reducible exact list_lst _ | with_reducible exact items_lst _ | with_reducible exact items_tup _ | with_reducible exact items_txt _ | with_reducible apply ev_items | with_reducible apply ev_rng | with_reducible apply ev_sl | with_reducible exact len_txt _ | with_reducible exact len_tup _ | with_reducible exact len_lst _ | with_reducible exact eq_int' _ _ | with_reducible exact ne_int' _ _ | with_reducible exact lt_int' _ _ | with_reducible exact gt_int' _ _ | with_reducible exact le_int' _ _ | with_reducible exact ge_int' _ _))
      · rw [hs]
        apply ev_sset
        · (repeat' (first | with_reducible exact ev_C | ((with_reducible apply ev_V); exact rfl) | with_reducible exact ev_nil | with_reducible apply ev_cons | with_reducible apply ev_op | with_reducible apply ev_un | with_reducible apply ev_call | (with_reducible apply ev_tup) | (with_reducible apply ev_lst) | exact Nat.le_of_ble_eq_true rfl | with_reducible apply ev_sset | ((with_reducible apply set_eq); first | (simp only [List.set_cons_succ, List.set_cons_zero]; done) | (simp only [List.set_cons_succ, List.set_cons_zero]; exact rfl) | exact rfl) | with_reducible exact ev_noPart | with_reducible apply ev_ret | with_reducible apply ev_T | with_reducible apply ev_not | with_reducible apply ev_notV | with_reducible apply ev_isN | with_reducible apply ev_notN | with_reducible apply ev_part | with_reducible apply ev_ioGet | with_reducible apply ev_putIo | with_reducible exact add_int _ _ | with_reducible exact sub_int' _ _ | with_reducible exact int_int _ | with_reducible exact neg_int' _ | with_reducible exact tuple_strs _ | with_reducible exact tuple_lst _ | with_reducible exact list_lst _ | with_reducible exact items_lst _ | with_reducible exact items_tup _ | with_reducible exact items_txt _ | with_reducible apply ev_items | with_reducible apply ev_rng | with_reducible apply ev_sl | with_reducible exact len_txt _ | with_reducible exact len_tup _ | with_reducible exact len_lst _ | with_reducible exact eq_int' _ _ | with_reducible exact ne_int' _ _ | with_reducible exact lt_int' _ _ | with_reducible exact gt_int' _ _ | with_reducible exact le_int' _ _ | with_reducible exact ge_int' _ _))
        · simp only [List.map_append, List.set_cons_succ, List.set_cons_zero, List.append_assoc]
          rfl
/-- the lines of the rows with no such tag -/
theorem ne_word {x y : Str} (hx : x ∈ (["bar", "add", "keep"] : List Str)) (hy : y ∈ (["bar", "add", "keep"] : List Str)) : neD (.str x) (.str y) = some (.bool (decide (x ≠ y))) := by
  have h : ∀ z ∈ (["bar", "add", "keep"] : List Str), PyData.strOk z = true := by decide +kernel
  unfold neD
  simp only [DL.plain, SeqAt.shaped, PyData.canLay0, PyData.depth, h x hx, h y hy, Bool.and_self, decide_eq_true_eq, Nat.zero_le, if_true, decide_true, PyData.eqv]
  congr 2
  by_cases c : x = y <;> simp [c]
theorem tag_ne (t : Nat) : neD (.str (tg t)) (.str "add") = some (.bool (decide (t ≠ 1))) ∧ neD (.str (tg t)) (.str "bar") = some (.bool (decide (t ≠ 0))) := by
  have ht : tg t ∈ (["bar", "add", "keep"] : List Str) := by unfold tg; split <;> simp
  rw [ne_word ht (by simp), ne_word ht (by simp)]
  match t with
  | 0 => exact ⟨congrArg (fun b => some (PyData.bool b)) (by decide +kernel), congrArg (fun b => some (PyData.bool b)) (by decide +kernel)⟩
  | 1 => exact ⟨congrArg (fun b => some (PyData.bool b)) (by decide +kernel), congrArg (fun b => some (PyData.bool b)) (by decide +kernel)⟩
  | t + 2 =>
    have h1 : decide (t + 2 ≠ 1) = true := decide_eq_true (by omega)
    have h2 : decide (t + 2 ≠ 0) = true := decide_eq_true (by omega)
    have e : tg (t + 2) = "keep" := rfl
    rw [h1, h2, e]
    exact ⟨congrArg (fun b => some (PyData.bool b)) (by decide +kernel), congrArg (fun b => some (PyData.bool b)) (by decide +kernel)⟩
theorem lc_side (s : List (Nat × Str)) (t : Nat) (c : Str) (hc : ∀ u : Nat, neD (.str (tg u)) (.str c) = some (.bool (decide (u ≠ t)))) (ρ : DEnv) (hl : ρ.length = 15) (m : Io) :
    lcF (bName 13) (fT (fOp neD (fOp ixD (fV 13) (fC (.int 0))) (fC (.str c)))) (fOp ixD (fV 13) (fC (.int 1))) ρ (s.map en) m = some (((s.filter fun x => decide (x.1 ≠ t)).map (·.2)).map .str, m) := by
  rw [lc_map (ρ := ρ) en (fun x => decide (x.1 ≠ t)) (fun x => PyData.str x.2) m s fun e _ => ⟨ρ.set 13 (some (en e)), rfl, by
    have hv : (ρ.set 13 (some (en e)))[13]? = some (some (en e)) := by rw [List.getElem?_set_self (by omega)]
    have i0 : ixD (en e) (.int 0) = some (.str (tg e.1)) := ix_tup' (by decide) rfl
    have i1 : ixD (en e) (.int 1) = some (.str e.2) := ix_tup' (by decide) rfl
    have ne := hc e.1
    refine ⟨?_, fun _ => ?_⟩
    · (repeat' (first | with_reducible exact ev_V hv | with_reducible exact i0 | with_reducible exact ne | with_reducible exact ev_C | ((with_reducible apply ev_V); exact rfl) | with_reducible exact ev_nil | with_reducible apply ev_cons | with_reducible apply ev_op | with_reducible apply ev_un | with_reducible apply ev_call | (with_reducible apply ev_tup) | (with_reducible apply ev_lst) | exact Nat.le_of_ble_eq_true rfl | with_reducible apply ev_sset | ((with_reducible apply set_eq); first | (simp only [List.set_cons_succ, List.set_cons_zero]; done) | (simp only [List.set_cons_succ, List.set_cons_zero]; exact rfl) | exact rfl) | with_reducible exact ev_noPart | with_reducible apply ev_ret | with_reducible apply ev_T | with_reducible apply ev_not | with_reducible apply ev_notV | with_reducible apply ev_isN | with_reducible apply ev_notN | with_reducible apply ev_part | with_reducible apply ev_ioGet | with_reducible apply ev_putIo | with_reducible exact add_int _ _ | with_reducible exact sub_int' _ _ | with_reducible exact int_int _ | with_reducible exact neg_int' _ | with_reducible exact tuple_strs _ | with_reducible exact tuple_lst _ | with_reducible exact list_lst _ | with_reducible exact items_lst _ | with_reducible exact items_tup _ | with_reducible exact items_txt _ | with_reducible apply ev_items | with_reducible apply ev_rng | with_reducible apply ev_sl | with_reducible exact len_txt _ | with_reducible exact len_tup _ | with_reducible exact len_lst _ | with_reducible exact eq_int' _ _ | with_reducible exact ne_int' _ _ | with_reducible exact lt_int' _ _ | with_reducible exact gt_int' _ _ | with_reducible exact le_int' _ _ | with_reducible exact ge_int' _ _))
    · (repeat' (first | with_reducible exact ev_V hv | with_reducible exact i1 | with_reducible exact ev_C | ((with_reducible apply ev_V); exact rfl) | with_reducible exact ev_nil | with_reducible apply ev_cons | with_reducible apply ev_op | with_reducible apply ev_un | with_reducible apply ev_call | (with_reducible apply ev_tup) | (with_reducible apply ev_lst) | exact Nat.le_of_ble_eq_true rfl | with_reducible apply ev_sset | ((with_reducible apply set_eq); first | (simp only [List.set_cons_succ, List.set_cons_zero]; done) | (simp only [List.set_cons_succ, List.set_cons_zero]; exact rfl) | exact rfl) | with_reducible exact ev_noPart | with_reducible apply ev_ret | with_reducible apply ev_T | with_reducible apply ev_not | with_reducible apply ev_notV | with_reducible apply ev_isN | with_reducible apply ev_notN | with_reducible apply ev_part | with_reducible apply ev_ioGet | with_reducible apply ev_putIo | with_reducible exact add_int _ _ | with_reducible exact sub_int' _ _ | with_reducible exact int_int _ | with_reducible exact neg_int' _ | with_reducible exact tuple_strs _ | with_reducible exact tuple_lst _ | with_reducible exact list_lst _ | with_reducible exact items_lst _ | with_reducible exact items_tup _ | with_reducible exact items_txt _ | with_reducible apply ev_items | with_reducible apply ev_rng | with_reducible apply ev_sl | with_reducible exact len_txt _ | with_reducible exact len_tup _ | with_reducible exact len_lst _ | with_reducible exact eq_int' _ _ | with_reducible exact ne_int' _ _ | with_reducible exact lt_int' _ _ | with_reducible exact gt_int' _ _ | with_reducible exact le_int' _ _ | with_reducible exact ge_int' _ _))⟩]
  rw [List.map_map]
  rfl
end
end K01
namespace K01
open PySem PySem.Spec PyProof.Rows L2 DL
/-! ### one turn of the law -/
def gTurn : SF :=
    (fSeq (fSet 4 (fCallI M_l_made_text (fCons (fC (.int 6)) fNil)))
    (fSeq (fSet 5 (fIf (fT (fOp gtD (fCallI M_l_take (fCons (fC (.int 3)) fNil)) (fC (.int 0)))) (fCallI M_l_bent_lines (fCons (fV 4) fNil)) (fCallI M_l_made_text (fCons (fC (.int 6)) fNil))))
    (fSeq (fSet 5 (fSl (fV 5) fNoPart (fPart (fC (.int 7)))))
    (fSeq (fSet 6 (fCall M_l_all_keepings (fCons (fV 4) (fCons (fV 5) fNil))))
    (fSeq (fSet 7 (fOp ixD (fCall minLD (fCons (fLc (fItems (fV 6)) (bName 13) tYesF (fTup (fCons (fOp subD (fC (.int 0)) (fCall lenD (fCons (fV 13) fNil))) (fCons (fV 13) fNil))) (List.map (·.2) ([("row", 13)] : List (Str × Nat)))) fNil)) (fC (.int 1))))
    (fSeq (fIfS (fOr (fT (fOp neD (fV 7) (fCall M_l_keeping (fCons (fV 4) (fCons (fV 5) fNil))))) (fNot (fT (fCall (M_l_is 3) (fCons (fCall M_told_keeping (fCons (fV 4) (fCons (fV 5) fNil))) (fCons (fV 7) fNil))))))
    (fRet (fC (.bool false)))
    fNext)
    (fSeq (fSet 8 (fLst fNil))
    (fSeq (fSet 9 (fC (.int 0)))
    (fSeq (fSet 10 (fC (.int 0)))
    (fSeq (fFor (fItems (fOp addD (fV 7) (fTup (fCons (fTup (fCons (fCall lenD (fCons (fV 4) fNil)) (fCons (fCall lenD (fCons (fV 5) fNil)) fNil))) fNil)))) (bTup (bCons (bName 11) (bCons (bName 12) bNil)))
    (fSeq (fSet 8 (fOp addLD (fOp addD (fV 8) (fLc (fItems (fSl (fV 4) (fPart (fV 9)) (fPart (fV 11)))) (bName 14) tYesF (fTup (fCons (fC (.str "bar")) (fCons (fV 14) fNil))) (List.map (·.2) ([("line", 14)] : List (Str × Nat))))) (fLc (fItems (fSl (fV 5) (fPart (fV 10)) (fPart (fV 12)))) (bName 14) tYesF (fTup (fCons (fC (.str "add")) (fCons (fV 14) fNil))) (List.map (·.2) ([("line", 14)] : List (Str × Nat))))))
    (fSeq (fIfS (fT (fOp ltD (fV 11) (fCall lenD (fCons (fV 4) fNil))))
    (fAppend 8 (fTup (fCons (fC (.str "keep")) (fCons (fOp ixD (fV 4) (fV 11)) fNil))))
    fNext)
    (fSeq (fSet 9 (fOp addD (fV 11) (fC (.int 1))))
    (fSet 10 (fOp addD (fV 12) (fC (.int 1))))))))
    (fSeq (fIfS (fNot (fT (fCall (M_l_is 3) (fCons (fCall M_told_script (fCons (fV 4) (fCons (fV 5) fNil))) (fCons (fCall tupleD (fCons (fV 8) fNil)) fNil)))))
    (fRet (fC (.bool false)))
    fNext)
    (fSeq (fIfS (fOr (fT (fOp neD (fCall tupleD (fCons (fLc (fItems (fV 8)) (bName 13) (fT (fOp neD (fOp ixD (fV 13) (fC (.int 0))) (fC (.str "add")))) (fOp ixD (fV 13) (fC (.int 1))) (List.map (·.2) ([("row", 13)] : List (Str × Nat)))) fNil)) (fV 4))) (fT (fOp neD (fCall tupleD (fCons (fLc (fItems (fV 8)) (bName 13) (fT (fOp neD (fOp ixD (fV 13) (fC (.int 0))) (fC (.str "bar")))) (fOp ixD (fV 13) (fC (.int 1))) (List.map (·.2) ([("row", 13)] : List (Str × Nat)))) fNil)) (fV 5))))
    (fRet (fC (.bool false)))
    fNext)
    (fIfS (fT (fOp neD (fCall lenD (fCons (fV 8) fNil)) (fOp subD (fOp addD (fCall lenD (fCons (fV 4) fNil)) (fCall lenD (fCons (fV 5) fNil))) (fCall lenD (fCons (fV 7) fNil)))))
    (fRet (fC (.bool false)))
    fNext)))))))))))))
/-- the end of a turn: two texts are there -/
theorem turn_tail {a b : List Str} (P : Pair a b) (r0 r1 r3 r5 r6 r7 r8 r9 r10 r11 r12 r13 r14 : Option PyData) (m : Io) : ∃ s6 s7 s8 s9 s10 s11 s12 s13 s14,
    (fSeq (fSet 6 (fCall M_l_all_keepings (fCons (fV 4) (fCons (fV 5) fNil))))
    (fSeq (fSet 7 (fOp ixD (fCall minLD (fCons (fLc (fItems (fV 6)) (bName 13) tYesF (fTup (fCons (fOp subD (fC (.int 0)) (fCall lenD (fCons (fV 13) fNil))) (fCons (fV 13) fNil))) (List.map (·.2) ([("row", 13)] : List (Str × Nat)))) fNil)) (fC (.int 1))))
    (fSeq (fIfS (fOr (fT (fOp neD (fV 7) (fCall M_l_keeping (fCons (fV 4) (fCons (fV 5) fNil))))) (fNot (fT (fCall (M_l_is 3) (fCons (fCall M_told_keeping (fCons (fV 4) (fCons (fV 5) fNil))) (fCons (fV 7) fNil))))))
    (fRet (fC (.bool false)))
    fNext)
    (fSeq (fSet 8 (fLst fNil))
    (fSeq (fSet 9 (fC (.int 0)))
    (fSeq (fSet 10 (fC (.int 0)))
    (fSeq (fFor (fItems (fOp addD (fV 7) (fTup (fCons (fTup (fCons (fCall lenD (fCons (fV 4) fNil)) (fCons (fCall lenD (fCons (fV 5) fNil)) fNil))) fNil)))) (bTup (bCons (bName 11) (bCons (bName 12) bNil)))
    (fSeq (fSet 8 (fOp addLD (fOp addD (fV 8) (fLc (fItems (fSl (fV 4) (fPart (fV 9)) (fPart (fV 11)))) (bName 14) tYesF (fTup (fCons (fC (.str "bar")) (fCons (fV 14) fNil))) (List.map (·.2) ([("line", 14)] : List (Str × Nat))))) (fLc (fItems (fSl (fV 5) (fPart (fV 10)) (fPart (fV 12)))) (bName 14) tYesF (fTup (fCons (fC (.str "add")) (fCons (fV 14) fNil))) (List.map (·.2) ([("line", 14)] : List (Str × Nat))))))
    (fSeq (fIfS (fT (fOp ltD (fV 11) (fCall lenD (fCons (fV 4) fNil))))
    (fAppend 8 (fTup (fCons (fC (.str "keep")) (fCons (fOp ixD (fV 4) (fV 11)) fNil))))
    fNext)
    (fSeq (fSet 9 (fOp addD (fV 11) (fC (.int 1))))
    (fSet 10 (fOp addD (fV 12) (fC (.int 1))))))))
    (fSeq (fIfS (fNot (fT (fCall (M_l_is 3) (fCons (fCall M_told_script (fCons (fV 4) (fCons (fV 5) fNil))) (fCons (fCall tupleD (fCons (fV 8) fNil)) fNil)))))
    (fRet (fC (.bool false)))
    fNext)
    (fSeq (fIfS (fOr (fT (fOp neD (fCall tupleD (fCons (fLc (fItems (fV 8)) (bName 13) (fT (fOp neD (fOp ixD (fV 13) (fC (.int 0))) (fC (.str "add")))) (fOp ixD (fV 13) (fC (.int 1))) (List.map (·.2) ([("row", 13)] : List (Str × Nat)))) fNil)) (fV 4))) (fT (fOp neD (fCall tupleD (fCons (fLc (fItems (fV 8)) (bName 13) (fT (fOp neD (fOp ixD (fV 13) (fC (.int 0))) (fC (.str "bar")))) (fOp ixD (fV 13) (fC (.int 1))) (List.map (·.2) ([("row", 13)] : List (Str × Nat)))) fNil)) (fV 5))))
    (fRet (fC (.bool false)))
    fNext)
    (fIfS (fT (fOp neD (fCall lenD (fCons (fV 8) fNil)) (fOp subD (fOp addD (fCall lenD (fCons (fV 4) fNil)) (fCall lenD (fCons (fV 5) fNil))) (fCall lenD (fCons (fV 7) fNil)))))
    (fRet (fC (.bool false)))
    fNext))))))))))
    [r0, r1, none, r3, some (txt a), some (txt b), r6, r7, r8, r9, r10, r11, r12, r13, r14] m = some (.nx [r0, r1, none, r3, some (txt a), some (txt b), s6, s7, s8, s9, s10, s11, s12, s13, s14] m) := by
  have hn := P.la
  have hm := P.lb
  have al := all_ok P
  have tk := told_ok P
  have lk := keeping_ok P
  have ts := script_ok P
  have hk := K_len P 0 0
  obtain ⟨r, hr, hmin, hleast⟩ := lp_min (allK a b a.length) (List.ne_nil_of_mem (allK_ne a.length))
  have hrK := allK_min hr hleast
  subst hrK
  have hlc := lc_lp (allK a b a.length) (fun r hr => by have := row_len P (Nat.le_refl _) hr; omega) [r0, r1, none, r3, some (txt a), some (txt b), some (.list ((allK a b a.length).map kp)), r7, r8, r9, r10, r11, r12, none, r14] 13 (by simp) m
  have hix := lp_ix (K a b 0 0)
  have ne1 := kp_ne (K a b 0 0)
  have isk : M_l_is 3 [kp (K a b 0 0), kp (K a b 0 0)] = some (.bool true) := is_kp 0 (r := K a b 0 0) hk
  have hsm := rows_small P (Nat.le_refl _)
  have hit : itemsD (.list ((allK a b a.length).map kp)) = some ((allK a b a.length).map kp) := rfl
  obtain ⟨s9, s10, s11, s12, s14, hloop⟩ := law_loop P r0 r1 r3 (some (.list ((allK a b a.length).map kp))) (some (kp (K a b 0 0))) m (K a b 0 0 ++ [(a.length, b.length)]) 0 0 [] r11 r12 r13 r14 (by simp; omega)
  have ad : addD (kp (K a b 0 0)) (.tuple [.tuple [.int (a.length : Nat), .int (b.length : Nat)]]) = some (kp (K a b 0 0 ++ [(a.length, b.length)])) := add_kp (s := [(a.length, b.length)]) (by simp; omega)
  have it : itemsD (kp (K a b 0 0 ++ [(a.length, b.length)])) = some ((K a b 0 0 ++ [(a.length, b.length)]).map pr) := rfl
  obtain ⟨f1', f2', f3⟩ := scr_facts (K_lst (a := a) (b := b) 0 0).1 (Nat.zero_le _) (Nat.zero_le _)
  rw [List.nil_append] at hloop
  change _ = some (Fl.nx [r0, r1, none, r3, some (txt a), some (txt b), _, _, some (.list ((dueOf a b).map en)), s9, s10, s11, s12, r13, s14] m) at hloop
  have hdm : ∀ e ∈ dueOf a b, e.2 ∈ lines := fun e he => scrOf_mem P e he
  have hdl : (dueOf a b).length + (K a b 0 0).length = a.length + b.length := f3
  have f1 : ((dueOf a b).filter fun x => decide (x.1 ≠ 1)).map (·.2) = a := f1'.trans (List.drop_zero ..)
  have f2 : ((dueOf a b).filter fun x => decide (x.1 ≠ 0)).map (·.2) = b := f2'.trans (List.drop_zero ..)
  generalize dueOf a b = S at ts hloop hdm hdl f1 f2
  have isr : M_l_is 3 [.tuple (S.map en), .tuple (S.map en)] = some (.bool true) := is_rows 0 (s := S) (by omega) hdm
  have sideA := lc_side S 1 "add" (fun t => (tag_ne t).1)
  have sideB := lc_side S 0 "bar" (fun t => (tag_ne t).2)
  have tl : tupleD [.list (S.map en)] = some (.tuple (S.map en)) := rfl
  have ls : lenD [.list (S.map en)] = some (.int (S.length : Nat)) := len_map en S
  have lk2 := len_kp (K a b 0 0)
  have nl : neD (.int (S.length : Nat)) (.int ((a.length : Nat) + (b.length : Nat) - ((K a b 0 0).length : Nat))) = some (.bool false) := by
    rw [ne_int', show (S.length : Int) = (a.length : Int) + (b.length : Int) - ((K a b 0 0).length : Int) by omega, beq_self_eq_true]
    rfl
  have ta := txt_ne P.ma
  have tb := txt_ne P.mb
  refine ⟨some (.list ((allK a b a.length).map kp)), some (kp (K a b 0 0)), some (.list (S.map en)), s9, s10, s11, s12, r13, s14, ?_⟩
  apply sq (m1 := m)
  · (repeat' (first | with_reducible exact al | with_reducible exact ev_C | ((with_reducible apply ev_V); exact rfl) | with_reducible exact ev_nil | with_reducible apply ev_cons | with_reducible apply ev_op | with_reducible apply ev_un | with_reducible apply ev_call | (with_reducible apply ev_tup) | (with_reducible apply ev_lst) | exact Nat.le_of_ble_eq_true rfl | with_reducible apply ev_sset | ((with_reducible apply set_eq); first | (simp only [List.set_cons_succ, List.set_cons_zero]; done) | (simp only [List.set_cons_succ, List.set_cons_zero]; exact rfl) | exact rfl) | with_reducible exact ev_noPart | with_reducible apply ev_ret | with_reducible apply ev_T | with_reducible apply ev_not | with_reducible apply ev_notV | with_reducible apply ev_isN | with_reducible apply ev_notN | with_reducible apply ev_part | with_reducible apply ev_ioGet | with_reducible apply ev_putIo | with_reducible exact add_int _ _ | with_reducible exact sub_int' _ _ | with_reducible exact int_int _ | with_reducible exact neg_int' _ | with_reducible exact tuple_strs _ | with_reducible exact tuple_lst _ | with_reducible exact list_lst _ | with_reducible exact items_lst _ | with_reducible exact items_tup _ | with_reducible exact items_txt _ | with_reducible apply ev_items | with_reducible apply ev_rng | with_reducible apply ev_sl | with_reducible exact len_txt _ | with_reducible exact len_tup _ | with_reducible exact len_lst _ | with_reducible exact eq_int' _ _ | with_reducible exact ne_int' _ _ | with_reducible exact lt_int' _ _ | with_reducible exact gt_int' _ _ | with_reducible exact le_int' _ _ | with_reducible exact ge_int' _ _))
  apply sq (m1 := m)
  · apply ev_sset
    · apply ev_op
      · apply ev_call
        · apply ev_cons
          · apply ev_lc
            · (repeat' (first | with_reducible exact hit | with_reducible exact ev_C | ((with_reducible apply ev_V); exact rfl) | with_reducible exact ev_nil | with_reducible apply ev_cons | with_reducible apply ev_op | with_reducible apply ev_un | with_reducible apply ev_call | (with_reducible apply ev_tup) | (with_reducible apply ev_lst) | exact Nat.le_of_ble_eq_true rfl | with_reducible apply ev_sset | ((with_reducible apply set_eq); first | (simp only [List.set_cons_succ, List.set_cons_zero]; done) | (simp only [List.set_cons_succ, List.set_cons_zero]; exact rfl) | exact rfl) | with_reducible exact ev_noPart | with_reducible apply ev_ret | with_reducible apply ev_T | with_reducible apply ev_not | with_reducible apply ev_notV | with_reducible apply ev_isN | with_reducible apply ev_notN | with_reducible apply ev_part | with_reducible apply ev_ioGet | with_reducible apply ev_putIo | with_reducible exact add_int _ _ | with_reducible exact sub_int' _ _ | with_reducible exact int_int _ | with_reducible exact neg_int' _ | with_reducible exact tuple_strs _ | with_reducible exact tuple_lst _ | with_reducible exact list_lst _ | with_reducible exact items_lst _ | with_reducible exact items_tup _ | with_reducible exact items_txt _ | with_reducible apply ev_items | with_reducible apply ev_rng | with_reducible apply ev_sl | with_reducible exact len_txt _ | with_reducible exact len_tup _ | with_reducible exact len_lst _ | with_reducible exact eq_int' _ _ | with_reducible exact ne_int' _ _ | with_reducible exact lt_int' _ _ | with_reducible exact gt_int' _ _ | with_reducible exact le_int' _ _ | with_reducible exact ge_int' _ _))
            · exact hlc
            · rw [List.length_map]; omega
          · exact ev_nil
        · exact hmin
      · exact ev_C
      · exact hix
    · exact rfl
  apply sq (m1 := m)
  · apply iff (m1 := m)
    · apply ev_or_f (m1 := m)
      · (repeat' (first | with_reducible exact lk | with_reducible exact ne1 | with_reducible exact ev_C | ((with_reducible apply ev_V); exact rfl) | with_reducible exact ev_nil | with_reducible apply ev_cons | with_reducible apply ev_op | with_reducible apply ev_un | with_reducible apply ev_call | (with_reducible apply ev_tup) | (with_reducible apply ev_lst) | exact Nat.le_of_ble_eq_true rfl | with_reducible apply ev_sset | ((with_reducible apply set_eq); first | (simp only [List.set_cons_succ, List.set_cons_zero]; done) | (simp only [List.set_cons_succ, List.set_cons_zero]; exact rfl) | exact rfl) | with_reducible exact ev_noPart | with_reducible apply ev_ret | with_reducible apply ev_T | with_reducible apply ev_not | with_reducible apply ev_notV | with_reducible apply ev_isN | with_reducible apply ev_notN | with_reducible apply ev_part | with_reducible apply ev_ioGet | with_reducible apply ev_putIo | with_reducible exact add_int _ _ | with_reducible exact sub_int' _ _ | with_reducible exact int_int _ | with_reducible exact neg_int' _ | with_reducible exact tuple_strs _ | with_reducible exact tuple_lst _ | with_reducible exact list_lst _ | with_reducible exact items_lst _ | with_reducible exact items_tup _ | with_reducible exact items_txt _ | with_reducible apply ev_items | with_reducible apply ev_rng | with_reducible apply ev_sl | with_reducible exact len_txt _ | with_reducible exact len_tup _ | with_reducible exact len_lst _ | with_reducible exact eq_int' _ _ | with_reducible exact ne_int' _ _ | with_reducible exact lt_int' _ _ | with_reducible exact gt_int' _ _ | with_reducible exact le_int' _ _ | with_reducible exact ge_int' _ _))
      · refine ev_not (b := true) (m1 := m) (ev_T ?_)
        (repeat' (first | with_reducible exact tk | with_reducible exact isk | with_reducible exact ev_C | ((with_reducible apply ev_V); exact rfl) | with_reducible exact ev_nil | with_reducible apply ev_cons | with_reducible apply ev_op | with_reducible apply ev_un | with_reducible apply ev_call | (with_reducible apply ev_tup) | (with_reducible apply ev_lst) | exact Nat.le_of_ble_eq_true rfl | with_reducible apply ev_sset | ((with_reducible apply set_eq); first | (simp only [List.set_cons_succ, List.set_cons_zero]; done) | (simp only [List.set_cons_succ, List.set_cons_zero]; exact rfl) | exact rfl) | with_reducible exact ev_noPart | with_reducible apply ev_ret | with_reducible apply ev_T | with_reducible apply ev_not | with_reducible apply ev_notV | with_reducible apply ev_isN | with_reducible apply ev_notN | with_reducible apply ev_part | with_reducible apply ev_ioGet | with_reducible apply ev_putIo | with_reducible exact add_int _ _ | with_reducible exact sub_int' _ _ | with_reducible exact int_int _ | with_reducible exact neg_int' _ | with_reducible exact tuple_strs _ | with_reducible exact tuple_lst _ | with_reducible exact list_lst _ | with_reducible exact items_lst _ | with_reducible exact items_tup _ | with_reducible exact items_txt _ | with_reducible apply ev_items | with_reducible apply ev_rng | with_reducible apply ev_sl | with_reducible exact len_txt _ | with_reducible exact len_tup _ | with_reducible exact len_lst _ | with_reducible exact eq_int' _ _ | with_reducible exact ne_int' _ _ | with_reducible exact lt_int' _ _ | with_reducible exact gt_int' _ _ | with_reducible exact le_int' _ _ | with_reducible exact ge_int' _ _))
    · exact rfl
  apply sq (m1 := m)
  · (repeat' (first | with_reducible exact ev_C | ((with_reducible apply ev_V); exact rfl) | with_reducible exact ev_nil | with_reducible apply ev_cons | with_reducible apply ev_op | with_reducible apply ev_un | with_reducible apply ev_call | (with_reducible apply ev_tup) | (with_reducible apply ev_lst) | exact Nat.le_of_ble_eq_true rfl | with_reducible apply ev_sset | ((with_reducible apply set_eq); first | (simp only [List.set_cons_succ, List.set_cons_zero]; done) | (simp only [List.set_cons_succ, List.set_cons_zero]; exact rfl) | exact rfl) | with_reducible exact ev_noPart | with_reducible apply ev_ret | with_reducible apply ev_T | with_reducible apply ev_not | with_reducible apply ev_notV | with_reducible apply ev_isN | with_reducible apply ev_notN | with_reducible apply ev_part | with_reducible apply ev_ioGet | with_reducible apply ev_putIo | with_reducible exact add_int _ _ | with_reducible exact sub_int' _ _ | with_reducible exact int_int _ | with_reducible exact neg_int' _ | with_reducible exact tuple_strs _ | with_reducible exact tuple_lst _ | with_reducible exact list_lst _ | with_reducible exact items_lst _ | with_reducible exact items_tup _ | with_reducible exact items_txt _ | with_reducible apply ev_items | with_reducible apply ev_rng | with_reducible apply ev_sl | with_reducible exact len_txt _ | with_reducible exact len_tup _ | with_reducible exact len_lst _ | with_reducible exact eq_int' _ _ | with_reducible exact ne_int' _ _ | with_reducible exact lt_int' _ _ | with_reducible exact gt_int' _ _ | with_reducible exact le_int' _ _ | with_reducible exact ge_int' _ _))
  apply sq (m1 := m)
  · (repeat' (first | with_reducible exact ev_C | ((with_reducible apply ev_V); exact rfl) | with_reducible exact ev_nil | with_reducible apply ev_cons | with_reducible apply ev_op | with_reducible apply ev_un | with_reducible apply ev_call | (with_reducible apply ev_tup) | (with_reducible apply ev_lst) | exact Nat.le_of_ble_eq_true rfl | with_reducible apply ev_sset | ((with_reducible apply set_eq); first | (simp only [List.set_cons_succ, List.set_cons_zero]; done) | (simp only [List.set_cons_succ, List.set_cons_zero]; exact rfl) | exact rfl) | with_reducible exact ev_noPart | with_reducible apply ev_ret | with_reducible apply ev_T | with_reducible apply ev_not | with_reducible apply ev_notV | with_reducible apply ev_isN | with_reducible apply ev_notN | with_reducible apply ev_part | with_reducible apply ev_ioGet | with_reducible apply ev_putIo | with_reducible exact add_int _ _ | with_reducible exact sub_int' _ _ | with_reducible exact int_int _ | with_reducible exact neg_int' _ | with_reducible exact tuple_strs _ | with_reducible exact tuple_lst _ | with_reducible exact list_lst _ | with_reducible exact items_lst _ | with_reducible exact items_tup _ | with_reducible exact items_txt _ | with_reducible apply ev_items | with_reducible apply ev_rng | with_reducible apply ev_sl | with_reducible exact len_txt _ | with_reducible exact len_tup _ | with_reducible exact len_lst _ | with_reducible exact eq_int' _ _ | with_reducible exact ne_int' _ _ | with_reducible exact lt_int' _ _ | with_reducible exact gt_int' _ _ | with_reducible exact le_int' _ _ | with_reducible exact ge_int' _ _))
  apply sq (m1 := m)
  · (repeat' (first | with_reducible exact ev_C | ((with_reducible apply ev_V); exact rfl) | with_reducible exact ev_nil | with_reducible apply ev_cons | with_reducible apply ev_op | with_reducible apply ev_un | with_reducible apply ev_call | (with_reducible apply ev_tup) | (with_reducible apply ev_lst) | exact Nat.le_of_ble_eq_true rfl | with_reducible apply ev_sset | ((with_reducible apply set_eq); first | (simp only [List.set_cons_succ, List.set_cons_zero]; done) | (simp only [List.set_cons_succ, List.set_cons_zero]; exact rfl) | exact rfl) | with_reducible exact ev_noPart | with_reducible apply ev_ret | with_reducible apply ev_T | with_reducible apply ev_not | with_reducible apply ev_notV | with_reducible apply ev_isN | with_reducible apply ev_notN | with_reducible apply ev_part | with_reducible apply ev_ioGet | with_reducible apply ev_putIo | with_reducible exact add_int _ _ | with_reducible exact sub_int' _ _ | with_reducible exact int_int _ | with_reducible exact neg_int' _ | with_reducible exact tuple_strs _ | with_reducible exact tuple_lst _ | with_reducible exact list_lst _ | with_reducible exact items_lst _ | with_reducible exact items_tup _ | with_reducible exact items_txt _ | with_reducible apply ev_items | with_reducible apply ev_rng | with_reducible apply ev_sl | with_reducible exact len_txt _ | with_reducible exact len_tup _ | with_reducible exact len_lst _ | with_reducible exact eq_int' _ _ | with_reducible exact ne_int' _ _ | with_reducible exact lt_int' _ _ | with_reducible exact gt_int' _ _ | with_reducible exact le_int' _ _ | with_reducible exact ge_int' _ _))
  apply sq (m1 := m)
  · apply fo (m1 := m)
    · (repeat' (first | with_reducible exact ad | with_reducible exact it | with_reducible exact ev_C | ((with_reducible apply ev_V); exact rfl) | with_reducible exact ev_nil | with_reducible apply ev_cons | with_reducible apply ev_op | with_reducible apply ev_un | with_reducible apply ev_call | (with_reducible apply ev_tup) | (with_reducible apply ev_lst) | exact Nat.le_of_ble_eq_true rfl | with_reducible apply ev_sset | ((with_reducible apply set_eq); first | (simp only [List.set_cons_succ, List.set_cons_zero]; done) | (simp only [List.set_cons_succ, List.set_cons_zero]; exact rfl) | exact rfl) | with_reducible exact ev_noPart | with_reducible apply ev_ret | with_reducible apply ev_T | with_reducible apply ev_not | with_reducible apply ev_notV | with_reducible apply ev_isN | with_reducible apply ev_notN | with_reducible apply ev_part | with_reducible apply ev_ioGet | with_reducible apply ev_putIo | with_reducible exact add_int _ _ | with_reducible exact sub_int' _ _ | with_reducible exact int_int _ | with_reducible exact neg_int' _ | with_reducible exact tuple_strs _ | with_reducible exact tuple_lst _ | with_reducible exact list_lst _ | with_reducible exact items_lst _ | with_reducible exact items_tup _ | with_reducible exact items_txt _ | with_reducible apply ev_items | with_reducible apply ev_rng | with_reducible apply ev_sl | with_reducible exact len_txt _ | with_reducible exact len_tup _ | with_reducible exact len_lst _ | with_reducible exact eq_int' _ _ | with_reducible exact ne_int' _ _ | with_reducible exact lt_int' _ _ | with_reducible exact gt_int' _ _ | with_reducible exact le_int' _ _ | with_reducible exact ge_int' _ _))
    · exact hloop
  apply sq (m1 := m)
  · apply iff (m1 := m)
    · refine ev_not (b := true) (m1 := m) (ev_T ?_)
      (repeat' (first | with_reducible exact ts | with_reducible exact tl | with_reducible exact isr | with_reducible exact ev_C | ((with_reducible apply ev_V); exact rfl) | with_reducible exact ev_nil | with_reducible apply ev_cons | with_reducible apply ev_op | with_reducible apply ev_un | with_reducible apply ev_call | (with_reducible apply ev_tup) | (with_reducible apply ev_lst) | exact Nat.le_of_ble_eq_true rfl | with_reducible apply ev_sset | ((with_reducible apply set_eq); first | (simp only [List.set_cons_succ, List.set_cons_zero]; done) | (simp only [List.set_cons_succ, List.set_cons_zero]; exact rfl) | exact rfl) | with_reducible exact ev_noPart | with_reducible apply ev_ret | with_reducible apply ev_T | with_reducible apply ev_not | with_reducible apply ev_notV | with_reducible apply ev_isN | with_reducible apply ev_notN | with_reducible apply ev_part | with_reducible apply ev_ioGet | with_reducible apply ev_putIo | with_reducible exact add_int _ _ | with_reducible exact sub_int' _ _ | with_reducible exact int_int _ | with_reducible exact neg_int' _ | with_reducible exact tuple_strs _ | with_reducible exact tuple_lst _ | with_reducible exact list_lst _ | with_reducible exact items_lst _ | with_reducible exact items_tup _ | with_reducible exact items_txt _ | with_reducible apply ev_items | with_reducible apply ev_rng | with_reducible apply ev_sl | with_reducible exact len_txt _ | with_reducible exact len_tup _ | with_reducible exact len_lst _ | with_reducible exact eq_int' _ _ | with_reducible exact ne_int' _ _ | with_reducible exact lt_int' _ _ | with_reducible exact gt_int' _ _ | with_reducible exact le_int' _ _ | with_reducible exact ge_int' _ _))
    · exact rfl
  apply sq (m1 := m)
  · apply iff (m1 := m)
    · apply ev_or_f (m1 := m)
      · apply ev_T (m1 := m)
        apply ev_op
        · apply ev_call
          · apply ev_cons
            · apply ev_lc
              · (repeat' (first | with_reducible exact ev_C | ((with_reducible apply ev_V); exact rfl) | with_reducible exact ev_nil | with_reducible apply ev_cons | with_reducible apply ev_op | with_reducible apply ev_un | with_reducible apply ev_call | (with_reducible apply ev_tup) | (with_reducible apply ev_lst) | exact Nat.le_of_ble_eq_true rfl | with_reducible apply ev_sset | ((with_reducible apply set_eq); first | (simp only [List.set_cons_succ, List.set_cons_zero]; done) | (simp only [List.set_cons_succ, List.set_cons_zero]; exact rfl) | exact rfl) | with_reducible exact ev_noPart | with_reducible apply ev_ret | with_reducible apply ev_T | with_reducible apply ev_not | with_reducible apply ev_notV | with_reducible apply ev_isN | with_reducible apply ev_notN | with_reducible apply ev_part | with_reducible apply ev_ioGet | with_reducible apply ev_putIo | with_reducible exact add_int _ _ | with_reducible exact sub_int' _ _ | with_reducible exact int_int _ | with_reducible exact neg_int' _ | with_reducible exact tuple_strs _ | with_reducible exact tuple_lst _ | with_reducible exact list_lst _ | with_reducible exact items_lst _ | with_reducible exact items_tup _ | with_reducible exact items_txt _ | with_reducible apply ev_items | with_reducible apply ev_rng | with_reducible apply ev_sl | with_reducible exact len_txt _ | with_reducible exact len_tup _ | with_reducible exact len_lst _ | with_reducible exact eq_int' _ _ | with_reducible exact ne_int' _ _ | with_reducible exact lt_int' _ _ | with_reducible exact gt_int' _ _ | with_reducible exact le_int' _ _ | with_reducible exact ge_int' _ _))
              · exact sideA _ rfl m
              · rw [f1, List.length_map]; omega
            · exact ev_nil
          · rw [f1]; exact tuple_strs _
        · exact ev_V rfl
        · exact ta
      · apply ev_T (m1 := m)
        apply ev_op
        · apply ev_call
          · apply ev_cons
            · apply ev_lc
              · (repeat' (first | with_reducible exact ev_C | ((with_reducible apply ev_V); exact rfl) | with_reducible exact ev_nil | with_reducible apply ev_cons | with_reducible apply ev_op | with_reducible apply ev_un | with_reducible apply ev_call | (with_reducible apply ev_tup) | (with_reducible apply ev_lst) | exact Nat.le_of_ble_eq_true rfl | with_reducible apply ev_sset | ((with_reducible apply set_eq); first | (simp only [List.set_cons_succ, List.set_cons_zero]; done) | (simp only [List.set_cons_succ, List.set_cons_zero]; exact rfl) | exact rfl) | with_reducible exact ev_noPart | with_reducible apply ev_ret | with_reducible apply ev_T | with_reducible apply ev_not | with_reducible apply ev_notV | with_reducible apply ev_isN | with_reducible apply ev_notN | with_reducible apply ev_part | with_reducible apply ev_ioGet | with_reducible apply ev_putIo | with_reducible exact add_int _ _ | with_reducible exact sub_int' _ _ | with_reducible exact int_int _ | with_reducible exact neg_int' _ | with_reducible exact tuple_strs _ | with_reducible exact tuple_lst _ | with_reducible exact list_lst _ | with_reducible exact items_lst _ | with_reducible exact items_tup _ | with_reducible exact items_txt _ | with_reducible apply ev_items | with_reducible apply ev_rng | with_reducible apply ev_sl | with_reducible exact len_txt _ | with_reducible exact len_tup _ | with_reducible exact len_lst _ | with_reducible exact eq_int' _ _ | with_reducible exact ne_int' _ _ | with_reducible exact lt_int' _ _ | with_reducible exact gt_int' _ _ | with_reducible exact le_int' _ _ | with_reducible exact ge_int' _ _))
              · exact sideB _ rfl m
              · rw [f2, List.length_map]; omega
            · exact ev_nil
          · rw [f2]; exact tuple_strs _
        · exact ev_V rfl
        · exact tb
    · exact rfl
  · apply iff (m1 := m)
    · (repeat' (first | with_reducible exact ls | with_reducible exact lk2 | with_reducible exact nl | with_reducible exact ev_C | ((with_reducible apply ev_V); exact rfl) | with_reducible exact ev_nil | with_reducible apply ev_cons | with_reducible apply ev_op | with_reducible apply ev_un | with_reducible apply ev_call | (with_reducible apply ev_tup) | (with_reducible apply ev_lst) | exact Nat.le_of_ble_eq_true rfl | with_reducible apply ev_sset | ((with_reducible apply set_eq); first | (simp only [List.set_cons_succ, List.set_cons_zero]; done) | (simp only [List.set_cons_succ, List.set_cons_zero]; exact rfl) | exact rfl) | with_reducible exact ev_noPart | with_reducible apply ev_ret | with_reducible apply ev_T | with_reducible apply ev_not | with_reducible apply ev_notV | with_reducible apply ev_isN | with_reducible apply ev_notN | with_reducible apply ev_part | with_reducible apply ev_ioGet | with_reducible apply ev_putIo | with_reducible exact add_int _ _ | with_reducible exact sub_int' _ _ | with_reducible exact int_int _ | with_reducible exact neg_int' _ | with_reducible exact tuple_strs _ | with_reducible exact tuple_lst _ | with_reducible exact list_lst _ | with_reducible exact items_lst _ | with_reducible exact items_tup _ | with_reducible exact items_txt _ | with_reducible apply ev_items | with_reducible apply ev_rng | with_reducible apply ev_sl | with_reducible exact len_txt _ | with_reducible exact len_tup _ | with_reducible exact len_lst _ | with_reducible exact eq_int' _ _ | with_reducible exact ne_int' _ _ | with_reducible exact lt_int' _ _ | with_reducible exact gt_int' _ _ | with_reducible exact le_int' _ _ | with_reducible exact ge_int' _ _))
    · exact rfl
theorem turn_ok {ds : List Int} (G : Good ds) (k : Nat) (r0 r1 r3 r4 r5 r6 r7 r8 r9 r10 r11 r12 r13 r14 : Option PyData) : ∃ s4 s5 s6 s7 s8 s9 s10 s11 s12 s13 s14 k',
    gTurn [r0, r1, none, r3, r4, r5, r6, r7, r8, r9, r10, r11, r12, r13, r14] (some (made ds k)) = some (.nx [r0, r1, none, r3, s4, s5, s6, s7, s8, s9, s10, s11, s12, s13, s14] (some (made ds k'))) := by
  obtain ⟨a, k1, T1, e1⟩ := text_ok G k 6 (by decide)
  have e1 : M_l_made_text (made ds k) [.int 6] = some (txt a, made ds k1) := e1
  obtain ⟨r, hr, e2⟩ := take_ok G k1 3 (by decide)
  have gt := gt_nat r 0
  have second : ∃ (l : List Str) (k2 : Nat), (∀ x ∈ l, x ∈ lines) ∧ (fIf (fT (fOp gtD (fCallI M_l_take (fCons (fC (.int 3)) fNil)) (fC (.int 0)))) (fCallI M_l_bent_lines (fCons (fV 4) fNil)) (fCallI M_l_made_text (fCons (fC (.int 6)) fNil)))
      [r0, r1, none, r3, some (txt a), r5, r6, r7, r8, r9, r10, r11, r12, r13, r14] (some (made ds k1)) = some (txt l, some (made ds k2)) := by
    by_cases c : 0 < r
    · rw [decide_eq_true c] at gt
      obtain ⟨l, k2, T2, e3⟩ := bent_ok G (k1 + 1) 6 a T1 (by decide)
      refine ⟨l, k2, T2.2, ?_⟩
      refine (ev_if_t (m1 := some (made ds (k1 + 1))) (ev_T ?_)).trans ?_
      · (repeat' (first | with_reducible apply ev_callI | with_reducible exact e2 | exact gt | with_reducible exact ev_C | ((with_reducible apply ev_V); exact rfl) | with_reducible exact ev_nil | with_reducible apply ev_cons | with_reducible apply ev_op | with_reducible apply ev_un | with_reducible apply ev_call | (with_reducible apply ev_tup) | (with_reducible apply ev_lst) | exact Nat.le_of_ble_eq_true rfl | with_reducible apply ev_sset | ((with_reducible apply set_eq); first | (simp only [List.set_cons_succ, List.set_cons_zero]; done) | (simp only [List.set_cons_succ, List.set_cons_zero]; exact rfl) | exact rfl) | with_reducible exact ev_noPart | with_reducible apply ev_ret | with_reducible apply ev_T | with_reducible apply ev_not | with_reducible apply ev_notV | with_reducible apply ev_isN | with_reducible apply ev_notN | with_reducible apply ev_part | with_reducible apply ev_ioGet | with_reducible apply ev_putIo | with_reducible exact add_int _ _ | with_reducible exact sub_int' _ _ | with_reducible exact int_int _ | with_reducible exact neg_int' _ | with_reducible exact tuple_strs _ | with_reducible exact tuple_lst _ | with_reducible exact list_lst _ | with_reducible exact items_lst _ | with_reducible exact items_tup _ | with_reducible exact items_txt _ | with_reducible apply ev_items | with_reducible apply ev_rng | with_reducible apply ev_sl | with_reducible exact len_txt _ | with_reducible exact len_tup _ | with_reducible exact len_lst _ | with_reducible exact eq_int' _ _ | with_reducible exact ne_int' _ _ | with_reducible exact lt_int' _ _ | with_reducible exact gt_int' _ _ | with_reducible exact le_int' _ _ | with_reducible exact ge_int' _ _))
      · (repeat' (first | with_reducible apply ev_callI | with_reducible exact e3 | with_reducible exact ev_C | ((with_reducible apply ev_V); exact rfl) | with_reducible exact ev_nil | with_reducible apply ev_cons | with_reducible apply ev_op | with_reducible apply ev_un | with_reducible apply ev_call | (with_reducible apply ev_tup) | (with_reducible apply ev_lst) | exact Nat.le_of_ble_eq_true rfl | with_reducible apply ev_sset | ((with_reducible apply set_eq); first | (simp only [List.set_cons_succ, List.set_cons_zero]; done) | (simp only [List.set_cons_succ, List.set_cons_zero]; exact rfl) | exact rfl) | with_reducible exact ev_noPart | with_reducible apply ev_ret | with_reducible apply ev_T | with_reducible apply ev_not | with_reducible apply ev_notV | with_reducible apply ev_isN | with_reducible apply ev_notN | with_reducible apply ev_part | with_reducible apply ev_ioGet | with_reducible apply ev_putIo | with_reducible exact add_int _ _ | with_reducible exact sub_int' _ _ | with_reducible exact int_int _ | with_reducible exact neg_int' _ | with_reducible exact tuple_strs _ | with_reducible exact tuple_lst _ | with_reducible exact list_lst _ | with_reducible exact items_lst _ | with_reducible exact items_tup _ | with_reducible exact items_txt _ | with_reducible apply ev_items | with_reducible apply ev_rng | with_reducible apply ev_sl | with_reducible exact len_txt _ | with_reducible exact len_tup _ | with_reducible exact len_lst _ | with_reducible exact eq_int' _ _ | with_reducible exact ne_int' _ _ | with_reducible exact lt_int' _ _ | with_reducible exact gt_int' _ _ | with_reducible exact le_int' _ _ | with_reducible exact ge_int' _ _))
    · rw [decide_eq_false c] at gt
      obtain ⟨l, k2, T2, e3⟩ := text_ok G (k1 + 1) 6 (by decide)
      have e3 : M_l_made_text (made ds (k1 + 1)) [.int 6] = some (txt l, made ds k2) := e3
      refine ⟨l, k2, T2.2, ?_⟩
      refine (ev_if_f (m1 := some (made ds (k1 + 1))) (ev_T ?_)).trans ?_
      · (repeat' (first | with_reducible apply ev_callI | with_reducible exact e2 | exact gt | with_reducible exact ev_C | ((with_reducible apply ev_V); exact rfl) | with_reducible exact ev_nil | with_reducible apply ev_cons | with_reducible apply ev_op | with_reducible apply ev_un | with_reducible apply ev_call | (with_reducible apply ev_tup) | (with_reducible apply ev_lst) | exact Nat.le_of_ble_eq_true rfl | with_reducible apply ev_sset | ((with_reducible apply set_eq); first | (simp only [List.set_cons_succ, List.set_cons_zero]; done) | (simp only [List.set_cons_succ, List.set_cons_zero]; exact rfl) | exact rfl) | with_reducible exact ev_noPart | with_reducible apply ev_ret | with_reducible apply ev_T | with_reducible apply ev_not | with_reducible apply ev_notV | with_reducible apply ev_isN | with_reducible apply ev_notN | with_reducible apply ev_part | with_reducible apply ev_ioGet | with_reducible apply ev_putIo | with_reducible exact add_int _ _ | with_reducible exact sub_int' _ _ | with_reducible exact int_int _ | with_reducible exact neg_int' _ | with_reducible exact tuple_strs _ | with_reducible exact tuple_lst _ | with_reducible exact list_lst _ | with_reducible exact items_lst _ | with_reducible exact items_tup _ | with_reducible exact items_txt _ | with_reducible apply ev_items | with_reducible apply ev_rng | with_reducible apply ev_sl | with_reducible exact len_txt _ | with_reducible exact len_tup _ | with_reducible exact len_lst _ | with_reducible exact eq_int' _ _ | with_reducible exact ne_int' _ _ | with_reducible exact lt_int' _ _ | with_reducible exact gt_int' _ _ | with_reducible exact le_int' _ _ | with_reducible exact ge_int' _ _))
      · (repeat' (first | with_reducible apply ev_callI | with_reducible exact e3 | with_reducible exact ev_C | ((with_reducible apply ev_V); exact rfl) | with_reducible exact ev_nil | with_reducible apply ev_cons | with_reducible apply ev_op | with_reducible apply ev_un | with_reducible apply ev_call | (with_reducible apply ev_tup) | (with_reducible apply ev_lst) | exact Nat.le_of_ble_eq_true rfl | with_reducible apply ev_sset | ((with_reducible apply set_eq); first | (simp only [List.set_cons_succ, List.set_cons_zero]; done) | (simp only [List.set_cons_succ, List.set_cons_zero]; exact rfl) | exact rfl) | with_reducible exact ev_noPart | with_reducible apply ev_ret | with_reducible apply ev_T | with_reducible apply ev_not | with_reducible apply ev_notV | with_reducible apply ev_isN | with_reducible apply ev_notN | with_reducible apply ev_part | with_reducible apply ev_ioGet | with_reducible apply ev_putIo | with_reducible exact add_int _ _ | with_reducible exact sub_int' _ _ | with_reducible exact int_int _ | with_reducible exact neg_int' _ | with_reducible exact tuple_strs _ | with_reducible exact tuple_lst _ | with_reducible exact list_lst _ | with_reducible exact items_lst _ | with_reducible exact items_tup _ | with_reducible exact items_txt _ | with_reducible apply ev_items | with_reducible apply ev_rng | with_reducible apply ev_sl | with_reducible exact len_txt _ | with_reducible exact len_tup _ | with_reducible exact len_lst _ | with_reducible exact eq_int' _ _ | with_reducible exact ne_int' _ _ | with_reducible exact lt_int' _ _ | with_reducible exact gt_int' _ _ | with_reducible exact le_int' _ _ | with_reducible exact ge_int' _ _))
  obtain ⟨l, k2, hl, e4⟩ := second
  have sl : slD (txt l) none (some 7) = some (txt (l.take 7)) := sl_txt_to l 7
  have P : Pair a (l.take 7) := ⟨by have := T1.1; omega, by rw [List.length_take]; omega, T1.2, fun x hx => hl x (List.mem_of_mem_take hx)⟩
  obtain ⟨s6, s7, s8, s9, s10, s11, s12, s13, s14, h⟩ := turn_tail P r0 r1 r3 (some (txt l)) r6 r7 r8 r9 r10 r11 r12 r13 r14 (some (made ds k2))
  refine ⟨some (txt a), some (txt (l.take 7)), s6, s7, s8, s9, s10, s11, s12, s13, s14, k2, ?_⟩
  unfold gTurn
  apply sq
  · (repeat' (first | with_reducible apply ev_callI | with_reducible exact e1 | with_reducible exact ev_C | ((with_reducible apply ev_V); exact rfl) | with_reducible exact ev_nil | with_reducible apply ev_cons | with_reducible apply ev_op | with_reducible apply ev_un | with_reducible apply ev_call | (with_reducible apply ev_tup) | (with_reducible apply ev_lst) | exact Nat.le_of_ble_eq_true rfl | with_reducible apply ev_sset | ((with_reducible apply set_eq); first | (simp only [List.set_cons_succ, List.set_cons_zero]; done) | (simp only [List.set_cons_succ, List.set_cons_zero]; exact rfl) | exact rfl) | with_reducible exact ev_noPart | with_reducible apply ev_ret | with_reducible apply ev_T | with_reducible apply ev_not | with_reducible apply ev_notV | with_reducible apply ev_isN | with_reducible apply ev_notN | with_reducible apply ev_part | with_reducible apply ev_ioGet | with_reducible apply ev_putIo | with_reducible exact add_int _ _ | with_reducible exact sub_int' _ _ | with_reducible exact int_int _ | with_reducible exact neg_int' _ | with_reducible exact tuple_strs _ | with_reducible exact tuple_lst _ | with_reducible exact list_lst _ | with_reducible exact items_lst _ | with_reducible exact items_tup _ | with_reducible exact items_txt _ | with_reducible apply ev_items | with_reducible apply ev_rng | with_reducible apply ev_sl | with_reducible exact len_txt _ | with_reducible exact len_tup _ | with_reducible exact len_lst _ | with_reducible exact eq_int' _ _ | with_reducible exact ne_int' _ _ | with_reducible exact lt_int' _ _ | with_reducible exact gt_int' _ _ | with_reducible exact le_int' _ _ | with_reducible exact ge_int' _ _))
  apply sq
  · apply ev_sset
    · exact e4
    · exact rfl
  apply sq
  · (repeat' (first | with_reducible exact sl | with_reducible exact ev_C | ((with_reducible apply ev_V); exact rfl) | with_reducible exact ev_nil | with_reducible apply ev_cons | with_reducible apply ev_op | with_reducible apply ev_un | with_reducible apply ev_call | (with_reducible apply ev_tup) | (with_reducible apply ev_lst) | exact Nat.le_of_ble_eq_true rfl | with_reducible apply ev_sset | ((with_reducible apply set_eq); first | (simp only [List.set_cons_succ, List.set_cons_zero]; done) | (simp only [List.set_cons_succ, List.set_cons_zero]; exact rfl) | exact rfl) | with_reducible exact ev_noPart | with_reducible apply ev_ret | with_reducible apply ev_T | with_reducible apply ev_not | with_reducible apply ev_notV | with_reducible apply ev_isN | with_reducible apply ev_notN | with_reducible apply ev_part | with_reducible apply ev_ioGet | with_reducible apply ev_putIo | with_reducible exact add_int _ _ | with_reducible exact sub_int' _ _ | with_reducible exact int_int _ | with_reducible exact neg_int' _ | with_reducible exact tuple_strs _ | with_reducible exact tuple_lst _ | with_reducible exact list_lst _ | with_reducible exact items_lst _ | with_reducible exact items_tup _ | with_reducible exact items_txt _ | with_reducible apply ev_items | with_reducible apply ev_rng | with_reducible apply ev_sl | with_reducible exact len_txt _ | with_reducible exact len_tup _ | with_reducible exact len_lst _ | with_reducible exact eq_int' _ _ | with_reducible exact ne_int' _ _ | with_reducible exact lt_int' _ _ | with_reducible exact gt_int' _ _ | with_reducible exact le_int' _ _ | with_reducible exact ge_int' _ _))
  · exact h
theorem last_ok (ρ : DEnv) (m : Io) : fCall (M_l_is 3) (fCons (fCall M_told_script (fCons (fTup (fCons (fC (.str "a")) (fCons (fC (.str "b")) fNil))) (fCons (fTup (fCons (fC (.str "b")) (fCons (fC (.str "a")) fNil))) fNil))) (fCons (fTup (fCons (fTup (fCons (fC (.str "add")) (fCons (fC (.str "b")) fNil))) (fCons (fTup (fCons (fC (.str "keep")) (fCons (fC (.str "a")) fNil))) (fCons (fTup (fCons (fC (.str "bar")) (fCons (fC (.str "b")) fNil))) fNil)))) fNil)) ρ m = some (.bool true, m) := by kernel_rfl
end K01
namespace K01
open PySem PySem.Spec PyProof.Rows L2 DL
theorem law_ok (ns : List Int) : runP 1 15 (g_law (M_l_is 3) M_told_script M_told_keeping M_l_keeping M_l_all_keepings M_l_take M_l_bent_lines M_l_made_text M_l_draws M_l_cell) [scrD ns] = some (.bool true) := by
  have r3 : range1D [.int 3] = some ((List.range 3).map fun k => PyData.int (k : Nat)) := range1_nat (n := 3) (by decide)
  obtain ⟨ρ', m', h1, ⟨r1, r3', r4, r5, r6, r7, r8, r9, r10, r11, r12, r13, r14, rfl⟩⟩ := for_up (b := bName 1) (s := (fSeq (fIoNew2 2 "draws" "at" (fCall M_l_draws (fCons (fCall M_l_cell (fCons (fV 0) (fCons (fV 1) fNil))) (fCons (fC (.int 60)) fNil))) (fC (.int 0)))
    (fFor (fRng range1D (fCons (fC (.int 3)) fNil)) (bName 3) gTurn))) 3 (fun k => PyData.int (k : Nat))
    (fun _ ρ _ => ∃ r1 r3 r4 r5 r6 r7 r8 r9 r10 r11 r12 r13 r14, ρ = [some (scrD ns), r1, none, r3, r4, r5, r6, r7, r8, r9, r10, r11, r12, r13, r14])
    (ρ := [some (scrD ns), none, none, none, none, none, none, none, none, none, none, none, none, none, none]) (m := none) ⟨none, none, none, none, none, none, none, none, none, none, none, none, none, rfl⟩ (by
      rintro i ρ m hi ⟨r1, r3', r4, r5, r6, r7, r8, r9, r10, r11, r12, r13, r14, rfl⟩
      obtain ⟨cv, ec⟩ := cell_ok ns i (by omega)
      obtain ⟨ds, G, ed⟩ := draws_ok cv
      obtain ⟨ρ', m', h1, ⟨s3, s4, s5, s6, s7, s8, s9, s10, s11, s12, s13, s14, k', rfl, rfl⟩⟩ := for_up (b := bName 3) (s := gTurn) 3 (fun k => PyData.int (k : Nat))
        (fun _ ρ m => ∃ r3 r4 r5 r6 r7 r8 r9 r10 r11 r12 r13 r14 k', ρ = [some (scrD ns), some (.int (i : Nat)), none, r3, r4, r5, r6, r7, r8, r9, r10, r11, r12, r13, r14] ∧ m = some (made ds k'))
        (ρ := [some (scrD ns), some (.int (i : Nat)), none, r3', r4, r5, r6, r7, r8, r9, r10, r11, r12, r13, r14]) (m := some (made ds 0)) ⟨r3', r4, r5, r6, r7, r8, r9, r10, r11, r12, r13, r14, 0, rfl, rfl⟩ (by
          rintro j ρ m hj ⟨r3, r4, r5, r6, r7, r8, r9, r10, r11, r12, r13, r14, k', rfl, rfl⟩
          obtain ⟨s4, s5, s6, s7, s8, s9, s10, s11, s12, s13, s14, k2, h⟩ := turn_ok G k' (some (scrD ns)) (some (.int (i : Nat))) (some (.int (j : Nat))) r4 r5 r6 r7 r8 r9 r10 r11 r12 r13 r14
          exact ⟨_, _, _, rfl, h, ⟨some (.int (j : Nat)), s4, s5, s6, s7, s8, s9, s10, s11, s12, s13, s14, k2, rfl, rfl⟩⟩)
      refine ⟨[some (scrD ns), some (.int (i : Nat)), none, r3', r4, r5, r6, r7, r8, r9, r10, r11, r12, r13, r14], _, some (made ds k'), rfl, ?_, ⟨some (.int (i : Nat)), s3, s4, s5, s6, s7, s8, s9, s10, s11, s12, s13, s14, rfl⟩⟩
      apply sq (m1 := some (made ds 0))
      · refine ev_ioNew2 (x := .list (ds.map .int)) (y := .int 0) (m1 := m) (m2 := m) ?_ ev_C rfl
        (repeat' (first | with_reducible exact ec | with_reducible exact ed | with_reducible exact ev_C | ((with_reducible apply ev_V); exact rfl) | with_reducible exact ev_nil | with_reducible apply ev_cons | with_reducible apply ev_op | with_reducible apply ev_un | with_reducible apply ev_call | (with_reducible apply ev_tup) | (with_reducible apply ev_lst) | exact Nat.le_of_ble_eq_true rfl | with_reducible apply ev_sset | ((with_reducible apply set_eq); first | (simp only [List.set_cons_succ, List.set_cons_zero]; done) | (simp only [List.set_cons_succ, List.set_cons_zero]; exact rfl) | exact rfl) | with_reducible exact ev_noPart | with_reducible apply ev_ret | with_reducible apply ev_T | with_reducible apply ev_not | with_reducible apply ev_notV | with_reducible apply ev_isN | with_reducible apply ev_notN | with_reducible apply ev_part | with_reducible apply ev_ioGet | with_reducible apply ev_putIo | with_reducible exact add_int _ _ | with_reducible exact sub_int' _ _ | with_reducible exact int_int _ | with_reducible exact neg_int' _ | with_reducible exact tuple_strs _ | with_reducible exact tuple_lst _ | with_reducible exact list_lst _ | with_reducible exact items_lst _ | with_reducible exact items_tup _ | with_reducible exact items_txt _ | with_reducible apply ev_items | with_reducible apply ev_rng | with_reducible apply ev_sl | with_reducible exact len_txt _ | with_reducible exact len_tup _ | with_reducible exact len_lst _ | with_reducible exact eq_int' _ _ | with_reducible exact ne_int' _ _ | with_reducible exact lt_int' _ _ | with_reducible exact gt_int' _ _ | with_reducible exact le_int' _ _ | with_reducible exact ge_int' _ _))
      · apply fo
        · (repeat' (first | with_reducible exact r3 | with_reducible exact ev_C | ((with_reducible apply ev_V); exact rfl) | with_reducible exact ev_nil | with_reducible apply ev_cons | with_reducible apply ev_op | with_reducible apply ev_un | with_reducible apply ev_call | (with_reducible apply ev_tup) | (with_reducible apply ev_lst) | exact Nat.le_of_ble_eq_true rfl | with_reducible apply ev_sset | ((with_reducible apply set_eq); first | (simp only [List.set_cons_succ, List.set_cons_zero]; done) | (simp only [List.set_cons_succ, List.set_cons_zero]; exact rfl) | exact rfl) | with_reducible exact ev_noPart | with_reducible apply ev_ret | with_reducible apply ev_T | with_reducible apply ev_not | with_reducible apply ev_notV | with_reducible apply ev_isN | with_reducible apply ev_notN | with_reducible apply ev_part | with_reducible apply ev_ioGet | with_reducible apply ev_putIo | with_reducible exact add_int _ _ | with_reducible exact sub_int' _ _ | with_reducible exact int_int _ | with_reducible exact neg_int' _ | with_reducible exact tuple_strs _ | with_reducible exact tuple_lst _ | with_reducible exact list_lst _ | with_reducible exact items_lst _ | with_reducible exact items_tup _ | with_reducible exact items_txt _ | with_reducible apply ev_items | with_reducible apply ev_rng | with_reducible apply ev_sl | with_reducible exact len_txt _ | with_reducible exact len_tup _ | with_reducible exact len_lst _ | with_reducible exact eq_int' _ _ | with_reducible exact ne_int' _ _ | with_reducible exact lt_int' _ _ | with_reducible exact gt_int' _ _ | with_reducible exact le_int' _ _ | with_reducible exact ge_int' _ _))
        · exact h1)
  show outL (g_law (M_l_is 3) M_told_script M_told_keeping M_l_keeping M_l_all_keepings M_l_take M_l_bent_lines M_l_made_text M_l_draws M_l_cell [some (scrD ns), none, none, none, none, none, none, none, none, none, none, none, none, none, none] none) = _
  refine outL_of (m := m') ?_
  unfold g_law
  apply sq
  · apply fo
    · (repeat' (first | with_reducible exact r3 | with_reducible exact ev_C | ((with_reducible apply ev_V); exact rfl) | with_reducible exact ev_nil | with_reducible apply ev_cons | with_reducible apply ev_op | with_reducible apply ev_un | with_reducible apply ev_call | (with_reducible apply ev_tup) | (with_reducible apply ev_lst) | exact Nat.le_of_ble_eq_true rfl | with_reducible apply ev_sset | ((with_reducible apply set_eq); first | (simp only [List.set_cons_succ, List.set_cons_zero]; done) | (simp only [List.set_cons_succ, List.set_cons_zero]; exact rfl) | exact rfl) | with_reducible exact ev_noPart | with_reducible apply ev_ret | with_reducible apply ev_T | with_reducible apply ev_not | with_reducible apply ev_notV | with_reducible apply ev_isN | with_reducible apply ev_notN | with_reducible apply ev_part | with_reducible apply ev_ioGet | with_reducible apply ev_putIo | with_reducible exact add_int _ _ | with_reducible exact sub_int' _ _ | with_reducible exact int_int _ | with_reducible exact neg_int' _ | with_reducible exact tuple_strs _ | with_reducible exact tuple_lst _ | with_reducible exact list_lst _ | with_reducible exact items_lst _ | with_reducible exact items_tup _ | with_reducible exact items_txt _ | with_reducible apply ev_items | with_reducible apply ev_rng | with_reducible apply ev_sl | with_reducible exact len_txt _ | with_reducible exact len_tup _ | with_reducible exact len_lst _ | with_reducible exact eq_int' _ _ | with_reducible exact ne_int' _ _ | with_reducible exact lt_int' _ _ | with_reducible exact gt_int' _ _ | with_reducible exact le_int' _ _ | with_reducible exact ge_int' _ _))
    · exact h1
  · apply ev_ret
    exact last_ok _ m'
/-! ### each def with its place, the head -/
def dd (i : Nat) (x : Str) : He.DefD := ⟨(x, none), x, x, defArgs (top i), defBody (top i), defScope (top i), [], []⟩
def fn : List He.DefD := [dd 1 "most_kept", dd 2 "told_keeping", dd 3 "is_begun", dd 4 "told_script", dd 6 "_law_cell", dd 7 "_law_draws", dd 8 "_law_is_integer", dd 9 "_law_is", dd 10 "_law_take", dd 11 "_law_made_line", dd 12 "_law_made_text", dd 13 "_law_bent_lines", dd 14 "_law_keeping", dd 15 "_law_all_keepings", dd 16 "law"]
def fa : List He.Fa := [.glo "most_kept", .glo "told_keeping", .glo "is_begun", .glo "told_script", .glo "_law_cell", .glo "_law_draws", .glo "_law_is_integer", .glo "_law_is", .glo "_law_take", .glo "_law_made_line", .glo "_law_made_text", .glo "_law_bent_lines", .glo "_law_keeping", .glo "_law_all_keepings", .glo "law",
  .free "len", .free "range", .free "max", .free "min", .free "tuple", .free "list", .free "abs", .free "int", .free "isinstance", .free "bool", .free "str", .free "all", .free "any", .free "sorted", .free "set", .free "enumerate"]
def loose : List Str := ["most_kept", "told_keeping", "is_begun", "told_script", "_law_cell", "_law_draws", "_law_is_integer", "_law_is", "_law_take", "_law_made_line", "_law_made_text", "_law_bent_lines", "_law_keeping", "_law_all_keepings"]
abbrev R : PySem.W.OpenRow := PySem.W.OpenLaw.row PySem.Challenge.rw_skein_k01_whole_differences_of_texts
abbrev hk : PySem.W.Hook := He.hookD 4 fa fn
def ob (s : PySem.W.SharedT) : He.AlD := He.obsDG 4 fa fn (HandSHeadRun.getT s)
theorem ob_eq (s : PySem.W.SharedT) : ob s = hk.obs s.abs := He.obsDG_eq (HandSHeadRun.getT_eq s)
theorem run (w : World) : HandSHeadRun.RunEq R (PySem.W.view R.prog [16]) hk ob 2000 loose w := by
  intro os
  kernel_rfl
def spLaw (K : PySem.W.Frag) : Sp := fun vs H Q _ => ∃ (a : Addr) (ns : List Int), vs = [.ref a] ∧ SqL K H a (ns.map V.int) ∧ ∀ H', Q (.bl true) H'
theorem rp_ints {K : PySem.W.Frag} {G : Hp} : ∀ ns : List Int, RpAll K G (ns.map V.int) (ns.map PyData.int)
  | [] => .nil
  | n :: r => .cons (.int n) (rp_ints r)
abbrev FnP (K : PySem.W.Frag) (x : Str) (st : Stmt) (f : Addr) (fd : FuncData) : Prop := FunD K x x (defArgs st) (defBody st) (defScope st) [] [] f fd
section
variable {P : Program} {w : World} {K : PySem.W.Frag} {mg : Str → Option Value} {base : Heap}
def c_most_kept (B : Bl mg)  {f : Addr} {fd : FuncData} (F : FnP K "most_kept" s_most_kept f fd) (m : mg "most_kept" = some (.ref f)) : Callee P w K mg base "most_kept" ["first", "second"] 1 (spP K M_most_kept) :=
  Callee.mk' (dvs := []) F m (dfnR F sc_most_kept rfl (by decide) fun f cdv A outer s H E hr => w_most_kept B  f cdv A outer s H E hr) (F.bindsN fun _ _ _ _ _ _ us hl => match us, hl with | [_, _], _ => rfl)
def c_is_begun (B : Bl mg)  {f : Addr} {fd : FuncData} (F : FnP K "is_begun" s_is_begun f fd) (m : mg "is_begun" = some (.ref f)) : Callee P w K mg base "is_begun" ["first", "second", "table", "i", "j"] 1 (spP K M_is_begun) :=
  Callee.mk' (dvs := []) F m (dfnR F sc_is_begun rfl (by decide) fun f cdv A outer s H E hr => w_is_begun B  f cdv A outer s H E hr) (F.bindsN fun _ _ _ _ _ _ us hl => match us, hl with | [_, _, _, _, _], _ => rfl)
def c_told_keeping (B : Bl mg) (C_is_begun : Callee P w K mg base "is_begun" ["first", "second", "table", "i", "j"] 1 (spP K M_is_begun)) (C_most_kept : Callee P w K mg base "most_kept" ["first", "second"] 1 (spP K M_most_kept)) {f : Addr} {fd : FuncData} (F : FnP K "told_keeping" s_told_keeping f fd) (m : mg "told_keeping" = some (.ref f)) : Callee P w K mg base "told_keeping" ["first", "second"] 2 (spP K M_told_keeping) :=
  Callee.mk' (dvs := []) F m (dfnR F sc_told_keeping rfl (by decide) fun f cdv A outer s H E hr => w_told_keeping B C_is_begun (by decide) C_most_kept (by decide) f cdv A outer s H E hr) (F.bindsN fun _ _ _ _ _ _ us hl => match us, hl with | [_, _], _ => rfl)
def c_told_script (B : Bl mg) (C_told_keeping : Callee P w K mg base "told_keeping" ["first", "second"] 2 (spP K M_told_keeping)) {f : Addr} {fd : FuncData} (F : FnP K "told_script" s_told_script f fd) (m : mg "told_script" = some (.ref f)) : Callee P w K mg base "told_script" ["first", "second"] 3 (spP K M_told_script) :=
  Callee.mk' (dvs := []) F m (dfnR F sc_told_script rfl (by decide) fun f cdv A outer s H E hr => w_told_script B C_told_keeping (by decide) f cdv A outer s H E hr) (F.bindsN fun _ _ _ _ _ _ us hl => match us, hl with | [_, _], _ => rfl)
def c_l_cell (B : Bl mg)  {f : Addr} {fd : FuncData} (F : FnP K "_law_cell" s_l_cell f fd) (m : mg "_law_cell" = some (.ref f)) : Callee P w K mg base "_law_cell" ["script", "k"] 1 (spP K M_l_cell) :=
  Callee.mk' (dvs := []) F m (dfnR F sc_l_cell rfl (by decide) fun f cdv A outer s H E hr => w_l_cell B  f cdv A outer s H E hr) (F.bindsN fun _ _ _ _ _ _ us hl => match us, hl with | [_, _], _ => rfl)
def c_l_draws (B : Bl mg)  {f : Addr} {fd : FuncData} (F : FnP K "_law_draws" s_l_draws f fd) (m : mg "_law_draws" = some (.ref f)) : Callee P w K mg base "_law_draws" ["cell", "count"] 1 (spP K M_l_draws) :=
  Callee.mk' (dvs := []) F m (dfnR F sc_l_draws rfl (by decide) fun f cdv A outer s H E hr => w_l_draws B  f cdv A outer s H E hr) (F.bindsN fun _ _ _ _ _ _ us hl => match us, hl with | [_, _], _ => rfl)
def c_l_is_integer (B : Bl mg)  {f : Addr} {fd : FuncData} (F : FnP K "_law_is_integer" s_l_is_integer f fd) (m : mg "_law_is_integer" = some (.ref f)) : Callee P w K mg base "_law_is_integer" ["value"] 1 (spP K M_l_is_integer) :=
  Callee.mk' (dvs := []) F m (dfnR F sc_l_is_integer rfl (by decide) fun f cdv A outer s H E hr => w_l_is_integer B  f cdv A outer s H E hr) (F.bindsN fun _ _ _ _ _ _ us hl => match us, hl with | [_], _ => rfl)
theorem c_l_is : ∀ n : Nat, Bl mg → Callee P w K mg base "_law_is_integer" ["value"] 1 (spP K M_l_is_integer) → ∀ (f : Addr) (fd : FuncData), FnP K "_law_is" s_l_is f fd → mg "_law_is" = some (.ref f) → Nonempty (Callee P w K mg base "_law_is" ["value", "due"] (1 + n) (spP K (M_l_is n)))
  | 0 => fun B C_l_is_integer f fd F m => ⟨Callee.mk' (dvs := []) F m (⟨(fun _ _ _ _ h => by obtain ⟨_, _, _, _, _, e, _⟩ := h; cases e), (fun _ _ _ _ _ _ _ _ _ _ _ _ _ h => by obtain ⟨_, _, _, _, _, e, _⟩ := h; cases e)⟩) (F.bindsN fun _ _ _ _ _ _ us hl => match us, hl with | [_, _], _ => rfl)⟩
  | n + 1 => fun B C_l_is_integer f fd F m => by
    obtain ⟨C⟩ := c_l_is n B C_l_is_integer f fd F m
    exact ⟨Callee.mk' (dvs := []) F m (dfnR F sc_l_is rfl (by decide) fun f cdv A outer s H E hr => w_l_is B C (Nat.le_refl _) C_l_is_integer (by omega) f cdv A outer s H E hr) (F.bindsN fun _ _ _ _ _ _ us hl => match us, hl with | [_, _], _ => rfl)⟩
def c_l_take (B : Bl mg)  {f : Addr} {fd : FuncData} (F : FnP K "_law_take" s_l_take f fd) (m : mg "_law_take" = some (.ref f)) : Callee P w K mg base "_law_take" ["made", "most"] 1 (spI K M_l_take) :=
  Callee.mk' (dvs := []) F m (dfnRI F sc_l_take rfl (by decide) fun f cdv A outer s H E hr => w_l_take B  f cdv A outer s H E hr) (F.bindsN fun _ _ _ _ _ _ us hl => match us, hl with | [_, _], _ => rfl)
def c_l_made_line (B : Bl mg) (C_l_take : Callee P w K mg base "_law_take" ["made", "most"] 1 (spI K M_l_take)) {f : Addr} {fd : FuncData} (F : FnP K "_law_made_line" s_l_made_line f fd) (m : mg "_law_made_line" = some (.ref f)) : Callee P w K mg base "_law_made_line" ["made"] 2 (spI K M_l_made_line) :=
  Callee.mk' (dvs := []) F m (dfnRI F sc_l_made_line rfl (by decide) fun f cdv A outer s H E hr => w_l_made_line B C_l_take (by decide) f cdv A outer s H E hr) (F.bindsN fun _ _ _ _ _ _ us hl => match us, hl with | [_], _ => rfl)
def c_l_made_text (B : Bl mg) (C_l_take : Callee P w K mg base "_law_take" ["made", "most"] 1 (spI K M_l_take)) (C_l_made_line : Callee P w K mg base "_law_made_line" ["made"] 2 (spI K M_l_made_line)) {f : Addr} {fd : FuncData} (F : FnP K "_law_made_text" s_l_made_text f fd) (m : mg "_law_made_text" = some (.ref f)) : Callee P w K mg base "_law_made_text" ["made", "most"] 3 (spI K M_l_made_text) :=
  Callee.mk' (dvs := []) F m (dfnRI F sc_l_made_text rfl (by decide) fun f cdv A outer s H E hr => w_l_made_text B C_l_take (by decide) C_l_made_line (by decide) f cdv A outer s H E hr) (F.bindsN fun _ _ _ _ _ _ us hl => match us, hl with | [_, _], _ => rfl)
def c_l_bent_lines (B : Bl mg) (C_l_take : Callee P w K mg base "_law_take" ["made", "most"] 1 (spI K M_l_take)) (C_l_made_line : Callee P w K mg base "_law_made_line" ["made"] 2 (spI K M_l_made_line)) {f : Addr} {fd : FuncData} (F : FnP K "_law_bent_lines" s_l_bent_lines f fd) (m : mg "_law_bent_lines" = some (.ref f)) : Callee P w K mg base "_law_bent_lines" ["made", "text"] 3 (spI K M_l_bent_lines) :=
  Callee.mk' (dvs := []) F m (dfnRI F sc_l_bent_lines rfl (by decide) fun f cdv A outer s H E hr => w_l_bent_lines B C_l_take (by decide) C_l_made_line (by decide) f cdv A outer s H E hr) (F.bindsN fun _ _ _ _ _ _ us hl => match us, hl with | [_, _], _ => rfl)
def c_l_keeping (B : Bl mg)  {f : Addr} {fd : FuncData} (F : FnP K "_law_keeping" s_l_keeping f fd) (m : mg "_law_keeping" = some (.ref f)) : Callee P w K mg base "_law_keeping" ["first", "second"] 1 (spP K M_l_keeping) :=
  Callee.mk' (dvs := []) F m (dfnR F sc_l_keeping rfl (by decide) fun f cdv A outer s H E hr => w_l_keeping B  f cdv A outer s H E hr) (F.bindsN fun _ _ _ _ _ _ us hl => match us, hl with | [_, _], _ => rfl)
def c_l_all_keepings (B : Bl mg)  {f : Addr} {fd : FuncData} (F : FnP K "_law_all_keepings" s_l_all_keepings f fd) (m : mg "_law_all_keepings" = some (.ref f)) : Callee P w K mg base "_law_all_keepings" ["first", "second"] 1 (spP K M_l_all_keepings) :=
  Callee.mk' (dvs := []) F m (dfnR F sc_l_all_keepings rfl (by decide) fun f cdv A outer s H E hr => w_l_all_keepings B  f cdv A outer s H E hr) (F.bindsN fun _ _ _ _ _ _ us hl => match us, hl with | [_, _], _ => rfl)
theorem ok_law (B : Bl mg) (C_l_is : Callee P w K mg base "_law_is" ["value", "due"] 4 (spP K (M_l_is 3))) (C_told_script : Callee P w K mg base "told_script" ["first", "second"] 3 (spP K M_told_script)) (C_told_keeping : Callee P w K mg base "told_keeping" ["first", "second"] 2 (spP K M_told_keeping)) (C_l_keeping : Callee P w K mg base "_law_keeping" ["first", "second"] 1 (spP K M_l_keeping)) (C_l_all_keepings : Callee P w K mg base "_law_all_keepings" ["first", "second"] 1 (spP K M_l_all_keepings)) (C_l_take : Callee P w K mg base "_law_take" ["made", "most"] 1 (spI K M_l_take)) (C_l_bent_lines : Callee P w K mg base "_law_bent_lines" ["made", "text"] 3 (spI K M_l_bent_lines)) (C_l_made_text : Callee P w K mg base "_law_made_text" ["made", "most"] 3 (spI K M_l_made_text)) (C_l_draws : Callee P w K mg base "_law_draws" ["cell", "count"] 1 (spP K M_l_draws)) (C_l_cell : Callee P w K mg base "_law_cell" ["script", "k"] 1 (spP K M_l_cell)) {f : Addr} {fd : FuncData} (F : FnP K "law" s_law f fd) : FnOk P w K mg base CX0 5 f fd ["script"] (spLaw K) :=
  (dfnR F sc_law rfl (by decide) fun f cdv A outer s H E hr => w_law B C_l_is (by decide) C_told_script (by decide) C_told_keeping (by decide) C_l_keeping (by decide) C_l_all_keepings (by decide) C_l_take (by decide) C_l_bent_lines (by decide) C_l_made_text (by decide) C_l_draws (by decide) C_l_cell (by decide) f cdv A outer s H E hr).imp fun vs H Q E h => by
    obtain ⟨a, ns, rfl, hS, hQ⟩ := h
    exact ⟨[scrD ns], .bool true, H, .cons (.scr hS (rp_ints ns)) .nil, (fun _ _ e => e), law_ok ns, fun v G' H' _ _ r => by cases r; exact hQ H'⟩
end
theorem facts {P : Program} {w : World} {K : PySem.W.Frag} {h : Heap} {mg : Str → Option Value} {f : Addr} (X : K.In h) (G : h.Ns mainGlobals mg) (hfa : mg ("law" : Str) = some (.ref f)) (c : He.SaysD fa fn K) :
    ∃ fd : FuncData, (∀ (s : Shared) (v : Value), BindsTo s fd ⟨[v], []⟩ [("script", v)]) ∧ ∀ base : Heap, K.In base → base.Ns mainGlobals mg → FnOk P w K mg base CX0 5 f fd ["script"] (spLaw K) := by
  obtain ⟨fd_most_kept, F_most_kept⟩ := c.def_ 0 (d := dd 1 "most_kept") rfl
  obtain ⟨fd_told_keeping, F_told_keeping⟩ := c.def_ 1 (d := dd 2 "told_keeping") rfl
  obtain ⟨fd_is_begun, F_is_begun⟩ := c.def_ 2 (d := dd 3 "is_begun") rfl
  obtain ⟨fd_told_script, F_told_script⟩ := c.def_ 3 (d := dd 4 "told_script") rfl
  obtain ⟨fd_l_cell, F_l_cell⟩ := c.def_ 4 (d := dd 6 "_law_cell") rfl
  obtain ⟨fd_l_draws, F_l_draws⟩ := c.def_ 5 (d := dd 7 "_law_draws") rfl
  obtain ⟨fd_l_is_integer, F_l_is_integer⟩ := c.def_ 6 (d := dd 8 "_law_is_integer") rfl
  obtain ⟨fd_l_is, F_l_is⟩ := c.def_ 7 (d := dd 9 "_law_is") rfl
  obtain ⟨fd_l_take, F_l_take⟩ := c.def_ 8 (d := dd 10 "_law_take") rfl
  obtain ⟨fd_l_made_line, F_l_made_line⟩ := c.def_ 9 (d := dd 11 "_law_made_line") rfl
  obtain ⟨fd_l_made_text, F_l_made_text⟩ := c.def_ 10 (d := dd 12 "_law_made_text") rfl
  obtain ⟨fd_l_bent_lines, F_l_bent_lines⟩ := c.def_ 11 (d := dd 13 "_law_bent_lines") rfl
  obtain ⟨fd_l_keeping, F_l_keeping⟩ := c.def_ 12 (d := dd 14 "_law_keeping") rfl
  obtain ⟨fd_l_all_keepings, F_l_all_keepings⟩ := c.def_ 13 (d := dd 15 "_law_all_keepings") rfl
  obtain ⟨fd_law, F_law⟩ := c.def_ 14 (d := dd 16 "law") rfl
  have m_most_kept := He.glo_ok X G (c.fact 0 (f := .glo "most_kept") rfl)
  have m_told_keeping := He.glo_ok X G (c.fact 1 (f := .glo "told_keeping") rfl)
  have m_is_begun := He.glo_ok X G (c.fact 2 (f := .glo "is_begun") rfl)
  have m_told_script := He.glo_ok X G (c.fact 3 (f := .glo "told_script") rfl)
  have m_l_cell := He.glo_ok X G (c.fact 4 (f := .glo "_law_cell") rfl)
  have m_l_draws := He.glo_ok X G (c.fact 5 (f := .glo "_law_draws") rfl)
  have m_l_is_integer := He.glo_ok X G (c.fact 6 (f := .glo "_law_is_integer") rfl)
  have m_l_is := He.glo_ok X G (c.fact 7 (f := .glo "_law_is") rfl)
  have m_l_take := He.glo_ok X G (c.fact 8 (f := .glo "_law_take") rfl)
  have m_l_made_line := He.glo_ok X G (c.fact 9 (f := .glo "_law_made_line") rfl)
  have m_l_made_text := He.glo_ok X G (c.fact 10 (f := .glo "_law_made_text") rfl)
  have m_l_bent_lines := He.glo_ok X G (c.fact 11 (f := .glo "_law_bent_lines") rfl)
  have m_l_keeping := He.glo_ok X G (c.fact 12 (f := .glo "_law_keeping") rfl)
  have m_l_all_keepings := He.glo_ok X G (c.fact 13 (f := .glo "_law_all_keepings") rfl)
  have e := hfa.symm.trans (He.glo_ok X G (c.fact 14 (f := .glo "law") rfl))
  cases e
  have B : Bl mg := ⟨He.free_ok X G (c.fact 15 (f := .free "len") rfl), He.free_ok X G (c.fact 16 (f := .free "range") rfl), He.free_ok X G (c.fact 17 (f := .free "max") rfl), He.free_ok X G (c.fact 18 (f := .free "min") rfl), He.free_ok X G (c.fact 19 (f := .free "tuple") rfl), He.free_ok X G (c.fact 20 (f := .free "list") rfl), He.free_ok X G (c.fact 21 (f := .free "abs") rfl), He.free_ok X G (c.fact 22 (f := .free "int") rfl), He.free_ok X G (c.fact 23 (f := .free "isinstance") rfl), He.free_ok X G (c.fact 24 (f := .free "bool") rfl), He.free_ok X G (c.fact 25 (f := .free "str") rfl), He.free_ok X G (c.fact 26 (f := .free "all") rfl), He.free_ok X G (c.fact 27 (f := .free "any") rfl), He.free_ok X G (c.fact 28 (f := .free "sorted") rfl), He.free_ok X G (c.fact 29 (f := .free "set") rfl), He.free_ok X G (c.fact 30 (f := .free "enumerate") rfl)⟩
  have b := FunD.bindsA (ps := ["script"]) F_law fun _ _ _ _ _ _ us hl => match us, hl with | [_], _ => rfl
  refine ⟨fd_law, fun s v => b s [v] rfl, fun base _ _ => ?_⟩
  have C_most_kept := c_most_kept (P := P) (w := w) (base := base) B  F_most_kept m_most_kept
  have C_is_begun := c_is_begun (P := P) (w := w) (base := base) B  F_is_begun m_is_begun
  have C_told_keeping := c_told_keeping (P := P) (w := w) (base := base) B C_is_begun C_most_kept F_told_keeping m_told_keeping
  have C_told_script := c_told_script (P := P) (w := w) (base := base) B C_told_keeping F_told_script m_told_script
  have C_l_cell := c_l_cell (P := P) (w := w) (base := base) B  F_l_cell m_l_cell
  have C_l_draws := c_l_draws (P := P) (w := w) (base := base) B  F_l_draws m_l_draws
  have C_l_is_integer := c_l_is_integer (P := P) (w := w) (base := base) B  F_l_is_integer m_l_is_integer
  obtain ⟨C_l_is⟩ := c_l_is (P := P) (w := w) (base := base) 3 B C_l_is_integer _ _ F_l_is m_l_is
  have C_l_take := c_l_take (P := P) (w := w) (base := base) B  F_l_take m_l_take
  have C_l_made_line := c_l_made_line (P := P) (w := w) (base := base) B C_l_take F_l_made_line m_l_made_line
  have C_l_made_text := c_l_made_text (P := P) (w := w) (base := base) B C_l_take C_l_made_line F_l_made_text m_l_made_text
  have C_l_bent_lines := c_l_bent_lines (P := P) (w := w) (base := base) B C_l_take C_l_made_line F_l_bent_lines m_l_bent_lines
  have C_l_keeping := c_l_keeping (P := P) (w := w) (base := base) B  F_l_keeping m_l_keeping
  have C_l_all_keepings := c_l_all_keepings (P := P) (w := w) (base := base) B  F_l_all_keepings m_l_all_keepings
  exact ok_law B C_l_is C_told_script C_told_keeping C_l_keeping C_l_all_keepings C_l_take C_l_bent_lines C_l_made_text C_l_draws C_l_cell F_law
end K01
open PySem PySem.W PySem.Calls PyProof.Rows
theorem PySem.Challenge.cw_skein_k01_whole_differences_of_texts_holds : PySem.Challenge.rw_skein_k01_whole_differences_of_texts.Holds := by
  w_on; o_law
  refine HandSHeadRun.head_any (r := OpenLaw.row PySem.Challenge.rw_skein_k01_whole_differences_of_texts) (q := view (OpenLaw.row PySem.Challenge.rw_skein_k01_whole_differences_of_texts).prog [16]) (H := K01.hk) (ob := K01.ob) (M := 2000) (loose := K01.loose) (d := HandSHeadRun.topDef (OpenLaw.row PySem.Challenge.rw_skein_k01_whole_differences_of_texts).prog 16) (kwd := []) K01.ob_eq
    (by kernel_rfl) (fun s => by kernel_rfl) K01.run (by kernel_rfl) (by kernel_rfl) (by kernel_rfl) (by rfl) (by first | assumption | decide +kernel) (by decide +kernel) ⟨rfl, rfl, rfl, rfl, rfl, by decide +kernel⟩ ?hw ?hc
  case hw => w_witness2
  case hc =>
    refine L2.walk_ofE (l := PySem.Challenge.rw_skein_k01_whole_differences_of_texts) (n := 63) (k := 5) (x := "script") (CX := L2.CX0) rfl (by decide) (by kernel_rfl) ⟨rfl, by decide, by decide⟩ ?F (fun _ _ _ _ z => z)
    intro w mg fa h Y G hmg0
    obtain ⟨K, KX, c⟩ := Y
    have hmg : mg ("law" : PySem.Str) = some (.ref fa) := by
      have e : (HandSHeadRun.topDef (OpenLaw.row PySem.Challenge.rw_skein_k01_whole_differences_of_texts).prog 16).name = ("law" : PySem.Str) := by kernel_rfl
      rw [← e]
      exact hmg0
    obtain ⟨fd, hb, hF⟩ := K01.facts (P := (PySem.Challenge.rw_skein_k01_whole_differences_of_texts).prog) (w := w) KX G hmg c
    exact ⟨K, fd, K01.spLaw K, KX, hb, fun H a ns hl _ hS => ⟨a, ns, rfl, hS, fun _ => rfl⟩, hF⟩
