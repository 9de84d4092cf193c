import PyProof.Rows.All
import Wide.All
import OpenK.AllK
import Wide.FinOn
import HandS.ForMost
import HandS.Walk
import HandS.ForExc
import HandS.IsInst
import HandS.Wide
import HandS.ExcInit
import HandS.ExcIs
import HandS.Deep
import HandS.TupAny
import HandS.WideBits
import HandS.Strs
import HandS.More
import KE.KDictZip
import KE.KDictList
import HandS.Style
import HandS.Zip
import KE.GoesZip
import HandS.Finally
import HandS.Defaults
import PySem.Challenge.RW_oddsweb_k04_tables_made
set_option Elab.async false
set_option linter.all false
set_option maxRecDepth 100000
set_option maxHeartbeats 4000000
namespace TT
open PySem L2
/-! ### data as trees; each node is owned by the frame, borrowed, or shared for good -/
inductive Fl where
  | own | bor | shr
  deriving DecidableEq
inductive D where
  | dead | non | bl (b : Bool) | int (i : Int) | str (x : Str) | fn (k : Nat) | scr (ns : List Int) | ktup (ks : List Key)
  | tup (fl : Fl) (xs : List D) | lst (fl : Fl) (xs : List D)
  | dk (fl : Fl) (ks : List Key) (vs : List D) | dt (fl : Fl) (ks : List (List Key)) (vs : List D)
  | ins (fl : Fl) (c : Nat) (fs : List Str) (vs : List D)
  | exn (c : Nat) (fs : List Str) (vs : List D)
mutual
/-- no node is owned -/
def noOwn : D → Bool
  | .tup fl xs => (fl != .own) && noOwns xs
  | .lst fl xs => (fl != .own) && noOwns xs
  | .dk fl _ xs => (fl != .own) && noOwns xs
  | .dt fl _ xs => (fl != .own) && noOwns xs
  | .ins fl _ _ xs => (fl != .own) && noOwns xs
  | .exn _ _ xs => noOwns xs
  | _ => true
def noOwns : List D → Bool
  | [] => true
  | x :: xs => noOwn x && noOwns xs
end
mutual
/-- no node is borrowed -/
def noBor : D → Bool
  | .tup fl xs => (fl != .bor) && noBors xs
  | .lst fl xs => (fl != .bor) && noBors xs
  | .dk fl _ xs => (fl != .bor) && noBors xs
  | .dt fl _ xs => (fl != .bor) && noBors xs
  | .ins fl _ _ xs => (fl != .bor) && noBors xs
  | .exn _ _ xs => noBors xs
  | _ => true
def noBors : List D → Bool
  | [] => true
  | x :: xs => noBor x && noBors xs
end
def Fl.frz : Fl → Fl
  | .own => .shr
  | f => f
def Fl.lend : Fl → Fl
  | .own => .bor
  | f => f
mutual
/-- owned nodes become others -/
def refl (g : Fl → Fl) : D → D
  | .tup fl xs => .tup (g fl) (refls g xs)
  | .lst fl xs => .lst (g fl) (refls g xs)
  | .dk fl ks xs => .dk (g fl) ks (refls g xs)
  | .dt fl ks xs => .dt (g fl) ks (refls g xs)
  | .ins fl c fs xs => .ins (g fl) c fs (refls g xs)
  | .exn c fs xs => .exn c fs (refls g xs)
  | .dead => .dead
  | .non => .non
  | .bl b => .bl b
  | .int i => .int i
  | .str x => .str x
  | .fn k => .fn k
  | .scr ns => .scr ns
  | .ktup ks => .ktup ks
def refls (g : Fl → Fl) : List D → List D
  | [] => []
  | x :: xs => refl g x :: refls g xs
end
abbrev frz : D → D := refl Fl.frz
abbrev lend : D → D := refl Fl.lend
theorem noOwns_iff : ∀ {xs : List D}, noOwns xs = true ↔ ∀ x ∈ xs, noOwn x = true
  | [] => by simp [noOwns]
  | x :: xs => by simp [noOwns, noOwns_iff (xs := xs)]
theorem noBors_iff : ∀ {xs : List D}, noBors xs = true ↔ ∀ x ∈ xs, noBor x = true
  | [] => by simp [noBors]
  | x :: xs => by simp [noBors, noBors_iff (xs := xs)]
theorem refls_map (g : Fl → Fl) : ∀ xs : List D, refls g xs = xs.map (refl g)
  | [] => rfl
  | x :: xs => by simp [refls, refls_map g xs]
/-- shared to the last node -/
def allShr (d : D) : Bool := noOwn d && noBor d
def okKids : Fl → List D → Prop
  | .shr, xs => noOwns xs = true ∧ noBors xs = true
  | .bor, xs => noOwns xs = true
  | .own, _ => True
/-! ### heaps -/
/-- what may be locked by a walk -/
def Lockable : HO → Prop
  | .dK _ => True
  | .dT _ => True
  | _ => False
/-- all that stands in A stands in H, a dict perhaps under a walk's lock -/
def Sb (A H : Hp) : Prop := ∀ a o, A a = some o → H a = some o ∨ (Lockable o ∧ ∃ ob, H a = some (.frz ob o))
theorem Sb.refl (H : Hp) : Sb H H := fun _ _ h => .inl h
theorem Sb.trans {A B H : Hp} (x : Sb A B) (y : Sb B H) : Sb A H := fun a o h => by
  rcases x a o h with h1 | ⟨l, ob, h1⟩
  · exact y a o h1
  · rcases y a _ h1 with h2 | ⟨l2, _⟩
    · exact .inr ⟨l, ob, h2⟩
    · exact l2.elim
theorem Sb.ne {A H : Hp} (x : Sb A H) {a : Addr} (h : A a ≠ none) : H a ≠ none := by
  cases e : A a with
  | none => exact absurd e h
  | some o =>
    rcases x a o e with q | ⟨_, _, q⟩ <;> rw [q] <;> simp
theorem Sb.rd {A H : Hp} (x : Sb A H) {a : Addr} {o : HO} (h : Rd A a o) : Rd H a o := by
  rcases h with h | ⟨ob, h⟩
  · rcases x a o h with q | ⟨_, ob, q⟩
    · exact .inl q
    · exact .inr ⟨ob, q⟩
  · rcases x a _ h with q | ⟨l, _⟩
    · exact .inr ⟨ob, q⟩
    · exact l.elim
theorem Sb.seqL {K : PySem.W.Frag} {A H : Hp} (x : Sb A H) {a : Addr} {vs : List V} (h : SqL K A a vs) : SqL K H a vs := by
  rcases h with h | h
  · exact .inl (x.rd h)
  · exact .inr h
theorem Sb.seqT {K : PySem.W.Frag} {A H : Hp} (x : Sb A H) {a : Addr} {vs : List V} (h : SqT K A a vs) : SqT K H a vs := by
  rcases h with h | h
  · exact .inl (x.rd h)
  · exact .inr h
theorem Sb.of_same {A H : Hp} (x : ∀ a o, A a = some o → H a = some o) : Sb A H := fun a o h => .inl (x a o h)
theorem Sb.plain {A H : Hp} (x : Sb A H) {a : Addr} {o : HO} (h : A a = some o) (l : ¬ Lockable o) : H a = some o := by
  rcases x a o h with q | ⟨k, _⟩
  · exact q
  · exact (l k).elim
/-- the written part, the classes' addresses, the functions' addresses -/
structure Gl0 where
  K : PySem.W.Frag
  ca : Nat → Addr
  fa : Nat → Addr
section
variable (C : Gl0) (G B H : Hp)
/-- where a node stands, by its flag -/
def At (fl : Fl) (a : Addr) (p : Hp → Prop) (o : HO) : Prop :=
  match fl with
  | .shr => p G
  | .bor => p B
  | .own => H a = some o ∧ B a = none
def fcons (fl : Fl) (a : Addr) (F : List Addr) : List Addr := match fl with
  | .own => a :: F
  | _ => F
/-- a caught exception: its object is known by its class and its own dict -/
def exH (cls : Value) (d : Option Addr) (a : Addr) : HO := .ext fun h => ∃ (oe : Obj) (vs : Array Value), h.get? a = some oe ∧ Zc cls d oe ∧ oe.data = .fields vs
mutual
def Own : D → V → List Addr → Prop
  | .dead, _, F => F = []
  | .non, v, F => v = .non ∧ F = []
  | .bl b, v, F => v = .bl b ∧ F = []
  | .int i, v, F => v = .int i ∧ F = []
  | .str x, v, F => v = .str x ∧ F = []
  | .fn k, v, F => v = .ref (C.fa k) ∧ F = []
  | .scr ns, v, F => (∃ a, v = .ref a ∧ SqL C.K G a (ns.map V.int)) ∧ F = []
  | .ktup ks, v, F => (∃ a, v = .ref a ∧ G a = some (.tup (ks.map kV))) ∧ F = []
  | .tup fl xs, v, F => ∃ a vs F', v = .ref a ∧ At G B H fl a (fun A => SqT C.K A a vs) (.tup vs) ∧ Owns xs vs F' ∧ F = fcons fl a F' ∧ okKids fl xs
  | .lst fl xs, v, F => ∃ a vs F', v = .ref a ∧ At G B H fl a (fun A => A a = some (.lst vs)) (.lst vs) ∧ Owns xs vs F' ∧ F = fcons fl a F' ∧ okKids fl xs
  | .dk fl ks xs, v, F => ∃ a vs F', v = .ref a ∧ At G B H fl a (fun A => Rd A a (.dK (ks.zip vs))) (.dK (ks.zip vs)) ∧ Owns xs vs F' ∧ F = fcons fl a F' ∧ okKids fl xs ∧ ks.length = xs.length ∧ ks.Nodup
  | .dt fl ks xs, v, F => ∃ a vs F', v = .ref a ∧ At G B H fl a (fun A => Rd A a (.dT (ks.zip vs))) (.dT (ks.zip vs)) ∧ Owns xs vs F' ∧ F = fcons fl a F' ∧ okKids fl xs ∧ ks.length = xs.length ∧ ks.Nodup
  | .ins fl c fs xs, v, F => ∃ a dx vs F', v = .ref a ∧ At G B H fl a (fun A => A a = some (.ins (C.ca c) dx (fs.zip vs))) (.ins (C.ca c) dx (fs.zip vs)) ∧ Owns xs vs F' ∧ F = fcons fl a F' ∧ okKids fl xs ∧ fs.length = xs.length ∧ fs.Nodup
  | .exn c fs xs, v, F => ∃ a vs, v = .ref a ∧ F = [] ∧ okKids .shr xs ∧ Owns xs vs [] ∧ fs.length = xs.length ∧
      ((fs = [] ∧ G a = some (exH (.ref (C.ca c)) none a)) ∨ (fs ≠ [] ∧ ∃ dd, G a = some (exH (.ref (C.ca c)) (some dd) a) ∧ G dd = some (.xd (fs.zip vs))))
def Owns : List D → List V → List Addr → Prop
  | [], vs, F => vs = [] ∧ F = []
  | x :: xs, vs, F => ∃ v vr F1 F2, vs = v :: vr ∧ F = F1 ++ F2 ∧ Own x v F1 ∧ Owns xs vr F2
end
end
section
variable {C : Gl0} {G B H G' B' H' : Hp}
theorem At.viewT {K : PySem.W.Frag} (gb : Sb G B) (bh : Sb B H) {fl : Fl} {a : Addr} {vs : List V} (h : At G B H fl a (fun A => SqT K A a vs) (.tup vs)) : SqT K H a vs := by
  cases fl with
  | shr => exact (gb.trans bh).seqT h
  | bor => exact bh.seqT h
  | own => exact .inl (.inl h.1)
theorem At.viewD (gb : Sb G B) (bh : Sb B H) {fl : Fl} {a : Addr} {o : HO} (h : At G B H fl a (fun A => Rd A a o) o) : Rd H a o := by
  cases fl with
  | shr => exact (gb.trans bh).rd h
  | bor => exact bh.rd h
  | own => exact .inl h.1
theorem At.viewI (gb : Sb G B) (bh : Sb B H) {fl : Fl} {a : Addr} {o : HO} (l : ¬ Lockable o) (h : At G B H fl a (fun A => A a = some o) o) : H a = some o := by
  cases fl with
  | shr => exact (gb.trans bh).plain h l
  | bor => exact bh.plain h l
  | own => exact h.1
theorem Owns.length : ∀ {xs : List D} {vs : List V} {F : List Addr}, Owns C G B H xs vs F → xs.length = vs.length
  | [], _, _, h => by obtain rfl := h.1; rfl
  | _ :: _, _, _, h => by
    obtain ⟨v, vr, F1, F2, rfl, _, _, h2⟩ := h
    simp [Owns.length h2]
/-- moving a node's place to other heaps -/
theorem At.mono {fl : Fl} {a : Addr} {p : Hp → Prop} {o : HO} (hg : ∀ A A' : Hp, (∀ b u, A b = some u → A' b = some u) → p A → p A')
    (g : ∀ b u, G b = some u → G' b = some u) (b : ∀ b u, B b = some u → B' b = some u) (hf : fl = .own → H' a = H a ∧ B' a = none) (h : At G B H fl a p o) : At G' B' H' fl a p o := by
  cases fl with
  | shr => exact hg _ _ g h
  | bor => exact hg _ _ b h
  | own =>
    obtain ⟨e1, e2⟩ := hf rfl
    exact ⟨e1.trans h.1, e2⟩
theorem seqL_same {K : PySem.W.Frag} {a : Addr} {vs : List V} (A A' : Hp) (x : ∀ b u, A b = some u → A' b = some u) (h : SqL K A a vs) : SqL K A' a vs := (Sb.of_same x).seqL h
theorem seqT_same {K : PySem.W.Frag} {a : Addr} {vs : List V} (A A' : Hp) (x : ∀ b u, A b = some u → A' b = some u) (h : SqT K A a vs) : SqT K A' a vs := (Sb.of_same x).seqT h
theorem rd_same {a : Addr} {o : HO} (A A' : Hp) (x : ∀ b u, A b = some u → A' b = some u) (h : Rd A a o) : Rd A' a o := (Sb.of_same x).rd h
theorem mem_fcons {fl : Fl} {a : Addr} {F : List Addr} {b : Addr} : b ∈ fcons fl a F ↔ (fl = .own ∧ b = a) ∨ b ∈ F := by
  cases fl <;> simp [fcons]
mutual
theorem Own.mono (g : ∀ b u, G b = some u → G' b = some u) (b : ∀ b u, B b = some u → B' b = some u) : ∀ {d : D} {v : V} {F : List Addr}, (∀ a ∈ F, H' a = H a ∧ B' a = none) → Own C G B H d v F → Own C G' B' H' d v F
  | .dead, _, _, _, h => h
  | .non, _, _, _, h => h
  | .bl _, _, _, _, h => h
  | .int _, _, _, _, h => h
  | .str _, _, _, _, h => h
  | .fn _, _, _, _, h => h
  | .scr _, _, _, _, h => ⟨h.1.elim fun a z => ⟨a, z.1, seqL_same _ _ g z.2⟩, h.2⟩
  | .ktup _, _, _, _, h => ⟨h.1.elim fun a z => ⟨a, z.1, g _ _ z.2⟩, h.2⟩
  | .tup fl xs, v, F, k, h => by
    obtain ⟨a, vs, F', rfl, h1, h2, rfl, h3⟩ := h
    exact ⟨a, vs, F', rfl, h1.mono (fun A A' x => seqT_same A A' x) g b fun e => k a (mem_fcons.2 (.inl ⟨e, rfl⟩)), Owns.mono g b (fun c hc => k c (mem_fcons.2 (.inr hc))) h2, rfl, h3⟩
  | .lst fl xs, v, F, k, h => by
    obtain ⟨a, vs, F', rfl, h1, h2, rfl, h3⟩ := h
    exact ⟨a, vs, F', rfl, h1.mono (fun A A' x q => x _ _ q) g b fun e => k a (mem_fcons.2 (.inl ⟨e, rfl⟩)), Owns.mono g b (fun c hc => k c (mem_fcons.2 (.inr hc))) h2, rfl, h3⟩
  | .dk fl ks xs, v, F, k, h => by
    obtain ⟨a, vs, F', rfl, h1, h2, rfl, h3⟩ := h
    exact ⟨a, vs, F', rfl, h1.mono (fun A A' x => rd_same A A' x) g b fun e => k a (mem_fcons.2 (.inl ⟨e, rfl⟩)), Owns.mono g b (fun c hc => k c (mem_fcons.2 (.inr hc))) h2, rfl, h3⟩
  | .dt fl ks xs, v, F, k, h => by
    obtain ⟨a, vs, F', rfl, h1, h2, rfl, h3⟩ := h
    exact ⟨a, vs, F', rfl, h1.mono (fun A A' x => rd_same A A' x) g b fun e => k a (mem_fcons.2 (.inl ⟨e, rfl⟩)), Owns.mono g b (fun c hc => k c (mem_fcons.2 (.inr hc))) h2, rfl, h3⟩
  | .ins fl c fs xs, v, F, k, h => by
    obtain ⟨a, dx, vs, F', rfl, h1, h2, rfl, h3⟩ := h
    exact ⟨a, dx, vs, F', rfl, h1.mono (fun A A' x q => x _ _ q) g b fun e => k a (mem_fcons.2 (.inl ⟨e, rfl⟩)), Owns.mono g b (fun c hc => k c (mem_fcons.2 (.inr hc))) h2, rfl, h3⟩
  | .exn c fs xs, v, F, k, h => by
    obtain ⟨a, vs, rfl, rfl, h1, h2, h3, h4⟩ := h
    refine ⟨a, vs, rfl, rfl, h1, Owns.mono g b (fun c hc => by cases hc) h2, h3, ?_⟩
    rcases h4 with ⟨e, h4⟩ | ⟨ne, dd, h4, h5⟩
    · exact .inl ⟨e, g _ _ h4⟩
    · exact .inr ⟨ne, dd, g _ _ h4, g _ _ h5⟩
theorem Owns.mono (g : ∀ b u, G b = some u → G' b = some u) (b : ∀ b u, B b = some u → B' b = some u) : ∀ {xs : List D} {vs : List V} {F : List Addr}, (∀ a ∈ F, H' a = H a ∧ B' a = none) → Owns C G B H xs vs F → Owns C G' B' H' xs vs F
  | [], _, _, _, h => h
  | x :: xs, _, _, k, h => by
    obtain ⟨v, vr, F1, F2, rfl, rfl, h1, h2⟩ := h
    exact ⟨v, vr, F1, F2, rfl, rfl, Own.mono g b (fun a ha => k a (List.mem_append_left _ ha)) h1, Owns.mono g b (fun a ha => k a (List.mem_append_right _ ha)) h2⟩
end
mutual
/-- nothing is owned: no footprint -/
theorem Own.nil : ∀ {d : D} {v : V} {F : List Addr}, noOwn d = true → Own C G B H d v F → F = []
  | .dead, _, _, _, h => h
  | .non, _, _, _, h => h.2
  | .bl _, _, _, _, h => h.2
  | .int _, _, _, _, h => h.2
  | .str _, _, _, _, h => h.2
  | .fn _, _, _, _, h => h.2
  | .scr _, _, _, _, h => h.2
  | .ktup _, _, _, _, h => h.2
  | .tup fl xs, v, F, k, h => by
    obtain ⟨a, vs, F', rfl, h1, h2, rfl, h3⟩ := h
    simp only [noOwn, Bool.and_eq_true, bne_iff_ne] at k
    obtain rfl := Owns.nil k.2 h2
    cases fl <;> simp_all [fcons]
  | .lst fl xs, v, F, k, h => by
    obtain ⟨a, vs, F', rfl, h1, h2, rfl, h3⟩ := h
    simp only [noOwn, Bool.and_eq_true, bne_iff_ne] at k
    obtain rfl := Owns.nil k.2 h2
    cases fl <;> simp_all [fcons]
  | .dk fl ks xs, v, F, k, h => by
    obtain ⟨a, vs, F', rfl, h1, h2, rfl, h3⟩ := h
    simp only [noOwn, Bool.and_eq_true, bne_iff_ne] at k
    obtain rfl := Owns.nil k.2 h2
    cases fl <;> simp_all [fcons]
  | .dt fl ks xs, v, F, k, h => by
    obtain ⟨a, vs, F', rfl, h1, h2, rfl, h3⟩ := h
    simp only [noOwn, Bool.and_eq_true, bne_iff_ne] at k
    obtain rfl := Owns.nil k.2 h2
    cases fl <;> simp_all [fcons]
  | .ins fl c fs xs, v, F, k, h => by
    obtain ⟨a, dx, vs, F', rfl, h1, h2, rfl, h3⟩ := h
    simp only [noOwn, Bool.and_eq_true, bne_iff_ne] at k
    obtain rfl := Owns.nil k.2 h2
    cases fl <;> simp_all [fcons]
  | .exn c fs xs, v, F, k, h => by
    obtain ⟨a, vs, rfl, rfl, h1⟩ := h
    rfl
theorem Owns.nil : ∀ {xs : List D} {vs : List V} {F : List Addr}, noOwns xs = true → Owns C G B H xs vs F → F = []
  | [], _, _, _, h => h.2
  | x :: xs, _, _, k, h => by
    obtain ⟨v, vr, F1, F2, rfl, rfl, h1, h2⟩ := h
    simp only [noOwns, Bool.and_eq_true] at k
    rw [Own.nil k.1 h1, Owns.nil k.2 h2]; rfl
end
theorem At.own {fl : Fl} {a b : Addr} {p : Hp → Prop} {o : HO} (h : At G B H fl a p o) (e : fl = .own ∧ b = a) : H b ≠ none ∧ B b = none := by
  obtain ⟨rfl, rfl⟩ := e
  obtain ⟨h1, h2⟩ := h
  exact ⟨by rw [h1]; simp, h2⟩
mutual
/-- what is owned stands in H and not in B -/
theorem Own.fp : ∀ {d : D} {v : V} {F : List Addr}, Own C G B H d v F → ∀ b ∈ F, H b ≠ none ∧ B b = none
  | .dead, _, _, h => by obtain rfl := h; intro b hb; cases hb
  | .non, _, _, h => by rw [h.2]; intro b hb; cases hb
  | .bl _, _, _, h => by rw [h.2]; intro b hb; cases hb
  | .int _, _, _, h => by rw [h.2]; intro b hb; cases hb
  | .str _, _, _, h => by rw [h.2]; intro b hb; cases hb
  | .fn _, _, _, h => by rw [h.2]; intro b hb; cases hb
  | .scr _, _, _, h => by rw [h.2]; intro b hb; cases hb
  | .ktup _, _, _, h => by rw [h.2]; intro b hb; cases hb
  | .tup fl xs, v, F, h => by
    obtain ⟨a, vs, F', rfl, h1, h2, rfl, h3⟩ := h
    intro b hb
    rcases mem_fcons.1 hb with e | hb
    · exact h1.own e
    · exact Owns.fp h2 b hb
  | .lst fl xs, v, F, h => by
    obtain ⟨a, vs, F', rfl, h1, h2, rfl, h3⟩ := h
    intro b hb
    rcases mem_fcons.1 hb with e | hb
    · exact h1.own e
    · exact Owns.fp h2 b hb
  | .dk fl ks xs, v, F, h => by
    obtain ⟨a, vs, F', rfl, h1, h2, rfl, h3⟩ := h
    intro b hb
    rcases mem_fcons.1 hb with e | hb
    · exact h1.own e
    · exact Owns.fp h2 b hb
  | .dt fl ks xs, v, F, h => by
    obtain ⟨a, vs, F', rfl, h1, h2, rfl, h3⟩ := h
    intro b hb
    rcases mem_fcons.1 hb with e | hb
    · exact h1.own e
    · exact Owns.fp h2 b hb
  | .ins fl c fs xs, v, F, h => by
    obtain ⟨a, dx, vs, F', rfl, h1, h2, rfl, h3⟩ := h
    intro b hb
    rcases mem_fcons.1 hb with e | hb
    · exact h1.own e
    · exact Owns.fp h2 b hb
  | .exn c fs xs, v, F, h => by
    obtain ⟨a, vs, rfl, rfl, h1⟩ := h
    intro b hb; cases hb
theorem Owns.fp : ∀ {xs : List D} {vs : List V} {F : List Addr}, Owns C G B H xs vs F → ∀ b ∈ F, H b ≠ none ∧ B b = none
  | [], _, _, h => by rw [h.2]; intro b hb; cases hb
  | x :: xs, _, _, h => by
    obtain ⟨v, vr, F1, F2, rfl, rfl, h1, h2⟩ := h
    intro b hb
    rcases List.mem_append.1 hb with hb | hb
    · exact Own.fp h1 b hb
    · exact Owns.fp h2 b hb
end
mutual
theorem noOwn_refl {g : Fl → Fl} (hg : ∀ f, g f ≠ .own) : ∀ d : D, noOwn (refl g d) = true
  | .dead => rfl
  | .non => rfl
  | .bl _ => rfl
  | .int _ => rfl
  | .str _ => rfl
  | .fn _ => rfl
  | .scr _ => rfl
  | .ktup _ => rfl
  | .tup fl xs => by simp [refl, noOwn, hg, noOwns_refls hg xs]
  | .lst fl xs => by simp [refl, noOwn, hg, noOwns_refls hg xs]
  | .dk fl ks xs => by simp [refl, noOwn, hg, noOwns_refls hg xs]
  | .dt fl ks xs => by simp [refl, noOwn, hg, noOwns_refls hg xs]
  | .ins fl c fs xs => by simp [refl, noOwn, hg, noOwns_refls hg xs]
  | .exn c fs xs => by simp [refl, noOwn, noOwns_refls hg xs]
theorem noOwns_refls {g : Fl → Fl} (hg : ∀ f, g f ≠ .own) : ∀ xs : List D, noOwns (refls g xs) = true
  | [] => rfl
  | x :: xs => by simp [refls, noOwns, noOwn_refl hg x, noOwns_refls hg xs]
end
theorem frz_ne (f : Fl) : f.frz ≠ .own := by cases f <;> simp [Fl.frz]
theorem lend_ne (f : Fl) : f.lend ≠ .own := by cases f <;> simp [Fl.lend]
mutual
theorem noBor_frz : ∀ d : D, noBor (refl Fl.frz d) = noBor d
  | .dead => rfl
  | .non => rfl
  | .bl _ => rfl
  | .int _ => rfl
  | .str _ => rfl
  | .fn _ => rfl
  | .scr _ => rfl
  | .ktup _ => rfl
  | .tup fl xs => by cases fl <;> simp [refl, noBor, Fl.frz, noBors_frz xs] <;> rfl
  | .lst fl xs => by cases fl <;> simp [refl, noBor, Fl.frz, noBors_frz xs] <;> rfl
  | .dk fl ks xs => by cases fl <;> simp [refl, noBor, Fl.frz, noBors_frz xs] <;> rfl
  | .dt fl ks xs => by cases fl <;> simp [refl, noBor, Fl.frz, noBors_frz xs] <;> rfl
  | .ins fl c fs xs => by cases fl <;> simp [refl, noBor, Fl.frz, noBors_frz xs] <;> rfl
  | .exn c fs xs => by simp [refl, noBor, noBors_frz xs]
theorem noBors_frz : ∀ xs : List D, noBors (refls Fl.frz xs) = noBors xs
  | [] => rfl
  | x :: xs => by simp [refls, noBors, noBor_frz x, noBors_frz xs]
end
mutual
/-- nothing owned: relabelling changes nothing -/
theorem refl_id {g : Fl → Fl} (h1 : g .bor = .bor) (h2 : g .shr = .shr) : ∀ {d : D}, noOwn d = true → refl g d = d
  | .dead, _ => rfl
  | .non, _ => rfl
  | .bl _, _ => rfl
  | .int _, _ => rfl
  | .str _, _ => rfl
  | .fn _, _ => rfl
  | .scr _, _ => rfl
  | .ktup _, _ => rfl
  | .tup fl xs, k => by
    simp only [noOwn, Bool.and_eq_true, bne_iff_ne] at k
    cases fl <;> simp_all [refl, refls_id h1 h2 k.2]
  | .lst fl xs, k => by
    simp only [noOwn, Bool.and_eq_true, bne_iff_ne] at k
    cases fl <;> simp_all [refl, refls_id h1 h2 k.2]
  | .dk fl ks xs, k => by
    simp only [noOwn, Bool.and_eq_true, bne_iff_ne] at k
    cases fl <;> simp_all [refl, refls_id h1 h2 k.2]
  | .dt fl ks xs, k => by
    simp only [noOwn, Bool.and_eq_true, bne_iff_ne] at k
    cases fl <;> simp_all [refl, refls_id h1 h2 k.2]
  | .ins fl c fs xs, k => by
    simp only [noOwn, Bool.and_eq_true, bne_iff_ne] at k
    cases fl <;> simp_all [refl, refls_id h1 h2 k.2]
  | .exn c fs xs, k => by
    simp only [noOwn] at k
    simp [refl, refls_id h1 h2 k]
theorem refls_id {g : Fl → Fl} (h1 : g .bor = .bor) (h2 : g .shr = .shr) : ∀ {xs : List D}, noOwns xs = true → refls g xs = xs
  | [], _ => rfl
  | x :: xs, k => by
    simp only [noOwns, Bool.and_eq_true] at k
    simp [refls, refl_id h1 h2 k.1, refls_id h1 h2 k.2]
end
theorem refls_length (g : Fl → Fl) : ∀ xs : List D, (refls g xs).length = xs.length
  | [] => rfl
  | x :: xs => by simp [refls, refls_length g xs]
/-- an owned node is frozen -/
theorem At.frz {fl : Fl} {a : Addr} {p : Hp → Prop} {o : HO} (hg : ∀ A A' : Hp, (∀ b u, A b = some u → A' b = some u) → p A → p A') (ho : ∀ A : Hp, A a = some o → p A)
    (g : ∀ b u, G b = some u → G' b = some u) (nb : fl ≠ .bor) (hf : fl = .own → G' a = H a) (h : At G B H fl a p o) : At G' B' H' fl.frz a p o := by
  cases fl with
  | shr => exact hg _ _ g h
  | bor => exact absurd rfl nb
  | own => exact ho _ ((hf rfl).trans h.1)
theorem At.lend {fl : Fl} {a : Addr} {p : Hp → Prop} {o : HO} (hg : ∀ A A' : Hp, (∀ b u, A b = some u → A' b = some u) → p A → p A') (ho : ∀ A : Hp, A a = some o → p A)
    (g : ∀ b u, G b = some u → G' b = some u) (bb : ∀ b u, B b = some u → B' b = some u) (hf : fl = .own → B' a = H a) (h : At G B H fl a p o) : At G' B' H' fl.lend a p o := by
  cases fl with
  | shr => exact hg _ _ g h
  | bor => exact hg _ _ bb h
  | own => exact ho _ ((hf rfl).trans h.1)
theorem okKids.frz {fl : Fl} {xs : List D} (nb : fl ≠ .bor) (n : noBors xs = true) (h : okKids fl xs) : okKids fl.frz (refls Fl.frz xs) := by
  cases fl with
  | bor => exact absurd rfl nb
  | shr => exact ⟨noOwns_refls frz_ne xs, by rw [noBors_frz]; exact n⟩
  | own => exact ⟨noOwns_refls frz_ne xs, by rw [noBors_frz]; exact n⟩
theorem okKids.lend {fl : Fl} {xs : List D} (h : okKids fl xs) : okKids fl.lend (refls Fl.lend xs) := by
  cases fl with
  | bor => exact noOwns_refls lend_ne xs
  | shr => rw [refls_id rfl rfl h.1]; exact h
  | own => exact noOwns_refls lend_ne xs
theorem fcons_ne {fl : Fl} (h : fl ≠ .own) (a : Addr) (F : List Addr) : fcons fl a F = F := by
  cases fl <;> simp_all [fcons]
mutual
theorem Own.frz (g : ∀ b u, G b = some u → G' b = some u) : ∀ {d : D} {v : V} {F : List Addr}, noBor d = true → (∀ a ∈ F, G' a = H a) → Own C G B H d v F → Own C G' B' H' (refl Fl.frz d) v []
  | .dead, _, _, _, _, h => rfl
  | .non, _, _, _, _, h => ⟨h.1, rfl⟩
  | .bl _, _, _, _, _, h => ⟨h.1, rfl⟩
  | .int _, _, _, _, _, h => ⟨h.1, rfl⟩
  | .str _, _, _, _, _, h => ⟨h.1, rfl⟩
  | .fn _, _, _, _, _, h => ⟨h.1, rfl⟩
  | .scr _, _, _, _, _, h => ⟨h.1.elim fun a z => ⟨a, z.1, seqL_same _ _ g z.2⟩, rfl⟩
  | .ktup _, _, _, _, _, h => ⟨h.1.elim fun a z => ⟨a, z.1, g _ _ z.2⟩, rfl⟩
  | .tup fl xs, v, F, n, k, h => by
    obtain ⟨a, vs, F', rfl, h1, h2, rfl, h3⟩ := h
    simp only [noBor, Bool.and_eq_true, bne_iff_ne] at n
    exact ⟨a, vs, [], rfl, h1.frz (fun A A' x => seqT_same A A' x) (fun A q => .inl (.inl q)) g n.1 fun e => k a (mem_fcons.2 (.inl ⟨e, rfl⟩)),
      Owns.frz g n.2 (fun c hc => k c (mem_fcons.2 (.inr hc))) h2, (fcons_ne (frz_ne fl) _ _).symm, h3.frz n.1 n.2⟩
  | .lst fl xs, v, F, n, k, h => by
    obtain ⟨a, vs, F', rfl, h1, h2, rfl, h3⟩ := h
    simp only [noBor, Bool.and_eq_true, bne_iff_ne] at n
    exact ⟨a, vs, [], rfl, h1.frz (fun A A' x q => x _ _ q) (fun A q => q) g n.1 fun e => k a (mem_fcons.2 (.inl ⟨e, rfl⟩)),
      Owns.frz g n.2 (fun c hc => k c (mem_fcons.2 (.inr hc))) h2, (fcons_ne (frz_ne fl) _ _).symm, h3.frz n.1 n.2⟩
  | .dk fl ks xs, v, F, n, k, h => by
    obtain ⟨a, vs, F', rfl, h1, h2, rfl, h3, h4, h5⟩ := h
    simp only [noBor, Bool.and_eq_true, bne_iff_ne] at n
    exact ⟨a, vs, [], rfl, h1.frz (fun A A' x => rd_same A A' x) (fun A q => .inl q) g n.1 fun e => k a (mem_fcons.2 (.inl ⟨e, rfl⟩)),
      Owns.frz g n.2 (fun c hc => k c (mem_fcons.2 (.inr hc))) h2, (fcons_ne (frz_ne fl) _ _).symm, h3.frz n.1 n.2, by rw [refls_length]; exact h4, h5⟩
  | .dt fl ks xs, v, F, n, k, h => by
    obtain ⟨a, vs, F', rfl, h1, h2, rfl, h3, h4, h5⟩ := h
    simp only [noBor, Bool.and_eq_true, bne_iff_ne] at n
    exact ⟨a, vs, [], rfl, h1.frz (fun A A' x => rd_same A A' x) (fun A q => .inl q) g n.1 fun e => k a (mem_fcons.2 (.inl ⟨e, rfl⟩)),
      Owns.frz g n.2 (fun c hc => k c (mem_fcons.2 (.inr hc))) h2, (fcons_ne (frz_ne fl) _ _).symm, h3.frz n.1 n.2, by rw [refls_length]; exact h4, h5⟩
  | .ins fl c fs xs, v, F, n, k, h => by
    obtain ⟨a, dx, vs, F', rfl, h1, h2, rfl, h3, h4, h5⟩ := h
    simp only [noBor, Bool.and_eq_true, bne_iff_ne] at n
    exact ⟨a, dx, vs, [], rfl, h1.frz (fun A A' x q => x _ _ q) (fun A q => q) g n.1 fun e => k a (mem_fcons.2 (.inl ⟨e, rfl⟩)),
      Owns.frz g n.2 (fun c hc => k c (mem_fcons.2 (.inr hc))) h2, (fcons_ne (frz_ne fl) _ _).symm, h3.frz n.1 n.2, by rw [refls_length]; exact h4, h5⟩
  | .exn c fs xs, v, F, n, k, h => by
    obtain ⟨a, vs, rfl, rfl, h1, h2, h3, h4⟩ := h
    simp only [noBor] at n
    refine ⟨a, vs, rfl, rfl, okKids.frz (fl := .shr) (by simp) n h1, Owns.frz g n (fun c hc => by cases hc) h2, by rw [refls_length]; exact h3, ?_⟩
    rcases h4 with ⟨e, h4⟩ | ⟨ne, dd, h4, h5⟩
    · exact .inl ⟨e, g _ _ h4⟩
    · exact .inr ⟨ne, dd, g _ _ h4, g _ _ h5⟩
theorem Owns.frz (g : ∀ b u, G b = some u → G' b = some u) : ∀ {xs : List D} {vs : List V} {F : List Addr}, noBors xs = true → (∀ a ∈ F, G' a = H a) → Owns C G B H xs vs F → Owns C G' B' H' (refls Fl.frz xs) vs []
  | [], _, _, _, _, h => ⟨h.1, rfl⟩
  | x :: xs, _, _, n, k, h => by
    obtain ⟨v, vr, F1, F2, rfl, rfl, h1, h2⟩ := h
    simp only [noBors, Bool.and_eq_true] at n
    exact ⟨v, vr, [], [], rfl, rfl, Own.frz g n.1 (fun a ha => k a (List.mem_append_left _ ha)) h1, Owns.frz g n.2 (fun a ha => k a (List.mem_append_right _ ha)) h2⟩
end
mutual
theorem Own.lend (g : ∀ b u, G b = some u → G' b = some u) (bb : ∀ b u, B b = some u → B' b = some u) : ∀ {d : D} {v : V} {F : List Addr}, (∀ a ∈ F, B' a = H a) → Own C G B H d v F → Own C G' B' H' (refl Fl.lend d) v []
  | .dead, _, _, _, h => rfl
  | .non, _, _, _, h => ⟨h.1, rfl⟩
  | .bl _, _, _, _, h => ⟨h.1, rfl⟩
  | .int _, _, _, _, h => ⟨h.1, rfl⟩
  | .str _, _, _, _, h => ⟨h.1, rfl⟩
  | .fn _, _, _, _, h => ⟨h.1, rfl⟩
  | .scr _, _, _, _, h => ⟨h.1.elim fun a z => ⟨a, z.1, seqL_same _ _ g z.2⟩, rfl⟩
  | .ktup _, _, _, _, h => ⟨h.1.elim fun a z => ⟨a, z.1, g _ _ z.2⟩, rfl⟩
  | .tup fl xs, v, F, k, h => by
    obtain ⟨a, vs, F', rfl, h1, h2, rfl, h3⟩ := h
    exact ⟨a, vs, [], rfl, h1.lend (fun A A' x => seqT_same A A' x) (fun A q => .inl (.inl q)) g bb fun e => k a (mem_fcons.2 (.inl ⟨e, rfl⟩)),
      Owns.lend g bb (fun c hc => k c (mem_fcons.2 (.inr hc))) h2, (fcons_ne (lend_ne fl) _ _).symm, h3.lend⟩
  | .lst fl xs, v, F, k, h => by
    obtain ⟨a, vs, F', rfl, h1, h2, rfl, h3⟩ := h
    exact ⟨a, vs, [], rfl, h1.lend (fun A A' x q => x _ _ q) (fun A q => q) g bb fun e => k a (mem_fcons.2 (.inl ⟨e, rfl⟩)),
      Owns.lend g bb (fun c hc => k c (mem_fcons.2 (.inr hc))) h2, (fcons_ne (lend_ne fl) _ _).symm, h3.lend⟩
  | .dk fl ks xs, v, F, k, h => by
    obtain ⟨a, vs, F', rfl, h1, h2, rfl, h3, h4, h5⟩ := h
    exact ⟨a, vs, [], rfl, h1.lend (fun A A' x => rd_same A A' x) (fun A q => .inl q) g bb fun e => k a (mem_fcons.2 (.inl ⟨e, rfl⟩)),
      Owns.lend g bb (fun c hc => k c (mem_fcons.2 (.inr hc))) h2, (fcons_ne (lend_ne fl) _ _).symm, h3.lend, by rw [refls_length]; exact h4, h5⟩
  | .dt fl ks xs, v, F, k, h => by
    obtain ⟨a, vs, F', rfl, h1, h2, rfl, h3, h4, h5⟩ := h
    exact ⟨a, vs, [], rfl, h1.lend (fun A A' x => rd_same A A' x) (fun A q => .inl q) g bb fun e => k a (mem_fcons.2 (.inl ⟨e, rfl⟩)),
      Owns.lend g bb (fun c hc => k c (mem_fcons.2 (.inr hc))) h2, (fcons_ne (lend_ne fl) _ _).symm, h3.lend, by rw [refls_length]; exact h4, h5⟩
  | .ins fl c fs xs, v, F, k, h => by
    obtain ⟨a, dx, vs, F', rfl, h1, h2, rfl, h3, h4, h5⟩ := h
    exact ⟨a, dx, vs, [], rfl, h1.lend (fun A A' x q => x _ _ q) (fun A q => q) g bb fun e => k a (mem_fcons.2 (.inl ⟨e, rfl⟩)),
      Owns.lend g bb (fun c hc => k c (mem_fcons.2 (.inr hc))) h2, (fcons_ne (lend_ne fl) _ _).symm, h3.lend, by rw [refls_length]; exact h4, h5⟩
  | .exn c fs xs, v, F, k, h => by
    obtain ⟨a, vs, rfl, rfl, h1, h2, h3, h4⟩ := h
    refine ⟨a, vs, rfl, rfl, okKids.lend (fl := .shr) h1, Owns.lend g bb (fun c hc => by cases hc) h2, by rw [refls_length]; exact h3, ?_⟩
    rcases h4 with ⟨e, h4⟩ | ⟨ne, dd, h4, h5⟩
    · exact .inl ⟨e, g _ _ h4⟩
    · exact .inr ⟨ne, dd, g _ _ h4, g _ _ h5⟩
theorem Owns.lend (g : ∀ b u, G b = some u → G' b = some u) (bb : ∀ b u, B b = some u → B' b = some u) : ∀ {xs : List D} {vs : List V} {F : List Addr}, (∀ a ∈ F, B' a = H a) → Owns C G B H xs vs F → Owns C G' B' H' (refls Fl.lend xs) vs []
  | [], _, _, _, h => ⟨h.1, rfl⟩
  | x :: xs, _, _, k, h => by
    obtain ⟨v, vr, F1, F2, rfl, rfl, h1, h2⟩ := h
    exact ⟨v, vr, [], [], rfl, rfl, Own.lend g bb (fun a ha => k a (List.mem_append_left _ ha)) h1, Owns.lend g bb (fun a ha => k a (List.mem_append_right _ ha)) h2⟩
end
end
end TT
namespace TT
open PySem L2
/-! ### comparisons of data -/
def keyD : Key → D
  | .inl i => .int i
  | .inr x => .str x
def eqk : Key → D → Bool
  | .inl i, .int j => i == j
  | .inl i, .bl b => i == (if b then 1 else 0)
  | .inr x, .str y => x == y
  | _, _ => false
def eqks : List Key → List D → Bool
  | [], [] => true
  | k :: ks, x :: xs => eqk k x && eqks ks xs
  | _, _ => false
mutual
def eqv : D → D → Bool
  | .non, .non => true
  | .bl a, .bl b => a == b
  | .bl a, .int j => (if a then 1 else 0) == j
  | .int i, .bl b => i == (if b then 1 else 0)
  | .int i, .int j => i == j
  | .str x, .str y => x == y
  | .lst _ xs, .lst _ ys => eqvs xs ys
  | .tup _ xs, .tup _ ys => eqvs xs ys
  | .tup _ xs, .ktup ks => eqvs xs (ks.map keyD)
  | .ktup ks, .tup _ ys => eqks ks ys
  | .ktup ks, .ktup ls => decide (ks = ls)
  | _, _ => false
def eqvs : List D → List D → Bool
  | [], [] => true
  | x :: xs, y :: ys => eqv x y && eqvs xs ys
  | _, _ => false
end
mutual
/-- what == may be asked of -/
def isDat : D → Bool
  | .non => true
  | .bl _ => true
  | .int _ => true
  | .str x => PyData.strOk x
  | .lst _ xs => isDats xs
  | .tup _ xs => isDats xs
  | .ktup ks => ks.all fun k => match k with
    | .inl _ => true
    | .inr x => PyData.strOk x
  | _ => false
def isDats : List D → Bool
  | [] => true
  | x :: xs => isDat x && isDats xs
end
mutual
def depthD : D → Nat
  | .lst _ xs => depthDs xs + 1
  | .tup _ xs => depthDs xs + 1
  | .ktup _ => 1
  | _ => 0
def depthDs : List D → Nat
  | [] => 0
  | x :: xs => max (depthD x) (depthDs xs)
end
def datOk (x : D) : Bool := isDat x && decide (depthD x ≤ 64)
def flatD : D → Bool
  | .non => true
  | .bl _ => true
  | .int _ => true
  | .str _ => true
  | _ => false
def isDead : D → Bool
  | .dead => true
  | _ => false
def truth : D → Option Bool
  | .non => some false
  | .bl b => some b
  | .int i => some (i != 0)
  | .str x => if x.length ≤ sizeLine then some ((x.length : Int) != 0) else none
  | .lst _ xs => some (!xs.isEmpty)
  | .tup _ xs => some (!xs.isEmpty)
  | .ktup ks => some (!ks.isEmpty)
  | _ => none
/-- a new tuple is shared at once, where all its items are -/
def tupOf (xs : List D) : D := if noOwns xs && noBors xs then .tup .shr xs else .tup .own xs
/-- a type that isinstance is asked of: a built-in one, or a class of the text -/
inductive Ty where
  | b (n : String) | c (k : Nat)
  deriving DecidableEq
def tyName : D → Option String
  | .non => some "NoneType"
  | .bl _ => some "bool"
  | .int _ => some "int"
  | .str _ => some "str"
  | .tup _ _ => some "tuple"
  | .lst _ _ => some "list"
  | .dk _ _ _ => some "dict"
  | .dt _ _ _ => none
  | .ktup _ => some "tuple"
  | _ => none
def clsOf : D → Option Nat
  | .ins _ c _ _ => some c
  | .exn c _ _ => some c
  | _ => none
inductive Op where
  | add | sub | mul | fdiv | mod | pow | neg
  | eq | ne | lt | le | gt | ge
  | isN | notN | in_ | nin | not
  | tup | lst | dnk | dnt
  | ix | sl (lo hi : Bool) | rev | fld (f : Str) (cs : List Nat)
  | tupK | tupleK | vals | dictP | dictZ | dictC | lenSet | dlit (ks : List Str) | get2 | idx
  | len | list | tuple | int | strI | sum | min2 | max2 | all | any
  | part | find | join | divmod | intT | rep
  | isi (t : Ty) (x : Str) (tab tabI : List (Nat × Bool))
def dget {κ : Type} [DecidableEq κ] (ks : List κ) (vs : List D) (k : κ) : Option D := ((ks.zip vs).find? fun p => decide (p.1 = k)).map (·.2)
def keyOf : D → Option Key
  | .int i => some (.inl i)
  | .str x => some (.inr x)
  | _ => none
def keysOf : List D → Option (List Key)
  | [] => some []
  | x :: xs => match keyOf x, keysOf xs with
    | some k, some ks => some (k :: ks)
    | _, _ => none
def ixD : D → D → Option D
  | .lst _ xs, .int i => atI xs i
  | .tup _ xs, .int i => atI xs i
  | .scr ns, .int i => (atI ns i).map .int
  | .str x, .int i => if x.length ≤ sizeLine then (atI x.cps.toList i).map fun c => .str ⟨#[c]⟩ else none
  | .dk _ ks vs, .int i => dget ks vs (.inl i)
  | .dk _ ks vs, .str x => dget ks vs (.inr x)
  | .dt _ ks vs, .ktup k => dget ks vs k
  | .ktup ks, .int i => (atI ks i).map keyD
  | _, _ => none
def inD : D → D → Option Bool
  | x, .lst _ xs => if flatD x = true ∧ xs.all flatD = true then some (xs.any fun y => eqv y x) else none
  | x, .tup _ xs => if flatD x = true ∧ xs.all flatD = true then some (xs.any fun y => eqv y x) else none
  | .str x, .str y => if x.cps.size = 1 then some (decide (x.cps.getD 0 0 ∈ y.cps.toList)) else none
  | .ktup k, .dt _ ks _ => some (ks.any fun q => decide (q = k))
  | x, .dk _ ks _ => (keyOf x).map fun (k : Key) => ks.any fun q => decide (q = k)
  | _, _ => none
def cut {α : Type} (xs : List α) (lo hi : Option Int) : List α := (xs.drop (HT.sIx xs.length 0 lo)).take (HT.sIx xs.length xs.length hi - HT.sIx xs.length 0 lo)
def slD (x : D) (lo hi : Option Int) : Option D :=
  match x with
  | .lst _ xs => if noOwns xs = true ∧ noBors xs = true then some (.lst .own (cut xs lo hi)) else none
  | .tup .shr xs => some (.tup .shr (cut xs lo hi))
  | .scr ns => some (.lst .own ((cut ns lo hi).map .int))
  | .ktup ks => some (.ktup (cut ks lo hi))
  | .str z => if z.length ≤ sizeLine then some (.str (cutS z lo hi)) else none
  | _ => none
def partD : D → Option Int
  | .int i => some i
  | _ => none
def blsOf : List D → Option (List Bool)
  | [] => some []
  | .bl b :: xs => (blsOf xs).map (b :: ·)
  | _ => none
def intsOf : List D → Option (List Int)
  | [] => some []
  | .int b :: xs => (intsOf xs).map (b :: ·)
  | _ => none
def isiD (t : Ty) (tab tabI : List (Nat × Bool)) (x : D) : Option Bool :=
  match x with
  | .exn c [] [] => tab.lookup c
  | .ins _ c _ _ => tabI.lookup c
  | x => match tyName x, t with
    | some n, .b m => kitB n m
    | some _, .c _ => some false
    | none, _ => none
/-- what may be laid into a new list -/
def goodKids (xs : List D) : Bool := noBors xs && xs.all fun x => !isDead x
def un1 (f : D → Option D) : List D → Option D
  | [x] => f x
  | _ => none
def bi2 (f : D → D → Option D) : List D → Option D
  | [x, y] => f x y
  | _ => none
def tr3 (f : D → D → D → Option D) : List D → Option D
  | [x, y, z] => f x y z
  | _ => none
def addD : D → D → Option D
  | .int i, .int j => some (.int (i + j))
  | .str x, .str y => if x.length + y.length ≤ sizeLine then some (.str (x ++ y)) else none
  | .lst _ xs, .lst _ ys => if noOwns xs = true ∧ noOwns ys = true ∧ noBors xs = true ∧ noBors ys = true ∧ xs.length + ys.length ≤ sizeLine then some (.lst .own (xs ++ ys)) else none
  | .tup .shr xs, .tup .shr ys => if xs.length + ys.length ≤ sizeLine then some (.tup .shr (xs ++ ys)) else none
  | .ktup xs, .ktup ys => if xs.length + ys.length ≤ sizeLine then some (.ktup (xs ++ ys)) else none
  | _, _ => none
def subD : D → D → Option D
  | .int i, .int j => some (.int (i - j))
  | _, _ => none
/-- a product that is surely made: not too many figures, or one factor is small -/
def mulOk (i j : Int) : Bool := decide (i.natAbs.log2 + j.natAbs.log2 < 1000000) || decide (i.natAbs < 2 ^ 64) || decide (j.natAbs < 2 ^ 64)
def mulD : D → D → Option D
  | .int i, .int j => if mulOk i j = true then some (.int (i * j)) else none
  | .lst _ xs, .int k => if noOwns xs = true ∧ noBors xs = true ∧ 0 ≤ k ∧ k < 2 ^ 63 ∧ xs.length * k.toNat ≤ sizeLine then some (.lst .own (List.replicate k.toNat xs).flatten) else none
  | _, _ => none
def fdivD : D → D → Option D
  | .int i, .int j => if 0 < j ∧ j.natAbs.log2 < 9000 then some (.int (i / j)) else none
  | _, _ => none
def modD : D → D → Option D
  | .int i, .int j => if 0 < j then some (.int (i % j)) else none
  | _, _ => none
def powD : D → D → Option D
  | .int i, .int j => if 0 ≤ j ∧ j ≤ 1000000 ∧ i.natAbs < 2 ^ 64 then some (.int (i ^ j.toNat)) else none
  | _, _ => none
def negD : D → Option D
  | .int i => some (.int (-i))
  | _ => none
def eqD (x y : D) : Option D := if datOk x = true ∧ datOk y = true then some (.bl (eqv x y)) else none
def emptyDk : D → Bool
  | .dk .own [] [] => true
  | _ => false
def isTupD : D → Bool
  | .tup _ _ => true
  | _ => false
def neD (x y : D) : Option D := if datOk x = true ∧ datOk y = true then some (.bl (!eqv x y)) else if emptyDk x = true ∧ isTupD y = true then some (.bl true) else none
def cmpD (p : Int → Int → Bool) : D → D → Option D
  | .int i, .int j => some (.bl (p i j))
  | _, _ => none
def isNon : D → Bool
  | .non => true
  | _ => false
def noneD (neg : Bool) (x : D) : Option D := if isDead x = true then none else some (.bl (if neg then !isNon x else isNon x))
def notD : D → Option D
  | .bl b => some (.bl (!b))
  | _ => none
def newTup (xs : List D) : Option D := if goodKids xs = true ∧ xs.length ≤ sizeLine then some (tupOf xs) else none
def newLst (xs : List D) : Option D := if goodKids xs = true ∧ xs.length ≤ sizeLine then some (.lst .own xs) else none
def newDk : List D → Option D
  | [] => some (.dk .own [] [])
  | _ => none
def newDt : List D → Option D
  | [] => some (.dt .own [] [])
  | _ => none
def live (d : D) : Option D := if isDead d = true then none else some d
def slices : Bool → Bool → List D → Option D
  | false, false, [x] => slD x none none
  | true, false, [x, i] => (partD i).bind fun i => slD x (some i) none
  | false, true, [x, j] => (partD j).bind fun j => slD x none (some j)
  | true, true, [x, i, j] => (partD i).bind fun i => (partD j).bind fun j => slD x (some i) (some j)
  | _, _, _ => none
def revD : D → Option D
  | .lst _ xs => if noOwns xs = true ∧ noBors xs = true then some (.lst .own xs.reverse) else none
  | _ => none
def fldD (f : Str) (cs : List Nat) : D → Option D
  | .ins _ c fs vs => if cs.contains c then (dget fs vs f).bind live else none
  | _ => none
def lenD : D → Option D
  | .str x => if x.length ≤ sizeLine then some (.int x.length) else none
  | .lst _ xs => some (.int xs.length)
  | .tup _ xs => some (.int xs.length)
  | .scr ns => some (.int ns.length)
  | .dk _ ks _ => some (.int ks.length)
  | .ktup ks => some (.int ks.length)
  | _ => none
def listD : D → Option D
  | .lst _ xs => if noOwns xs = true ∧ noBors xs = true then some (.lst .own xs) else none
  | .tup _ xs => if noOwns xs = true ∧ noBors xs = true then some (.lst .own xs) else none
  | .ktup ks => some (.lst .own (ks.map keyD))
  | .dk _ ks _ => some (.lst .own (ks.map keyD))
  | _ => none
def tupleD : D → Option D
  | .lst _ xs => if noOwns xs = true ∧ noBors xs = true then some (.tup .shr xs) else none
  | _ => none
def tupleKD : D → Option D
  | .lst _ xs => (keysOf xs).map .ktup
  | .ktup ks => some (.ktup ks)
  | _ => none
def newTupK (xs : List D) : Option D := (keysOf xs).bind fun ks => if xs.length ≤ sizeLine then some (.ktup ks) else none
def valsD : D → Option D
  | .dk _ _ vs => if noOwns vs = true ∧ noBors vs = true then some (.lst .own vs) else none
  | _ => none
def putD {κ : Type} [DecidableEq κ] : List κ → List D → κ → D → List κ × List D
  | q :: ks, x :: vs, k, d => if q = k then (q :: ks, d :: vs) else (q :: (putD ks vs k d).1, x :: (putD ks vs k d).2)
  | _, _, k, d => ([k], [d])
def putsD : List Key → List D → List (Key × D) → List Key × List D
  | ks, vs, [] => (ks, vs)
  | ks, vs, (k, d) :: r => putsD (putD ks vs k d).1 (putD ks vs k d).2 r
/-- a list of pairs of a key and a value -/
def pairsOf : List D → Option (List (Key × D))
  | [] => some []
  | .tup _ [x, y] :: xs => (keyOf x).bind fun k => (pairsOf xs).map fun ps => (k, y) :: ps
  | _ => none
def dkOf (ps : List (Key × D)) : D := .dk .own (putsD [] [] ps).1 (putsD [] [] ps).2
def dictPD : D → Option D
  | .lst _ xs => (pairsOf xs).bind fun ps => if goodKids (ps.map (·.2)) = true ∧ ps.length ≤ sizeLine then some (dkOf ps) else none
  | _ => none
def dictZD : D → D → Option D
  | .lst _ xs, .lst _ ys => (keysOf xs).bind fun ks => if noOwns ys = true ∧ goodKids ys = true ∧ (ks.zip ys).length ≤ sizeLine then some (dkOf (ks.zip ys)) else none
  | _, _ => none
def dictCD : D → Option D
  | .dk _ ks vs => if noOwns vs = true ∧ noBors vs = true then some (.dk .own ks vs) else none
  | _ => none
def strsOf : List D → Option (List Str)
  | [] => some []
  | .str b :: xs => (strsOf xs).map (b :: ·)
  | _ => none
/-- the texts met, each once -/
def met1 (m : List Str) (x : Str) : List Str := if m.any (· == x) then m else m ++ [x]
def metS (xs : List Str) : List Str := xs.foldl met1 []
/-- len(set(xs)) of texts -/
def lenSetD : D → Option D
  | .lst _ xs => (strsOf xs).bind fun ys => if ys.length ≤ 4000 then some (.int ((metS ys).length : Nat)) else none
  | _ => none
def dlitD (ks : List Str) (vs : List D) : Option D := if ks.length = vs.length ∧ goodKids vs = true ∧ ks.Nodup ∧ ks.length ≤ 15 ∧ ks ≠ [] then some (.dk .own (ks.map .inr) vs) else none
def getD2 : D → D → D → Option D
  | .dk _ ks vs, k, z => (keyOf k).bind fun k => if noOwn ((dget ks vs k).getD z) then live ((dget ks vs k).getD z) else none
  | .dt _ ks vs, .ktup k, z => if noOwn ((dget ks vs k).getD z) then live ((dget ks vs k).getD z) else none
  | _, _, _ => none
def idxD : D → D → Option D
  | .lst _ xs, x => if datOk x = true ∧ datOk (.lst .own xs) = true then (xs.findIdx? fun y => eqv y x).map fun j => .int (j : Nat) else none
  | _, _ => none
def intD : D → Option D
  | .int i => some (.int i)
  | .bl b => some (.int (if b then 1 else 0))
  | _ => none
def strID : D → Option D
  | .int i => if i.natAbs.log2 < 1920 then some (.str (toString i)) else none
  | _ => none
def sumD : D → Option D
  | .lst _ xs => (intsOf xs).map fun ns => .int ns.sum
  | _ => none
def minD : D → D → Option D
  | .int i, .int j => some (.int (if j < i then j else i))
  | _, _ => none
def maxD : D → D → Option D
  | .int i, .int j => some (.int (if j > i then j else i))
  | _, _ => none
def allD : D → Option D
  | .lst _ xs => (blsOf xs).map fun bs => .bl (bs.all id)
  | _ => none
def anyD : D → Option D
  | .lst _ xs => (blsOf xs).map fun bs => .bl (bs.any id)
  | _ => none
def txtPart : D → D → Option D
  | .str a, .str b => if (b.length == 0) = false ∧ a.length ≤ sizeLine then some (.tup .shr [.str (Txt.partition a b).1, .str (Txt.partition a b).2.1, .str (Txt.partition a b).2.2]) else none
  | _, _ => none
def txtFind : D → D → Option D
  | .str a, .str b => some (.int (Txt.find a b))
  | _, _ => none
def txtJoin : D → D → Option D
  | .str a, .lst _ xs => (strsOf xs).bind fun ys => if (ys.map (·.length)).sum + ys.length * a.length ≤ 16777216 then some (.str (Txt.join a ys)) else none
  | _, _ => none
def divmodD : D → D → Option D
  | .int i, .int j => if 0 < j ∧ Builtin.Int.intBits i ≤ Builtin.Int.intBits j + 4000 then some (.tup .shr [.int (i / j), .int (i % j)]) else none
  | _, _ => none
def intTD : D → Option D
  | .str a => (PySem.intText? a).bind fun n => if a.length ≤ 640 then some (.int n) else none
  | _ => none
/-- a text, so many times -/
def repS (a : Str) (k : Int) : Str := ⟨(List.replicate k.toNat a.cps.toList).flatten.toArray⟩
def repD : D → D → Option D
  | .str a, .int k => if 0 ≤ k ∧ k ≤ 1000000 ∧ a.length * k.toNat ≤ 1000000 then some (.str (repS a k)) else none
  | _, _ => none
def opD : Op → List D → Option D
  | .add => bi2 addD
  | .sub => bi2 subD
  | .mul => bi2 mulD
  | .fdiv => bi2 fdivD
  | .mod => bi2 modD
  | .pow => bi2 powD
  | .neg => un1 negD
  | .eq => bi2 eqD
  | .ne => bi2 neD
  | .lt => bi2 (cmpD fun i j => decide (i < j))
  | .le => bi2 (cmpD fun i j => decide (i ≤ j))
  | .gt => bi2 (cmpD fun i j => decide (j < i))
  | .ge => bi2 (cmpD fun i j => decide (j ≤ i))
  | .isN => un1 (noneD false)
  | .notN => un1 (noneD true)
  | .in_ => bi2 fun x y => (inD x y).map .bl
  | .nin => bi2 fun x y => (inD x y).map fun b => .bl (!b)
  | .not => un1 notD
  | .tup => newTup
  | .lst => newLst
  | .dnk => newDk
  | .dnt => newDt
  | .ix => bi2 fun x y => (ixD x y).bind live
  | .sl lo hi => slices lo hi
  | .rev => un1 revD
  | .fld f cs => un1 (fldD f cs)
  | .tupK => newTupK
  | .tupleK => un1 tupleKD
  | .vals => un1 valsD
  | .dictP => un1 dictPD
  | .dictZ => bi2 dictZD
  | .dictC => un1 dictCD
  | .lenSet => un1 lenSetD
  | .dlit ks => dlitD ks
  | .get2 => tr3 getD2
  | .idx => bi2 idxD
  | .len => un1 lenD
  | .list => un1 listD
  | .tuple => un1 tupleD
  | .int => un1 intD
  | .strI => un1 strID
  | .sum => un1 sumD
  | .min2 => bi2 minD
  | .max2 => bi2 maxD
  | .all => un1 allD
  | .any => un1 anyD
  | .part => bi2 txtPart
  | .find => bi2 txtFind
  | .join => bi2 txtJoin
  | .divmod => bi2 divmodD
  | .intT => un1 intTD
  | .rep => bi2 repD
  | .isi t _ tab tabI => un1 fun x => (isiD t tab tabI x).map .bl
/-! ### outcomes -/
inductive R (α : Type) where
  | ok (a : α) (s : List D)
  | exc (c : Nat) (fs : List Str) (xs : List D) (s : List D)
  | bad
def R.bind {α β : Type} (r : R α) (f : α → List D → R β) : R β :=
  match r with
  | .ok a s => f a s
  | .exc c fs xs s => .exc c fs xs s
  | .bad => .bad
def R.of {α : Type} (o : Option α) (s : List D) : R α :=
  match o with
  | some a => .ok a s
  | none => .bad
/-- a def's outcome: the value, or the exception; its first parameter's data behind it -/
inductive FR where
  | ok (r : D) (d0 : D)
  | exc (c : Nat) (fs : List Str) (xs : List D) (d0 : D)
  | bad
/-- a def of the text: name, parameters, level, whether it may change its first parameter, defaults (of the last parameters), what it gives -/
structure FE where
  name : Str
  np : Nat
  lv : Nat
  m : Bool
  dfl : List D
  g : List D → FR
/-- what a walk goes through, and where its items go -/
inductive ItK where
  | seq | rng1 | rng2 | rng3 | enum | zip
  deriving DecidableEq
inductive Tg where
  | nm (i : Nat) | tup (is : List Nat)
inductive E where
  | c (d : D) | nm (i : Nat) | mv (i : Nat) | fz (i : Nat) | cp (a : E) | tf (a : E) | pu (a : E) | gl (x : Str) (d : D)
  | op (o : Op) (es : List E) | mth (o : Op) (a : E) (es : List E)
  | band (es : List E) | bor (es : List E) | ite (c a b : E)
  | chain (o1 o2 : Op) (a b c : E)
  | call (f : FE) (es : List E)
  | comp (own : List Nat) (t : Tg) (k : ItK) (es : List E) (co : List E) (elt : E)
  | meth (x : Str) (tab : List (Nat × FE)) (o : E) (es : List E)
  | make (c : Nat) (x : Str) (f : FE) (es : List E)
  | callM (f : FE) (i : Nat) (es : List E)
  | methM (x : Str) (tab : List (Nat × FE)) (i : Nat) (es : List E)
  | callV (i : Nat) (tab : List (Nat × FE)) (es : List E)
structure It where
  k : ItK
  es : List E
def scalD : D → Bool
  | .non => true
  | .bl _ => true
  | .int _ => true
  | .str _ => true
  | _ => false
/-- a def that may change its first parameter -/
def fillM (f : FE) (d0 : D) (ds : List D) : List D := d0 :: (refls Fl.lend ds ++ f.dfl.drop (f.dfl.length - (f.np - (ds.length + 1))))
/-- the class of an instance that has no field x -/
def clsI (x : Str) : D → Option Nat
  | .ins _ c fs _ => if fs.contains x then none else some c
  | _ => none
def fnI : D → Option Nat
  | .fn k => some k
  | _ => none
def fillD (f : FE) (ds : List D) : List D := refls Fl.lend ds ++ f.dfl.drop (f.dfl.length - (f.np - ds.length))
def setAll : List Nat → List D → List D → Option (List D)
  | [], [], s => some s
  | i :: is, x :: xs, s => setAll is xs (s.set i x)
  | _, _, _ => none
/-- items are shared or borrowed: storing them takes nothing -/
def tgSet : Tg → D → List D → Option (List D)
  | .nm i, d, s => some (s.set i d)
  | .tup is, .tup _ xs, s => setAll is xs s
  | _, _, _ => none
def pairD (x y : D) : D := if allShr x && allShr y then .tup .shr [x, y] else .tup .bor [x, y]
def small62 (i : Int) : Bool := decide (-(2 ^ 62) ≤ i) && decide (i < 2 ^ 62)
def rngD (lo : Int) (n : Nat) (c : Int) : List D := (List.range n).map fun (k : Nat) => .int (lo + (k : Int) * c)
def seqD : D → Option (List D)
  | .lst fl xs => if fl != .own && noOwns xs && xs.all (fun x => !isDead x) then some xs else none
  | .tup fl xs => if fl != .own && noOwns xs && xs.all (fun x => !isDead x) then some xs else none
  | .ktup ks => some (ks.map keyD)
  | .str x => some (x.cps.toList.map fun c => .str ⟨#[c]⟩)
  | .scr ns => some (ns.map .int)
  | _ => none
def lstD : D → Option (List D)
  | .lst fl xs => if fl != .own && noOwns xs && xs.all (fun x => !isDead x) then some xs else none
  | .scr ns => some (ns.map .int)
  | _ => none
def rng1D : D → Option (List D)
  | .int j => if small62 j then some (rngD 0 j.toNat 1) else none
  | _ => none
def rng2D : D → D → Option (List D)
  | .int i, .int j => if small62 i && small62 j then some (rngD i (j - i).toNat 1) else none
  | _, _ => none
def rng3D : D → D → D → Option (List D)
  | .int i, .int j, .int k => if small62 i && small62 j && decide (0 < k) && decide (k < 1073741824) then some (rngD i ((j - i + (k - 1)) / k).toNat k) else none
  | _, _, _ => none
def enumD (d : D) : Option (List D) := (lstD d).map fun xs => (xs.zipIdx.map fun p => pairD (.int (p.2 : Nat)) p.1)
def zsD : D → Option (List D)
  | .tup fl xs => if fl != .own && noOwns xs && xs.all (fun x => !isDead x) then some xs else none
  | .ktup ks => some (ks.map keyD)
  | x => lstD x
def zipD (x y : D) : Option (List D) := (zsD x).bind fun xs => (zsD y).map fun ys => (xs.zip ys).map fun p => pairD p.1 p.2
/-- the items of a walk -/
def itD : ItK → List D → Option (List D)
  | .seq, [x] => seqD x
  | .rng1, [x] => rng1D x
  | .rng2, [x, y] => rng2D x y
  | .rng3, [x, y, z] => rng3D x y z
  | .enum, [x] => enumD x
  | .zip, [x, y] => zipD x y
  | _, _ => none
/-- slots put aside, and back -/
def clr : List Nat → List D → List D
  | [], s => s
  | i :: is, s => (clr is s).set i .dead
def rst (s0 : List D) : List Nat → List D → List D
  | [], s => s
  | i :: is, s => (rst s0 is s).set i (s0.getD i .dead)
def chk (own : List Nat) (s : List D) : Bool := own.all fun i => noOwn (s.getD i .dead)
/-- the turns of a comprehension -/
def loopC (own : List Nat) (f : D → List D → R (Option D)) : List D → List D → R (List D)
  | [], s => .ok [] s
  | d :: ds, s => match f d s with
    | .ok (some y) s1 => if chk own s1 then (loopC own f ds (clr own s1)).bind fun ys s2 => .ok (y :: ys) s2 else .bad
    | .ok none s1 => if chk own s1 then loopC own f ds (clr own s1) else .bad
    | _ => .bad
def compE (own : List Nat) (s1 : List D) (r : R (List D)) : R D := match r with
  | .ok ys s2 => if goodKids ys && decide (ys.length ≤ sizeLine) then .ok (.lst .own ys) (rst s1 own s2) else .bad
  | _ => .bad
def ordP : Op → Option (Int → Int → Bool)
  | .lt => some fun i j => decide (i < j)
  | .le => some fun i j => decide (i ≤ j)
  | .gt => some fun i j => decide (j < i)
  | .ge => some fun i j => decide (j ≤ i)
  | _ => none
def ordD (o : Op) (x y : D) : Option Bool := match ordP o, x, y with
  | some p, .int i, .int j => some (p i j)
  | _, _, _ => none
/-- what a method is asked of -/
def rcvOk (o : Op) (d : D) : Bool := match o, d with
  | .part, .str _ => true
  | .find, .str _ => true
  | .join, .str _ => true
  | .idx, .lst _ _ => true
  | .get2, .dk _ _ _ => true
  | .get2, .dt _ _ _ => true
  | _, _ => false
def retR (s : List D) : FR → R D
  | .ok r _ => if noBor r && !isDead r then .ok r s else .bad
  | .exc c fs xs _ => .exc c fs xs s
  | .bad => .bad
/-- behind a call that may change slot i -/
def retM (i : Nat) (s : List D) : FR → R D
  | .ok r d0 => if noBor r && !isDead r && (noBor d0 && !isDead d0) then .ok r (s.set i d0) else .bad
  | .exc c fs xs d0 => if noBor d0 && !isDead d0 then .exc c fs xs (s.set i d0) else .bad
  | .bad => .bad
/-- behind an __init__ -/
def retI (s : List D) : FR → R D
  | .ok r d0 => match r with
    | .non => if noBor d0 && !isDead d0 then .ok d0 s else .bad
    | _ => .bad
  | .exc c fs xs _ => .exc c fs xs s
  | .bad => .bad
def selF (tab : List (Nat × FE)) : Option Nat → Option FE
  | some c => tab.lookup c
  | none => none
mutual
def evE : E → List D → R D
  | .c d, s => .ok d s
  | .nm i, s => if isDead (s.getD i .dead) then .bad else .ok (s.getD i .dead) s
  | .mv i, s => if isDead (s.getD i .dead) then .bad else .ok (s.getD i .dead) (s.set i .dead)
  | .fz i, s => if isDead (s.getD i .dead) || !noBor (s.getD i .dead) then .bad else .ok (frz (s.getD i .dead)) (s.set i (frz (s.getD i .dead)))
  | .cp a, s => (evE a s).bind fun d s1 => if noOwn d then .ok d s1 else .bad
  | .tf a, s => (evE a s).bind fun d s1 => if noBor d then .ok (frz d) s1 else .bad
  | .pu a, s => match evE a (refls Fl.lend s) with
    | .ok d _ => if noBor d then .ok d s else .bad
    | _ => .bad
  | .gl _ d, s => .ok d s
  | .op o es, s => (evEs es s).bind fun ds s1 => R.of (opD o ds) s1
  | .mth o a es, s => (evE a s).bind fun d0 s1 => if rcvOk o d0 then (evEs es s1).bind fun ds s2 => R.of (opD o (d0 :: ds)) s2 else .bad
  | .band es, s => evAnd es s
  | .bor es, s => evOr es s
  | .ite c a b, s => (evE c s).bind fun d s1 => match truth d with
    | some true => evE a s1
    | some false => evE b s1
    | none => .bad
  | .chain o1 o2 a b c, s => (evE a s).bind fun x s1 => (evE b s1).bind fun y s2 => match ordD o1 x y with
    | some true => (evE c s2).bind fun z s3 => R.of ((ordD o2 y z).map .bl) s3
    | some false => .ok (.bl false) s2
    | none => .bad
  | .call f es, s => (evEs es s).bind fun ds s1 => match f.g (fillD f ds) with
    | .ok r _ => if noBor r && !isDead r then .ok r s1 else .bad
    | .exc c fs xs _ => .exc c fs xs s1
    | .bad => .bad
  | .comp own t k es co elt, s => (evEs es s).bind fun ds s1 => match itD k ds with
    | some xs => if chk own s1 then
        compE own s1 (loopC own (fun d s => match tgSet t d s with
          | some s2 => (evTs co s2).bind fun b s3 => if b then (evE elt s3).bind fun y s4 => .ok (some y) s4 else .ok none s3
          | none => .bad) xs (clr own s1))
      else .bad
    | none => .bad
  | .meth x tab o es, s => (evE o s).bind fun d0 s1 => match selF tab (clsI x d0) with
    | some f => (evEs es s1).bind fun ds s2 => retR s2 (f.g (fillD f (d0 :: ds)))
    | none => .bad
  | .make c _ f es, s => (evEs es s).bind fun ds s1 => retI s1 (f.g (fillM f (.ins .own c [] []) ds))
  | .callM f i es, s => if isDead (s.getD i .dead) then .bad else (evEs es s).bind fun ds s1 => if isDead (s1.getD i .dead) then .bad else retM i s1 (f.g (fillM f (s1.getD i .dead) ds))
  | .methM x tab i es, s => match selF tab (clsI x (s.getD i .dead)) with
    | some f => (evEs es s).bind fun ds s1 => if isDead (s1.getD i .dead) then .bad else retM i s1 (f.g (fillM f (s1.getD i .dead) ds))
    | none => .bad
  | .callV i tab es, s => match selF tab (fnI (s.getD i .dead)) with
    | some f => (evEs es s).bind fun ds s1 => retR s1 (f.g (fillD f ds))
    | none => .bad
def evEs : List E → List D → R (List D)
  | [], s => .ok [] s
  | e :: es, s => (evE e s).bind fun d s1 => (evEs es s1).bind fun ds s2 => .ok (d :: ds) s2
def evAnd : List E → List D → R D
  | [], _ => .bad
  | [e], s => evE e s
  | e :: es, s => (evE e s).bind fun d s1 => match d with
    | .bl true => evAnd es s1
    | .bl false => .ok (.bl false) s1
    | _ => .bad
def evOr : List E → List D → R D
  | [], _ => .bad
  | [e], s => evE e s
  | e :: es, s => (evE e s).bind fun d s1 => match d with
    | .bl false => evOr es s1
    | .bl true => .ok (.bl true) s1
    | _ => .bad
/-- a comprehension's test, at most one -/
def evTs : List E → List D → R Bool
  | [], s => .ok true s
  | e :: es, s => (evE e s).bind fun d s1 => match truth d with
    | some b => .ok b s1
    | none => .bad
end
def evIt (it : It) (s : List D) : R (List D) := (evEs it.es s).bind fun ds s1 => R.of (itD it.k ds) s1
/-! ### statements -/
inductive O where
  | nx (s : List D) | rt (d : D) (s : List D) | bk (s : List D) | ct (s : List D)
  | exc (c : Nat) (fs : List Str) (xs : List D) (s : List D)
  | bad
def R.then {α : Type} (r : R α) (f : α → List D → O) : O :=
  match r with
  | .ok a s => f a s
  | .exc c fs xs s => .exc c fs xs s
  | .bad => .bad
def O.bind (o : O) (f : List D → O) : O :=
  match o with
  | .nx s => f s
  | o => o
/-- what an except suite does: a name is given the exception, or a constant, or an empty list -/
inductive Su where
  | exn (i : Nat) | c (i : Nat) (d : D) | nil (i : Nat)
/-- a place: a slot, a field of one, an item of one -/
inductive PK where
  | nm (j : Nat) | c (d : D)
inductive Pl where
  | nm (i : Nat) | fld (p : Pl) (f : Str) (cs : List Nat) | ix (p : Pl) (k : PK)
inductive Stp where
  | f (x : Str) (cs : List Nat) | k (d : D)
def pkD : PK → List D → D
  | .nm j, s => s.getD j .dead
  | .c d, _ => d
def plI : Pl → Nat
  | .nm i => i
  | .fld p _ _ => plI p
  | .ix p _ => plI p
def plS : Pl → List D → List Stp
  | .nm _, _ => []
  | .fld p f cs, s => plS p s ++ [.f f cs]
  | .ix p k, s => plS p s ++ [.k (pkD k s)]
/-- the child of an owned node -/
def stepG : Stp → D → Option Nat
  | .f x cs, .ins .own c fs _ => if cs.contains c then fs.findIdx? (fun y => decide (y = x)) else none
  | .k (.int i), .lst .own xs => ixN xs.length i
  | .k (.int i), .dk .own ks _ => ks.findIdx? (fun y => decide (y = .inl i))
  | .k (.str x), .dk .own ks _ => ks.findIdx? (fun y => decide (y = .inr x))
  | .k (.ktup k), .dt .own ks _ => ks.findIdx? (fun y => decide (y = k))
  | _, _ => none
def kidsD : D → List D
  | .lst _ xs => xs
  | .dk _ _ xs => xs
  | .dt _ _ xs => xs
  | .ins _ _ _ xs => xs
  | _ => []
def setKids : D → List D → D
  | .lst fl _, ys => .lst fl ys
  | .dk fl ks _, ys => .dk fl ks ys
  | .dt fl ks _, ys => .dt fl ks ys
  | .ins fl c fs _, ys => .ins fl c fs ys
  | d, _ => d
def getP : List Stp → D → Option D
  | [], d => some d
  | st :: ps, d => (stepG st d).bind fun j => ((kidsD d)[j]?).bind (getP ps)
def modP : List Stp → (D → Option D) → D → Option D
  | [], g, d => g d
  | st :: ps, g, d => (stepG st d).bind fun j => ((kidsD d)[j]?).bind fun x => (modP ps g x).map fun y => setKids d ((kidsD d).set j y)
inductive UO where
  | app | ext | clr | rem | pop | upd | clrD | popD
/-- what a method of a list, of a dict is asked of -/
def uoOk (o : UO) (d : D) : Bool := match o, d with
  | .app, .lst .own _ => true
  | .ext, .lst .own _ => true
  | .clr, .lst .own _ => true
  | .rem, .lst .own _ => true
  | .pop, .lst .own _ => true
  | .clrD, .dk .own _ _ => true
  | .popD, .dk .own _ _ => true
  | .upd, .dk .own _ _ => true
  | _, _ => false
def dropD {κ : Type} [DecidableEq κ] : List κ → List D → κ → List κ × List D
  | q :: ks, x :: vs, k => if q = k then (ks, vs) else (q :: (dropD ks vs k).1, x :: (dropD ks vs k).2)
  | ks, vs, _ => (ks, vs)
def uoD (o : UO) (es : List D) (d : D) : Option D := match o, d, es with
  | .app, .lst .own xs, [x] => if noBor x && !isDead x && decide (xs.length < sizeLine) then some (.lst .own (xs ++ [x])) else none
  | .ext, .lst .own xs, [.lst _ ys] => if noOwns ys && goodKids ys && decide (xs.length + ys.length ≤ sizeLine) then some (.lst .own (xs ++ ys)) else none
  | .clr, .lst .own _, [] => some (.lst .own [])
  | .clrD, .dk .own _ _, [] => some (.dk .own [] [])
  | .rem, .lst .own xs, [.str x] => if (strsOf xs).isSome then (xs.findIdx? fun y => eqv y (.str x)).map fun j => .lst .own (xs.eraseIdx j) else none
  | .pop, .lst .own xs, [.int i] => if decide (-(2 ^ 63) ≤ i) && decide (i < 2 ^ 63) then (ixN xs.length i).map fun j => .lst .own (xs.eraseIdx j) else none
  | .popD, .dk .own ks vs, [k] => (keyOf k).bind fun k => if ks.any (fun q => decide (q = k)) then some (.dk .own (dropD ks vs k).1 (dropD ks vs k).2) else none
  | .upd, .dk .own ks vs, [.dk _ ls ws] => if noOwns ws && goodKids ws && decide (ks.length + ls.length ≤ sizeLine) then some (.dk .own (putsD ks vs (ls.zip ws)).1 (putsD ks vs (ls.zip ws)).2) else none
  | _, _, _ => none
/-- d.f = x -/
def setFD (f : Str) (cs : List Nat) (x : D) : D → Option D
  | .ins .own c fs vs => if cs.contains c && noBor x && !isDead x && decide (fs.length < 1000) then some (.ins .own c (putD fs vs f x).1 (putD fs vs f x).2) else none
  | _ => none
/-- d[k] = x -/
def setID (k x : D) (d : D) : Option D := if noBor x && !isDead x then (match d, k with
  | .lst .own xs, .int i => (ixN xs.length i).map fun j => .lst .own (xs.set j x)
  | .dk .own ks vs, .int i => if decide (ks.length < sizeLine) then some (.dk .own (putD ks vs (.inl i) x).1 (putD ks vs (.inl i) x).2) else none
  | .dk .own ks vs, .str y => if decide (ks.length < sizeLine) then some (.dk .own (putD ks vs (.inr y) x).1 (putD ks vs (.inr y) x).2) else none
  | .dt .own ks vs, .ktup k => if decide (ks.length < sizeLine) then some (.dt .own (putD ks vs k x).1 (putD ks vs k x).2) else none
  | _, _ => none) else none
inductive S where
  | asg (i : Nat) (e : E)
  | par (i j : Nat) (a b : E)
  | app (i : Nat) (e : E)
  | asgT (is : List Nat) (e : E)
  | aug (i : Nat) (o : Op) (e : E)
  | ex (e : E)
  | ret (e : E)
  | ift (c : E) (a b : List S)
  | for_ (t : Tg) (it : It) (b : List S)
  | whl (fuel : List D → Nat) (c : E) (b : List S)
  | raise0 (c : Nat) (x : Str)
  | try1 (b : List S) (c : Nat) (x : Str) (tab : List (Nat × Bool)) (nmi : Option Nat) (su : Su)
  | pass | cont
  | up (o : UO) (p : Pl) (es : List E)
  | setF (p : Pl) (f : Str) (cs : List Nat) (e : E)
  | setI (p : Pl) (k e : E)
  | forApp (x i : Nat) (d : D)
/-- x += .., x *= ..: whole numbers, texts -/
def augD : Op → D → D → Option D
  | .add, .int i, .int j => some (.int (i + j))
  | .add, .str x, .str y => if x.length + y.length ≤ sizeLine then some (.str (x ++ y)) else none
  | .mul, .int i, .int j => if mulOk i j = true then some (.int (i * j)) else none
  | _, _, _ => none
def isLst : D → Bool
  | .lst _ _ => true
  | _ => false
/-- xs.append(d) -/
def appD : D → D → Option D
  | .lst .own xs, d => if noBor d && !isDead d && decide (xs.length < sizeLine) then some (.lst .own (xs ++ [d])) else none
  | _, _ => none
def suD : Su → Nat → List Str → List D → List D → List D
  | .exn i, c, fs, xs, s => s.set i (.exn c fs xs)
  | .c i d, _, _, _, s => s.set i d
  | .nil i, _, _, _, s => s.set i (.lst .own [])
/-- the turns of a for -/
def loopF (f : D → List D → O) : List D → List D → O
  | [], s => .nx s
  | d :: ds, s => match f d s with
    | .nx s1 => loopF f ds s1
    | .ct s1 => loopF f ds s1
    | .bk s1 => .nx s1
    | o => o
/-- the turns of a while, at most n -/
def loopW (c : List D → R D) (f : List D → O) : Nat → List D → O
  | 0, _ => .bad
  | n + 1, s => match c s with
    | .ok d s1 => match truth d with
      | some true => match f s1 with
        | .nx s2 => loopW c f n s2
        | .ct s2 => loopW c f n s2
        | .bk s2 => .nx s2
        | o => o
      | some false => .nx s1
      | none => .bad
    | .exc c fs xs s1 => .exc c fs xs s1
    | .bad => .bad
/-- x.append(d) of each x of a list of lists of one's own -/
def appAll (d : D) : List D → Option (List D)
  | [] => some []
  | x :: xs => (uoD .app [d] x).bind fun y => (appAll d xs).map (y :: ·)
def ownLst : D → Option (List D)
  | .lst .own xs => some xs
  | _ => none
def upO (p : Pl) (g : D → Option D) (s : List D) : O := match modP (plS p s) g (s.getD (plI p) .dead) with
  | some r => .nx (s.set (plI p) r)
  | none => .bad
mutual
def exS : S → List D → O
  | .asg i e, s => (evE e s).then fun d s1 => .nx (s1.set i d)
  | .par i j a b, s => (evEs [a, b] s).then fun ds s1 => match ds with
    | [x, y] => .nx ((s1.set i x).set j y)
    | _ => .bad
  | .app i e, s => if isLst (s.getD i .dead) then (evE e s).then fun d s1 => match appD (s1.getD i .dead) d with
      | some r => .nx (s1.set i r)
      | none => .bad
    else .bad
  | .asgT is e, s => (evE e s).then fun d s1 => match tgSet (.tup is) d s1 with
    | some s2 => .nx s2
    | none => .bad
  | .aug i o e, s => if isDead (s.getD i .dead) then .bad else (evE e s).then fun d s1 => match augD o (s1.getD i .dead) d with
    | some r => .nx (s1.set i r)
    | none => .bad
  | .ex e, s => (evE e s).then fun _ s1 => .nx s1
  | .ret e, s => (evE e s).then fun d s1 => .rt d s1
  | .ift c a b, s => (evE c s).then fun d s1 => match truth d with
    | some true => exSs a s1
    | some false => exSs b s1
    | none => .bad
  | .for_ t it b, s => (evIt it s).then fun xs s1 => loopF (fun d s => match tgSet t d s with | some s' => exSs b s' | none => .bad) xs s1
  | .whl fuel c b, s => loopW (evE c) (exSs b) (fuel s) s
  | .raise0 c _, s => .exc c [] [] s
  | .try1 b _ _ tab nmi su, s => match exSs b s with
    | .exc c fs xs s1 => match tab.lookup c with
      | some true => .nx (match nmi with | some i => (suD su c fs xs s1).set i .dead | none => suD su c fs xs s1)
      | some false => .exc c fs xs s1
      | none => .bad
    | o => o
  | .up o p es, s => match getP (plS p s) (s.getD (plI p) .dead) with
    | some d => if uoOk o d then (evEs es s).then fun ds s1 => upO p (uoD o ds) s1 else .bad
    | none => .bad
  | .setF p f cs e, s => (evE e s).then fun d s1 => upO p (setFD f cs d) s1
  | .setI p k e, s => (evE e s).then fun d s1 => match getP (plS p s1) (s1.getD (plI p) .dead) with
    | some x => if isDead x then .bad else (evE k s1).then fun kd s2 => upO p (setID kd d) s2
    | none => .bad
  | .forApp x i d, s => match (ownLst (s.getD i .dead)).bind (appAll d) with
    | some ys => if x < s.length then .nx ((s.set i (.lst .own ys)).set x .dead) else .bad
    | none => .bad
  | .pass, s => .nx s
  | .cont, s => .ct s
def exSs : List S → List D → O
  | [], s => .nx s
  | x :: xs, s => (exS x s).bind fun s1 => exSs xs s1
end
/-- a def's run -/
def runF (n : Nat) (m : Bool) (b : List S) (ds : List D) : FR :=
  match exSs b (ds ++ List.replicate (n - ds.length) .dead) with
  | .nx s => .ok .non (if m then s.getD 0 .dead else .dead)
  | .rt d s => if noBor d && !isDead d then .ok d (if m then s.getD 0 .dead else .dead) else .bad
  | .exc c fs xs s => .exc c fs xs (if m then s.getD 0 .dead else .dead)
  | _ => .bad
end TT
open TT in
example (a b : TT.D) : evE (.op .tup [.nm 0, .c (.int 3)]) [.int 4] = .ok (.tup .shr [.int 4, .int 3]) [.int 4] := rfl
open TT in
example (n : Int) : exSs [.asg 0 (.op .add [.nm 0, .c (.int 3)]), .ret (.nm 0)] [.int n] = .rt (.int (n+3)) [.int (n+3)] := rfl
namespace TT
open PySem PySem.Spec PyProof.Rows L2
/-! ### states -/
abbrev Fp := Nat → List Addr
def inF (F : Fp) (a : Addr) : Prop := ∃ i, a ∈ F i
structure Good (C : Gl0) (G B H : Hp) (F : Fp) (s : List D) (σ : L2.St) : Prop where
  gb : Sb G B
  bh : Sb B H
  len : s.length = σ.length
  sl : ∀ i, s.getD i .dead ≠ .dead → ∃ v, σ[i]? = some (some v) ∧ Own C G B H (s.getD i .dead) v (F i)
  nf : ∀ i, s.getD i .dead = .dead → F i = []
  nd : ∀ i, (F i).Nodup
  dj : ∀ i j a, a ∈ F i → a ∈ F j → i = j
/-- from one state to a later one: P what the code may change, P' what it may change from then on -/
structure Ext (G B H : Hp) (P : Addr → Prop) (G' B' H' : Hp) (P' : Addr → Prop) : Prop where
  keep : ∀ a o, H a = some o → ¬ P a → H' a = some o
  g : ∀ a o, G a = some o → G' a = some o
  b : ∀ a o, B a = some o → B' a = some o
  gn : ∀ a, G' a ≠ none → G a ≠ none ∨ P a ∨ H a = none
  bn : ∀ a, B' a ≠ none → B a ≠ none ∨ P a ∨ H a = none
  pn : ∀ a, P' a → P a ∨ H a = none
section
variable {C : Gl0} {G B H G' B' H' G'' B'' H'' : Hp} {P P' P'' R : Addr → Prop} {F F' : Fp} {s s' : List D} {σ : L2.St}
theorem Ext.refl : Ext G B H P G B H P := ⟨fun _ _ h _ => h, fun _ _ h => h, fun _ _ h => h, fun _ h => .inl h, fun _ h => .inl h, fun _ h => .inl h⟩
theorem Ext.gone (x : Ext G B H P G' B' H' P') {a : Addr} (h : H' a = none) : H a = none ∨ P a := by
  cases e : H a with
  | none => exact .inl rfl
  | some o =>
    by_cases p : P a
    · exact .inr p
    · have := x.keep a o e p
      rw [h] at this; cases this
theorem Ext.trans (x : Ext G B H P G' B' H' P') (y : Ext G' B' H' P' G'' B'' H'' P'') : Ext G B H P G'' B'' H'' P'' where
  keep := fun a o h p => y.keep a o (x.keep a o h p) fun p' => (x.pn a p').elim p fun z => by rw [z] at h; cases h
  g := fun a o h => y.g a o (x.g a o h)
  b := fun a o h => y.b a o (x.b a o h)
  gn := fun a h => by
    rcases y.gn a h with h | h | h
    · exact x.gn a h
    · exact .inr (x.pn a h)
    · exact .inr ((x.gone h).symm)
  bn := fun a h => by
    rcases y.bn a h with h | h | h
    · exact x.bn a h
    · exact .inr (x.pn a h)
    · exact .inr ((x.gone h).symm)
  pn := fun a h => by
    rcases y.pn a h with h | h
    · exact x.pn a h
    · exact (x.gone h).symm
/-- beside it stands R -/
theorem Ext.frame (x : Ext G B H P G' B' H' P') : Ext G B H (fun a => P a ∨ R a) G' B' H' (fun a => P' a ∨ R a) where
  keep := fun a o h p => x.keep a o h fun z => p (.inl z)
  g := x.g
  b := x.b
  gn := fun a h => by
    rcases x.gn a h with h | h | h
    · exact .inl h
    · exact .inr (.inl (.inl h))
    · exact .inr (.inr h)
  bn := fun a h => by
    rcases x.bn a h with h | h | h
    · exact .inl h
    · exact .inr (.inl (.inl h))
    · exact .inr (.inr h)
  pn := fun a h => by
    rcases h with h | h
    · rcases x.pn a h with h | h
      · exact .inl (.inl h)
      · exact .inr h
    · exact .inl (.inr h)
theorem Ext.imp (x : Ext G B H P G' B' H' P') {R R' : Addr → Prop} (h1 : ∀ a, P a → R a) (h2 : ∀ a, R' a → P' a ∨ (P a ∨ R a)) : Ext G B H R G' B' H' R' where
  keep := fun a o h p => x.keep a o h fun z => p (h1 a z)
  g := x.g
  b := x.b
  gn := fun a h => (x.gn a h).imp id (Or.imp (h1 a) id)
  bn := fun a h => (x.bn a h).imp id (Or.imp (h1 a) id)
  pn := fun a h => by
    rcases h2 a h with h | h | h
    · exact (x.pn a h).imp (h1 a) id
    · exact .inl (h1 a h)
    · exact .inl h
/-- only new things -/
abbrev Alloc (G B H G' B' H' : Hp) : Prop := Ext G B H (fun _ => False) G' B' H' (fun _ => False)
theorem Alloc.ext (x : Alloc G B H G' B' H') : Ext G B H P G' B' H' P := x.imp (fun _ h => h.elim) fun _ h => .inr (.inr h)
theorem Good.nb (g : Good C G B H F s σ) {i : Nat} {a : Addr} (h : a ∈ F i) : H a ≠ none ∧ B a = none := by
  by_cases e : s.getD i .dead = .dead
  · rw [g.nf i e] at h; cases h
  · obtain ⟨v, _, o⟩ := g.sl i e
    exact o.fp a h
theorem Good.inF (g : Good C G B H F s σ) {a : Addr} (h : TT.inF F a) : H a ≠ none ∧ B a = none := let ⟨_, h⟩ := h; g.nb h
theorem none_of_ne {A : Hp} {a : Addr} (h : ¬ A a ≠ none) : A a = none := by
  cases e : A a with
  | none => rfl
  | some o => exact absurd (by rw [e]; simp) h
theorem Ext.bnone (x : Ext G B H P G' B' H' P') {a : Addr} (h1 : B a = none) (h2 : ¬ P a) (h3 : H a ≠ none) : B' a = none := none_of_ne fun z => by
  rcases x.bn a z with q | q | q
  · exact q h1
  · exact h2 q
  · exact h3 q
theorem Ext.same (x : Ext G B H P G' B' H' P') {a : Addr} (h2 : ¬ P a) (h3 : H a ≠ none) : H' a = H a := by
  cases e : H a with
  | none => exact absurd e h3
  | some o => exact x.keep a o e h2
theorem Ext.own (x : Ext G B H P G' B' H' P') {d : D} {v : V} {fd : List Addr} (o : Own C G B H d v fd) (h : ∀ a ∈ fd, ¬ P a) : Own C G' B' H' d v fd :=
  o.mono x.g x.b fun a ha => ⟨x.same (h a ha) (o.fp a ha).1, x.bnone (o.fp a ha).2 (h a ha) (o.fp a ha).1⟩
theorem Ext.owns (x : Ext G B H P G' B' H' P') {d : List D} {v : List V} {fd : List Addr} (o : Owns C G B H d v fd) (h : ∀ a ∈ fd, ¬ P a) : Owns C G' B' H' d v fd :=
  o.mono x.g x.b fun a ha => ⟨x.same (h a ha) (o.fp a ha).1, x.bnone (o.fp a ha).2 (h a ha) (o.fp a ha).1⟩
theorem Good.alloc (g : Good C G B H F s σ) (x : Alloc G B H G' B' H') (gb : Sb G' B') (bh : Sb B' H') : Good C G' B' H' F s σ :=
  ⟨gb, bh, g.len, fun i h => let ⟨v, e, o⟩ := g.sl i h; ⟨v, e, x.own o fun _ _ z => z⟩, g.nf, g.nd, g.dj⟩
end
/-! ### what may change, what is but looked at -/
mutual
def eff : E → Bool
  | .mv _ => true
  | .fz _ => true
  | .cp a => eff a
  | .tf a => eff a
  | .pu a => eff a
  | .op _ es => effs es
  | .mth _ a es => eff a || effs es
  | .band es => effs es
  | .bor es => effs es
  | .ite c a b => eff c || eff a || eff b
  | .chain _ _ a b c => eff a || (eff b || eff c)
  | .call _ es => effs es
  | .comp _ _ _ es co elt => effs es || (effs co || eff elt)
  | .meth _ _ o es => eff o || effs es
  | .make _ _ _ es => effs es
  | .callM _ _ _ => true
  | .methM _ _ _ _ => true
  | .callV _ _ es => effs es
  | _ => false
def effs : List E → Bool
  | [] => false
  | e :: es => eff e || effs es
end
def isLook : Op → Bool
  | .ix => true
  | .fld _ _ => true
  | _ => false
mutual
def isPl : E → Bool
  | .nm _ => true
  | .op o es => isLook o && isPl0 es
  | _ => false
def isPl0 : List E → Bool
  | [] => false
  | e :: _ => isPl e
end
/-! ### what holds behind an expression -/
structure PostE (C : Gl0) (σ : L2.St) (e : E) (G B H : Hp) (F : Fp) (s : List D) (d : D) (s' : List D) (v : V) (G' B' H' : Hp) (F' : Fp) (fd : List Addr) : Prop where
  good : Good C G' B' H' F' s' σ
  ext : Ext G B H (inF F) G' B' H' (fun a => inF F' a ∨ a ∈ fd)
  own : Own C G' B' H' d v fd
  nd : fd.Nodup
  pl : isPl e = true → ∀ a ∈ fd, inF F' a
  np : isPl e = false → ∀ a ∈ fd, ¬ inF F' a
  pure : eff e = false → s' = s ∧ F' = F ∧ ∀ a o, H a = some o → H' a = some o
def VL (C : Gl0) (G B H : Hp) (F : Fp) : List E → List D → List V → List Addr → Prop
  | [], ds, vs, U => ds = [] ∧ vs = [] ∧ U = []
  | e :: es, ds, vs, U => ∃ d dr v vr fd U', ds = d :: dr ∧ vs = v :: vr ∧ Own C G B H d v fd ∧ fd.Nodup ∧ VL C G B H F es dr vr U' ∧
      ((isPl e = true ∧ (∀ a ∈ fd, inF F a) ∧ U = U') ∨ (isPl e = false ∧ (∀ a ∈ fd, ¬ inF F a ∧ a ∉ U') ∧ U = fd ++ U'))
structure PostL (C : Gl0) (σ : L2.St) (es : List E) (G B H : Hp) (F : Fp) (s : List D) (ds : List D) (s' : List D) (vs : List V) (G' B' H' : Hp) (F' : Fp) (U : List Addr) : Prop where
  good : Good C G' B' H' F' s' σ
  ext : Ext G B H (inF F) G' B' H' (fun a => inF F' a ∨ a ∈ U)
  vl : VL C G' B' H' F' es ds vs U
  nd : U.Nodup
  np : ∀ a ∈ U, ¬ inF F' a
  pure : effs es = false → s' = s ∧ F' = F ∧ ∀ a o, H a = some o → H' a = some o
/-- an exception in the air: its class, its dict -/
def ExR (C : Gl0) (G : Hp) (c : Nat) (fs : List Str) (xs : List D) (cls : Value) (dd : Option Addr) : Prop :=
  cls = .ref (C.ca c) ∧ okKids .shr xs ∧ ∃ vs, (∀ B H, Owns C G B H xs vs []) ∧ fs.length = xs.length ∧ ((fs = [] ∧ dd = none) ∨ (fs ≠ [] ∧ ∃ d, dd = some d ∧ G d = some (.xd (fs.zip vs))))
def outX (C : Gl0) (W : WX) (σ : L2.St) (G B H : Hp) (F : Fp) (c : Nat) (fs : List Str) (xs : List D) (s' : List D) : Prop :=
  ∀ cls dd G' B' H' F', Good C G' B' H' F' s' σ → Ext G B H (inF F) G' B' H' (inF F') → ExR C G' c fs xs cls dd → W cls dd σ H'
def outE (C : Gl0) (W : WX) (σ : L2.St) (e : E) (G B H : Hp) (F : Fp) (s : List D) (r : R D) (Q : VK) : Prop :=
  match r with
  | .ok d s' => ∀ v G' B' H' F' fd, PostE C σ e G B H F s d s' v G' B' H' F' fd → Q v H'
  | .exc c fs xs s' => outX C W σ G B H F c fs xs s'
  | .bad => False
def tE (C : Gl0) (W : WX) (e : E) : TE := fun σ H Q => ∃ s G B F, Good C G B H F s σ ∧ outE C W σ e G B H F s (evE e s) Q
def outL (C : Gl0) (W : WX) (σ : L2.St) (es : List E) (G B H : Hp) (F : Fp) (s : List D) (r : R (List D)) (Q : List V → Hp → Prop) : Prop :=
  match r with
  | .ok ds s' => ∀ vs G' B' H' F' U, PostL C σ es G B H F s ds s' vs G' B' H' F' U → Q vs H'
  | .exc c fs xs s' => outX C W σ G B H F c fs xs s'
  | .bad => False
def tL (C : Gl0) (W : WX) (es : List E) : TA := fun σ H Q => ∃ s G B F, Good C G B H F s σ ∧ outL C W σ es G B H F s (evEs es s) Q
section
variable {C : Gl0} {W : WX} {σ : L2.St} {G B H G1 B1 H1 : Hp} {F F1 : Fp} {s s1 : List D}
theorem outX.from {P : Addr → Prop} {c : Nat} {fs : List Str} {xs s' : List D} (x : Ext G B H (inF F) G1 B1 H1 P) (hP : ∀ a, inF F1 a → P a) (h : outX C W σ G B H F c fs xs s') : outX C W σ G1 B1 H1 F1 c fs xs s' :=
  fun cls dd G' B' H' F' g y r => h cls dd G' B' H' F' g ((x.imp (fun _ z => z) fun a z => .inl (hP a z)).trans y) r
theorem tE.mono {e : E} {Q Q' : VK} (h : tE C W e σ H Q) (q : ∀ v H, Q v H → Q' v H) : tE C W e σ H Q' := by
  obtain ⟨s, G, B, F, g, h⟩ := h
  refine ⟨s, G, B, F, g, ?_⟩
  cases e1 : evE e s with
  | ok d s' => rw [e1] at h; exact fun v G' B' H' F' fd p => q _ _ (h v G' B' H' F' fd p)
  | exc c fs xs s' => rw [e1] at h; exact h
  | bad => rw [e1] at h; exact h
theorem tL.mono {e : List E} {Q Q' : List V → Hp → Prop} (h : tL C W e σ H Q) (q : ∀ v H, Q v H → Q' v H) : tL C W e σ H Q' := by
  obtain ⟨s, G, B, F, g, h⟩ := h
  refine ⟨s, G, B, F, g, ?_⟩
  cases e1 : evEs e s with
  | ok d s' => rw [e1] at h; exact fun v G' B' H' F' fd p => q _ _ (h v G' B' H' F' fd p)
  | exc c fs xs s' => rw [e1] at h; exact h
  | bad => rw [e1] at h; exact h
theorem tL.nil {Q : List V → Hp → Prop} (h : tL C W [] σ H Q) : Q [] H := by
  obtain ⟨s, G, B, F, g, h⟩ := h
  have x : Ext G B H (inF F) G B H (fun a => inF F a ∨ a ∈ ([] : List Addr)) := (Ext.refl (P := inF F)).imp (fun _ z => z) (fun a z => .inl (z.elim id fun z => nomatch z))
  refine h [] G B H F [] { good := g, ext := x, vl := ⟨rfl, rfl, rfl⟩, nd := List.nodup_nil, np := (fun _ z => nomatch z), pure := fun _ => ⟨rfl, rfl, fun _ _ z => z⟩ }
theorem PostL.cons {e : E} {es : List E} {d : D} {v : V} {fd : List Addr} {ds s2 : List D} {vs : List V} {G2 B2 H2 : Hp} {F2 : Fp} {U : List Addr} (hp : isPl e = true → effs es = false)
    (p : PostE C σ e G B H F s d s1 v G1 B1 H1 F1 fd) (q : PostL C σ es G1 B1 H1 F1 s1 ds s2 vs G2 B2 H2 F2 U) :
    ∃ U', PostL C σ (e :: es) G B H F s (d :: ds) s2 (v :: vs) G2 B2 H2 F2 U' := by
  have fp := p.own.fp
  cases hpl : isPl e with
  | false =>
    have np := p.np hpl
    have own2 : Own C G2 B2 H2 d v fd := q.ext.own p.own np
    have n2 : ∀ a ∈ fd, ¬ inF F2 a ∧ a ∉ U := fun a ha => by
      refine ⟨fun z => ?_, fun z => ?_⟩
      · rcases q.ext.pn a (.inl z) with h | h
        · exact np a ha h
        · exact (fp a ha).1 h
      · rcases q.ext.pn a (.inr z) with h | h
        · exact np a ha h
        · exact (fp a ha).1 h
    refine ⟨fd ++ U, q.good, ?_, ⟨d, ds, v, vs, fd, U, rfl, rfl, own2, p.nd, q.vl, .inr ⟨hpl, n2, rfl⟩⟩, ?_, ?_, fun h => ?_⟩
    · refine (p.ext.trans (q.ext.frame (R := fun a => a ∈ fd))).imp (fun _ z => z) fun a z => .inl ?_
      rcases z with z | z
      · exact .inl (.inl z)
      · rcases List.mem_append.1 z with z | z
        · exact .inr z
        · exact .inl (.inr z)
    · refine List.nodup_append.2 ⟨p.nd, q.nd, fun a ha b hb e => ?_⟩
      subst e
      exact (n2 a ha).2 hb
    · intro a ha
      rcases List.mem_append.1 ha with z | z
      · exact (n2 a z).1
      · exact q.np a z
    · simp only [effs, Bool.or_eq_false_iff] at h
      obtain ⟨e1, e2, k1⟩ := p.pure h.1
      obtain ⟨e3, e4, k2⟩ := q.pure h.2
      exact ⟨e3.trans e1, e4.trans e2, fun a o z => k2 a o (k1 a o z)⟩
  | true =>
    have pl := p.pl hpl
    obtain ⟨e1, e2, k1⟩ := q.pure (hp hpl)
    have own2 : Own C G2 B2 H2 d v fd := p.own.mono q.ext.g q.ext.b fun a ha => by
      refine ⟨?_, ?_⟩
      · cases e : H1 a with
        | none => exact absurd e (fp a ha).1
        | some o => exact k1 a o e
      · refine (q.good.inF ?_).2
        rw [e2]; exact pl a ha
    refine ⟨U, q.good, ?_, ⟨d, ds, v, vs, fd, U, rfl, rfl, own2, p.nd, q.vl, .inl ⟨hpl, fun a ha => by rw [e2]; exact pl a ha, rfl⟩⟩, q.nd, q.np, fun h => ?_⟩
    · refine (p.ext.trans (q.ext.frame (R := fun a => a ∈ fd))).imp (fun _ z => z) fun a z => .inl (.inl z)
    · simp only [effs, Bool.or_eq_false_iff] at h
      obtain ⟨e1, e2, k1⟩ := p.pure h.1
      obtain ⟨e3, e4, k2⟩ := q.pure h.2
      exact ⟨e3.trans e1, e4.trans e2, fun a o z => k2 a o (k1 a o z)⟩
theorem tL.cons {e : E} {es : List E} {Q : List V → Hp → Prop} (hp : isPl e = true → effs es = false) (h : tL C W (e :: es) σ H Q) : tE C W e σ H fun x H1 => tL C W es σ H1 fun xs H2 => Q (x :: xs) H2 := by
  obtain ⟨s, G, B, F, g, h⟩ := h
  refine ⟨s, G, B, F, g, ?_⟩
  unfold evEs at h
  cases e1 : evE e s with
  | bad => rw [e1] at h; exact h
  | exc c fs xs s' => rw [e1] at h; exact h
  | ok d s1 =>
    rw [e1] at h
    intro v G1 B1 H1 F1 fd p
    refine ⟨s1, G1, B1, F1, p.good, ?_⟩
    have h : outL C W σ (e :: es) G B H F s ((evEs es s1).bind fun ds s2 => .ok (d :: ds) s2) Q := h
    cases e2 : evEs es s1 with
    | bad => rw [e2] at h; exact h
    | exc c fs xs s' => rw [e2] at h; exact outX.from p.ext (fun a z => .inl z) h
    | ok ds s2 =>
      rw [e2] at h
      intro vs G2 B2 H2 F2 U q
      obtain ⟨U', r⟩ := PostL.cons hp p q
      exact h (v :: vs) G2 B2 H2 F2 U' r
end
end TT
namespace TT
open PySem PySem.Spec PyProof.Rows L2
theorem Alloc.to {G B H G' B' H' : Hp} {P P' : Addr → Prop} (x : Alloc G B H G' B' H') (h : ∀ a, P' a → P a ∨ H a = none) : Ext G B H P G' B' H' P' :=
  ⟨fun a o e _ => x.keep a o e fun z => z, x.g, x.b, fun a z => (x.gn a z).imp id fun z => .inr (z.elim False.elim id), fun a z => (x.bn a z).imp id fun z => .inr (z.elim False.elim id), h⟩
/-- what an operation's result is wanted for -/
def Res (C : Gl0) (G B H : Hp) (F : Fp) (pl : Bool) (U : List Addr) (d : D) (Q : VK) : Prop :=
  ∀ v G' B' H' fd, Alloc G B H G' B' H' → Sb G' B' → Sb B' H' → Own C G' B' H' d v fd → fd.Nodup → (if pl = true then ∀ a ∈ fd, inF F a else ∀ a ∈ fd, H a = none ∨ a ∈ U) → Q v H'
/-- what holds of the operands -/
structure Opd (C : Gl0) (G B H : Hp) (F : Fp) (es : List E) (ds : List D) (vs : List V) (U : List Addr) : Prop where
  gb : Sb G B
  bh : Sb B H
  vl : VL C G B H F es ds vs U
  nd : U.Nodup
section
variable {C : Gl0} {W : WX} {σ : L2.St} {G B H : Hp} {F : Fp} {U : List Addr} {pl : Bool} {d : D} {Q : VK}
theorem op_step {o : Op} {es : List E} {r : List V → Hp → Prop} (h : tE C W (.op o es) σ H Q)
    (hr : ∀ ds vs G1 B1 H1 F1 U d, Opd C G1 B1 H1 F1 es ds vs U → opD o ds = some d → Res C G1 B1 H1 F1 (isPl (.op o es)) U d Q → r vs H1) : tL C W es σ H r := by
  obtain ⟨s, G, B, F, g, h⟩ := h
  refine ⟨s, G, B, F, g, ?_⟩
  have h : outE C W σ (.op o es) G B H F s ((evEs es s).bind fun ds s1 => R.of (opD o ds) s1) Q := by unfold evE at h; exact h
  cases e1 : evEs es s with
  | bad => rw [e1] at h; exact h
  | exc c fs xs s' => rw [e1] at h; exact h
  | ok ds s1 =>
    rw [e1] at h
    intro vs G1 B1 H1 F1 U p
    have h : outE C W σ (.op o es) G B H F s (R.of (opD o ds) s1) Q := h
    cases e2 : opD o ds with
    | none => rw [e2] at h; exact h.elim
    | some d =>
      rw [e2] at h
      refine hr ds vs G1 B1 H1 F1 U d ⟨p.good.gb, p.good.bh, p.vl, p.nd⟩ e2 fun v G' B' H' fd x gb bh own nd src => h v G' B' H' F1 fd ?_
      refine { good := p.good.alloc x gb bh, ext := p.ext.trans (x.to fun a z => ?_), own := own, nd := nd, pl := fun q a ha => ?_, np := fun q a ha z => ?_, pure := fun q => ?_ }
      · rcases z with z | z
        · exact .inl (.inl z)
        · cases q : isPl (.op o es) with
          | true => rw [q, if_pos rfl] at src; exact .inl (.inl (src a z))
          | false =>
            rw [q, if_neg (by decide)] at src
            rcases src a z with z | z
            · exact .inr z
            · exact .inl (.inr z)
      · rw [q, if_pos rfl] at src; exact src a ha
      · rw [q, if_neg (by decide)] at src
        rcases src a ha with y | y
        · exact (p.good.inF z).1 y
        · exact p.np a y z
      · obtain ⟨e1, e2, k⟩ := p.pure q
        exact ⟨e1, e2, fun a o z => x.keep a o (k a o z) fun z => z⟩
/-! ### results -/
theorem Res.now {es : List E} {ds : List D} {vs : List V} {v : V} (p : Opd C G B H F es ds vs U) (q : Res C G B H F pl U d Q) (o : Own C G B H d v []) : Q v H :=
  q v G B H [] Ext.refl p.gb p.bh o List.nodup_nil (by split <;> exact fun _ z => nomatch z)
theorem Res.part {es : List E} {ds : List D} {vs : List V} {v : V} {fd : List Addr} (p : Opd C G B H F es ds vs U) (q : Res C G B H F pl U d Q) (o : Own C G B H d v fd) (n : fd.Nodup) (h : if pl = true then ∀ a ∈ fd, inF F a else ∀ a ∈ fd, a ∈ U) : Q v H := by
  refine q v G B H fd Ext.refl p.gb p.bh o n ?_
  cases pl with
  | true => exact h
  | false => rw [if_neg (by decide)] at h ⊢; exact fun a z => .inr (h a z)
theorem alloc_own {p : Addr} {o : HO} (bh : Sb B H) (hp : H p = none) : Alloc G B H G B (upd H p o) ∧ Sb B (upd H p o) ∧ B p = none := by
  have bp : B p = none := none_of_ne fun z => bh.ne z hp
  refine ⟨⟨fun a u e _ => by rw [upd_ne (ne_of_none e hp)]; exact e, fun _ _ z => z, fun _ _ z => z, fun _ z => .inl z, fun _ z => .inl z, fun _ z => z.elim⟩, fun a u e => ?_, bp⟩
  have : a ≠ p := fun z => by rw [z, bp] at e; cases e
  rw [upd_ne this]; exact bh a u e
theorem alloc_shr {p : Addr} {o : HO} (gb : Sb G B) (bh : Sb B H) (hp : H p = none) : Alloc G B H (upd G p o) (upd B p o) (upd H p o) ∧ Sb (upd G p o) (upd B p o) ∧ Sb (upd B p o) (upd H p o) := by
  have bp : B p = none := none_of_ne fun z => bh.ne z hp
  have gp : G p = none := none_of_ne fun z => gb.ne z bp
  have up : ∀ {A A' : Hp}, Sb A A' → Sb (upd A p o) (upd A' p o) := fun {A A'} x a u e => by
    by_cases q : a = p
    · subst q; rw [upd_same] at e ⊢; exact .inl e
    · rw [upd_ne q] at e ⊢; exact x a u e
  have nn : ∀ {A : Hp} {a : Addr}, upd A p o a ≠ none → A a ≠ none ∨ a = p := fun {A a} z => by
    by_cases q : a = p
    · exact .inr q
    · rw [upd_ne q] at z; exact .inl z
  refine ⟨⟨fun a u e _ => by rw [upd_ne (ne_of_none e hp)]; exact e, fun a u e => by rw [upd_ne (ne_of_none e gp)]; exact e, fun a u e => by rw [upd_ne (ne_of_none e bp)]; exact e, fun a z => ?_, fun a z => ?_, fun _ z => z.elim⟩, up gb, up bh⟩
  · rcases nn z with z | z
    · exact .inl z
    · rw [z]; exact .inr (.inr hp)
  · rcases nn z with z | z
    · exact .inl z
    · rw [z]; exact .inr (.inr hp)
/-- a new list of one's own -/
theorem Res.lst {es : List E} {ds : List D} {vs : List V} {xs : List D} {kvs : List V} {U' : List Addr} {p : Addr} (P : Opd C G B H F es ds vs U) (q : Res C G B H F false U (.lst .own xs) Q) (hp : H p = none)
    (o : Owns C G B H xs kvs U') (n : U'.Nodup) (h : ∀ a ∈ U', a ∈ U) : Q (.ref p) (upd H p (.lst kvs)) := by
  obtain ⟨x, b1, bp⟩ := alloc_own (G := G) (o := .lst kvs) P.bh hp
  refine q (.ref p) G B _ (p :: U') x P.gb b1 ⟨p, kvs, U', rfl, ⟨upd_same, bp⟩, x.owns o (fun _ _ z => z), rfl, trivial⟩ (List.nodup_cons.2 ⟨fun z => (o.fp p z).1 hp, n⟩) ?_
  rw [if_neg (by decide)]
  intro a ha
  rcases List.mem_cons.1 ha with e | e
  · rw [e]; exact .inl hp
  · exact .inr (h a e)
theorem Res.tup {es : List E} {ds : List D} {vs : List V} {xs : List D} {kvs : List V} {U' : List Addr} {p : Addr} (P : Opd C G B H F es ds vs U) (q : Res C G B H F false U (tupOf xs) Q) (hp : H p = none)
    (o : Owns C G B H xs kvs U') (n : U'.Nodup) (h : ∀ a ∈ U', a ∈ U) : Q (.ref p) (upd H p (.tup kvs)) := by
  unfold tupOf at q
  split at q
  · rename_i hs
    rw [Bool.and_eq_true] at hs
    obtain rfl := o.nil hs.1
    obtain ⟨x, b1, b2⟩ := alloc_shr (o := .tup kvs) P.gb P.bh hp
    exact q (.ref p) _ _ _ [] x b1 b2 ⟨p, kvs, [], rfl, .inl (.inl upd_same), x.owns o (fun _ _ z => z), rfl, hs⟩ List.nodup_nil (by rw [if_neg (by decide)]; exact fun _ z => nomatch z)
  · obtain ⟨x, b1, bp⟩ := alloc_own (G := G) (o := .tup kvs) P.bh hp
    refine q (.ref p) G B _ (p :: U') x P.gb b1 ⟨p, kvs, U', rfl, ⟨upd_same, bp⟩, x.owns o (fun _ _ z => z), rfl, trivial⟩ (List.nodup_cons.2 ⟨fun z => (o.fp p z).1 hp, n⟩) ?_
    rw [if_neg (by decide)]
    intro a ha
    rcases List.mem_cons.1 ha with e | e
    · rw [e]; exact .inl hp
    · exact .inr (h a e)
theorem Res.tupS {es : List E} {ds : List D} {vs : List V} {xs : List D} {kvs : List V} {p : Addr} (P : Opd C G B H F es ds vs U) (q : Res C G B H F false U (.tup .shr xs) Q) (hp : H p = none)
    (k : noOwns xs = true ∧ noBors xs = true) (o : Owns C G B H xs kvs []) : Q (.ref p) (upd H p (.tup kvs)) := by
  refine Res.tup P (xs := xs) (U' := []) ?_ hp o List.nodup_nil fun _ z => nomatch z
  unfold tupOf
  rw [k.1, k.2]
  exact q
/-! ### operands -/
theorem VL.all : ∀ {es : List E} {ds : List D} {vs : List V} {U : List Addr}, VL C G B H F es ds vs U → (∀ e ∈ es, isPl e = false) → Owns C G B H ds vs U
  | [], _, _, _, h, _ => by
    obtain ⟨rfl, rfl, rfl⟩ := h
    exact ⟨rfl, rfl⟩
  | e :: es, _, _, _, h, k => by
    obtain ⟨d, dr, v, vr, fd, U', rfl, rfl, o, n, h, ⟨z, _⟩ | ⟨_, _, rfl⟩⟩ := h
    · rw [k e List.mem_cons_self] at z; cases z
    · exact ⟨v, vr, fd, U', rfl, rfl, o, h.all fun e he => k e (List.mem_cons_of_mem _ he)⟩
theorem Opd.one {e : E} {ds : List D} {vs : List V} (p : Opd C G B H F [e] ds vs U) : ∃ d v fd, ds = [d] ∧ vs = [v] ∧ Own C G B H d v fd ∧ fd.Nodup ∧ ((isPl e = true ∧ (∀ a ∈ fd, inF F a)) ∨ (isPl e = false ∧ ∀ a ∈ fd, a ∈ U)) := by
  obtain ⟨d, dr, v, vr, fd, U', rfl, rfl, o, n, ⟨rfl, rfl, rfl⟩, h⟩ := p.vl
  refine ⟨d, v, fd, rfl, rfl, o, n, ?_⟩
  rcases h with ⟨h1, h2, _⟩ | ⟨h1, _, h3⟩
  · exact .inl ⟨h1, h2⟩
  · exact .inr ⟨h1, fun a ha => by rw [h3]; exact List.mem_append_left _ ha⟩
theorem Opd.two {e f : E} {ds : List D} {vs : List V} (p : Opd C G B H F [e, f] ds vs U) : ∃ d d2 v v2 fd fd2, ds = [d, d2] ∧ vs = [v, v2] ∧ Own C G B H d v fd ∧ fd.Nodup ∧ ((isPl e = true ∧ (∀ a ∈ fd, inF F a)) ∨ (isPl e = false ∧ ∀ a ∈ fd, a ∈ U)) ∧ Own C G B H d2 v2 fd2 ∧ fd2.Nodup := by
  obtain ⟨d, dr, v, vr, fd, U', rfl, rfl, o, n, ⟨d2, dr2, v2, vr2, fd2, U2, rfl, rfl, o2, n2, ⟨rfl, rfl, rfl⟩, _⟩, h⟩ := p.vl
  refine ⟨d, d2, v, v2, fd, fd2, rfl, rfl, o, n, ?_, o2, n2⟩
  rcases h with ⟨h1, h2, _⟩ | ⟨h1, _, h3⟩
  · exact .inl ⟨h1, h2⟩
  · exact .inr ⟨h1, fun a ha => by rw [h3]; exact List.mem_append_left _ ha⟩
theorem Opd.three {e f g : E} {ds : List D} {vs : List V} (p : Opd C G B H F [e, f, g] ds vs U) : ∃ d d2 d3 v v2 v3 fd fd2 fd3, ds = [d, d2, d3] ∧ vs = [v, v2, v3] ∧ Own C G B H d v fd ∧ Own C G B H d2 v2 fd2 ∧ Own C G B H d3 v3 fd3 := by
  obtain ⟨d, dr, v, vr, fd, U', rfl, rfl, o, n, ⟨d2, dr2, v2, vr2, fd2, U2, rfl, rfl, o2, n2, ⟨d3, dr3, v3, vr3, fd3, U3, rfl, rfl, o3, n3, ⟨rfl, rfl, rfl⟩, _⟩, _⟩, h⟩ := p.vl
  exact ⟨d, d2, d3, v, v2, v3, fd, fd2, fd3, rfl, rfl, o, o2, o3⟩
/-- a part of nothing owned -/
theorem Owns.get : ∀ {xs : List D} {vs : List V} {U : List Addr} {i : Nat} {d : D}, Owns C G B H xs vs U → xs[i]? = some d → ∃ v fd, vs[i]? = some v ∧ Own C G B H d v fd ∧ (U.Nodup → fd.Nodup) ∧ ∀ a ∈ fd, a ∈ U
  | [], _, _, _, _, _, h => by simp at h
  | x :: xs, _, _, 0, d, h, e => by
    obtain ⟨v, vr, F1, F2, rfl, rfl, o, h⟩ := h
    simp at e
    subst e
    exact ⟨v, F1, rfl, o, fun n => (List.nodup_append.1 n).1, fun a ha => List.mem_append_left _ ha⟩
  | x :: xs, _, _, i + 1, d, h, e => by
    obtain ⟨v, vr, F1, F2, rfl, rfl, o, h⟩ := h
    obtain ⟨w, fd, e1, o1, n1, s1⟩ := h.get (i := i) (d := d) (by simpa using e)
    exact ⟨w, fd, by simpa using e1, o1, fun n => n1 (List.nodup_append.1 n).2.1, fun a ha => List.mem_append_right _ (s1 a ha)⟩
theorem Owns.app : ∀ {xs ys : List D} {vs ws : List V} {U U' : List Addr}, Owns C G B H xs vs U → Owns C G B H ys ws U' → Owns C G B H (xs ++ ys) (vs ++ ws) (U ++ U')
  | [], _, _, _, _, _, h, k => by
    obtain ⟨rfl, rfl⟩ := h
    exact k
  | x :: xs, _, _, _, _, _, h, k => by
    obtain ⟨v, vr, F1, F2, rfl, rfl, o, h⟩ := h
    exact ⟨v, vr ++ _, F1, F2 ++ _, rfl, by rw [List.append_assoc], o, h.app k⟩
theorem Owns.takeN : ∀ {xs : List D} {vs : List V} (n : Nat), Owns C G B H xs vs [] → Owns C G B H (xs.take n) (vs.take n) []
  | [], _, n, h => by
    obtain ⟨rfl, _⟩ := h
    simp [Owns]
  | x :: xs, _, 0, h => by simp [Owns]
  | x :: xs, _, n + 1, h => by
    obtain ⟨v, vr, F1, F2, rfl, e, o, h⟩ := h
    obtain ⟨rfl, rfl⟩ := List.append_eq_nil_iff.1 e.symm
    exact ⟨v, vr.take n, [], [], rfl, rfl, o, h.takeN n⟩
theorem Owns.dropN : ∀ {xs : List D} {vs : List V} (n : Nat), Owns C G B H xs vs [] → Owns C G B H (xs.drop n) (vs.drop n) []
  | [], _, n, h => by
    obtain ⟨rfl, _⟩ := h
    simp [Owns]
  | x :: xs, _, 0, h => h
  | x :: xs, _, n + 1, h => by
    obtain ⟨v, vr, F1, F2, rfl, e, o, h⟩ := h
    obtain ⟨rfl, rfl⟩ := List.append_eq_nil_iff.1 e.symm
    exact h.dropN n
theorem Owns.cut {xs : List D} {vs : List V} (h : Owns C G B H xs vs []) (lo hi : Option Int) : Owns C G B H (TT.cut xs lo hi) (cutV vs lo hi) [] := by
  unfold TT.cut cutV
  rw [h.length]
  exact (h.dropN _).takeN _
theorem Owns.ints : ∀ {xs : List D} {vs : List V} {ns : List Int} {U : List Addr}, intsOf xs = some ns → Owns C G B H xs vs U → vs = ns.map V.int
  | [], _, ns, _, e, h => by
    cases e
    exact h.1
  | x :: xs, _, ns, _, e, h => by
    obtain ⟨v, vr, F1, F2, rfl, rfl, o, h⟩ := h
    cases x <;> simp [intsOf] at e
    obtain ⟨ms, e, rfl⟩ := e
    obtain ⟨rfl, _⟩ := o
    rw [h.ints e]; rfl
theorem Owns.bls : ∀ {xs : List D} {vs : List V} {ns : List Bool} {U : List Addr}, blsOf xs = some ns → Owns C G B H xs vs U → vs = ns.map V.bl
  | [], _, ns, _, e, h => by
    cases e
    exact h.1
  | x :: xs, _, ns, _, e, h => by
    obtain ⟨v, vr, F1, F2, rfl, rfl, o, h⟩ := h
    cases x <;> simp [blsOf] at e
    obtain ⟨ms, e, rfl⟩ := e
    obtain ⟨rfl, _⟩ := o
    rw [h.bls e]; rfl
theorem owns_ints : ∀ ns : List Int, Owns C G B H (ns.map D.int) (ns.map V.int) []
  | [] => ⟨rfl, rfl⟩
  | n :: ns => ⟨_, _, [], [], rfl, rfl, ⟨rfl, rfl⟩, owns_ints ns⟩
end
end TT
namespace TT
open PySem PySem.Spec PyProof.Rows L2
theorem pe_imp {X : Cx} {e : Expr} {t t' : TE} (h : PE X e t) (k : ∀ σ H Q, t' σ H Q → t σ H Q) : PE X e t' := ⟨fun pins s σ H Q I z => h.run pins s σ H Q I (k σ H Q z)⟩
theorem pt_imp {X : Cx} {e : Expr} {t t' : TT} (h : PT X e t) (k : ∀ σ H Q, t' σ H Q → t σ H Q) : PT X e t' := ⟨fun pins s σ H Q I z => h.run pins s σ H Q I (k σ H Q z)⟩
section
variable {C : Gl0} {G B H : Hp} {F : Fp} {U : List Addr} {es : List E} {ds : List D} {vs : List V} {d : D} {Q : VK}
theorem Own.lstAt {fl : Fl} {xs : List D} {v : V} {fd : List Addr} (gb : Sb G B) (bh : Sb B H) (o : Own C G B H (.lst fl xs) v fd) : ∃ a ws F', v = .ref a ∧ H a = some (.lst ws) ∧ Owns C G B H xs ws F' ∧ fd = fcons fl a F' ∧ okKids fl xs := by
  obtain ⟨a, ws, F', rfl, h1, h2, h3, h4⟩ := o
  exact ⟨a, ws, F', rfl, h1.viewI gb bh (fun z => z), h2, h3, h4⟩
theorem Own.tupAt {fl : Fl} {xs : List D} {v : V} {fd : List Addr} (gb : Sb G B) (bh : Sb B H) (o : Own C G B H (.tup fl xs) v fd) : ∃ a ws F', v = .ref a ∧ SqT C.K H a ws ∧ Owns C G B H xs ws F' ∧ fd = fcons fl a F' ∧ okKids fl xs := by
  obtain ⟨a, ws, F', rfl, h1, h2, h3, h4⟩ := o
  exact ⟨a, ws, F', rfl, h1.viewT gb bh, h2, h3, h4⟩
theorem Own.insAt {fl : Fl} {c : Nat} {fs : List Str} {xs : List D} {v : V} {fd : List Addr} (gb : Sb G B) (bh : Sb B H) (o : Own C G B H (.ins fl c fs xs) v fd) :
    ∃ a dx ws F', v = .ref a ∧ H a = some (.ins (C.ca c) dx (fs.zip ws)) ∧ Owns C G B H xs ws F' ∧ fd = fcons fl a F' ∧ okKids fl xs ∧ fs.length = xs.length ∧ fs.Nodup := by
  obtain ⟨a, dx, ws, F', rfl, h1, h2, h3, h4, h5, h6⟩ := o
  exact ⟨a, dx, ws, F', rfl, h1.viewI gb bh (fun z => z), h2, h3, h4, h5, h6⟩
theorem mem_kids {fl : Fl} {a : Addr} {F' fd : List Addr} (h : fd = fcons fl a F') : ∀ b ∈ F', b ∈ fd := fun b hb => by rw [h]; exact mem_fcons.2 (.inr hb)
theorem nodup_kids {fl : Fl} {a : Addr} {F' fd : List Addr} (h : fd = fcons fl a F') (n : fd.Nodup) : F'.Nodup := by
  subst h
  cases fl with
  | own => exact (List.nodup_cons.1 n).2
  | bor => exact n
  | shr => exact n
theorem fcons_shr {a : Addr} {F' fd : List Addr} (h : fd = fcons .shr a F') : fd = F' := h
theorem Own.sc {fl : Fl} {xs : List D} {v : V} {fd : List Addr} (o : Own C G B H (.tup .shr xs) v fd) : fd = [] := by
  obtain ⟨a, ws, F', rfl, h1, h2, rfl, h4⟩ := o
  exact h2.nil h4.1
/-- a new tuple of keys -/
theorem Res.ktup {pl : Bool} {ks : List Key} {p : Addr} (P : Opd C G B H F es ds vs U) (q : Res C G B H F pl U (.ktup ks) Q) (hp : H p = none) : Q (.ref p) (upd H p (.tup (ks.map kV))) := by
  obtain ⟨x, b1, b2⟩ := alloc_shr (o := .tup (ks.map kV)) P.gb P.bh hp
  refine q (.ref p) _ _ _ [] x b1 b2 ⟨⟨p, rfl, upd_same⟩, rfl⟩ List.nodup_nil ?_
  split
  · exact fun _ z => nomatch z
  · exact fun _ z => nomatch z
theorem kup_at {ks : List Key} {v : V} {fd : List Addr} (gb : Sb G B) (bh : Sb B H) (o : Own C G B H (.ktup ks) v fd) : ∃ a, v = .ref a ∧ H a = some (.tup (ks.map kV)) ∧ fd = [] := by
  obtain ⟨⟨a, rfl, ea⟩, rfl⟩ := o
  exact ⟨a, rfl, (gb.trans bh).plain ea (fun z => z), rfl⟩
/-- keys as data -/
theorem own_keyD (k : Key) : Own C G B H (keyD k) (kV k) [] := by
  cases k <;> exact ⟨rfl, rfl⟩
theorem owns_keyD : ∀ ks : List Key, Owns C G B H (ks.map keyD) (ks.map kV) []
  | [] => ⟨rfl, rfl⟩
  | k :: ks => ⟨_, _, [], [], rfl, rfl, own_keyD k, owns_keyD ks⟩
/-! ### the operations' values -/
abbrev rStrCat : R2 := fun x y H Q => ∃ i j, x = V.str i ∧ y = V.str j ∧ i.length + j.length ≤ sizeLine ∧ Q (V.str (i ++ j)) H
abbrev rAdd' (K : PySem.W.Frag) : R2 := fun x y H Q => rI0 (fun i j => .int (i + j)) x y H Q ∨ (rStrCat x y H Q ∨ (rCat x y H Q ∨ rCatA K x y H Q))
theorem op_add' {X : Cx} : OpR X (binaryOp .Add) (rAdd' X.K) := op_add.or (op_add_str.or (op_cat.or op_catA))
abbrev CMulO (i j : Int) : Prop := mulOk i j = true
theorem mulOk_ok {i j : Int} (h : CMulO i j) : IntMulOk i j := by
  unfold CMulO mulOk at h
  simp only [Bool.or_eq_true, decide_eq_true_eq] at h
  rcases h with (h | h) | h
  · exact CMulW.ok h
  · exact CMul.ok (.inl ⟨by omega, by omega⟩)
  · exact CMul.ok (.inr ⟨by omega, by omega⟩)
abbrev rMul' : R2 := fun x y H Q => rI CMulO (fun i j => .int (i * j)) x y H Q ∨ rRep x y H Q
theorem op_mulO {X : Cx} : OpR X (binaryOp .Mult) (rI CMulO fun i j => .int (i * j)) := opI fun _ _ _ _ _ _ _ hc q => mul_int q (mulOk_ok hc)
theorem op_mul' {X : Cx} : OpR X (binaryOp .Mult) rMul' := op_mulO.or op_rep
/-- two operands -/
abbrev Two (vs : List V) (r : R2) (H : Hp) (Q : VK) : Prop := ∃ x y, vs = [x, y] ∧ r x y H Q
abbrev One (vs : List V) (r : V → Hp → VK → Prop) (H : Hp) (Q : VK) : Prop := ∃ x, vs = [x] ∧ r x H Q
variable {e f : E}
theorem v_add (P : Opd C G B H F [e, f] ds vs U) (h : bi2 addD ds = some d) (q : Res C G B H F false U d Q) : Two vs (rAdd' C.K) H Q := by
  obtain ⟨d1, d2, v1, v2, fd, fd2, rfl, rfl, o1, n1, s1, o2, n2⟩ := P.two
  refine ⟨v1, v2, rfl, ?_⟩
  have h : addD d1 d2 = some d := h
  unfold addD at h
  split at h
  · cases h
    obtain ⟨rfl, rfl⟩ := o1
    obtain ⟨rfl, rfl⟩ := o2
    exact .inl ⟨_, _, rfl, rfl, q.now P ⟨rfl, rfl⟩⟩
  · split at h <;> cases h
    rename_i hs
    obtain ⟨rfl, rfl⟩ := o1
    obtain ⟨rfl, rfl⟩ := o2
    exact .inr (.inl ⟨_, _, rfl, rfl, hs, q.now P ⟨rfl, rfl⟩⟩)
  · split at h <;> cases h
    rename_i hs
    obtain ⟨k1, k2, k3, k4, k5⟩ := hs
    obtain ⟨a, ws, F', rfl, ea, oa, _, _⟩ := o1.lstAt P.gb P.bh
    obtain ⟨b, us, F2, rfl, eb, ob, _, _⟩ := o2.lstAt P.gb P.bh
    obtain rfl := oa.nil k1
    obtain rfl := ob.nil k2
    have hl := oa.length
    have hl2 := ob.length
    exact .inr (.inr (.inl ⟨a, b, ws, us, rfl, rfl, ea, eb, by omega, fun p hp => q.lst P hp (oa.app ob) List.nodup_nil fun _ z => nomatch z⟩))
  · rename_i xs ys
    split at h <;> cases h
    rename_i k2
    obtain ⟨a, ws, F', rfl, ea, oa, _, ha1⟩ := id (o1.tupAt P.gb P.bh)
    obtain ⟨b, us, F2, rfl, eb, ob, _, hb1⟩ := id (o2.tupAt P.gb P.bh)
    obtain rfl := oa.nil ha1.1
    obtain rfl := ob.nil hb1.1
    have hl := oa.length
    have hl2 := ob.length
    obtain rfl := o1.sc (fl := .shr)
    obtain rfl := o2.sc (fl := .shr)
    refine .inr (.inr (.inr ⟨a, b, ws, us, rfl, rfl, ea, eb, by omega, fun z => ?_, fun _ z => ?_, fun _ _ p hp => ?_⟩))
    · subst z
      obtain rfl := List.eq_nil_of_length_eq_zero hl
      exact q.now P o2
    · subst z
      obtain rfl := List.eq_nil_of_length_eq_zero hl2
      rw [List.append_nil] at q
      exact q.now P o1
    · refine q.tupS P hp ⟨?_, ?_⟩ (oa.app ob)
      · rw [noOwns_iff]
        intro x hx
        rcases List.mem_append.1 hx with hx | hx
        · exact noOwns_iff.1 ha1.1 x hx
        · exact noOwns_iff.1 hb1.1 x hx
      · rw [noBors_iff]
        intro x hx
        rcases List.mem_append.1 hx with hx | hx
        · exact noBors_iff.1 ha1.2 x hx
        · exact noBors_iff.1 hb1.2 x hx
  · split at h <;> cases h
    rename_i xs ys k2
    obtain ⟨⟨a, rfl, ea⟩, rfl⟩ := id o1
    obtain ⟨⟨b, rfl, eb⟩, rfl⟩ := id o2
    have va := (P.gb.trans P.bh).plain ea (fun z => z)
    have vb := (P.gb.trans P.bh).plain eb (fun z => z)
    refine .inr (.inr (.inr ⟨a, b, xs.map kV, ys.map kV, rfl, rfl, .inl (.inl va), .inl (.inl vb), by simpa using k2, fun z => ?_, fun _ z => ?_, fun _ _ p hp => ?_⟩))
    · obtain rfl : xs = [] := by simpa using z
      exact q.now P o2
    · obtain rfl : ys = [] := by simpa using z
      rw [List.append_nil] at q
      exact q.now P o1
    · rw [← List.map_append]
      exact q.ktup P hp
  · cases h
theorem v_int2 {g : D → D → Option D} {Cc : Int → Int → Prop} {k : Int → Int → V} (hg : ∀ d1 d2 d, g d1 d2 = some d → ∃ i j, d1 = .int i ∧ d2 = .int j ∧ Cc i j ∧ ∀ G B H, Own C G B H d (k i j) [])
    (P : Opd C G B H F [e, f] ds vs U) (h : bi2 g ds = some d) (q : Res C G B H F pl U d Q) : Two vs (rI Cc k) H Q := by
  obtain ⟨d1, d2, v1, v2, fd, fd2, rfl, rfl, o1, n1, s1, o2, n2⟩ := P.two
  obtain ⟨i, j, rfl, rfl, hc, o⟩ := hg d1 d2 d h
  obtain ⟨rfl, rfl⟩ := o1
  obtain ⟨rfl, rfl⟩ := o2
  exact ⟨_, _, rfl, i, j, rfl, rfl, hc, q.now P (o _ _ _)⟩
theorem v_cmp {p : Int → Int → Bool} (P : Opd C G B H F [e, f] ds vs U) (h : bi2 (cmpD p) ds = some d) (q : Res C G B H F pl U d Q) : Two vs (rI0 fun i j => .bl (p i j)) H Q := by
  obtain ⟨x, y, rfl, i, j, rfl, rfl, _, z⟩ := v_int2 (Cc := fun _ _ => True) (k := fun i j => .bl (p i j)) (fun d1 d2 d h => by
    unfold cmpD at h
    split at h <;> cases h
    exact ⟨_, _, rfl, rfl, trivial, fun _ _ _ => ⟨rfl, rfl⟩⟩) P h q
  exact ⟨_, _, rfl, i, j, rfl, rfl, z⟩
theorem v_sub (P : Opd C G B H F [e, f] ds vs U) (h : bi2 subD ds = some d) (q : Res C G B H F pl U d Q) : Two vs (rI0 fun i j => .int (i - j)) H Q := by
  obtain ⟨x, y, rfl, i, j, rfl, rfl, _, z⟩ := v_int2 (Cc := fun _ _ => True) (k := fun i j => .int (i - j)) (fun d1 d2 d h => by
    unfold subD at h
    split at h <;> cases h
    exact ⟨_, _, rfl, rfl, trivial, fun _ _ _ => ⟨rfl, rfl⟩⟩) P h q
  exact ⟨_, _, rfl, i, j, rfl, rfl, z⟩
theorem v_fdiv (P : Opd C G B H F [e, f] ds vs U) (h : bi2 fdivD ds = some d) (q : Res C G B H F pl U d Q) : Two vs (rI CDivW fun i j => .int (i / j)) H Q :=
  v_int2 (fun d1 d2 d h => by
    unfold fdivD at h
    split at h
    · split at h <;> cases h
      rename_i hs
      exact ⟨_, _, rfl, rfl, hs, fun _ _ _ => ⟨rfl, rfl⟩⟩
    · cases h) P h q
theorem v_mod (P : Opd C G B H F [e, f] ds vs U) (h : bi2 modD ds = some d) (q : Res C G B H F pl U d Q) : Two vs (rI (fun _ j => 0 < j) fun i j => .int (i % j)) H Q :=
  v_int2 (fun d1 d2 d h => by
    unfold modD at h
    split at h
    · split at h <;> cases h
      rename_i hs
      exact ⟨_, _, rfl, rfl, hs, fun _ _ _ => ⟨rfl, rfl⟩⟩
    · cases h) P h q
theorem v_pow (P : Opd C G B H F [e, f] ds vs U) (h : bi2 powD ds = some d) (q : Res C G B H F pl U d Q) : Two vs (rI CPow fun i j => .int (i ^ j.toNat)) H Q :=
  v_int2 (fun d1 d2 d h => by
    unfold powD at h
    split at h
    · split at h <;> cases h
      rename_i hs
      exact ⟨_, _, rfl, rfl, hs, fun _ _ _ => ⟨rfl, rfl⟩⟩
    · cases h) P h q
theorem owns_rep {xs : List D} {ws : List V} (h : Owns C G B H xs ws []) : ∀ n : Nat, Owns C G B H (List.replicate n xs).flatten (List.replicate n ws).flatten []
  | 0 => ⟨rfl, rfl⟩
  | n + 1 => by
    rw [List.replicate_succ, List.replicate_succ, List.flatten_cons, List.flatten_cons]
    exact h.app (owns_rep h n)
theorem v_mul (P : Opd C G B H F [e, f] ds vs U) (h : bi2 mulD ds = some d) (q : Res C G B H F false U d Q) : Two vs rMul' H Q := by
  obtain ⟨d1, d2, v1, v2, fd, fd2, rfl, rfl, o1, n1, s1, o2, n2⟩ := P.two
  refine ⟨v1, v2, rfl, ?_⟩
  have h : mulD d1 d2 = some d := h
  unfold mulD at h
  split at h
  · split at h <;> cases h
    rename_i hs
    obtain ⟨rfl, rfl⟩ := o1
    obtain ⟨rfl, rfl⟩ := o2
    exact .inl ⟨_, _, rfl, rfl, hs, q.now P ⟨rfl, rfl⟩⟩
  · split at h <;> cases h
    rename_i hs
    obtain ⟨k1, k2, k3, k4, k5⟩ := hs
    obtain ⟨rfl, rfl⟩ := o2
    obtain ⟨a, ws, F', rfl, ea, oa, _, _⟩ := o1.lstAt P.gb P.bh
    obtain rfl := oa.nil k1
    have hl := oa.length
    exact .inr ⟨a, _, ws, rfl, rfl, ea, by omega, k4, by rw [← hl]; exact k5, fun p hp => q.lst P hp (owns_rep oa _) List.nodup_nil fun _ z => nomatch z⟩
  · cases h
theorem v_neg (P : Opd C G B H F [e] ds vs U) (h : un1 negD ds = some d) (q : Res C G B H F pl U d Q) : One vs (rU fun i => .int (-i)) H Q := by
  obtain ⟨d1, v1, fd, rfl, rfl, o1, n1, s1⟩ := P.one
  have h : negD d1 = some d := h
  unfold negD at h
  split at h <;> cases h
  obtain ⟨rfl, rfl⟩ := o1
  exact ⟨_, rfl, _, rfl, q.now P ⟨rfl, rfl⟩⟩
/-! ### == -/
def keyPy : Key → PyData
  | .inl i => .int i
  | .inr x => .str x
mutual
def toPy : D → PyData
  | .bl b => .bool b
  | .int i => .int i
  | .str x => .str x
  | .lst _ xs => .list (toPys xs)
  | .tup _ xs => .tuple (toPys xs)
  | .ktup ks => .tuple (ks.map keyPy)
  | _ => .none
def toPys : List D → List PyData
  | [] => []
  | x :: xs => toPy x :: toPys xs
end
theorem toPy_keyD (k : Key) : toPy (keyD k) = keyPy k := by cases k <;> rfl
theorem toPys_keyD : ∀ ks : List Key, toPys (ks.map keyD) = ks.map keyPy
  | [] => rfl
  | k :: ks => by simp [toPys, toPy_keyD, toPys_keyD ks]
theorem isDat_keys : ∀ ks : List Key, isDats (ks.map keyD) = ks.all fun k => match k with
    | .inl _ => true
    | .inr x => PyData.strOk x
  | [] => rfl
  | .inl i :: ks => by simp [isDats, isDat, keyD, isDat_keys ks]
  | .inr i :: ks => by simp [isDats, isDat, keyD, isDat_keys ks]
theorem eqk_py (k : Key) (x : D) (h : isDat x = true) : eqk k x = PyData.eqv (keyPy k) (toPy x) := by
  cases k <;> cases x <;> simp only [isDat, Bool.false_eq_true] at h <;> simp only [eqk, keyPy, toPy, PyData.eqv]
theorem eqks_py : ∀ (ks : List Key) (xs : List D), isDats xs = true → eqks ks xs = PyData.eqvAll (ks.map keyPy) (toPys xs)
  | [], [], _ => rfl
  | [], _ :: _, _ => rfl
  | _ :: _, [], _ => rfl
  | k :: ks, x :: xs, h => by
    simp only [isDats, Bool.and_eq_true] at h
    simp only [eqks, toPys, List.map_cons, PyData.eqvAll]
    rw [eqk_py k x h.1, eqks_py ks xs h.2]
theorem keys_py : ∀ (ks ls : List Key), decide (ks = ls) = PyData.eqvAll (ks.map keyPy) (ls.map keyPy)
  | [], [] => rfl
  | [], _ :: _ => rfl
  | _ :: _, [] => rfl
  | k :: ks, l :: ls => by
    simp only [List.map_cons, PyData.eqvAll]
    rw [← keys_py ks ls]
    have e : PyData.eqv (keyPy k) (keyPy l) = decide (k = l) := by
      cases k <;> cases l <;> simp [keyPy, PyData.eqv] <;> (first | rfl | (rename_i a b; by_cases q : a = b <;> simp [q]))
    rw [e]
    by_cases h1 : k = l <;> by_cases h2 : ks = ls <;> simp [h1, h2]
mutual
theorem eqv_py : ∀ (x y : D), isDat x = true → isDat y = true → eqv x y = PyData.eqv (toPy x) (toPy y)
  | .lst _ xs, y, hx, hy => by
    cases y <;> simp only [isDat, Bool.false_eq_true] at hy <;> simp only [eqv, toPy, PyData.eqv]
    exact eqvs_py xs _ hx hy
  | .tup _ xs, y, hx, hy => by
    cases y <;> simp only [isDat, Bool.false_eq_true] at hy <;> simp only [eqv, toPy, PyData.eqv]
    · rw [← toPys_keyD]
      exact eqvs_py xs _ hx (by rw [isDat_keys]; exact hy)
    · exact eqvs_py xs _ hx hy
  | .ktup ks, y, hx, hy => by
    cases y <;> simp only [isDat, Bool.false_eq_true] at hy <;> simp only [eqv, toPy, PyData.eqv]
    · exact keys_py ks _
    · exact eqks_py ks _ hy
  | .non, y, _, hy => by cases y <;> simp only [isDat, Bool.false_eq_true] at hy <;> simp only [eqv, toPy, PyData.eqv]
  | .bl _, y, _, hy => by cases y <;> simp only [isDat, Bool.false_eq_true] at hy <;> simp only [eqv, toPy, PyData.eqv]
  | .int _, y, _, hy => by cases y <;> simp only [isDat, Bool.false_eq_true] at hy <;> simp only [eqv, toPy, PyData.eqv]
  | .str _, y, _, hy => by cases y <;> simp only [isDat, Bool.false_eq_true] at hy <;> simp only [eqv, toPy, PyData.eqv]
  | .dead, _, h, _ => by simp [isDat] at h
  | .fn _, _, h, _ => by simp [isDat] at h
  | .scr _, _, h, _ => by simp [isDat] at h
  | .dk _ _ _, _, h, _ => by simp [isDat] at h
  | .dt _ _ _, _, h, _ => by simp [isDat] at h
  | .ins _ _ _ _, _, h, _ => by simp [isDat] at h
  | .exn _ _ _, _, h, _ => by simp [isDat] at h
theorem eqvs_py : ∀ (xs ys : List D), isDats xs = true → isDats ys = true → eqvs xs ys = PyData.eqvAll (toPys xs) (toPys ys)
  | [], [], _, _ => rfl
  | [], _ :: _, _, _ => rfl
  | _ :: _, [], _, _ => rfl
  | x :: xs, y :: ys, hx, hy => by
    simp only [isDats, Bool.and_eq_true] at hx hy
    simp only [eqvs, toPys, PyData.eqvAll]
    rw [eqv_py x y hx.1 hy.1, eqvs_py xs ys hx.2 hy.2]
end
theorem lays_key : ∀ (ks : List Key), (ks.all fun k => match k with
    | .inl _ => true
    | .inr x => PyData.strOk x) = true → PyData.canLayAll0 (ks.map keyPy) = true ∧ PyData.depthAll (ks.map keyPy) = 0
  | [], _ => ⟨rfl, rfl⟩
  | .inl i :: ks, h => by
    simp only [List.all_cons, Bool.and_eq_true] at h
    have h2 := lays_key ks h.2
    simp [PyData.canLayAll0, PyData.depthAll, keyPy, PyData.canLay0, PyData.depth, h2]
  | .inr i :: ks, h => by
    simp only [List.all_cons, Bool.and_eq_true] at h
    have h2 := lays_key ks h.2
    simp [PyData.canLayAll0, PyData.depthAll, keyPy, PyData.canLay0, PyData.depth, h2, h.1]
mutual
theorem lay_py : ∀ (x : D), isDat x = true → (toPy x).canLay0 = true ∧ (toPy x).depth = depthD x
  | .lst _ xs, h => by
    have := lays_py xs h
    simp only [toPy, PyData.canLay0, PyData.depth, depthD]
    exact ⟨this.1, by rw [this.2]⟩
  | .tup _ xs, h => by
    have := lays_py xs h
    simp only [toPy, PyData.canLay0, PyData.depth, depthD]
    exact ⟨this.1, by rw [this.2]⟩
  | .ktup ks, h => by
    have := lays_key ks h
    simp only [toPy, PyData.canLay0, PyData.depth, depthD]
    exact ⟨this.1, by rw [this.2]⟩
  | .non, _ => ⟨rfl, rfl⟩
  | .bl _, _ => ⟨rfl, rfl⟩
  | .int _, _ => ⟨rfl, rfl⟩
  | .str _, h => ⟨h, rfl⟩
  | .dead, h => by simp [isDat] at h
  | .fn _, h => by simp [isDat] at h
  | .scr _, h => by simp [isDat] at h
  | .dk _ _ _, h => by simp [isDat] at h
  | .dt _ _ _, h => by simp [isDat] at h
  | .ins _ _ _ _, h => by simp [isDat] at h
  | .exn _ _ _, h => by simp [isDat] at h
theorem lays_py : ∀ (xs : List D), isDats xs = true → PyData.canLayAll0 (toPys xs) = true ∧ PyData.depthAll (toPys xs) = depthDs xs
  | [], _ => ⟨rfl, rfl⟩
  | x :: xs, h => by
    simp only [isDats, Bool.and_eq_true] at h
    have h1 := lay_py x h.1
    have h2 := lays_py xs h.2
    simp only [toPys, PyData.canLayAll0, PyData.depthAll, depthDs, h1, h2, Bool.and_self, true_and]
end
theorem shaped_py {x : D} (h : datOk x = true) : SeqAt.shaped (toPy x) = true := by
  unfold datOk at h
  simp only [Bool.and_eq_true, decide_eq_true_eq] at h
  have := lay_py x h.1
  unfold SeqAt.shaped
  simp only [this, Bool.true_and, decide_eq_true_eq]
  exact h.2
theorem dat_of {x : D} (h : datOk x = true) : isDat x = true := by
  unfold datOk at h
  simp only [Bool.and_eq_true] at h
  exact h.1
theorem dps_key : ∀ ks : List Key, DpAll C.K H (ks.map kV) (ks.map keyPy)
  | [] => .nil
  | .inl i :: ks => .cons (.int i) (dps_key ks)
  | .inr i :: ks => .cons (.str i) (dps_key ks)
mutual
theorem dp_of (gb : Sb G B) (bh : Sb B H) : ∀ {x : D} {v : V} {fd : List Addr}, isDat x = true → Own C G B H x v fd → Dp C.K H v (toPy x)
  | .lst _ xs, v, fd, h, o => by
    obtain ⟨a, ws, F', rfl, ea, oa, _⟩ := o.lstAt gb bh
    exact .lst (SqL.of ea) (dps_of gb bh h oa)
  | .tup _ xs, v, fd, h, o => by
    obtain ⟨a, ws, F', rfl, ea, oa, _⟩ := o.tupAt gb bh
    exact .tup ea (dps_of gb bh h oa)
  | .ktup ks, v, fd, _, o => by
    obtain ⟨a, rfl, ea, _⟩ := kup_at gb bh o
    exact .tup (.inl (.inl ea)) (dps_key ks)
  | .non, _, _, _, o => by obtain ⟨rfl, _⟩ := o; exact .non
  | .bl _, _, _, _, o => by obtain ⟨rfl, _⟩ := o; exact .bl _
  | .int _, _, _, _, o => by obtain ⟨rfl, _⟩ := o; exact .int _
  | .str _, _, _, _, o => by obtain ⟨rfl, _⟩ := o; exact .str _
  | .dead, _, _, h, _ => by simp [isDat] at h
  | .fn _, _, _, h, _ => by simp [isDat] at h
  | .scr _, _, _, h, _ => by simp [isDat] at h
  | .dk _ _ _, _, _, h, _ => by simp [isDat] at h
  | .dt _ _ _, _, _, h, _ => by simp [isDat] at h
  | .ins _ _ _ _, _, _, h, _ => by simp [isDat] at h
  | .exn _ _ _, _, _, h, _ => by simp [isDat] at h
theorem dps_of (gb : Sb G B) (bh : Sb B H) : ∀ {xs : List D} {vs : List V} {fd : List Addr}, isDats xs = true → Owns C G B H xs vs fd → DpAll C.K H vs (toPys xs)
  | [], _, _, _, o => by obtain ⟨rfl, _⟩ := o; exact .nil
  | x :: xs, _, _, h, o => by
    obtain ⟨v, vr, F1, F2, rfl, rfl, o1, o2⟩ := o
    simp only [isDats, Bool.and_eq_true] at h
    exact .cons (dp_of gb bh h.1 o1) (dps_of gb bh h.2 o2)
end
theorem v_eq (P : Opd C G B H F [e, f] ds vs U) (h : bi2 eqD ds = some d) (q : Res C G B H F pl U d Q) : Two vs (rEqD C.K) H Q := by
  obtain ⟨d1, d2, v1, v2, fd, fd2, rfl, rfl, o1, n1, s1, o2, n2⟩ := P.two
  have h : eqD d1 d2 = some d := h
  unfold eqD at h
  split at h <;> cases h
  rename_i hs
  exact ⟨_, _, rfl, toPy d1, toPy d2, dp_of P.gb P.bh (dat_of hs.1) o1, dp_of P.gb P.bh (dat_of hs.2) o2, shaped_py hs.1, shaped_py hs.2, by rw [← eqv_py _ _ (dat_of hs.1) (dat_of hs.2)]; exact q.now P ⟨rfl, rfl⟩⟩
abbrev rNeE (K : PySem.W.Frag) : R2 := fun x y H Q => ∃ a b xs, x = V.ref a ∧ y = V.ref b ∧ H a = some (.dK []) ∧ SqT K H b xs ∧ Q (.bl true) H
theorem v_ne (P : Opd C G B H F [e, f] ds vs U) (h : bi2 neD ds = some d) (q : Res C G B H F pl U d Q) : Two vs (fun x y H Q => rNeD C.K x y H Q ∨ rNeE C.K x y H Q) H Q := by
  obtain ⟨d1, d2, v1, v2, fd, fd2, rfl, rfl, o1, n1, s1, o2, n2⟩ := P.two
  have h : neD d1 d2 = some d := h
  unfold neD at h
  split at h
  · cases h
    rename_i hs
    exact ⟨_, _, rfl, .inl ⟨toPy d1, toPy d2, dp_of P.gb P.bh (dat_of hs.1) o1, dp_of P.gb P.bh (dat_of hs.2) o2, shaped_py hs.1, shaped_py hs.2, by rw [← eqv_py _ _ (dat_of hs.1) (dat_of hs.2)]; exact q.now P ⟨rfl, rfl⟩⟩⟩
  · split at h <;> cases h
    rename_i hs
    obtain ⟨h1, h2⟩ := hs
    unfold emptyDk at h1
    split at h1
    · obtain ⟨a, ws, F', rfl, ⟨ha, _⟩, _⟩ := o1
      unfold isTupD at h2
      split at h2
      · obtain ⟨b, ws2, F2, rfl, hb, _⟩ := o2.tupAt P.gb P.bh
        exact ⟨_, _, rfl, .inr ⟨a, b, ws2, rfl, rfl, ha, hb, q.now P ⟨rfl, rfl⟩⟩⟩
      · cases h2
    · cases h1
theorem isNon_v {x : D} {v : V} {fd : List Addr} (n : isDead x = false) (o : Own C G B H x v fd) : decide (v = .non) = isNon x := by
  cases x <;> simp only [isDead, Bool.true_eq_false] at n <;> first
    | (obtain ⟨rfl, _⟩ := o; rfl)
    | (obtain ⟨⟨a, rfl, _⟩, _⟩ := o; rfl)
    | (obtain ⟨a, vs, F', rfl, _⟩ := o; rfl)
    | (obtain ⟨a, dx, vs, F', rfl, _⟩ := o; rfl)
    | (obtain ⟨a, vs, rfl, _⟩ := o; rfl)
theorem v_isN (P : Opd C G B H F [e] ds vs U) (h : un1 (noneD false) ds = some d) (q : Res C G B H F pl U d Q) : One vs (fun x H Q => Q (.bl (decide (x = .non))) H) H Q := by
  obtain ⟨d1, v1, fd, rfl, rfl, o1, n1, s1⟩ := P.one
  have h : noneD false d1 = some d := h
  unfold noneD at h
  split at h <;> cases h
  rename_i hs
  refine ⟨_, rfl, ?_⟩
  show Q (V.bl (decide (v1 = .non))) H
  rw [isNon_v (by simpa using hs) o1]
  exact q.now P ⟨rfl, rfl⟩
theorem v_notN (P : Opd C G B H F [e] ds vs U) (h : un1 (noneD true) ds = some d) (q : Res C G B H F pl U d Q) : One vs (fun x H Q => Q (.bl (!decide (x = .non))) H) H Q := by
  obtain ⟨d1, v1, fd, rfl, rfl, o1, n1, s1⟩ := P.one
  have h : noneD true d1 = some d := h
  unfold noneD at h
  split at h <;> cases h
  rename_i hs
  refine ⟨_, rfl, ?_⟩
  show Q (V.bl (!decide (v1 = .non))) H
  rw [isNon_v (by simpa using hs) o1]
  exact q.now P ⟨rfl, rfl⟩
theorem v_not (P : Opd C G B H F [e] ds vs U) (h : un1 notD ds = some d) (q : Res C G B H F pl U d Q) : One vs (fun x H Q => ∃ c, x = .bl c ∧ Q (.bl (!c)) H) H Q := by
  obtain ⟨d1, v1, fd, rfl, rfl, o1, n1, s1⟩ := P.one
  have h : notD d1 = some d := h
  unfold notD at h
  split at h <;> cases h
  obtain ⟨rfl, rfl⟩ := o1
  exact ⟨_, rfl, _, rfl, q.now P ⟨rfl, rfl⟩⟩
theorem v_tup (P : Opd C G B H F es ds vs U) (he : ∀ e ∈ es, isPl e = false) (h : newTup ds = some d) (q : Res C G B H F false U d Q) : vs.length ≤ sizeLine ∧ ∀ p, H p = none → Q (.ref p) (upd H p (.tup vs)) := by
  unfold newTup at h
  split at h <;> cases h
  rename_i hs
  have o := P.vl.all he
  exact ⟨by rw [← o.length]; exact hs.2, fun p hp => q.tup P hp o P.nd fun _ z => z⟩
theorem v_lst (P : Opd C G B H F es ds vs U) (he : ∀ e ∈ es, isPl e = false) (h : newLst ds = some d) (q : Res C G B H F false U d Q) : vs.length ≤ sizeLine ∧ ∀ p, H p = none → Q (.ref p) (upd H p (.lst vs)) := by
  unfold newLst at h
  split at h <;> cases h
  rename_i hs
  have o := P.vl.all he
  exact ⟨by rw [← o.length]; exact hs.2, fun p hp => q.lst P hp o P.nd fun _ z => z⟩
end
end TT
namespace TT
open PySem PySem.Spec PyProof.Rows L2
section
variable {C : Gl0} {G B H : Hp} {F : Fp} {U : List Addr} {es : List E} {ds : List D} {vs : List V} {d : D} {Q : VK} {e f g : E} {pl : Bool}
/-! ### looking into a list, a tuple, a text, a dict, an instance -/
theorem live_some {x d : D} (h : live x = some d) : x = d := by
  unfold live at h
  split at h <;> cases h
  rfl
theorem atI_ix {α : Type} {xs : List α} {i : Int} {v : α} (h : atI xs i = some v) : ∃ j, ixN xs.length i = some j ∧ xs[j]? = some v := by
  unfold atI at h
  cases e : ixN xs.length i with
  | none => rw [e] at h; cases h
  | some j => rw [e] at h; exact ⟨j, rfl, h⟩
theorem ix_atI {α : Type} {xs : List α} {i : Int} {v : α} {j : Nat} (h : ixN xs.length i = some j) (k : xs[j]? = some v) : atI xs i = some v := by
  unfold atI
  rw [h]; exact k
theorem find_zip {κ : Type} [DecidableEq κ] (k : κ) : ∀ {ks : List κ} {xs : List D} {ws : List V} {U : List Addr} {d : D}, Owns C G B H xs ws U → ks.length = xs.length → dget ks xs k = some d →
    ∃ v fd, valV (ks.zip ws) k = some v ∧ Own C G B H d v fd ∧ (U.Nodup → fd.Nodup) ∧ ∀ a ∈ fd, a ∈ U
  | [], _, _, _, _, _, _, h => by simp [dget] at h
  | k' :: ks, [], _, _, _, _, hl, _ => by simp at hl
  | k' :: ks, x :: xs, _, _, d, o, hl, h => by
    obtain ⟨v, vr, F1, F2, rfl, rfl, o1, o2⟩ := o
    by_cases e : k' = k
    · subst e
      have h : some x = some d := by simpa [dget] using h
      cases h
      exact ⟨v, F1, by simp [valV], o1, fun n => (List.nodup_append.1 n).1, fun a ha => List.mem_append_left _ ha⟩
    · have h : dget ks xs k = some d := by
        unfold dget at h ⊢
        rw [List.zip_cons_cons, List.find?_cons_of_neg (by simpa using e)] at h
        exact h
      obtain ⟨w, fd, e1, o3, n1, s1⟩ := find_zip k o2 (by simpa using hl) h
      refine ⟨w, fd, ?_, o3, fun n => n1 (List.nodup_append.1 n).2.1, fun a ha => List.mem_append_right _ (s1 a ha)⟩
      rw [List.zip_cons_cons]
      unfold valV at e1 ⊢
      rw [List.find?_cons_of_neg (by simpa using e)]
      exact e1
theorem src_part {fd fd' : List Addr} (h : (isPl e = true ∧ (∀ a ∈ fd, inF F a)) ∨ (isPl e = false ∧ ∀ a ∈ fd, a ∈ U)) (k : ∀ a ∈ fd', a ∈ fd) : if isPl e = true then ∀ a ∈ fd', inF F a else ∀ a ∈ fd', a ∈ U := by
  rcases h with ⟨h1, h2⟩ | ⟨h1, h2⟩
  · rw [h1, if_pos rfl]; exact fun a ha => h2 a (k a ha)
  · rw [h1, if_neg (by decide)]; exact fun a ha => h2 a (k a ha)
theorem keyOf_v {x : D} {k : Key} {v : V} {fd : List Addr} (h : keyOf x = some k) (o : Own C G B H x v fd) : v = kV k := by
  cases x <;> simp [keyOf] at h
  · subst h; obtain ⟨rfl, _⟩ := o; rfl
  · subst h; obtain ⟨rfl, _⟩ := o; rfl
theorem keysOf_v : ∀ {xs : List D} {ks : List Key} {vs : List V} {fd : List Addr}, keysOf xs = some ks → Owns C G B H xs vs fd → vs = ks.map kV
  | [], _, _, _, h, o => by cases h; exact o.1
  | x :: xs, _, _, _, h, o => by
    obtain ⟨v, vr, F1, F2, rfl, rfl, o1, o2⟩ := o
    unfold keysOf at h
    split at h <;> cases h
    rename_i e1 e2
    rw [keyOf_v e1 o1, keysOf_v e2 o2]; rfl
theorem tup_key {K : PySem.W.Frag} {A : Hp} {a : Addr} {ws : List V} (h : SqT K A a ws) : True := trivial
theorem dget_rd {kvs : List (Key × V)} {a : Addr} {k : Key} (h : Rd H a (.dK kvs)) : DGet H a (kV k) (valV kvs k) := .inl ⟨kvs, k, h, rfl, rfl⟩
/-- x[i], by what x is -/
theorem v_ix (P : Opd C G B H F [e, f] ds vs U) (h : bi2 (fun x y => (ixD x y).bind live) ds = some d) (q : Res C G B H F (isPl e) U d Q) : Two vs (rIx C.K) H Q ∨ ∃ x y a v, vs = [x, y] ∧ x = .ref a ∧ DGet H a y (some v) ∧ Q v H := by
  obtain ⟨d1, d2, v1, v2, fd, fd2, rfl, rfl, o1, n1, s1, o2, n2⟩ := P.two
  have h : (ixD d1 d2).bind live = some d := h
  cases e1 : ixD d1 d2 with
  | none => rw [e1] at h; cases h
  | some d0 =>
    rw [e1] at h
    obtain rfl : d0 = d := live_some h
    unfold ixD at e1
    split at e1
    · obtain ⟨rfl, rfl⟩ := o2
      obtain ⟨a, ws, F', rfl, ea, oa, ef, _⟩ := o1.lstAt P.gb P.bh
      obtain ⟨j, h1, h2⟩ := atI_ix e1
      obtain ⟨w, fdk, h3, o3, n3, s3⟩ := oa.get h2
      exact .inl ⟨_, _, rfl, .inl ⟨a, ws, _, w, rfl, rfl, SqL.of ea, ix_atI (by rw [← oa.length]; exact h1) h3, q.part P o3 (n3 (nodup_kids ef n1)) (src_part s1 fun b hb => mem_kids ef b (s3 b hb))⟩⟩
    · obtain ⟨rfl, rfl⟩ := o2
      obtain ⟨a, ws, F', rfl, ea, oa, ef, _⟩ := o1.tupAt P.gb P.bh
      obtain ⟨j, h1, h2⟩ := atI_ix e1
      obtain ⟨w, fdk, h3, o3, n3, s3⟩ := oa.get h2
      exact .inl ⟨_, _, rfl, .inr (.inl ⟨a, ws, _, w, rfl, rfl, ea, ix_atI (by rw [← oa.length]; exact h1) h3, q.part P o3 (n3 (nodup_kids ef n1)) (src_part s1 fun b hb => mem_kids ef b (s3 b hb))⟩)⟩
    · obtain ⟨rfl, rfl⟩ := o2
      obtain ⟨⟨a, rfl, ea⟩, rfl⟩ := o1
      rw [Option.map_eq_some_iff] at e1
      obtain ⟨n, e1, rfl⟩ := e1
      refine .inl ⟨_, _, rfl, .inl ⟨a, _, _, .int n, rfl, rfl, (P.gb.trans P.bh).seqL ea, ?_, q.now P ⟨rfl, rfl⟩⟩⟩
      obtain ⟨j, h1, h2⟩ := atI_ix e1
      exact ix_atI (by rw [List.length_map]; exact h1) (by rw [List.getElem?_map, h2]; rfl)
    · split at e1
      · rename_i hs
        obtain ⟨rfl, rfl⟩ := o2
        obtain ⟨rfl, rfl⟩ := o1
        rw [Option.map_eq_some_iff] at e1
        obtain ⟨c, e1, rfl⟩ := e1
        exact .inl ⟨_, _, rfl, .inr (.inr ⟨_, _, c, rfl, rfl, hs, e1, q.now P ⟨rfl, rfl⟩⟩)⟩
      · cases e1
    · obtain ⟨rfl, rfl⟩ := o2
      obtain ⟨a, ws, F', rfl, h1, oa, ef, _, hl, nd⟩ := o1
      obtain ⟨w, fdk, h3, o3, n3, s3⟩ := find_zip (Sum.inl _) oa hl e1
      refine .inr ⟨_, _, a, w, rfl, rfl, ?_, q.part P o3 (n3 (nodup_kids ef n1)) (src_part s1 fun b hb => mem_kids ef b (s3 b hb))⟩
      rw [← h3]
      first | exact dget_rd (k := Sum.inl _) (h1.viewD P.gb P.bh) | exact dget_rd (k := Sum.inr _) (h1.viewD P.gb P.bh)
    · obtain ⟨rfl, rfl⟩ := o2
      obtain ⟨a, ws, F', rfl, h1, oa, ef, _, hl, nd⟩ := o1
      obtain ⟨w, fdk, h3, o3, n3, s3⟩ := find_zip (Sum.inr _) oa hl e1
      refine .inr ⟨_, _, a, w, rfl, rfl, ?_, q.part P o3 (n3 (nodup_kids ef n1)) (src_part s1 fun b hb => mem_kids ef b (s3 b hb))⟩
      rw [← h3]
      first | exact dget_rd (k := Sum.inl _) (h1.viewD P.gb P.bh) | exact dget_rd (k := Sum.inr _) (h1.viewD P.gb P.bh)
    · obtain ⟨b, rfl, eb, _⟩ := kup_at P.gb P.bh o2
      obtain ⟨a, ws, F', rfl, h1, oa, ef, _, hl, nd⟩ := o1
      obtain ⟨w, fdk, h3, o3, n3, s3⟩ := find_zip _ oa hl e1
      refine .inr ⟨_, _, a, w, rfl, rfl, ?_, q.part P o3 (n3 (nodup_kids ef n1)) (src_part s1 fun b hb => mem_kids ef b (s3 b hb))⟩
      rw [← h3]
      exact .inr ⟨_, _, b, h1.viewD P.gb P.bh, rfl, eb, rfl⟩
    · obtain ⟨rfl, rfl⟩ := o2
      obtain ⟨a, rfl, ea, rfl⟩ := kup_at P.gb P.bh o1
      rw [Option.map_eq_some_iff] at e1
      obtain ⟨k, e1, rfl⟩ := e1
      refine .inl ⟨_, _, rfl, .inr (.inl ⟨a, _, _, kV k, rfl, rfl, .inl (.inl ea), ?_, q.now P (own_keyD k)⟩)⟩
      obtain ⟨j, h1, h2⟩ := atI_ix e1
      exact ix_atI (by rw [List.length_map]; exact h1) (by rw [List.getElem?_map, h2]; rfl)
    · cases e1
theorem v_len (P : Opd C G B H F [e] ds vs U) (h : un1 lenD ds = some d) (q : Res C G B H F pl U d Q) : (∃ x n, vs = [x] ∧ LenV C.K x H n ∧ Q (.int n) H) ∨ ∃ a kvs, vs = [.ref a] ∧ Rd H a (.dK kvs) ∧ Q (.int kvs.length) H := by
  obtain ⟨d1, v1, fd, rfl, rfl, o1, n1, s1⟩ := P.one
  have h : lenD d1 = some d := h
  unfold lenD at h
  split at h
  · split at h <;> cases h
    rename_i hs
    obtain ⟨rfl, rfl⟩ := o1
    exact .inl ⟨_, _, rfl, ⟨hs, rfl⟩, q.now P ⟨rfl, rfl⟩⟩
  · cases h
    obtain ⟨a, ws, F', rfl, ea, oa, ef, _⟩ := o1.lstAt P.gb P.bh
    exact .inl ⟨_, _, rfl, .inl ⟨ws, SqL.of ea, oa.length⟩, q.now P ⟨rfl, rfl⟩⟩
  · cases h
    obtain ⟨a, ws, F', rfl, ea, oa, ef, _⟩ := o1.tupAt P.gb P.bh
    exact .inl ⟨_, _, rfl, .inr ⟨ws, ea, oa.length⟩, q.now P ⟨rfl, rfl⟩⟩
  · cases h
    obtain ⟨⟨a, rfl, ea⟩, rfl⟩ := o1
    exact .inl ⟨_, _, rfl, .inl ⟨_, (P.gb.trans P.bh).seqL ea, by rw [List.length_map]⟩, q.now P ⟨rfl, rfl⟩⟩
  · cases h
    obtain ⟨a, ws, F', rfl, h1, oa, ef, _, hl, nd⟩ := o1
    refine .inr ⟨a, _, rfl, h1.viewD P.gb P.bh, ?_⟩
    refine q.now P ⟨?_, rfl⟩
    rw [List.length_zip, ← oa.length, hl, Nat.min_self]
  · cases h
    obtain ⟨a, rfl, ea, rfl⟩ := kup_at P.gb P.bh o1
    exact .inl ⟨_, _, rfl, .inr ⟨_, .inl (.inl ea), by rw [List.length_map]⟩, q.now P ⟨rfl, rfl⟩⟩
  · cases h
theorem v_list (P : Opd C G B H F [e] ds vs U) (h : un1 listD ds = some d) (q : Res C G B H F false U d Q) : (∃ p ys, vs = [.ref p] ∧ (SqL C.K H p ys ∨ SqT C.K H p ys) ∧ ∀ l, H l = none → Q (.ref l) (upd H l (.lst ys))) ∨ ∃ (a : Addr) (kvs : List (Key × V)), vs = [.ref a] ∧ Rd H a (.dK kvs) ∧ ∀ p, H p = none → Q (.ref p) (upd H p (.lst (kvs.map fun kv => kV kv.1))) := by
  obtain ⟨d1, v1, fd, rfl, rfl, o1, n1, s1⟩ := P.one
  have h : listD d1 = some d := h
  unfold listD at h
  split at h
  · split at h <;> cases h
    rename_i hs
    obtain ⟨a, ws, F', rfl, ea, oa, ef, _⟩ := o1.lstAt P.gb P.bh
    obtain rfl := oa.nil hs.1
    exact .inl ⟨a, ws, rfl, .inl (SqL.of ea), fun l hl => q.lst P hl oa List.nodup_nil fun _ z => nomatch z⟩
  · split at h <;> cases h
    rename_i hs
    obtain ⟨a, ws, F', rfl, ea, oa, ef, _⟩ := o1.tupAt P.gb P.bh
    obtain rfl := oa.nil hs.1
    exact .inl ⟨a, ws, rfl, .inr ea, fun l hl => q.lst P hl oa List.nodup_nil fun _ z => nomatch z⟩
  · cases h
    obtain ⟨a, rfl, ea, rfl⟩ := kup_at P.gb P.bh o1
    exact .inl ⟨a, _, rfl, .inr (.inl (.inl ea)), fun l hl => q.lst P hl (owns_keyD _) List.nodup_nil fun _ z => nomatch z⟩
  · cases h
    rename_i ks xs
    obtain ⟨a, ws, F', rfl, h1, oa, ef, _, hl, nd⟩ := o1
    refine .inr ⟨a, _, rfl, h1.viewD P.gb P.bh, fun l hp => ?_⟩
    have e : (ks.zip ws).map (fun kv => kV kv.1) = ks.map kV := by
      rw [show (fun kv : Key × V => kV kv.1) = kV ∘ Prod.fst from rfl, ← List.map_map, List.map_fst_zip (by rw [← oa.length]; omega)]
    rw [e]
    exact q.lst P hp (owns_keyD _) List.nodup_nil fun _ z => nomatch z
  · cases h
theorem v_tuple (P : Opd C G B H F [e] ds vs U) (h : un1 tupleD ds = some d) (q : Res C G B H F false U d Q) : ∃ p ys, vs = [.ref p] ∧ ((SqL C.K H p ys ∧ ∀ l, H l = none → Q (.ref l) (upd H l (.tup ys))) ∨ (SqT C.K H p ys ∧ Q (.ref p) H)) := by
  obtain ⟨d1, v1, fd, rfl, rfl, o1, n1, s1⟩ := P.one
  have h : tupleD d1 = some d := h
  unfold tupleD at h
  split at h
  · split at h <;> cases h
    rename_i hs
    obtain ⟨a, ws, F', rfl, ea, oa, ef, _⟩ := o1.lstAt P.gb P.bh
    obtain rfl := oa.nil hs.1
    exact ⟨a, ws, rfl, .inl ⟨SqL.of ea, fun l hl => q.tupS P hl hs oa⟩⟩
  · cases h
theorem v_int (P : Opd C G B H F [e] ds vs U) (h : un1 intD ds = some d) (q : Res C G B H F pl U d Q) : (∃ i, vs = [.int i] ∧ Q (.int i) H) ∨ ∃ k, vs = [.bl k] ∧ Q (.int (if k then 1 else 0)) H := by
  obtain ⟨d1, v1, fd, rfl, rfl, o1, n1, s1⟩ := P.one
  have h : intD d1 = some d := h
  unfold intD at h
  split at h <;> cases h
  · obtain ⟨rfl, rfl⟩ := o1
    exact .inl ⟨_, rfl, q.now P ⟨rfl, rfl⟩⟩
  · obtain ⟨rfl, rfl⟩ := o1
    exact .inr ⟨_, rfl, q.now P ⟨rfl, rfl⟩⟩
theorem v_strI (P : Opd C G B H F [e] ds vs U) (h : un1 strID ds = some d) (q : Res C G B H F pl U d Q) : ∃ i : Int, vs = [.int i] ∧ i.natAbs.log2 < 1920 ∧ Q (.str (toString i)) H := by
  obtain ⟨d1, v1, fd, rfl, rfl, o1, n1, s1⟩ := P.one
  have h : strID d1 = some d := h
  unfold strID at h
  split at h
  · split at h <;> cases h
    rename_i hs
    obtain ⟨rfl, rfl⟩ := o1
    exact ⟨_, rfl, hs, q.now P ⟨rfl, rfl⟩⟩
  · cases h
theorem v_sum (P : Opd C G B H F [e] ds vs U) (h : un1 sumD ds = some d) (q : Res C G B H F pl U d Q) : rSum C.K vs H Q := by
  obtain ⟨d1, v1, fd, rfl, rfl, o1, n1, s1⟩ := P.one
  have h : sumD d1 = some d := h
  unfold sumD at h
  split at h
  · rw [Option.map_eq_some_iff] at h
    obtain ⟨ns, h2, rfl⟩ := h
    obtain ⟨a, ws, F', rfl, ea, oa, ef, _⟩ := o1.lstAt P.gb P.bh
    obtain rfl := oa.ints h2
    exact ⟨a, ns, rfl, SqL.of ea, q.now P ⟨rfl, rfl⟩⟩
  · cases h
theorem v_all (P : Opd C G B H F [e] ds vs U) (h : un1 allD ds = some d) (q : Res C G B H F pl U d Q) : ∃ (a : Addr) (bs : List Bool), vs = [.ref a] ∧ SqL C.K H a (bs.map V.bl) ∧ Q (.bl (bs.all id)) H := by
  obtain ⟨d1, v1, fd, rfl, rfl, o1, n1, s1⟩ := P.one
  have h : allD d1 = some d := h
  unfold allD at h
  split at h
  · rw [Option.map_eq_some_iff] at h
    obtain ⟨ns, h2, rfl⟩ := h
    obtain ⟨a, ws, F', rfl, ea, oa, ef, _⟩ := o1.lstAt P.gb P.bh
    obtain rfl := oa.bls h2
    exact ⟨a, ns, rfl, SqL.of ea, q.now P ⟨rfl, rfl⟩⟩
  · cases h
theorem v_any (P : Opd C G B H F [e] ds vs U) (h : un1 anyD ds = some d) (q : Res C G B H F pl U d Q) : ∃ (a : Addr) (bs : List Bool), vs = [.ref a] ∧ SqL C.K H a (bs.map V.bl) ∧ Q (.bl (bs.any id)) H := by
  obtain ⟨d1, v1, fd, rfl, rfl, o1, n1, s1⟩ := P.one
  have h : anyD d1 = some d := h
  unfold anyD at h
  split at h
  · rw [Option.map_eq_some_iff] at h
    obtain ⟨ns, h2, rfl⟩ := h
    obtain ⟨a, ws, F', rfl, ea, oa, ef, _⟩ := o1.lstAt P.gb P.bh
    obtain rfl := oa.bls h2
    exact ⟨a, ns, rfl, SqL.of ea, q.now P ⟨rfl, rfl⟩⟩
  · cases h
theorem v_min2 (P : Opd C G B H F [e, f] ds vs U) (h : bi2 minD ds = some d) (q : Res C G B H F pl U d Q) : ∃ i j, vs = [.int i, .int j] ∧ Q (.int (if j < i then j else i)) H := by
  obtain ⟨x, y, rfl, i, j, rfl, rfl, _, z⟩ := v_int2 (Cc := fun _ _ => True) (k := fun i j => .int (if j < i then j else i)) (fun d1 d2 d h => by
    unfold minD at h
    split at h <;> cases h
    exact ⟨_, _, rfl, rfl, trivial, fun _ _ _ => ⟨rfl, rfl⟩⟩) P h q
  exact ⟨_, _, rfl, z⟩
theorem v_max2 (P : Opd C G B H F [e, f] ds vs U) (h : bi2 maxD ds = some d) (q : Res C G B H F pl U d Q) : ∃ i j, vs = [.int i, .int j] ∧ Q (.int (if j > i then j else i)) H := by
  obtain ⟨x, y, rfl, i, j, rfl, rfl, _, z⟩ := v_int2 (Cc := fun _ _ => True) (k := fun i j => .int (if j > i then j else i)) (fun d1 d2 d h => by
    unfold maxD at h
    split at h <;> cases h
    exact ⟨_, _, rfl, rfl, trivial, fun _ _ _ => ⟨rfl, rfl⟩⟩) P h q
  exact ⟨_, _, rfl, z⟩
theorem v_sl {x : D} {v : V} {fd : List Addr} {lo hi : Option Int} (gb : Sb G B) (bh : Sb B H) (P : Opd C G B H F es ds vs U) (o : Own C G B H x v fd) (h : slD x lo hi = some d) (q : Res C G B H F false U d Q) :
    (rSlL C.K v lo hi H Q ∨ (rSlA C.K v lo hi H Q ∨ rSlS v lo hi H Q)) := by
  unfold slD at h
  split at h
  · split at h <;> cases h
    rename_i hs
    obtain ⟨a, ws, F', rfl, ea, oa, ef, _⟩ := o.lstAt gb bh
    obtain rfl := oa.nil hs.1
    exact .inl ⟨a, ws, rfl, SqL.of ea, fun p hp => q.lst P hp (oa.cut lo hi) List.nodup_nil fun _ z => nomatch z⟩
  · cases h
    obtain ⟨a, ws, F', rfl, ea, oa, ef, hk⟩ := id (o.tupAt gb bh)
    obtain rfl := oa.nil hk.1
    have hl := oa.length
    refine .inr (.inl ⟨a, ws, rfl, ea, fun hw => ?_, fun _ p hp => q.tupS P hp ⟨?_, ?_⟩ (oa.cut lo hi)⟩)
    · obtain rfl := o.sc (fl := .shr)
      rename_i xs
      have : cut xs lo hi = xs := by
        unfold cut
        rw [hl, hw.1, hw.2, List.drop_zero, Nat.sub_zero, ← hl, List.take_length]
      rw [this] at q
      exact q.now P o
    · rw [noOwns_iff]
      intro y hy
      exact noOwns_iff.1 hk.1 y (List.mem_of_mem_drop (List.mem_of_mem_take hy))
    · rw [noBors_iff]
      intro y hy
      exact noBors_iff.1 hk.2 y (List.mem_of_mem_drop (List.mem_of_mem_take hy))
  · cases h
    obtain ⟨⟨a, rfl, ea⟩, rfl⟩ := o
    rename_i ns
    refine .inl ⟨a, _, rfl, (gb.trans bh).seqL ea, fun p hp => ?_⟩
    have : cutV (ns.map V.int) lo hi = (cut ns lo hi).map V.int := by
      unfold cutV cut
      rw [List.length_map, List.map_take, List.map_drop]
    rw [this]
    exact q.lst P hp (owns_ints _) List.nodup_nil fun _ z => nomatch z
  · cases h
    rename_i ks
    obtain ⟨a, rfl, ea, rfl⟩ := id (kup_at gb bh o)
    have ec : cutV (ks.map kV) lo hi = (cut ks lo hi).map kV := by
      unfold cutV cut
      rw [List.length_map, List.map_take, List.map_drop]
    refine .inr (.inl ⟨a, _, rfl, .inl (.inl ea), fun hw => ?_, fun _ p hp => by rw [ec]; exact q.ktup P hp⟩)
    have : cut ks lo hi = ks := by
      rw [List.length_map] at hw
      unfold cut
      rw [hw.1, hw.2, List.drop_zero, Nat.sub_zero, List.take_length]
    rw [this] at q
    exact q.now P o
  · split at h <;> cases h
    rename_i hs
    obtain ⟨rfl, rfl⟩ := o
    exact .inr (.inr ⟨_, rfl, hs, q.now P ⟨rfl, rfl⟩⟩)
  · cases h
end
end TT
namespace TT
open PySem PySem.Spec PyProof.Rows L2
/-! ### the look at a text: does an E (S) have the shape of an expression (statement) -/
structure Gam where
  N : List Str
  sc : Scope
  bn : List Str
  lv : Nat
  m : Bool
  st : Option Scope
def locB (sc : Scope) (x : Str) : Bool := match sc.names.lookup x with
  | some .local => true
  | some .cell => true
  | _ => false
/-- what a block may store -/
def stOk (Γ : Gam) (x : Str) : Bool := match Γ.st with
  | none => true
  | some sc => locB sc x
structure CxOk (C : Gl0) (Γ : Gam) (X : Cx) : Prop where
  K : X.K = C.K
  N : X.N = Γ.N
  nd : Γ.N.Nodup
  sc : X.env.scope = Γ.sc
  calm : X.calm = true
  room : Room Γ.lv X.A
  bn : ∀ x ∈ Γ.bn, X.mg x = none
  fn : ∀ x, Loc X.env.scope x → stOk Γ x = true → X.fn x = true ∨ X.env.scope.names.lookup x = some .local
/-- .. in a def's own block -/
structure CxS (C : Gl0) (Γ : Gam) (X : Cx) : Prop extends CxOk C Γ X where
  fa : ∀ x, Loc X.env.scope x → X.fn x = true ∨ X.env.scope.names.lookup x = some .local
  po : PassesOwn (model X.prog X.w) X.A X.env X.xe
  st : X.stack = X.env :: X.outer
  fr : X.env.frame = some X.env.locals
  ex : X.ex = []
def dbgB (x : Str) : Bool := !(x == ("__debug__" : Str)) && !(x == ("__classdict__" : Str))
def visB (sc : Scope) (x : Str) : Bool := match sc.names.lookup x with
  | some .local => true
  | some .cell => true
  | some .free => true
  | _ => false
def glB (sc : Scope) (x : Str) : Bool := (match sc.names.lookup x with
  | some .globalImplicit => true
  | _ => false) && dbgB x
def nmB (Γ : Gam) (i : Nat) (e : Expr) : Bool := match e with
  | .Name x _ => decide (Γ.N[i]? = some x) && visB Γ.sc x && dbgB x
  | _ => false
/-- a name that is the built-in one -/
def btB (Γ : Gam) (n x : Str) : Bool := decide (x = n) && glB Γ.sc x && decide (n ∈ Γ.bn)
def notStar : Expr → Bool
  | .Starred _ _ => false
  | _ => true
def notCall : Expr → Bool
  | .Call _ _ _ _ => false
  | _ => true
def notSlice : Expr → Bool
  | .Slice _ _ _ _ => false
  | _ => true
def notSet : Expr → Bool
  | .Set _ _ _ => false
  | _ => true
/-- what may stand as a test -/
def tstB (a : Expr) : Bool := match a with
  | .IfExp _ _ _ _ => false
  | _ => true
def cstB (d : D) (c : Const) : Bool := match d, c with
  | .int i, .int j => decide (i = j)
  | .str x, .str y => decide (x = y)
  | .bl a, .bool b => a == b
  | .non, .none => true
  | _, _ => false
/-- what may stand ahead of a dot -/
def baseOk : Expr → Bool
  | .Call (.Name _ _) [] [] _ => false
  | _ => true
/-- a call of a built-in by its name -/
def btCall (Γ : Gam) (n : Str) (e : Expr) : Option (List Expr) := match e with
  | .Call (.Name x _) as [] _ => if btB Γ n x then some as else none
  | _ => none
def tyB (Γ : Gam) (t : Ty) (x : Str) (e : Expr) : Bool := match e with
  | .Name y _ => decide (y = x) && glB Γ.sc y && (match t with
    | .b n => decide (y ∈ Γ.bn) && decide (y = Str.ofString n) && decide (n ∈ ["int", "bool", "str", "tuple", "list", "dict", "ValueError"])
    | .c _ => true)
  | _ => false
def binB (o : Operator) (e : Expr) : Option (List Expr) := match e with
  | .BinOp a o' b _ => if o' == o then some [a, b] else none
  | _ => none
def cmpB (o : CmpOp) (e : Expr) : Option (List Expr) := match e with
  | .Compare a [o'] [b] _ => if o' == o && notSet b then some [a, b] else none
  | _ => none
def nonB (o : CmpOp) (e : Expr) : Option (List Expr) := match e with
  | .Compare a [o'] [.Constant .none _ _] _ => if o' == o then some [a] else none
  | _ => none
/-- o.m(x), on one line -/
def mthN : Op → Option Str
  | .part => some "partition"
  | .find => some "find"
  | .join => some "join"
  | .idx => some "index"
  | .get2 => some "get"
  | _ => none
def mthA : Op → Nat
  | .get2 => 2
  | _ => 1
def arB (f : FE) (n : Nat) : Bool := decide (n ≤ f.np) && decide (f.np ≤ n + f.dfl.length)
def tabB (Γ : Gam) (tab : List (Nat × FE)) (m : Bool) (n : Nat) : Bool := !tab.isEmpty && tab.all fun p => decide (p.2.lv ≤ Γ.lv) && (p.2.m == m) && arB p.2 n
def mthB (o : Op) (e : Expr) : Option (Expr × List Expr) := match e with
  | .Call (.Attribute x m ap) as [] cp => if decide (mthN o = some m) && baseOk x && (ap.endLine == cp.line) then some (x, as) else none
  | _ => none
def keysB : List Str → List (Option Expr) → Bool
  | [], [] => true
  | k :: ks, some (.Constant (.str y) _ _) :: es => decide (y = k) && keysB ks es
  | _, _ => false
def shape (Γ : Gam) (o : Op) (e : Expr) : Option (List Expr) := match o with
  | .add => binB .Add e
  | .sub => binB .Sub e
  | .mul => binB .Mult e
  | .fdiv => binB .FloorDiv e
  | .mod => binB .Mod e
  | .pow => binB .Pow e
  | .neg => (match e with | .UnaryOp .USub a _ => some [a] | _ => none)
  | .eq => cmpB .Eq e
  | .ne => cmpB .NotEq e
  | .lt => cmpB .Lt e
  | .le => cmpB .LtE e
  | .gt => cmpB .Gt e
  | .ge => cmpB .GtE e
  | .isN => nonB .Is e
  | .notN => nonB .IsNot e
  | .in_ => cmpB .In e
  | .nin => cmpB .NotIn e
  | .not => (match e with | .UnaryOp .Not a _ => some [a] | _ => none)
  | .tup => (match e with | .Tuple es _ _ => some es | _ => none)
  | .lst => (match e with | .List es _ => some es | _ => none)
  | .dnk => (match e with | .Dict [] [] _ => some [] | _ => none)
  | .dnt => (match e with | .Dict [] [] _ => some [] | _ => none)
  | .ix => (match e with | .Subscript a b _ => if notSlice b then some [a, b] else none | _ => none)
  | .sl lo hi => (match e with | .Subscript a (.Slice l h none _) _ => if l.isSome == lo && h.isSome == hi then some (a :: (l.toList ++ h.toList)) else none | _ => none)
  | .rev => (match e with | .Subscript a (.Slice none none (some (.UnaryOp .USub (.Constant (.int 1) _ _) _)) _) _ => some [a] | _ => none)
  | .len => btCall Γ "len" e
  | .list => btCall Γ "list" e
  | .tuple => btCall Γ "tuple" e
  | .int => btCall Γ "int" e
  | .strI => btCall Γ "str" e
  | .sum => btCall Γ "sum" e
  | .all => btCall Γ "all" e
  | .any => btCall Γ "any" e
  | .divmod => btCall Γ "divmod" e
  | .intT => btCall Γ "int" e
  | .rep => binB .Mult e
  | .min2 => btCall Γ "min" e
  | .max2 => btCall Γ "max" e
  | .fld f _ => (match e with | .Attribute a f' _ => if decide (f' = f) && baseOk a then some [a] else none | _ => none)
  | .tupK => (match e with | .Tuple es _ _ => some es | _ => none)
  | .tupleK => btCall Γ "tuple" e
  | .vals => (match btCall Γ "list" e with
    | some [.Call (.Attribute a m ap) [] [] cp] => if decide (m = "values") && baseOk a && (ap.endLine == cp.line) then some [a] else none
    | _ => none)
  | .dictP => btCall Γ "dict" e
  | .dictC => btCall Γ "dict" e
  | .dictZ => (match btCall Γ "dict" e with | some [z] => (match btCall Γ "zip" z with | some [x, y] => some [x, y] | _ => none) | _ => none)
  | .lenSet => (match btCall Γ "len" e with | some [z] => (match btCall Γ "set" z with | some [x] => some [x] | _ => none) | _ => none)
  | .dlit ks => (match e with
    | .Dict keys vs _ => if keysB ks keys && decide (ks.length = vs.length) && !ks.isEmpty && decide (ks.length ≤ 15) && decide ks.Nodup then some vs else none
    | _ => none)
  | .isi t x _ _ => (match btCall Γ "isinstance" e with
    | some [a, b] => if tyB Γ t x b then some [a] else none
    | _ => none)
  | _ => none
/-- where a slice has both bounds, the lower one is written out -/
def lowC : List E → Bool
  | [_, .c (.int _), _] => true
  | _ => false
/-- operands that are stored must not be looks -/
def opSt (o : Op) (es : List E) : Bool := match o with
  | .tup => es.all fun e => !isPl e
  | .lst => es.all fun e => !isPl e
  | .dlit _ => es.all fun e => !isPl e
  | .dictP => es.all fun e => !isPl e
  | .sl lo hi => !(lo && hi) || lowC es
  | _ => true
/-- .. and what not is asked of may stand as a test -/
def opSt' (o : Op) (es : List E) (as : List Expr) : Bool := match o with
  | .not => as.all tstB
  | o => opSt o es
/-- a plain expression as a test -/
def tstPlain (a : Expr) : Bool := match a with
  | .UnaryOp .Not _ _ => false
  | .BoolOp _ _ _ => false
  | .IfExp _ _ _ _ => false
  | .Compare _ _ _ _ => false
  | _ => true
/-- not a list comprehension -/
def notComp : Expr → Bool
  | .ListComp _ _ _ _ => false
  | .SetComp _ _ _ _ => false
  | .DictComp _ _ _ _ _ => false
  | _ => true
/-- a place of a name that may be stored -/
def stB (Γ : Gam) (i : Nat) (e : Expr) : Bool := match e with
  | .Name x _ => decide (Γ.N[i]? = some x) && locB Γ.sc x && stOk Γ x && !(Γ.m && decide (i = 0))
  | _ => false
def stBs (Γ : Gam) : List Nat → List Expr → Bool
  | [], [] => true
  | i :: is, e :: es => stB Γ i e && stBs Γ is es
  | _, _ => false
def isTup : Expr → Bool
  | .Tuple _ _ _ => true
  | _ => false
def tgB (Γ : Gam) (t : Tg) (e : Expr) : Bool := match t, e with
  | .nm i, e => stB Γ i e
  | .tup is, .Tuple es _ _ => stBs Γ is es
  | _, _ => false
/-- a target's slots are the comprehension's own -/
def tgIn (own : List Nat) : Tg → Bool
  | .nm i => decide (i ∈ own)
  | .tup is => is.all fun i => decide (i ∈ own)
/-- a walk's shape: its operands' texts -/
def itShape (Γ : Gam) (tg : Expr) (k : ItK) (a : Expr) : Option (List Expr) := match k with
  | .seq => if notSet a && notStar a then some [a] else none
  | .rng1 => (match btCall Γ "range" a with | some [x] => some [x] | _ => none)
  | .rng2 => (match btCall Γ "range" a with | some [x, y] => some [x, y] | _ => none)
  | .rng3 => (match btCall Γ "range" a with | some [x, y, z] => some [x, y, z] | _ => none)
  | .enum => (match btCall Γ "enumerate" a with | some [x] => if isTup tg then some [x] else none | _ => none)
  | .zip => (match btCall Γ "zip" a with | some [x, y] => if isTup tg then some [x, y] else none | _ => none)
def itSt (k : ItK) (es : List E) : Bool := match k with
  | .enum => es.all fun e => !isPl e
  | .zip => es.all fun e => !isPl e
  | _ => true
def Gam.blk (Γ : Gam) (scope : Scope) : Gam := { Γ with sc := relS scope Γ.sc, st := some scope }
def ownOf (Γ : Gam) (own : List Nat) : List (Str × Nat) := own.map fun i => (Γ.N.getD i "", i)
def ordO : Op → Option CmpOp
  | .lt => some .Lt
  | .le => some .LtE
  | .gt => some .Gt
  | .ge => some .GtE
  | _ => none
def isLC : Expr → Bool
  | .ListComp _ [⟨_, _, _, 0⟩] _ _ => true
  | _ => false
mutual
def mE : Gam → E → Expr → Bool
  | _, .c d, e => (match e with | .Constant c _ _ => cstB d c | _ => false)
  | Γ, .nm i, e => nmB Γ i e
  | Γ, .mv i, e => nmB Γ i e
  | Γ, .fz i, e => nmB Γ i e
  | Γ, .cp a, e => mE Γ a e && tstPlain e
  | Γ, .tf a, e => mE Γ a e && tstPlain e && !isPl a
  | Γ, .pu a, e => mE Γ a e && tstPlain e && !isPl a && !eff a
  | Γ, .gl x _, e => (match e with | .Name y _ => decide (y = x) && glB Γ.sc y | _ => false)
  | Γ, .op o es, e => (match shape Γ o e with | some as => mEs Γ es as && opSt' o es as | none => false)
  | Γ, .mth o a es, e => (match mthB o e with | some (x, as) => mE Γ a x && (!isPl a || !effs es) && mEs Γ es as && decide (as.length = mthA o) | none => false)
  | Γ, .band es, e => (match e with | .BoolOp .And as _ => mEs Γ es as && as.all tstB && es.all fun e => !isPl e | _ => false)
  | Γ, .bor es, e => (match e with | .BoolOp .Or as _ => mEs Γ es as && as.all tstB && es.all fun e => !isPl e | _ => false)
  | Γ, .ite c a b, e => (match e with | .IfExp x y z _ => mE Γ c x && tstB x && mE Γ a y && mE Γ b z && !isPl a && !isPl b | _ => false)
  | Γ, .chain o1 o2 a b c, e => (match e with
    | .Compare x [p1, p2] [y, z] _ => decide (ordO o1 = some p1) && decide (ordO o2 = some p2) && notSet y && notSet z && mE Γ a x && mE Γ b y && mE Γ c z && !isPl a && !isPl b && !isPl c
    | _ => false)
  | Γ, .call f es, e => (match e with
    | .Call (.Name x _) as [] _ => decide (x = f.name) && glB Γ.sc x && decide (f.lv ≤ Γ.lv) && !f.m && decide (es.length ≤ f.np) && decide (f.np ≤ es.length + f.dfl.length) && mEs Γ es as
    | _ => false)
  | Γ, .comp own t k es co elt, e => (match e with
    | .ListComp el [⟨tg, iter, ifs, 0⟩] scope _ =>
      (match itShape Γ tg k iter with
        | some as => mEs Γ es as && itSt k es
        | none => false) && notSet iter && blkC Γ.N Γ.sc scope (ownOf Γ own) && tgB (Γ.blk scope) t tg && tgIn own t && mEs (Γ.blk scope) co ifs && ifs.all tstB && decide (ifs.length ≤ 1) && mE (Γ.blk scope) elt el && !isPl elt &&
        own.all (fun i => decide (i < Γ.N.length)) && !(Γ.m && own.any fun i => decide (i = 0)) && decide own.Nodup
    | _ => false)
  | Γ, .meth x tab o es, e => (match e with
    | .Call (.Attribute oe m ap) as [] cp => decide (m = x) && baseOk oe && (ap.endLine == cp.line) && decide (as.length < 29) && mE Γ o oe && (!isPl o || !effs es) && mEs Γ es as && tabB Γ tab false (es.length + 1)
    | _ => false)
  | Γ, .make _ x f es, e => (match e with
    | .Call (.Name y _) as [] _ => decide (y = x) && glB Γ.sc y && decide (f.lv + 1 ≤ Γ.lv) && f.m && arB f (es.length + 1) && mEs Γ es as
    | _ => false)
  | Γ, .callM f i es, e => (match e with
    | .Call (.Name y _) (a0 :: as) [] _ => decide (y = f.name) && glB Γ.sc y && decide (f.lv ≤ Γ.lv) && f.m && arB f (es.length + 1) && nmB Γ i a0 && mEs Γ es as && es.all fun e => !isPl e
    | _ => false)
  | Γ, .methM x tab i es, e => (match e with
    | .Call (.Attribute oe m ap) as [] cp => decide (m = x) && (ap.endLine == cp.line) && decide (as.length < 29) && nmB Γ i oe && mEs Γ es as && (es.all fun e => !isPl e) && tabB Γ tab true (es.length + 1)
    | _ => false)
  | Γ, .callV i tab es, e => (match e with
    | .Call (.Name y p) as [] _ => nmB Γ i (.Name y p) && mEs Γ es as && tabB Γ tab false es.length
    | _ => false)
def mEs : Gam → List E → List Expr → Bool
  | _, [], [] => true
  | Γ, e :: es, a :: as => notStar a && mE Γ e a && (!isPl e || !effs es) && mEs Γ es as
  | _, _, _ => false
end
def notTup : Expr → Bool
  | .Tuple _ _ _ => false
  | _ => true
/-- a, b = e1, e2: the names are local ones, on one line, not the same, not all written out -/
def parB (Γ : Gam) (i j : Nat) (t e : Expr) : Bool := match t, e with
  | .Tuple [.Name x px, .Name y py] _ _, .Tuple [a, b] _ _ =>
    decide (Γ.sc.kind = .function) && decide (Γ.N[i]? = some x) && decide (Γ.N[j]? = some y) && decide (i ≠ j) && decide (Γ.sc.names.lookup x = some .local) && decide (Γ.sc.names.lookup y = some .local) && decide (px.line = py.line) && decide (x ≠ y) &&
      notStar a && notStar b && !([a, b].all (foldedForSure 8)) && !([a, b].all (constantsAlone 8)) && !(Γ.m && (decide (i = 0) || decide (j = 0)))
  | _, _ => false
/-- what a for walks; tg is its target -/
def mI (Γ : Gam) (tg : Expr) (it : It) (a : Expr) : Bool := match itShape Γ tg it.k a with
  | some as => mEs Γ it.es as && itSt it.k it.es
  | none => false
def suB (Γ : Gam) (su : Su) (nmi : Option Nat) (e : Stmt) : Bool := match su, e with
  | .exn i, .Assign [.Name x p] (.Name y q) _ => (match nmi with
    | some n => stB Γ i (.Name x p) && decide (Γ.N[n]? = some y) && dbgB y && visB Γ.sc y && decide (i ≠ n)
    | none => false)
  | .c i d, .Assign [.Name x p] (.Constant c _ _) _ => stB Γ i (.Name x p) && cstB d c && decide (nmi ≠ some i)
  | .nil i, .Assign [.Name x p] (.List [] _) _ => stB Γ i (.Name x p) && decide (nmi ≠ some i)
  | _, _ => false
/-- the name of an except clause -/
def nmiB (Γ : Gam) (nmi : Option Nat) (n : Option Str) : Bool := match nmi, n with
  | some i, some n => decide (Γ.N[i]? = some n) && decide (Γ.sc.names.lookup n = some .local) && !(Γ.m && decide (i = 0))
  | none, none => true
  | _, _ => false
def pkB (Γ : Gam) (k : PK) (e : Expr) : Bool := match k, e with
  | .nm j, e => nmB Γ j e
  | .c d, .Constant c _ _ => cstB d c
  | _, _ => false
/-- a text that writes a place -/
def plB (Γ : Gam) : Pl → Expr → Bool
  | .nm i, e => nmB Γ i e
  | .fld p f _, .Attribute a f' _ => decide (f' = f) && plB Γ p a
  | .ix p k, .Subscript a b _ => plB Γ p a && pkB Γ k b
  | _, _ => false
def uoN : UO → Str
  | .app => "append"
  | .ext => "extend"
  | .clr => "clear"
  | .rem => "remove"
  | .pop => "pop"
  | .upd => "update"
  | .clrD => "clear"
  | .popD => "pop"
def uoA : UO → Nat
  | .clr => 0
  | .clrD => 0
  | _ => 1
mutual
def mS (Γ : Gam) : S → Stmt → Bool
  | .asg i e, a => (match a with | .Assign [t] v _ => stB Γ i t && mE Γ e v && !isPl e && (notComp v || isLC v) | _ => false)
  | .par i j e f, a => (match a with | .Assign [t] v _ => parB Γ i j t v && (match v with | .Tuple as _ _ => mEs Γ [e, f] as && !isPl e && !isPl f | _ => false) | _ => false)
  | .app i e, a => (match a with | .Expr (.Call (.Attribute v m ap) [x] [] cp) _ => decide (m = "append") && nmB Γ i v && mE Γ e x && !isPl e && notStar x && (ap.endLine == cp.line) | _ => false)
  | .asgT is e, a => (match a with | .Assign [.Tuple ts _ _] v _ => stBs Γ is ts && mE Γ e v && !isPl e && notComp v && notTup v | _ => false)
  | .aug i o e, a => (match a with
    | .AugAssign t o' v _ => stB Γ i t && mE Γ e v && !isPl e && (match o, o' with | .add, .Add => true | .mul, .Mult => true | _, _ => false)
    | _ => false)
  | .ex e, a => (match a with | .Expr v _ => mE Γ e v && notComp v | _ => false)
  | .ret e, a => (match a with | .Return (some v) _ => mE Γ e v && !isPl e | _ => false)
  | .ift c x y, a => (match a with | .If t b1 b2 _ => mE Γ c t && tstB t && mSs Γ x b1 && mSs Γ y b2 | _ => false)
  | .for_ t it b, a => (match a with | .For tg i bd [] _ => tgB Γ t tg && mI Γ tg it i && notSet i && mSs Γ b bd | _ => false)
  | .whl _ c b, a => (match a with | .While t bd [] _ => mE Γ c t && tstB t && mSs Γ b bd | _ => false)
  | .raise0 _ x, a => (match a with | .Raise (some (.Call (.Name y _) [.Constant (.str _) _ _] [] _)) none _ => decide (y = x) && glB Γ.sc y | _ => false)
  | .try1 b _ x _ nmi su, a => (match a with
    | .Try bd [.ExceptHandler (some (.Name y _)) n [s1] _] [] [] _ => decide (y = x) && glB Γ.sc y && nmiB Γ nmi n && suB Γ su nmi s1 && mSs Γ b bd
    | _ => false)
  | .up o p es, a => (match a with
    | .Expr (.Call (.Attribute pe m ap) as [] cp) _ => decide (m = uoN o) && plB Γ p pe && (ap.endLine == cp.line) && mEs Γ es as && !effs es && (es.all fun e => !isPl e) && decide (as.length = uoA o)
    | _ => false)
  | .setF p f _ e, a => (match a with
    | .Assign [.Attribute pe f' _] v _ => decide (f' = f) && plB Γ p pe && mE Γ e v && !isPl e
    | _ => false)
  | .setI p k e, a => (match a with
    | .Assign [.Subscript pe ke _] v _ => plB Γ p pe && mE Γ e v && !isPl e && mE Γ k ke && !eff k && notSlice ke
    | _ => false)
  | .forApp x i d, a => (match a with
    | .For (.Name tx tp) (.Name ix ip) [.Expr (.Call (.Attribute (.Name ty tq) m ap) [.Constant c _ _] [] cp) _] [] _ => stB Γ x (.Name tx tp) && nmB Γ i (.Name ix ip) && nmB Γ x (.Name ty tq) && decide (m = "append") && cstB d c && (ap.endLine == cp.line) && decide (x ≠ i) && !(Γ.m && decide (i = 0))
    | _ => false)
  | .pass, a => (match a with | .Pass _ => true | _ => false)
  | .cont, a => (match a with | .Continue _ => true | _ => false)
def mSs (Γ : Gam) : List S → List Stmt → Bool
  | [], [] => true
  | x :: xs, a :: as => mS Γ x a && mSs Γ xs as
  | _, _ => false
end
/-! ### what the top has made -/
def ArgsOk (C : Gl0) (G B H : Hp) (m : Bool) (ds : List D) (vs : List V) (fs : List Addr) : Prop :=
  if m = true then ∃ d0 dr v0 vr, ds = d0 :: dr ∧ vs = v0 :: vr ∧ Own C G B H d0 v0 fs ∧ fs.Nodup ∧ Owns C G B H dr vr [] else Owns C G B H ds vs [] ∧ fs = []
/-- the first argument's data, behind the call -/
def Self (C : Gl0) (G B H : Hp) (m : Bool) (d0 : D) (vs : List V) (fs fr : List Addr) : Prop :=
  if m = true then (∃ v0 vr, vs = v0 :: vr ∧ Own C G B H d0 v0 fs) ∧ fs.Nodup ∧ ∀ a ∈ fs, a ∉ fr else fs = []
def outF (C : Gl0) (m : Bool) (G B H : Hp) (vs : List V) (fs : List Addr) (r : FR) (Q : VK) (E : XK) : Prop :=
  match r with
  | .ok r d0 => noBor r = true ∧ isDead r = false ∧ ∀ v G' B' H' fr fs', Ext G B H (fun a => a ∈ fs) G' B' H' (fun a => a ∈ fs' ∨ a ∈ fr) → Sb G' B' → Sb B' H' → Own C G' B' H' r v fr → fr.Nodup → Self C G' B' H' m d0 vs fs' fr → Q v H'
  | .exc c xf xs d0 => ∀ cls dd G' B' H' fs', Ext G B H (fun a => a ∈ fs) G' B' H' (fun a => a ∈ fs') → Sb G' B' → Sb B' H' → ExR C G' c xf xs cls dd → Self C G' B' H' m d0 vs fs' [] → E cls dd H'
  | .bad => False
/-- a def's promise, by what it gives -/
def spec (C : Gl0) (f : FE) : Sp := fun vs H Q E => vs.length = f.np ∧ ∃ ds G B fs, Sb G B ∧ Sb B H ∧ ArgsOk C G B H f.m ds vs fs ∧ outF C f.m G B H vs fs (f.g ds) Q E
structure FOk (C : Gl0) (X : Cx) (f : FE) (a : Addr) (fd : FuncData) (ps : List Str) (dV : List V) (dv : List Value) : Prop where
  ln : ps.length = f.np
  dl : dV.length = f.dfl.length
  dr : Vals dV dv
  do_ : ∀ G B H, Owns C G B H f.dfl dV []
  bd : ∀ j, Binds X.K fd ps (dv.drop j)
  ok : FnOk X.prog X.w X.K X.mg X.base (L2.CX X.prog X.w) f.lv a fd ps (spec C f)
/-- what a text leans on -/
inductive Nd where
  | fe (f : FE)
  | gl (x : Str) (d : D)
  | isi (t : Ty) (x : Str) (tab tabI : List (Nat × Bool))
  | me (c : Nat) (x : Str) (f : FE)
  | mk (c : Nat) (x : Str) (f : FE)
  | fv (k : Nat) (f : FE)
  | fl (f : Str) (cs : List Nat)
  | exc (c : Nat) (x : Str)
  | tr (c : Nat) (x : Str) (tab : List (Nat × Bool))
def tyVal (C : Gl0) : Ty → Value
  | .b n => .type n
  | .c k => .ref (C.ca k)
/-- an own exception class without own __init__ -/
structure ExC (C : Gl0) (X : Cx) (c : Nat) (x : Str) : Prop where
  g : X.mg x = some (.ref (C.ca c))
  x : PySem.W.excIn X.K (C.ca c) [.type "ValueError", .type "Exception", .type "BaseException", .type "object"] "ValueError.__new__" = true
  k : PySem.W.keepIn X.K (.ref (C.ca c)) = true
  b : PySem.W.subIn X.K (.ref (C.ca c)) (.type "BaseException") = some true
  t : PySem.W.typeIn X.K (.ref (C.ca c)) = some (.type "type")
/-- an own class whose instances isinstance may be asked of -/
structure InC (K : PySem.W.Frag) (D : Addr) : Prop where
  cl : Cls K D
  ha : PySem.W.findIn K (.ref D) "__class__" = some (some (.builtin "object.__class__"))
  hn : PySem.W.specialIn K (.builtin "object.__class__") "__get__" = some (some (.builtin "getset_descriptor.__get__"))
  ht : PySem.W.takesIn K (.builtin "object.__class__") = some true
  hm : PySem.W.mroIn K D (.type "object") = some true
def NdOk (C : Gl0) (X : Cx) : Nd → Prop
  | .fe f => ∃ a fd ps dV dv, X.mg f.name = some (.ref a) ∧ PySem.W.keepIn X.K (.ref a) = true ∧ FOk C X f a fd ps dV dv
  | .gl x d => noOwn d = true ∧ isDead d = false ∧ ∃ v u, X.mg x = some u ∧ RelV v u ∧ ∀ G B H, Own C G B H d v []
  | .isi t x tab tabI => (∀ k, t = .c k → X.mg x = some (.ref (C.ca k)) ∧ ∀ n ∈ ["NoneType", "int", "bool", "str", "tuple", "list", "dict"], PySem.W.kitOne X.K (.type n) (.ref (C.ca k)) = some false) ∧
      (∀ p ∈ tab, PySem.W.kitOne X.K (.ref (C.ca p.1)) (tyVal C t) = some p.2 ∧ ExcC X.K (C.ca p.1)) ∧
      ∀ p ∈ tabI, PySem.W.kitOne X.K (.ref (C.ca p.1)) (tyVal C t) = some p.2 ∧ InC X.K (C.ca p.1)
  | .me c x f => ∃ a fd ps dV dv, Cls X.K (C.ca c) ∧ Meth X.K (C.ca c) x a ∧ FOk C X f a fd ps dV dv
  | .mk c x f => ∃ a fd ps dV dv, X.mg x = some (.ref (C.ca c)) ∧ Mk X.K (C.ca c) a ∧ FOk C X f a fd ps dV dv
  | .fv k f => ∃ fd ps dV dv, PySem.W.keepIn X.K (.ref (C.fa k)) = true ∧ FOk C X f (C.fa k) fd ps dV dv
  | .fl f cs => ∀ c ∈ cs, Cls X.K (C.ca c) ∧ NoAttr X.K (C.ca c) f
  | .exc c x => ExC C X c x
  | .tr c x tab => X.mg x = some (.ref (C.ca c)) ∧ ∀ p ∈ tab, PySem.W.exmOne X.K (.ref (C.ca p.1)) (.ref (C.ca c)) = some p.2
def AllNd (C : Gl0) (X : Cx) : List Nd → Prop
  | [] => True
  | n :: ns => NdOk C X n ∧ AllNd C X ns
theorem AllNd.app {C : Gl0} {X : Cx} : ∀ {a b : List Nd}, AllNd C X (a ++ b) → AllNd C X a ∧ AllNd C X b
  | [], _, h => ⟨trivial, h⟩
  | _ :: a, _, h => ⟨⟨h.1, (AllNd.app h.2).1⟩, (AllNd.app h.2).2⟩
mutual
def nE : E → List Nd
  | .cp a => nE a
  | .tf a => nE a
  | .pu a => nE a
  | .gl x d => [.gl x d]
  | .op (.isi t x tab tabI) es => .isi t x tab tabI :: nEs es
  | .op (.fld f cs) es => .fl f cs :: nEs es
  | .op _ es => nEs es
  | .mth _ a es => nE a ++ nEs es
  | .band es => nEs es
  | .bor es => nEs es
  | .ite c a b => nE c ++ (nE a ++ nE b)
  | .chain _ _ a b c => nE a ++ (nE b ++ nE c)
  | .call f es => .fe f :: nEs es
  | .comp _ _ _ es co elt => nEs es ++ (nEs co ++ nE elt)
  | .meth x tab o es => (tab.map fun p => Nd.me p.1 x p.2) ++ (nE o ++ nEs es)
  | .make c x f es => .mk c x f :: nEs es
  | .callM f _ es => .fe f :: nEs es
  | .methM x tab _ es => (tab.map fun p => Nd.me p.1 x p.2) ++ nEs es
  | .callV _ tab es => (tab.map fun p => Nd.fv p.1 p.2) ++ nEs es
  | _ => []
def nEs : List E → List Nd
  | [] => []
  | e :: es => nE e ++ nEs es
end
def nI (it : It) : List Nd := nEs it.es
def nP : Pl → List Nd
  | .nm _ => []
  | .fld p f cs => .fl f cs :: nP p
  | .ix p _ => nP p
mutual
def nS : S → List Nd
  | .asg _ e => nE e
  | .par _ _ e f => nEs [e, f]
  | .asgT _ e => nE e
  | .app _ e => nE e
  | .aug _ _ e => nE e
  | .ex e => nE e
  | .ret e => nE e
  | .ift c x y => nE c ++ (nSs x ++ nSs y)
  | .for_ _ it b => nI it ++ nSs b
  | .whl _ c b => nE c ++ nSs b
  | .raise0 c x => [.exc c x]
  | .try1 b c x tab _ _ => .tr c x tab :: nSs b
  | .up _ p es => nP p ++ nEs es
  | .setF p f cs e => .fl f cs :: (nP p ++ nE e)
  | .setI p k e => nP p ++ (nE k ++ nE e)
  | _ => []
def nSs : List S → List Nd
  | [] => []
  | x :: xs => nS x ++ nSs xs
end
/-! ### operands' terms -/
section
variable {X : Cx} {C : Gl0} {W : WX}
def PEL (X : Cx) (C : Gl0) (W : WX) : List E → List Expr → Prop
  | [], as => as = []
  | e :: es, as => ∃ a ar, as = a :: ar ∧ notStar a = true ∧ (isPl e = true → effs es = false) ∧ PE X a (tE C W e) ∧ PEL X C W es ar
theorem star_ok {a : Expr} {as : List Expr} {env : Env} (h : notStar a = true) : starEach (a :: as) env = (false, eval a env) :: starEach as env := by
  cases a <;> first | rfl | (simp [notStar] at h)
theorem stars_ok {as : List Expr} : ∀ {es : List E}, PEL X C W es as → ∀ (pos : Pos) (env : Env), (backTo pos (starEach as env)).any (·.1) = false := by
  induction as with
  | nil => intro es h pos env; rfl
  | cons a as ih =>
    intro es h pos env
    cases es with
    | nil => cases h
    | cons e es =>
      obtain ⟨_, _, q, n, _, _, h⟩ := h
      obtain ⟨rfl, rfl⟩ := List.cons.inj q
      rw [star_ok n]
      show (false || (backTo pos (starEach _ env)).any (·.1)) = false
      rw [ih h pos env]; rfl
theorem pa_of : ∀ {es : List E} {as : List Expr}, PEL X C W es as → PA X as (tL C W es)
  | [], _, h => by
    obtain rfl : _ = [] := h
    exact ⟨fun pos pins s σ H Q I z => pa_nil.run pos pins s σ H Q I z.nil⟩
  | e :: es, _, h => by
    obtain ⟨a, ar, rfl, n, p, h1, h2⟩ := h
    have q := pa_cons h1 (pa_of h2) (star_ok n)
    exact ⟨fun pos pins s σ H Q I z => q.run pos pins s σ H Q I (tL.cons p z)⟩
theorem t_one {e : E} {σ : L2.St} {H : Hp} {Q : V → Hp → Prop} (h : tL C W [e] σ H fun vs H1 => ∃ x, vs = [x] ∧ Q x H1) : tE C W e σ H Q := by
  refine (tL.cons (fun _ => rfl) h).mono fun x H1 z => ?_
  obtain ⟨y, e, q⟩ := z.nil
  obtain ⟨rfl, _⟩ := List.cons.inj e
  exact q
theorem t_two {e f : E} {σ : L2.St} {H : Hp} {Q : V → V → Hp → Prop} (p : isPl e = true → effs [f] = false) (h : tL C W [e, f] σ H fun vs H1 => ∃ x y, vs = [x, y] ∧ Q x y H1) : tE C W e σ H fun x H1 => tE C W f σ H1 fun y H2 => Q x y H2 := by
  refine (tL.cons p h).mono fun x H1 z => ?_
  refine (tL.cons (fun _ => rfl) z).mono fun y H2 z => ?_
  obtain ⟨x', y', e, q⟩ := z.nil
  simp only [List.cons.injEq, and_true] at e
  obtain ⟨e1, e2⟩ := e
  rw [e1, e2]
  exact q
theorem one_of {es : List E} {a : Expr} (h : PEL X C W es [a]) : ∃ e, es = [e] ∧ PE X a (tE C W e) := by
  cases es with
  | nil => cases h
  | cons e es =>
    obtain ⟨_, _, q, n, _, p, h⟩ := h
    obtain ⟨rfl, rfl⟩ := List.cons.inj q
    cases es with
    | nil => exact ⟨e, rfl, p⟩
    | cons _ _ => obtain ⟨_, _, q, _⟩ := h; cases q
theorem two_of {es : List E} {a b : Expr} (h : PEL X C W es [a, b]) : ∃ e f, es = [e, f] ∧ PE X a (tE C W e) ∧ PE X b (tE C W f) ∧ (isPl e = true → effs [f] = false) := by
  cases es with
  | nil => cases h
  | cons e es =>
    obtain ⟨_, _, q, n, k, p, h⟩ := h
    obtain ⟨rfl, rfl⟩ := List.cons.inj q
    obtain ⟨f, rfl, p2⟩ := one_of h
    exact ⟨e, f, rfl, p, p2, k⟩
end
end TT
namespace TT
open PySem PySem.Spec PyProof.Rows L2
section
variable {X : Cx} {C : Gl0} {W : WX} {Γ : Gam}
theorem CxOk.gl (k : CxOk C Γ X) {x : Str} (h : glB Γ.sc x = true) : Gl X x ∧ (x == ("__debug__" : Str)) = false := by
  unfold glB dbgB at h
  simp only [Bool.and_eq_true, Bool.not_eq_true'] at h
  refine ⟨?_, h.2.1⟩
  unfold Gl Env.kindOf
  rw [k.sc]
  have h1 := h.1
  split at h1
  · assumption
  · cases h1
theorem CxOk.bt (k : CxOk C Γ X) {n x : Str} (h : btB Γ n x = true) : x = n ∧ Gl X x ∧ (x == ("__debug__" : Str)) = false ∧ X.mg x = none := by
  unfold btB at h
  simp only [Bool.and_eq_true, decide_eq_true_eq] at h
  obtain ⟨⟨rfl, h2⟩, h3⟩ := h
  exact ⟨rfl, (k.gl h2).1, (k.gl h2).2, k.bn _ h3⟩
theorem btCall_some {n : Str} {e : Expr} {as : List Expr} (h : btCall Γ n e = some as) : ∃ x p pos, e = .Call (.Name x p) as [] pos ∧ btB Γ n x = true := by
  unfold btCall at h
  split at h
  · split at h <;> cases h
    rename_i hs
    exact ⟨_, _, _, rfl, hs⟩
  · cases h
theorem binB_some {o : Operator} {e : Expr} {as : List Expr} (h : binB o e = some as) : ∃ a b pos, e = .BinOp a o b pos ∧ as = [a, b] := by
  unfold binB at h
  split at h
  · split at h <;> cases h
    rename_i hs
    have hs := eq_of_beq hs
    subst hs
    exact ⟨_, _, _, rfl, rfl⟩
  · cases h
theorem cmpB_some {o : CmpOp} {e : Expr} {as : List Expr} (h : cmpB o e = some as) : ∃ a b pos, e = .Compare a [o] [b] pos ∧ as = [a, b] ∧ notSet b = true := by
  unfold cmpB at h
  split at h
  · split at h <;> cases h
    rename_i hs
    rw [Bool.and_eq_true] at hs
    have h1 := eq_of_beq hs.1
    subst h1
    exact ⟨_, _, _, rfl, rfl, hs.2⟩
  · cases h
theorem nonB_some {o : CmpOp} {e : Expr} {as : List Expr} (h : nonB o e = some as) : ∃ a j p pos, e = .Compare a [o] [.Constant .none j p] pos ∧ as = [a] := by
  unfold nonB at h
  split at h
  · split at h <;> cases h
    rename_i hs
    have h1 := eq_of_beq hs
    subst h1
    exact ⟨_, _, _, _, rfl, rfl⟩
  · cases h
theorem noset {b : Expr} {op : CmpOp} (h : notSet b = true) : behindInMarks op b = false := by
  cases b <;> first | rfl | (simp [notSet] at h)
theorem bin_ok {es : List E} {as : List Expr} {o : Op} {ao : Operator} {e : Expr} {r : R2} (hs : binB ao e = some as) (hp : PEL X C W es as) (ho : OpR X (binaryOp ao) r)
    (hl : isLook o = false) (hv : ∀ {G B H F U ds vs d Q} {e f : E}, Opd C G B H F [e, f] ds vs U → opD o ds = some d → Res C G B H F false U d Q → Two vs r H Q) : PE X e (tE C W (.op o es)) := by
  obtain ⟨a, b, pos, rfl, rfl⟩ := binB_some hs
  obtain ⟨e, f, rfl, p1, p2, k⟩ := two_of hp
  refine pe_imp (pe_op ho p1 p2) fun σ H Q h => ?_
  refine t_two k (op_step h fun ds vs G1 B1 H1 F1 U d P e1 q => ?_)
  rw [show isPl (.op o [e, f]) = false from by simp [isPl, hl]] at q
  exact hv P e1 q
theorem cmp_ok {es : List E} {as : List Expr} {o : Op} {ao : CmpOp} {e : Expr} {r : R2} (hs : cmpB ao e = some as) (hp : PEL X C W es as) (ho : OpR X (compareOp ao) r)
    (hl : isLook o = false) (hv : ∀ {G B H F U ds vs d Q} {e f : E}, Opd C G B H F [e, f] ds vs U → opD o ds = some d → Res C G B H F false U d Q → Two vs r H Q) : PE X e (tE C W (.op o es)) := by
  obtain ⟨a, b, pos, rfl, rfl, ns⟩ := cmpB_some hs
  obtain ⟨e, f, rfl, p1, p2, k⟩ := two_of hp
  refine pe_imp (pe_cmpR ho p1 p2 (noset ns)) fun σ H Q h => ?_
  refine t_two k (op_step h fun ds vs G1 B1 H1 F1 U d P e1 q => ?_)
  rw [show isPl (.op o [e, f]) = false from by simp [isPl, hl]] at q
  exact hv P e1 q
theorem non_ok {es : List E} {as : List Expr} {o : Op} {ao : CmpOp} {e : Expr} {r : R2} (hs : nonB ao e = some as) (hp : PEL X C W es as) (ho : OpR X (compareOp ao) r) (hm : ao ≠ .In ∧ ao ≠ .NotIn)
    (hl : isLook o = false) (hv : ∀ {G B H F U ds vs d Q} {e : E}, Opd C G B H F [e] ds vs U → opD o ds = some d → Res C G B H F false U d Q → One vs (fun x H Q => r x .non H Q) H Q) : PE X e (tE C W (.op o es)) := by
  obtain ⟨a, j, p, pos, rfl, rfl⟩ := nonB_some hs
  obtain ⟨e, rfl, p1⟩ := one_of hp
  refine pe_imp (pe_cmpR ho p1 pe_non (nomark _ hm.1 hm.2)) fun σ H Q h => ?_
  refine t_one (op_step h fun ds vs G1 B1 H1 F1 U d P e1 q => ?_)
  rw [show isPl (.op o [e]) = false from by simp [isPl, hl]] at q
  exact hv P e1 q
/-- a call of a built-in function, of a built-in class -/
theorem fn_ok {n : Str} {es : List E} {a0 : Expr} {as : List Expr} {o : Op} {e : Expr} {bid : String} {r : List V → Hp → VK → Prop} (k : CxOk C Γ X) (hs : btCall Γ n e = some (a0 :: as)) (hp : PEL X C W es (a0 :: as)) (ho : CallR X (.builtin bid) r)
    (hv : bootBuiltins n = some (.builtin bid)) (hn : n ≠ "__name__") (hl : isLook o = false) (hr : ∀ {G B H F U ds vs d Q}, Opd C G B H F es ds vs U → opD o ds = some d → Res C G B H F false U d Q → r vs H Q) : PE X e (tE C W (.op o es)) := by
  obtain ⟨x, p, pos, rfl, hb⟩ := btCall_some hs
  obtain ⟨rfl, hg, hd, hm⟩ := k.bt hb
  obtain ⟨e, es', ns⟩ : ∃ e es', es = e :: es' := by
    cases es with
    | nil => cases hp
    | cons e es => exact ⟨e, es, rfl⟩
  subst ns
  obtain ⟨_, _, q, n1, _, _, h2⟩ := id hp
  obtain ⟨rfl, rfl⟩ := List.cons.inj q
  refine pe_imp (pe_callB ho hg hm hv (pa_of hp) hn hd (star_ok n1) (stars_ok h2 _ _)) fun σ H Q h => ?_
  refine (op_step h fun ds vs G1 B1 H1 F1 U d P e1 q => ?_)
  rw [show isPl (.op o (e :: es')) = false from by simp [isPl, hl]] at q
  exact hr P e1 q
theorem ty_ok {n : Str} {es : List E} {a0 : Expr} {as : List Expr} {o : Op} {e : Expr} {bid : String} {r : List V → Hp → VK → Prop} (k : CxOk C Γ X) (hs : btCall Γ n e = some (a0 :: as)) (hp : PEL X C W es (a0 :: as)) (ho : CallR X (.type bid) r)
    (hv : bootBuiltins n = some (.type bid)) (hn : n ≠ "__name__") (hl : isLook o = false) (hr : ∀ {G B H F U ds vs d Q}, Opd C G B H F es ds vs U → opD o ds = some d → Res C G B H F false U d Q → r vs H Q) : PE X e (tE C W (.op o es)) := by
  obtain ⟨x, p, pos, rfl, hb⟩ := btCall_some hs
  obtain ⟨rfl, hg, hd, hm⟩ := k.bt hb
  obtain ⟨e, es', ns⟩ : ∃ e es', es = e :: es' := by
    cases es with
    | nil => cases hp
    | cons e es => exact ⟨e, es, rfl⟩
  subst ns
  obtain ⟨_, _, q, n1, _, _, h2⟩ := id hp
  obtain ⟨rfl, rfl⟩ := List.cons.inj q
  refine pe_imp (pe_callTy ho hg hm hv (pa_of hp) hn hd (star_ok n1) (stars_ok h2 _ _)) fun σ H Q h => ?_
  refine (op_step h fun ds vs G1 B1 H1 F1 U d P e1 q => ?_)
  rw [show isPl (.op o (e :: es')) = false from by simp [isPl, hl]] at q
  exact hr P e1 q
/-! ### a[b], len, displays, isinstance -/
theorem base_ok {o : Expr} (h : baseOk o = true) (m : Str) (env : Env) (w : Sem Value) : attributeBase o m env w = w := by
  unfold attributeBase
  cases o <;> try rfl
  rename_i f as ks pos
  cases f <;> try rfl
  cases as <;> try rfl
  cases ks <;> try rfl
  exact (Bool.false_ne_true h).elim
theorem lookup_zip {fs : List Str} {f : Str} : ∀ {ws : List V}, (fs.zip ws).lookup f = valV (fs.zip ws) f := by
  induction fs with
  | nil => intro ws; rfl
  | cons g fs ih =>
    intro ws
    cases ws with
    | nil => rfl
    | cons w ws =>
      rw [List.zip_cons_cons, List.lookup_cons]
      by_cases e : g = f
      · subst e
        rw [valV_pos (p := (g, w)) rfl]
        simp
      · rw [valV_neg (p := (g, w)) e, ← ih]
        have : (f == g) = false := by simpa using fun z => e z.symm
        rw [this]
theorem fld_ok {f : Str} {cs : List Nat} {es : List E} {as : List Expr} {e : Expr} (k : CxOk C Γ X) (hn : NdOk C X (.fl f cs)) (hs : shape Γ (.fld f cs) e = some as) (hp : PEL X C W es as) : PE X e (tE C W (.op (.fld f cs) es)) ∧ tstPlain e = true := by
  unfold shape at hs
  simp only at hs
  split at hs
  · rename_i a f' pos
    split at hs <;> cases hs
    rename_i hh
    simp only [Bool.and_eq_true, decide_eq_true_eq] at hh
    obtain ⟨rfl, hb⟩ := hh
    refine ⟨?_, rfl⟩
    obtain ⟨e, rfl, p1⟩ := one_of hp
    refine pe_imp (pe_fld p1 (base_ok hb _ _ _)) fun σ H Q h => ?_
    refine t_one (op_step h fun ds vs G1 B1 H1 F1 U d P e1 q => ?_)
    rw [show isPl (.op (.fld f' cs) [e]) = isPl e from by simp [isPl, isPl0, isLook]] at q
    obtain ⟨d1, v1, fd, rfl, rfl, o1, n1, s1⟩ := P.one
    replace e1 : fldD f' cs d1 = some d := e1
    unfold fldD at e1
    split at e1
    · rename_i fl c fs xs
      split at e1
      · rename_i hc
        have hc : c ∈ cs := by simpa using hc
        obtain ⟨a, dx, ws, F', rfl, ea, oa, ef, _, hl, nd⟩ := o1.insAt P.gb P.bh
        cases e2 : dget fs xs f' with
        | none => rw [e2] at e1; cases e1
        | some d0 =>
          rw [e2] at e1
          obtain rfl : d0 = d := live_some e1
          obtain ⟨w, fdk, h3, o3, n3, s3⟩ := find_zip f' oa hl e2
          exact ⟨_, rfl, a, _, dx, _, w, rfl, ea, (hn c hc).1, (hn c hc).2, by rw [lookup_zip]; exact h3, q.part P o3 (n3 (nodup_kids ef n1)) (src_part s1 fun b hb => mem_kids ef b (s3 b hb))⟩
      · cases e1
    · cases e1
  · cases hs
theorem ix_dict (hu : X.A.units + 1 < cLine) : IxR X (fun x y H Q => ∃ a v, x = .ref a ∧ DGet H a y (some v) ∧ Q v H) := by
  intro value slice pins s σ H x y v u Q I rx ry h hs
  obtain ⟨a, w, rfl, g, q⟩ := h
  obtain rfl : v = Value.ref a := rx
  have hT := dict_typeIs I g
  unfold subscriptTail
  refine wpAny_bind ?_
  rw [getitemInPython_of_ne hT.not_modules]
  refine wpAny_bind (wpAny_specialOf hT PySem.F.slot_dict_getitem.lookup ?_)
  have fin : wpAny (model X.prog X.w) X.A (subscripted slice false (.ref a) u) (fun r s₃ => wpAny (model X.prog X.w) X.A (letTemporaryGo value (.ref a) r >>= fun _ => pure r) (EP X pins σ Q) X.xe s₃) X.xe s := by
    rw [hs]
    exact wpAny_operating (wpAny_mono (d_getItem hu I g ry (Q := fun r s3 => EP X pins σ Q r s3) fun w' s3 I3 rw' => ⟨w, H, I3, rw', q⟩) (fun r s₃ h₃ => wpAny_bind (wpAny_letTemporaryGo (wpAny_pure h₃))) fun _ _ x => x)
  first
    | exact wpAny_pure (wpAny_bind fin)
    | exact wpAny_bind (wpAny_pure (wpAny_bind fin))
    | exact wpAny_bind fin
theorem plainIx {b : Expr} (h : notSlice b = true) : PlainIx b := by
  intro o i
  cases b <;> first | rfl | (simp [notSlice] at h)
theorem ix_ok {es : List E} {as : List Expr} {e : Expr} (k : CxOk C Γ X) (hs : shape Γ .ix e = some as) (hp : PEL X C W es as) : PE X e (tE C W (.op .ix es)) := by
  unfold shape at hs
  simp only at hs
  split at hs
  · split at hs <;> cases hs
    rename_i ns
    obtain ⟨e, f, rfl, p1, p2, k2⟩ := two_of hp
    have hu : X.A.units + 1 < cLine := hu_of k.room
    refine pe_imp (pe_ix (ix_seq.or (ix_dict hu)) p1 p2 (plainIx ns)) fun σ H Q h => ?_
    refine t_two k2 (op_step h fun ds vs G1 B1 H1 F1 U d P e1 q => ?_)
    rw [show isPl (.op .ix [e, f]) = isPl e from by simp [isPl, isPl0, isLook]] at q
    rcases v_ix P e1 q with ⟨x, y, rfl, z⟩ | ⟨x, y, a, v, rfl, z⟩
    · rw [k.K]; exact ⟨x, y, rfl, .inl z⟩
    · exact ⟨x, y, rfl, .inr ⟨a, v, z⟩⟩
  · cases hs
theorem call_lenR : CallR X (.builtin "len") (fun xs H Q => ∃ a kvs, xs = [.ref a] ∧ Rd H a (.dK kvs) ∧ Q (.int kvs.length) H) := by
  intro pins s σ H xs us Q I r h
  obtain ⟨a, kvs, rfl, e, q⟩ := h
  obtain ⟨u, rfl, rx⟩ := vals1 r
  cases (show u = Value.ref a from rx)
  exact d_len I e fun t s' I' => ⟨.int kvs.length, H, I', ⟨_, rfl⟩, q⟩
theorem rIsi_own {x : D} {v : V} {fd : List Addr} {n : String} {G B H : Hp} (gb : Sb G B) (bh : Sb B H) (h : tyName x = some n) (o : Own C G B H x v fd) : TyX C.K H v (.type n) := by
  cases x <;> simp [tyName] at h <;> subst h
  · obtain ⟨rfl, _⟩ := o; exact .base .non
  · obtain ⟨rfl, _⟩ := o; exact .base (.bl _)
  · obtain ⟨rfl, _⟩ := o; exact .base (.int _)
  · obtain ⟨rfl, _⟩ := o; exact .base (.str _)
  · obtain ⟨a, rfl, ea, _⟩ := kup_at gb bh o
    exact .base (.tup ea)
  · obtain ⟨a, ws, F', rfl, ea, _⟩ := o.tupAt gb bh
    rcases ea with (ea | ⟨ob, ea⟩) | ⟨ob, its, n, e1, e2, _⟩
    · exact .base (.tup ea)
    · exact .fTuple ea
    · exact .kTuple e1 e2
  · obtain ⟨a, ws, F', rfl, ea, _⟩ := o.lstAt gb bh
    exact .base (.lst ea)
  · obtain ⟨a, ws, F', rfl, h1, _⟩ := o
    rcases h1.viewD gb bh with ea | ⟨ob, ea⟩
    · exact .base (.dK ea)
    · exact .fDict ea
theorem call_isExn : CallR X (.builtin "isinstance") (fun xs H Q => ∃ (D a : Addr) (c : V) (cv : Value) (b : Bool), xs = [.ref a, c] ∧ H a = some (exH (.ref D) none a) ∧ ExcC X.K D ∧ ClsV c cv ∧ PySem.W.kitOne X.K (.ref D) cv = some b ∧ Q (.bl b) H) := by
  intro pins s σ H xs us Q I r h
  obtain ⟨D, a, c, cv, b, rfl, ha, C, k, e, q⟩ := h
  obtain ⟨u1, u2, rfl, r1, r2⟩ := vals2 r
  have e2 := k.eq r2
  subst e2
  cases (show u1 = Value.ref a from r1)
  obtain ⟨⟨oe, vs, hget, hz, hv⟩, _⟩ := (show ObjOk X.prog X.w H s.heap a (exH (.ref D) none a) from I.hok a _ ha)
  have J : PySem.W.InstAt s.heap a oe D none := by
    obtain ⟨oc, od, oda, osl⟩ := oe
    obtain ⟨h1, h2⟩ := hz
    dsimp only at h1 h2 hv
    subst h1 h2 hv
    exact ⟨hget, rfl, rfl, trivial⟩
  exact PySem.W.kia_one (PySem.W.handS_kitx_exc C.hg C.hk C.hs C.hd C.ha C.hn C.ht C.hm) I.kIn J e (fun z => nomatch z) fun tk => ⟨.bl b, H, I.kept (t' := tk) fun _ _ z => z, rfl, q⟩
theorem lookup_mem {α : Type} [BEq α] [LawfulBEq α] {β : Type} : ∀ {l : List (α × β)} {k : α} {v : β}, l.lookup k = some v → (k, v) ∈ l
  | [], _, _, h => by simp at h
  | (k', v') :: l, k, v, h => by
    rw [List.lookup_cons] at h
    split at h
    · rename_i e
      have e := eq_of_beq e
      cases h
      subst e
      exact List.mem_cons_self
    · exact List.mem_cons_of_mem _ (lookup_mem h)
theorem boot_ty {n : String} (h : n ∈ ["int", "bool", "str", "tuple", "list", "dict", "ValueError"]) : bootBuiltins (Str.ofString n) = some (.type n) ∧ Str.ofString n ≠ "__name__" := by
  simp only [List.mem_cons, List.not_mem_nil, or_false] at h
  rcases h with rfl | rfl | rfl | rfl | rfl | rfl | rfl <;> exact ⟨by decide +kernel, by decide +kernel⟩
theorem tyName_mem {x : D} {n : String} (h : tyName x = some n) : n ∈ ["NoneType", "int", "bool", "str", "tuple", "list", "dict"] := by
  cases x <;> simp [tyName] at h <;> subst h <;> simp
theorem isi_ok {es : List E} {as : List Expr} {e : Expr} {t : Ty} {x : Str} {tab tabI : List (Nat × Bool)} (k : CxOk C Γ X) (hn : NdOk C X (.isi t x tab tabI)) (hs : shape Γ (.isi t x tab tabI) e = some as) (hp : PEL X C W es as) : PE X e (tE C W (.op (.isi t x tab tabI) es)) := by
  unfold shape at hs
  simp only at hs
  split at hs
  · rename_i a b hc
    split at hs <;> cases hs
    rename_i ht
    obtain ⟨f, p, pos, rfl, hb⟩ := btCall_some hc
    obtain ⟨rfl, hg, hd, hm⟩ := k.bt hb
    obtain ⟨h1, h2, h2i⟩ := hn
    -- the type's name
    obtain ⟨cv, cw, nb, hcv, hpe⟩ : ∃ (cv : V) (cw : Value), notStar b = true ∧ (ClsV cv cw ∧ cw = tyVal C t) ∧ PE X b (tC cv) := by
      unfold tyB at ht
      split at ht
      · rename_i y py
        simp only [Bool.and_eq_true, decide_eq_true_eq] at ht
        obtain ⟨⟨rfl, hgy⟩, ht⟩ := ht
        obtain ⟨g1, g2⟩ := k.gl hgy
        cases t with
        | b n =>
          simp only [Bool.and_eq_true, decide_eq_true_eq] at ht
          obtain ⟨⟨hy, hy2⟩, hy3⟩ := ht
          subst hy2
          exact ⟨.ty n, .type n, rfl, ⟨.ty n, rfl⟩, pe_bltn g1 (k.bn _ hy) (boot_ty hy3).1 rfl (boot_ty hy3).2 g2⟩
        | c m => exact ⟨.ref (C.ca m), .ref (C.ca m), rfl, ⟨.own _, rfl⟩, pe_glob g1 (h1 m rfl).1 rfl g2⟩
      · cases ht
    obtain ⟨hcl, rfl⟩ := hcv
    obtain ⟨e, es', ns⟩ : ∃ e es', es = e :: es' := by
      cases es with
      | nil => cases hp
      | cons e es => exact ⟨e, es, rfl⟩
    obtain ⟨_, _, q, n1, _, _, _⟩ := ns ▸ hp
    obtain ⟨rfl, rfl⟩ := List.cons.inj q
    obtain ⟨e, rfl, p1⟩ := one_of hp
    refine pe_imp (pe_callB (call_isi.or call_isExn) hg hm PyProof.Rows.boot_isinstance (pa_cons p1 (pa_cons hpe pa_nil (star_ok nb)) (star_ok n1)) (by decide) hd (star_ok n1) (by rw [star_ok nb]; rfl)) fun σ H Q h => ?_
    refine t_one (op_step h fun ds vs G1 B1 H1 F1 U d P e1 q => ?_)
    rw [show isPl (.op (.isi t x tab tabI) [e]) = false from rfl] at q
    obtain ⟨d1, v1, fd, rfl, rfl, o1, _, _⟩ := P.one
    refine ⟨v1, rfl, ?_⟩
    have e1 : (isiD t tab tabI d1).map D.bl = some d := e1
    rw [Option.map_eq_some_iff] at e1
    obtain ⟨r, e2, rfl⟩ := e1
    unfold isiD at e2
    split at e2
    · rename_i c
      have hm := lookup_mem e2
      obtain ⟨z1, z2⟩ := h2 _ hm
      obtain ⟨a, ws, rfl, rfl, _, _, _, hh⟩ := o1
      rcases hh with ⟨_, hh⟩ | ⟨ne, _⟩
      · refine .inr ⟨C.ca c, a, cv, _, r, rfl, (P.gb.trans P.bh).plain hh (fun z => z), z2, hcl, z1, q.now P ⟨rfl, rfl⟩⟩
      · exact absurd rfl ne
    · rename_i fl c fs xs
      obtain ⟨z1, z2⟩ := h2i _ (lookup_mem e2)
      obtain ⟨a, dx, ws, F', rfl, ea, _⟩ := o1.insAt P.gb P.bh
      exact .inl ⟨_, cv, .ref (C.ca c), tyVal C t, r, rfl, hcl, .base (.ins ea (by rw [k.K] at z2 ⊢; exact z2.cl) z2.ha z2.hn z2.ht z2.hm), z1, q.now P ⟨rfl, rfl⟩⟩
    · cases hty : tyName d1 with
      | none => rw [hty] at e2; simp at e2
      | some n =>
        rw [hty] at e2
        have tyx := rIsi_own P.gb P.bh hty o1
        cases t with
        | b m => exact .inl ⟨v1, cv, .type n, .type m, r, rfl, hcl, by rw [k.K]; exact tyx, kit_ty e2, q.now P ⟨rfl, rfl⟩⟩
        | c m =>
          cases e2
          exact .inl ⟨v1, cv, .type n, .ref (C.ca m), false, rfl, hcl, by rw [k.K]; exact tyx, (h1 m rfl).2 n (tyName_mem hty), q.now P ⟨rfl, rfl⟩⟩
  · cases hs
end
end TT
namespace TT
open PySem PySem.Spec PyProof.Rows L2
/-! ### data that are not borrowed do not hang on B -/
section
variable {C : Gl0} {G B H B' H' : Hp}
mutual
theorem Own.reB : ∀ {d : D} {v : V} {F : List Addr}, noBor d = true → (∀ a ∈ F, B' a = none ∧ H' a = H a) → Own C G B H d v F → Own C G B' H' d v F
  | .dead, _, _, _, _, h => h
  | .non, _, _, _, _, h => h
  | .bl _, _, _, _, _, h => h
  | .int _, _, _, _, _, h => h
  | .str _, _, _, _, _, h => h
  | .fn _, _, _, _, _, h => h
  | .scr _, _, _, _, _, h => h
  | .ktup _, _, _, _, _, h => h
  | .tup fl xs, v, F, n, k, h => by
    obtain ⟨a, vs, F', rfl, h1, h2, rfl, h3⟩ := h
    simp only [noBor, Bool.and_eq_true, bne_iff_ne] at n
    refine ⟨a, vs, F', rfl, ?_, Owns.reB n.2 (fun c hc => k c (mem_fcons.2 (.inr hc))) h2, rfl, h3⟩
    cases fl with
    | shr => exact h1
    | bor => exact absurd rfl n.1
    | own => exact ⟨(k a (mem_fcons.2 (.inl ⟨rfl, rfl⟩))).2.trans h1.1, (k a (mem_fcons.2 (.inl ⟨rfl, rfl⟩))).1⟩
  | .lst fl xs, v, F, n, k, h => by
    obtain ⟨a, vs, F', rfl, h1, h2, rfl, h3⟩ := h
    simp only [noBor, Bool.and_eq_true, bne_iff_ne] at n
    refine ⟨a, vs, F', rfl, ?_, Owns.reB n.2 (fun c hc => k c (mem_fcons.2 (.inr hc))) h2, rfl, h3⟩
    cases fl with
    | shr => exact h1
    | bor => exact absurd rfl n.1
    | own => exact ⟨(k a (mem_fcons.2 (.inl ⟨rfl, rfl⟩))).2.trans h1.1, (k a (mem_fcons.2 (.inl ⟨rfl, rfl⟩))).1⟩
  | .dk fl ks xs, v, F, n, k, h => by
    obtain ⟨a, vs, F', rfl, h1, h2, rfl, h3⟩ := h
    simp only [noBor, Bool.and_eq_true, bne_iff_ne] at n
    refine ⟨a, vs, F', rfl, ?_, Owns.reB n.2 (fun c hc => k c (mem_fcons.2 (.inr hc))) h2, rfl, h3⟩
    cases fl with
    | shr => exact h1
    | bor => exact absurd rfl n.1
    | own => exact ⟨(k a (mem_fcons.2 (.inl ⟨rfl, rfl⟩))).2.trans h1.1, (k a (mem_fcons.2 (.inl ⟨rfl, rfl⟩))).1⟩
  | .dt fl ks xs, v, F, n, k, h => by
    obtain ⟨a, vs, F', rfl, h1, h2, rfl, h3⟩ := h
    simp only [noBor, Bool.and_eq_true, bne_iff_ne] at n
    refine ⟨a, vs, F', rfl, ?_, Owns.reB n.2 (fun c hc => k c (mem_fcons.2 (.inr hc))) h2, rfl, h3⟩
    cases fl with
    | shr => exact h1
    | bor => exact absurd rfl n.1
    | own => exact ⟨(k a (mem_fcons.2 (.inl ⟨rfl, rfl⟩))).2.trans h1.1, (k a (mem_fcons.2 (.inl ⟨rfl, rfl⟩))).1⟩
  | .ins fl c fs xs, v, F, n, k, h => by
    obtain ⟨a, dx, vs, F', rfl, h1, h2, rfl, h3⟩ := h
    simp only [noBor, Bool.and_eq_true, bne_iff_ne] at n
    refine ⟨a, dx, vs, F', rfl, ?_, Owns.reB n.2 (fun c hc => k c (mem_fcons.2 (.inr hc))) h2, rfl, h3⟩
    cases fl with
    | shr => exact h1
    | bor => exact absurd rfl n.1
    | own => exact ⟨(k a (mem_fcons.2 (.inl ⟨rfl, rfl⟩))).2.trans h1.1, (k a (mem_fcons.2 (.inl ⟨rfl, rfl⟩))).1⟩
  | .exn c fs xs, v, F, n, k, h => by
    obtain ⟨a, vs, rfl, rfl, h1, h2, h3⟩ := h
    simp only [noBor] at n
    exact ⟨a, vs, rfl, rfl, h1, Owns.reB n (fun c hc => by cases hc) h2, h3⟩
theorem Owns.reB : ∀ {xs : List D} {vs : List V} {F : List Addr}, noBors xs = true → (∀ a ∈ F, B' a = none ∧ H' a = H a) → Owns C G B H xs vs F → Owns C G B' H' xs vs F
  | [], _, _, _, _, h => h
  | x :: xs, _, _, n, k, h => by
    obtain ⟨v, vr, F1, F2, rfl, rfl, h1, h2⟩ := h
    simp only [noBors, Bool.and_eq_true] at n
    exact ⟨v, vr, F1, F2, rfl, rfl, Own.reB n.1 (fun a ha => k a (List.mem_append_left _ ha)) h1, Owns.reB n.2 (fun a ha => k a (List.mem_append_right _ ha)) h2⟩
end
/-- B over H -/
def ovl (B H : Hp) : Hp := fun a => match B a with
  | some o => some o
  | none => H a
theorem ovl_some {a : Addr} {o : HO} (h : B a = some o) : ovl B H a = some o := by unfold ovl; rw [h]
theorem ovl_none {a : Addr} (h : B a = none) : ovl B H a = H a := by unfold ovl; rw [h]
theorem ovl_sb (bh : Sb B H) : Sb (ovl B H) H := fun a o h => by
  cases e : B a with
  | some u => rw [ovl_some e] at h; cases h; exact bh a _ e
  | none => rw [ovl_none e] at h; exact .inl h
theorem sb_ovl (gb : Sb G B) : Sb G (ovl B H) := fun a o h => by
  rcases gb a o h with q | ⟨l, ob, q⟩
  · exact .inl (ovl_some q)
  · exact .inr ⟨l, ob, ovl_some q⟩
theorem VL.views : ∀ {F : Fp} {es : List E} {ds : List D} {vs : List V} {U : List Addr}, VL C G B H F es ds vs U → ∃ U', Owns C G B H ds vs U'
  | _, [], _, _, _, h => by obtain ⟨rfl, rfl, _⟩ := h; exact ⟨[], rfl, rfl⟩
  | _, _ :: _, _, _, _, h => by
    obtain ⟨d, dr, v, vr, fd, U', rfl, rfl, o, _, h, _⟩ := h
    obtain ⟨U2, h⟩ := h.views
    exact ⟨fd ++ U2, v, vr, fd, U2, rfl, rfl, o, h⟩
theorem VL.length : ∀ {F : Fp} {es : List E} {ds : List D} {vs : List V} {U : List Addr}, VL C G B H F es ds vs U → ds.length = es.length
  | _, [], _, _, _, h => by obtain ⟨rfl, rfl, _⟩ := h; rfl
  | _, _ :: _, _, _, _, h => by
    obtain ⟨d, dr, v, vr, fd, U', rfl, rfl, o, _, h, _⟩ := h
    simp [h.length]
theorem owns_drop : ∀ {xs : List D} {vs : List V} (n : Nat), Owns C G B H xs vs [] → Owns C G B H (xs.drop n) (vs.drop n) [] := fun n h => h.dropN n
/-- a call that changes no argument, from the caller -/
theorem call_step {f : FE} {es : List E} {W : WX} {σ : L2.St} {Q : VK} {dV : List V} (hm : f.m = false) (hl : es.length ≤ f.np) (hl2 : f.np ≤ es.length + f.dfl.length) (hdl : dV.length = f.dfl.length)
    (hdo : ∀ G B H, Owns C G B H f.dfl dV []) (h : tE C W (.call f es) σ H Q) :
    tL C W es σ H fun vs H1 => spec C f (vs ++ dV.drop (f.dfl.length - (f.np - es.length))) H1 Q (WE W σ) := by
  obtain ⟨s, G, B, F, g, h⟩ := h
  refine ⟨s, G, B, F, g, ?_⟩
  have h : outE C W σ (.call f es) G B H F s ((evEs es s).bind fun ds s1 => match f.g (fillD f ds) with
    | .ok r _ => if noBor r && !isDead r then .ok r s1 else .bad
    | .exc c fs xs _ => .exc c fs xs s1
    | .bad => .bad) Q := by unfold evE at h; exact h
  cases e1 : evEs es s with
  | bad => rw [e1] at h; exact h
  | exc c fs xs s' => rw [e1] at h; exact h
  | ok ds s1 =>
    rw [e1] at h
    intro vs G1 B1 H1 F1 U p
    have hlen := p.vl.length
    obtain ⟨U', ov⟩ := p.vl.views
    have ol := Owns.lend (G' := G1) (B' := ovl B1 H1) (H' := H1) (fun _ _ z => z) (fun _ _ z => ovl_some z) (fun a ha => ovl_none (ov.fp a ha).2) ov
    have od := hdo G1 (ovl B1 H1) H1
    have vl := ov.length
    refine ⟨?_, fillD f ds, G1, ovl B1 H1, [], sb_ovl p.good.gb, ovl_sb p.good.bh, ?_, ?_⟩
    · rw [List.length_append, List.length_drop, hdl]; omega
    · unfold ArgsOk
      rw [hm, if_neg (by decide)]
      refine ⟨?_, rfl⟩
      unfold fillD
      rw [hlen]
      exact ol.app (od.dropN _)
    · have h : outE C W σ (.call f es) G B H F s (match f.g (fillD f ds) with
        | .ok r _ => if noBor r && !isDead r then .ok r s1 else .bad
        | .exc c fs xs _ => .exc c fs xs s1
        | .bad => .bad) Q := h
      cases e2 : f.g (fillD f ds) with
      | bad => rw [e2] at h; exact h
      | exc c fs xs d0 =>
        rw [e2] at h
        intro cls dd G' B' H' fs' x gb' bh' xr sf
        have x0 : Ext G1 B1 H1 (fun _ => False) G' (ovl B1 G') H' (fun _ => False) := by
          refine ⟨fun a o e _ => x.keep a o e (fun z => nomatch z), x.g, fun a o e => ovl_some e, fun a z => (x.gn a z).imp id fun z => .inr (z.elim (fun z => nomatch z) id), fun a z => ?_, fun _ z => z.elim⟩
          cases e : B1 a with
          | some o => exact .inl (by simp)
          | none =>
            rw [ovl_none e] at z
            rcases x.gn a z with q | q | q
            · exact absurd e (p.good.gb.ne q)
            · cases q
            · exact .inr (.inr q)
        have sb1 : Sb G' (ovl B1 G') := fun a o e => by
          cases e3 : B1 a with
          | none => exact .inl (by rw [ovl_none e3]; exact e)
          | some u =>
            rcases x.gn a (by rw [e]; simp) with q | q | q
            · cases e4 : G1 a with
              | none => exact absurd e4 q
              | some w =>
                have := x.g a w e4
                rw [e] at this; cases this
                exact sb_ovl p.good.gb a o e4
            · cases q
            · exact absurd q (p.good.bh.ne (by rw [e3]; simp))
        have sb2 : Sb (ovl B1 G') H' := fun a o e => by
          cases e3 : B1 a with
          | none => rw [ovl_none e3] at e; exact (gb'.trans bh') a o e
          | some u =>
            rw [ovl_some e3] at e; cases e
            rcases p.good.bh a _ e3 with q | ⟨l, ob, q⟩
            · exact .inl (x0.keep a _ q fun z => z)
            · exact .inr ⟨l, ob, x0.keep a _ q fun z => z⟩
        refine h cls dd G' (ovl B1 G') H' F1 (p.good.alloc x0 sb1 sb2) ((p.ext.trans (Alloc.ext x0)).imp (fun _ z => z) fun a z => .inl (.inl z)) xr
      | ok r d0 =>
        rw [e2] at h
        by_cases hr : (noBor r && !isDead r) = true
        · have h : outE C W σ (.call f es) G B H F s (if (noBor r && !isDead r) = true then .ok r s1 else .bad) Q := h
          rw [if_pos hr] at h
          simp only [Bool.and_eq_true, Bool.not_eq_true'] at hr
          refine ⟨hr.1, hr.2, fun v G' B' H' fr fs' x gb' bh' own nd sf => ?_⟩
          have x0 : Ext G1 B1 H1 (fun _ => False) G' (ovl B1 G') H' (fun _ => False) := by
            refine ⟨fun a o e _ => x.keep a o e (fun z => nomatch z), x.g, fun a o e => ovl_some e, fun a z => (x.gn a z).imp id fun z => .inr (z.elim (fun z => nomatch z) id), fun a z => ?_, fun _ z => z.elim⟩
            cases e : B1 a with
            | some o => exact .inl (by simp)
            | none =>
              rw [ovl_none e] at z
              rcases x.gn a z with q | q | q
              · exact absurd e (p.good.gb.ne q)
              · cases q
              · exact .inr (.inr q)
          have sb1 : Sb G' (ovl B1 G') := fun a o e => by
            cases e3 : B1 a with
            | none => exact .inl (by rw [ovl_none e3]; exact e)
            | some u =>
              rcases x.gn a (by rw [e]; simp) with q | q | q
              · cases e4 : G1 a with
                | none => exact absurd e4 q
                | some w =>
                  have := x.g a w e4
                  rw [e] at this; cases this
                  exact sb_ovl p.good.gb a o e4
              · cases q
              · exact absurd q (p.good.bh.ne (by rw [e3]; simp))
          have sb2 : Sb (ovl B1 G') H' := fun a o e => by
            cases e3 : B1 a with
            | none => rw [ovl_none e3] at e; exact (gb'.trans bh') a o e
            | some u =>
              rw [ovl_some e3] at e; cases e
              rcases p.good.bh a _ e3 with q | ⟨l, ob, q⟩
              · exact .inl (x0.keep a _ q fun z => z)
              · exact .inr ⟨l, ob, x0.keep a _ q fun z => z⟩
          -- the result's own things are new
          have fresh : ∀ a ∈ fr, H1 a = none := fun a ha => by
            rcases x.pn a (.inr ha) with q | q
            · cases q
            · exact q
          have nB : ∀ a ∈ fr, ovl B1 G' a = none := fun a ha => by
            have hb := (own.fp a ha).2
            have b1 : B1 a = none := none_of_ne fun z => p.good.bh.ne z (fresh a ha)
            rw [ovl_none b1]
            exact none_of_ne fun z => gb'.ne z hb
          refine h v G' (ovl B1 G') H' F1 fr { good := p.good.alloc x0 sb1 sb2, ext := p.ext.trans (Alloc.to x0 fun a z => ?_), own := own.reB hr.1 fun a ha => ⟨nB a ha, rfl⟩, nd := nd, pl := fun q => by simp [isPl] at q, np := fun _ a ha z => (p.good.inF z).1 (fresh a ha), pure := fun q => ?_ }
          · rcases z with z | z
            · exact .inl (.inl z)
            · exact .inr (fresh a z)
          · obtain ⟨e1, e2, k⟩ := p.pure q
            exact ⟨e1, e2, fun a o z => x0.keep a o (k a o z) fun z => z⟩
        · have h : outE C W σ (.call f es) G B H F s (if (noBor r && !isDead r) = true then .ok r s1 else .bad) Q := h
          rw [if_neg hr] at h
          exact h.elim
end
end TT
namespace TT
open PySem PySem.Spec PyProof.Rows L2
/-! ### tests -/
def outT (C : Gl0) (W : WX) (σ : L2.St) (e : E) (G B H : Hp) (F : Fp) (s : List D) (r : R D) (Q : Bool → Hp → Prop) : Prop :=
  match r with
  | .ok d s' => ∃ b, truth d = some b ∧ ∀ v G' B' H' F' fd, PostE C σ e G B H F s d s' v G' B' H' F' fd → Q b H'
  | .exc c fs xs s' => outX C W σ G B H F c fs xs s'
  | .bad => False
def tTst (C : Gl0) (W : WX) (e : E) : L2.TT := fun σ H Q => ∃ s G B F, Good C G B H F s σ ∧ outT C W σ e G B H F s (evE e s) Q
section
variable {C : Gl0} {W : WX} {σ : L2.St} {G B H : Hp} {F : Fp}
theorem emp_eq {xs : List D} {ws : List V} (h : xs.length = ws.length) : (!xs.isEmpty) = !ws.isEmpty := by
  cases xs <;> cases ws <;> simp_all
theorem truth_v {d : D} {v : V} {fd : List Addr} {b : Bool} (gb : Sb G B) (bh : Sb B H) (h : truth d = some b) (o : Own C G B H d v fd) : TruV C.K v H b := by
  unfold truth at h
  split at h
  · cases h; obtain ⟨rfl, _⟩ := o; exact rfl
  · cases h; obtain ⟨rfl, _⟩ := o; exact rfl
  · cases h; obtain ⟨rfl, _⟩ := o; exact rfl
  · split at h <;> cases h
    rename_i hs
    obtain ⟨rfl, _⟩ := o; exact ⟨hs, rfl⟩
  · cases h
    obtain ⟨a, ws, F', rfl, ea, oa, _⟩ := o.lstAt gb bh
    refine .inl ⟨ws, SqL.of ea, ?_⟩
    exact emp_eq oa.length
  · cases h
    obtain ⟨a, ws, F', rfl, ea, oa, _⟩ := o.tupAt gb bh
    refine .inr (.inl ⟨ws, ea, ?_⟩)
    exact emp_eq oa.length
  · cases h
    obtain ⟨a, rfl, ea, _⟩ := kup_at gb bh o
    refine .inr (.inl ⟨_, .inl (.inl ea), ?_⟩)
    cases ‹List Key› <;> rfl
  · cases h
theorem tTst.te {e : E} {Q : Bool → Hp → Prop} (h : tTst C W e σ H Q) : tE C W e σ H fun x H1 => ∃ k, TruV C.K x H1 k ∧ Q k H1 := by
  obtain ⟨s, G, B, F, g, h⟩ := h
  refine ⟨s, G, B, F, g, ?_⟩
  cases e1 : evE e s with
  | bad => rw [e1] at h; exact h
  | exc c fs xs s' => rw [e1] at h; exact h
  | ok d s' =>
    rw [e1] at h
    obtain ⟨b, hb, h⟩ := h
    exact fun v G' B' H' F' fd p => ⟨b, truth_v p.good.gb p.good.bh hb p.own, h v G' B' H' F' fd p⟩
theorem tTst.bl {e : E} {Q : Bool → Hp → Prop} (hb : ∀ s d s', evE e s = .ok d s' → ∃ b, d = .bl b) (h : tTst C W e σ H Q) : tE C W e σ H fun x H1 => ∃ k, x = .bl k ∧ Q k H1 := by
  obtain ⟨s, G, B, F, g, h⟩ := h
  refine ⟨s, G, B, F, g, ?_⟩
  cases e1 : evE e s with
  | bad => rw [e1] at h; exact h
  | exc c fs xs s' => rw [e1] at h; exact h
  | ok d s' =>
    rw [e1] at h
    obtain ⟨b, hb', h⟩ := h
    obtain ⟨b', rfl⟩ := hb s d s' e1
    cases hb'
    exact fun v G' B' H' F' fd p => ⟨b, p.own.1, h v G' B' H' F' fd p⟩
theorem tTst.mono {e : E} {Q Q' : Bool → Hp → Prop} (h : tTst C W e σ H Q) (q : ∀ v H, Q v H → Q' v H) : tTst C W e σ H Q' := by
  obtain ⟨s, G, B, F, g, h⟩ := h
  refine ⟨s, G, B, F, g, ?_⟩
  cases e1 : evE e s with
  | ok d s' =>
    rw [e1] at h
    obtain ⟨b, hb, h⟩ := h
    exact ⟨b, hb, fun v G' B' H' F' fd p => q _ _ (h v G' B' H' F' fd p)⟩
  | exc c fs xs s' => rw [e1] at h; exact h
  | bad => rw [e1] at h; exact h
/-! ### names and constants -/
theorem tE_now {e : E} {Q : VK} {d : D} {v : V} (hv : ∀ s, evE e s = .ok d s) (hp : isPl e = false) (o : ∀ G B H, Own C G B H d v []) (h : tE C W e σ H Q) : Q v H := by
  obtain ⟨s, G, B, F, g, h⟩ := h
  rw [hv] at h
  refine h v G B H F [] { good := g, ext := (Ext.refl (P := inF F)).imp (fun _ z => z) fun a z => .inl (z.elim id fun z => (nomatch z)), own := o G B H, nd := List.nodup_nil, pl := (fun q => by rw [hp] at q; cases q), np := (fun _ _ z => (nomatch z)), pure := fun _ => ⟨rfl, rfl, fun _ _ z => z⟩ }
theorem getD_some {s : List D} {i : Nat} (h : s.getD i .dead ≠ .dead) : i < s.length := by
  rw [List.getD_eq_getElem?_getD] at h
  cases e : s[i]? with
  | none => rw [e] at h; exact absurd rfl h
  | some d => exact (List.getElem?_eq_some_iff.1 e).1
theorem getD_set (s : List D) (i j : Nat) (d : D) : (s.set i d).getD j .dead = if j = i ∧ i < s.length then d else s.getD j .dead := by
  rw [List.getD_eq_getElem?_getD, List.getD_eq_getElem?_getD, List.getElem?_set]
  by_cases h : i = j
  · subst h
    by_cases hl : i < s.length
    · simp [hl]
    · simp [hl, List.getElem?_eq_none (Nat.le_of_not_lt hl)]
  · have : ¬ (j = i ∧ i < s.length) := fun z => h z.1.symm
    simp [h, this]
theorem not_dead {d : D} (h : isDead d = false) : d ≠ .dead := fun z => by subst z; simp [isDead] at h
theorem tE_nm {i : Nat} {Q : VK} (h : tE C W (.nm i) σ H Q) : tVar i σ H Q := by
  obtain ⟨s, G, B, F, g, h⟩ := h
  unfold evE at h
  split at h
  · exact h.elim
  · rename_i hd
    have hd := not_dead (by simpa using hd)
    obtain ⟨v, e, o⟩ := g.sl i hd
    refine ⟨v, e, h v G B H F (F i) { good := g, ext := (Ext.refl (P := inF F)).imp (fun _ z => z) fun a z => .inl (z.elim id fun z => ⟨i, z⟩), own := o, nd := g.nd i, pl := fun _ a ha => ⟨i, ha⟩, np := fun q => by simp [isPl] at q, pure := fun _ => ⟨rfl, rfl, fun _ _ z => z⟩ }⟩
theorem tE_mv {i : Nat} {Q : VK} (h : tE C W (.mv i) σ H Q) : tVar i σ H Q := by
  obtain ⟨s, G, B, F, g, h⟩ := h
  unfold evE at h
  split at h
  · exact h.elim
  · rename_i hd
    have hd := not_dead (by simpa using hd)
    obtain ⟨v, e, o⟩ := g.sl i hd
    have hl := getD_some hd
    have hin : ∀ a, inF (fun j => if j = i then [] else F j) a → inF F a := fun a ⟨j, z⟩ => by
      by_cases q : j = i
      · simp [q] at z
      · simp [q] at z; exact ⟨j, z⟩
    refine ⟨v, e, h v G B H (fun j => if j = i then [] else F j) (F i) { good := ⟨g.gb, g.bh, by rw [List.length_set]; exact g.len, fun j hj => ?_, fun j hj => ?_, fun j => ?_, fun j k a h1 h2 => ?_⟩, ext := (Ext.refl (P := inF F)).imp (fun _ z => z) fun a z => .inl (z.elim (hin a) fun z => ⟨i, z⟩), own := o, nd := g.nd i, pl := fun q => by simp [isPl] at q, np := fun _ a ha z => ?_, pure := fun q => by simp [eff] at q }⟩
    · rw [getD_set] at hj ⊢
      by_cases q : j = i
      · rw [if_pos ⟨q, hl⟩] at hj; exact absurd rfl hj
      · have q' : ¬ (j = i ∧ i < s.length) := fun z => q z.1
        rw [if_neg q'] at hj ⊢
        rw [if_neg q]; exact g.sl j hj
    · by_cases q : j = i
      · exact if_pos q
      · rw [getD_set, if_neg fun z => q z.1] at hj
        show (if j = i then [] else F j) = []
        rw [if_neg q]; exact g.nf j hj
    · by_cases q : j = i
      · show (if j = i then [] else F j).Nodup
        rw [if_pos q]; exact List.nodup_nil
      · show (if j = i then [] else F j).Nodup
        rw [if_neg q]; exact g.nd j
    · by_cases q : j = i <;> by_cases q2 : k = i <;> simp [q, q2] at h1 h2
      exact g.dj j k a h1 h2
    · obtain ⟨j, z⟩ := z
      by_cases q : j = i
      · simp [q] at z
      · simp [q] at z
        exact q (g.dj j i a z ha)
/-- the footprint of slot i is frozen -/
def frzH (A H : Hp) (L : List Addr) : Hp := fun a => if a ∈ L then H a else A a
theorem frzH_in {A H : Hp} {L : List Addr} {a : Addr} (h : a ∈ L) : frzH A H L a = H a := if_pos h
theorem frzH_out {A H : Hp} {L : List Addr} {a : Addr} (h : a ∉ L) : frzH A H L a = A a := if_neg h
theorem tE_fz {i : Nat} {Q : VK} (h : tE C W (.fz i) σ H Q) : tVar i σ H Q := by
  obtain ⟨s, G, B, F, g, h⟩ := h
  unfold evE at h
  split at h
  · exact h.elim
  · rename_i hd
    simp only [Bool.or_eq_true, Bool.not_eq_true', not_or, Bool.not_eq_true] at hd
    have nb : noBor (s.getD i .dead) = true := by simpa using hd.2
    have hd := not_dead hd.1
    obtain ⟨v, e, o⟩ := g.sl i hd
    have hl := getD_some hd
    have nB : ∀ a ∈ F i, B a = none := fun a ha => (o.fp a ha).2
    have nG : ∀ a ∈ F i, G a = none := fun a ha => none_of_ne fun z => g.gb.ne z (nB a ha)
    have gg : ∀ b u, G b = some u → frzH G H (F i) b = some u := fun b u z => by
      rw [frzH_out fun q => by rw [nG b q] at z; cases z]; exact z
    have bb : ∀ b u, B b = some u → frzH B H (F i) b = some u := fun b u z => by
      rw [frzH_out fun q => by rw [nB b q] at z; cases z]; exact z
    have o2 : Own C (frzH G H (F i)) (frzH B H (F i)) H (frz (s.getD i .dead)) v [] := o.frz gg nb fun a ha => frzH_in ha
    have hin : ∀ a, inF (fun j => if j = i then [] else F j) a → inF F a ∧ a ∉ F i := fun a ⟨j, z⟩ => by
      by_cases q : j = i
      · simp [q] at z
      · simp [q] at z; exact ⟨⟨j, z⟩, fun w => q (g.dj j i a z w)⟩
    have x : Ext G B H (inF F) (frzH G H (F i)) (frzH B H (F i)) H (inF F) := ⟨fun _ _ z _ => z, gg, bb, fun a z => by
      by_cases q : a ∈ F i
      · exact .inr (.inl ⟨i, q⟩)
      · rw [frzH_out q] at z; exact .inl z, fun a z => by
      by_cases q : a ∈ F i
      · exact .inr (.inl ⟨i, q⟩)
      · rw [frzH_out q] at z; exact .inl z, fun _ z => .inl z⟩
    have up : ∀ {A A' : Hp}, Sb A A' → Sb (frzH A H (F i)) (frzH A' H (F i)) := fun {A A'} y a u z => by
      by_cases q : a ∈ F i
      · rw [frzH_in q] at z ⊢; exact .inl z
      · rw [frzH_out q] at z ⊢; exact y a u z
    have up2 : Sb (frzH B H (F i)) H := fun a u z => by
      by_cases q : a ∈ F i
      · rw [frzH_in q] at z; exact .inl z
      · rw [frzH_out q] at z; exact g.bh a u z
    have fd : isDead (frz (s.getD i .dead)) = isDead (s.getD i .dead) := by
      cases (s.getD i .dead) <;> rfl
    refine ⟨v, e, h v _ _ H (fun j => if j = i then [] else F j) [] { good := ⟨up g.gb, up2, by rw [List.length_set]; exact g.len, fun j hj => ?_, fun j hj => ?_, fun j => ?_, fun j k a h1 h2 => ?_⟩, ext := x.imp (fun _ z => z) fun a z => .inl (z.elim (fun z => (hin a z).1) fun z => (nomatch z)), own := o2, nd := List.nodup_nil, pl := (fun q => by simp [isPl] at q), np := (fun _ a ha => (nomatch ha)), pure := fun q => by simp [eff] at q }⟩
    · rw [getD_set] at hj ⊢
      by_cases q : j = i
      · rw [if_pos ⟨q, hl⟩, q]
        exact ⟨v, e, by show Own _ _ _ _ _ _ (if i = i then [] else F i); rw [if_pos rfl]; exact o2⟩
      · have q' : ¬ (j = i ∧ i < s.length) := fun z => q z.1
        rw [if_neg q'] at hj ⊢
        obtain ⟨w, ew, ow⟩ := g.sl j hj
        refine ⟨w, ew, ?_⟩
        show Own _ _ _ _ _ _ (if j = i then [] else F j)
        rw [if_neg q]
        exact ow.mono gg bb fun a ha => ⟨rfl, by rw [frzH_out fun w => q (g.dj j i a ha w)]; exact (ow.fp a ha).2⟩
    · by_cases q : j = i
      · exact if_pos q
      · rw [getD_set, if_neg fun z => q z.1] at hj
        show (if j = i then [] else F j) = []
        rw [if_neg q]; exact g.nf j hj
    · by_cases q : j = i
      · show (if j = i then [] else F j).Nodup
        rw [if_pos q]; exact List.nodup_nil
      · show (if j = i then [] else F j).Nodup
        rw [if_neg q]; exact g.nd j
    · by_cases q : j = i <;> by_cases q2 : k = i <;> simp [q, q2] at h1 h2
      exact g.dj j k a h1 h2
theorem tE_tf {e : E} {Q : VK} (hp : isPl e = false) (h : tE C W (.tf e) σ H Q) : tE C W e σ H Q := by
  obtain ⟨s, G, B, F, g, h⟩ := h
  refine ⟨s, G, B, F, g, ?_⟩
  have h : outE C W σ (.tf e) G B H F s ((evE e s).bind fun d s1 => if noBor d then .ok (frz d) s1 else .bad) Q := by unfold evE at h; exact h
  cases e1 : evE e s with
  | bad => rw [e1] at h; exact h
  | exc c fs xs s' => rw [e1] at h; exact h
  | ok d s1 =>
    rw [e1] at h
    intro v G1 B1 H1 F1 fd p
    have h : outE C W σ (.tf e) G B H F s (if noBor d then .ok (frz d) s1 else .bad) Q := h
    by_cases nb : noBor d = true
    · rw [if_pos nb] at h
      have np := p.np hp
      have nB : ∀ a ∈ fd, B1 a = none := fun a ha => (p.own.fp a ha).2
      have nG : ∀ a ∈ fd, G1 a = none := fun a ha => none_of_ne fun z => p.good.gb.ne z (nB a ha)
      have gg : ∀ b u, G1 b = some u → frzH G1 H1 fd b = some u := fun b u z => by
        rw [frzH_out fun q => by rw [nG b q] at z; cases z]; exact z
      have bb : ∀ b u, B1 b = some u → frzH B1 H1 fd b = some u := fun b u z => by
        rw [frzH_out fun q => by rw [nB b q] at z; cases z]; exact z
      have o2 : Own C (frzH G1 H1 fd) (frzH B1 H1 fd) H1 (frz d) v [] := p.own.frz gg nb fun a ha => frzH_in ha
      have x : Ext G1 B1 H1 (fun a => inF F1 a ∨ a ∈ fd) (frzH G1 H1 fd) (frzH B1 H1 fd) H1 (fun a => inF F1 a ∨ a ∈ ([] : List Addr)) := ⟨fun _ _ z _ => z, gg, bb, fun a z => by
        by_cases q : a ∈ fd
        · exact .inr (.inl (.inr q))
        · rw [frzH_out q] at z; exact .inl z, fun a z => by
        by_cases q : a ∈ fd
        · exact .inr (.inl (.inr q))
        · rw [frzH_out q] at z; exact .inl z, fun a z => .inl (z.elim .inl fun z => (nomatch z))⟩
      have up : ∀ {A A' : Hp}, Sb A A' → Sb (frzH A H1 fd) (frzH A' H1 fd) := fun {A A'} y a u z => by
        by_cases q : a ∈ fd
        · rw [frzH_in q] at z ⊢; exact .inl z
        · rw [frzH_out q] at z ⊢; exact y a u z
      have up2 : Sb (frzH B1 H1 fd) H1 := fun a u z => by
        by_cases q : a ∈ fd
        · rw [frzH_in q] at z; exact .inl z
        · rw [frzH_out q] at z; exact p.good.bh a u z
      refine h v _ _ H1 F1 [] { good := ⟨up p.good.gb, up2, p.good.len, fun j hj => ?_, p.good.nf, p.good.nd, p.good.dj⟩, ext := p.ext.trans x, own := o2, nd := List.nodup_nil, pl := fun q => by simp [isPl] at q, np := (fun _ _ z => (nomatch z)), pure := fun q => p.pure (by simpa [eff] using q) }
      obtain ⟨w, ew, ow⟩ := p.good.sl j hj
      exact ⟨w, ew, ow.mono gg bb fun a ha => ⟨rfl, by rw [frzH_out fun q => np a q ⟨j, ha⟩]; exact (ow.fp a ha).2⟩⟩
    · rw [if_neg nb] at h; exact h.elim
theorem tE_cp {e : E} {Q : VK} (h : tE C W (.cp e) σ H Q) : tE C W e σ H Q := by
  obtain ⟨s, G, B, F, g, h⟩ := h
  refine ⟨s, G, B, F, g, ?_⟩
  have h : outE C W σ (.cp e) G B H F s ((evE e s).bind fun d s1 => if noOwn d then .ok d s1 else .bad) Q := by unfold evE at h; exact h
  cases e1 : evE e s with
  | bad => rw [e1] at h; exact h
  | exc c fs xs s' => rw [e1] at h; exact h
  | ok d s1 =>
    rw [e1] at h
    intro v G1 B1 H1 F1 fd p
    have h : outE C W σ (.cp e) G B H F s (if noOwn d then .ok d s1 else .bad) Q := h
    by_cases n : noOwn d = true
    · rw [if_pos n] at h
      obtain rfl := p.own.nil n
      exact h v G1 B1 H1 F1 [] { good := p.good, ext := p.ext, own := p.own, nd := p.nd, pl := fun q => by simp [isPl] at q, np := (fun _ _ z => (nomatch z)), pure := fun q => p.pure (by simpa [eff] using q) }
    · rw [if_neg n] at h; exact h.elim
/-- all that is one's own, lent -/
theorem Good.lent {G B H : Hp} {F : Fp} {s : List D} {σ : L2.St} (g : Good C G B H F s σ) : Good C G (ovl B H) H (fun _ => []) (refls Fl.lend s) σ := by
  have ge : ∀ i, (refls Fl.lend s).getD i .dead = refl Fl.lend (s.getD i .dead) := fun i => by
    rw [refls_map, List.getD_eq_getElem?_getD, List.getD_eq_getElem?_getD, List.getElem?_map]
    cases s[i]? <;> rfl
  refine ⟨sb_ovl g.gb, ovl_sb g.bh, by rw [refls_map, List.length_map]; exact g.len, fun i hi => ?_, fun i _ => rfl, fun i => List.nodup_nil, fun i j a h1 _ => nomatch h1⟩
  rw [ge] at hi ⊢
  have hn : s.getD i .dead ≠ .dead := fun e => by rw [e] at hi; exact hi rfl
  obtain ⟨v, e, o⟩ := g.sl i hn
  exact ⟨v, e, o.lend (fun _ _ z => z) (fun _ _ z => ovl_some z) fun a ha => ovl_none (o.fp a ha).2⟩
theorem tE_pu {e : E} {Q : VK} (hp : isPl e = false) (he : eff e = false) (h : tE C W (.pu e) σ H Q) : tE C W e σ H Q := by
  obtain ⟨s, G, B, F, g, h⟩ := h
  refine ⟨refls Fl.lend s, G, ovl B H, fun _ => [], g.lent, ?_⟩
  have h : outE C W σ (.pu e) G B H F s (match evE e (refls Fl.lend s) with
    | .ok d _ => if noBor d then .ok d s else .bad
    | _ => .bad) Q := by unfold evE at h; exact h
  cases e1 : evE e (refls Fl.lend s) with
  | bad => rw [e1] at h; exact h
  | exc c fs xs s' => rw [e1] at h; exact h.elim
  | ok d s1 =>
    rw [e1] at h
    intro v G1 B1 H1 F1 fd p
    replace h : outE C W σ (.pu e) G B H F s (if noBor d then .ok d s else .bad) Q := h
    by_cases nb : noBor d = true
    · rw [if_pos nb] at h
      obtain ⟨_, e2, k⟩ := p.pure he
      -- what is one's own in the result is new
      have fresh : ∀ a ∈ fd, H a = none := fun a ha => none_of_ne fun z => by
        have z2 : ovl B H a ≠ none := by
          cases eb : B a with
          | some o => rw [ovl_some eb]; simp
          | none => rw [ovl_none eb]; exact z
        cases e3 : ovl B H a with
        | none => exact z2 e3
        | some o =>
          have := p.ext.b a o e3
          rw [(p.own.fp a ha).2] at this
          cases this
      have x0 : Ext G B H (fun _ => False) G1 (ovl B G1) H1 (fun _ => False) := by
        refine ⟨fun a o e _ => k a o e, p.ext.g, fun a o e => ovl_some e, fun a z => ?_, fun a z => ?_, fun _ z => z.elim⟩
        · rcases p.ext.gn a z with q | q | q
          · exact .inl q
          · obtain ⟨_, q⟩ := q; cases q
          · exact .inr (.inr q)
        · cases e3 : B a with
          | some o => exact .inl (by simp)
          | none =>
            rw [ovl_none e3] at z
            rcases p.ext.gn a z with q | q | q
            · exact absurd e3 (g.gb.ne q)
            · obtain ⟨_, q⟩ := q; cases q
            · exact .inr (.inr q)
      have sb1 : Sb G1 (ovl B G1) := fun a o e => by
        cases e3 : B a with
        | none => exact .inl (by rw [ovl_none e3]; exact e)
        | some u =>
          rcases p.ext.gn a (by rw [e]; simp) with q | q | q
          · cases e4 : G a with
            | none => exact absurd e4 q
            | some w =>
              have := p.ext.g a w e4
              rw [e] at this; cases this
              exact sb_ovl g.gb a o e4
          · obtain ⟨_, q⟩ := q; cases q
          · exact absurd q (g.bh.ne (by rw [e3]; simp))
      have sb2 : Sb (ovl B G1) H1 := fun a o e => by
        cases e3 : B a with
        | none => rw [ovl_none e3] at e; exact (p.good.gb.trans p.good.bh) a o e
        | some u =>
          rw [ovl_some e3] at e; cases e
          rcases g.bh a _ e3 with q | ⟨l, ob, q⟩
          · exact .inl (k a _ q)
          · exact .inr ⟨l, ob, k a _ q⟩
      have nB : ∀ a ∈ fd, ovl B G1 a = none := fun a ha => by
        have hb := (p.own.fp a ha).2
        have b1 : B a = none := none_of_ne fun z => g.bh.ne z (fresh a ha)
        rw [ovl_none b1]
        exact none_of_ne fun z => p.good.gb.ne z hb
      exact h v G1 (ovl B G1) H1 F fd { good := g.alloc x0 sb1 sb2, ext := Alloc.to x0 fun a z => by
                                          rcases z with z | z
                                          · exact .inl z
                                          · exact .inr (fresh a z), own := p.own.reB nb fun a ha => ⟨nB a ha, rfl⟩, nd := p.nd, pl := fun q => by simp [isPl] at q, np := fun _ a ha z => (g.inF z).1 (fresh a ha), pure := fun q => ⟨rfl, rfl, k⟩ }
    · rw [if_neg nb] at h
      exact h.elim
end
end TT
namespace TT
open PySem PySem.Spec PyProof.Rows L2
/-! ### in -/
section
variable {C : Gl0} {G B H : Hp} {F : Fp} {U : List Addr} {ds : List D} {vs : List V} {d : D} {Q : VK} {e f : E} {pl : Bool}
theorem flat_v {x : D} {v : V} {fd : List Addr} (h : flatD x = true) (o : Own C G B H x v fd) : flatV v = true := by
  cases x <;> simp [flatD] at h <;> (obtain ⟨rfl, _⟩ := o; rfl)
theorem flat_eq {x y : D} {v w : V} {fd fd2 : List Addr} (hx : flatD x = true) (hy : flatD y = true) (o : Own C G B H x v fd) (o2 : Own C G B H y w fd2) : eqV w v = eqv y x := by
  cases x <;> simp [flatD] at hx <;> cases y <;> simp [flatD] at hy <;> (obtain ⟨rfl, _⟩ := o; obtain ⟨rfl, _⟩ := o2; simp [eqV, eqv])
theorem flats_v : ∀ {xs : List D} {ws : List V} {U : List Addr}, xs.all flatD = true → Owns C G B H xs ws U → ws.all flatV = true
  | [], _, _, _, o => by obtain ⟨rfl, _⟩ := o; rfl
  | x :: xs, _, _, h, o => by
    obtain ⟨v, vr, F1, F2, rfl, rfl, o1, o2⟩ := o
    simp only [List.all_cons, Bool.and_eq_true] at h ⊢
    exact ⟨flat_v h.1 o1, flats_v h.2 o2⟩
theorem flats_in {x : D} {v : V} {fd : List Addr} (hx : flatD x = true) (o : Own C G B H x v fd) : ∀ {xs : List D} {ws : List V} {U : List Addr}, xs.all flatD = true → Owns C G B H xs ws U → inV v ws = xs.any fun y => eqv y x
  | [], _, _, _, o => by obtain ⟨rfl, _⟩ := o; rfl
  | y :: xs, _, _, h, o3 => by
    obtain ⟨w, vr, F1, F2, rfl, rfl, o1, o2⟩ := o3
    simp only [List.all_cons, Bool.and_eq_true] at h
    unfold inV
    rw [List.any_cons, List.any_cons, flat_eq hx h.1 o o1]
    have := flats_in hx o h.2 o2
    unfold inV at this
    rw [this]
theorem zip_any {κ : Type} [DecidableEq κ] (k : κ) : ∀ {ks : List κ} {ws : List V}, ks.length = ws.length → ((ks.zip ws).any fun p => decide (p.1 = k)) = ks.any fun q => decide (q = k)
  | [], _, _ => by simp
  | _ :: _, [], h => by simp at h
  | q :: ks, w :: ws, h => by
    simp only [List.zip_cons_cons, List.any_cons]
    rw [zip_any k (by simpa using h)]
abbrev rInD' (K : PySem.W.Frag) : R2 := fun y x H Q => rIn K false y x H Q ∨ ((∃ (c : Nat) (z : Str), y = V.str ⟨#[c]⟩ ∧ x = V.str z ∧ Q (.bl (decide (c ∈ z.cps.toList))) H) ∨ ∃ a o, x = .ref a ∧ DGet H a y o ∧ Q (.bl o.isSome) H)
abbrev rNinD' (K : PySem.W.Frag) : R2 := fun y x H Q => rIn K true y x H Q ∨ ((∃ (c : Nat) (z : Str), y = V.str ⟨#[c]⟩ ∧ x = V.str z ∧ Q (.bl (!decide (c ∈ z.cps.toList))) H) ∨ ∃ a o, x = .ref a ∧ DGet H a y o ∧ Q (.bl (!o.isSome)) H)
theorem op_inD' {X : Cx} (hu : X.A.units + 1 < cLine) : OpR X (compareOp .In) (rInD' X.K) := by
  refine op_in_seq.or (op_in_sign.or ?_)
  intro pins s σ H x y v u Q I rx ry h
  obtain ⟨a, o, rfl, g, q⟩ := h
  obtain rfl : u = Value.ref a := ry
  exact d_in hu I g rx fun s' I' => ⟨.bl o.isSome, H, I', rfl, q⟩
theorem op_ninD' {X : Cx} (hu : X.A.units + 1 < cLine) : OpR X (compareOp .NotIn) (rNinD' X.K) := by
  refine op_notIn_seq.or (op_notIn_sign.or ?_)
  intro pins s σ H x y v u Q I rx ry h
  obtain ⟨a, o, rfl, g, q⟩ := h
  obtain rfl : u = Value.ref a := ry
  exact d_notIn hu I g rx fun s' I' => ⟨.bl (!o.isSome), H, I', rfl, q⟩
theorem str_one {x : Str} (h : x.cps.size = 1) : x = ⟨#[x.cps.getD 0 0]⟩ := by
  obtain ⟨⟨l⟩⟩ := x
  match l, h with
  | [c], _ => rfl
/-- what in finds -/
theorem in_cases {x y : D} {v w : V} {fd fd2 : List Addr} {b : Bool} (gb : Sb G B) (bh : Sb B H) (h : inD x y = some b) (o : Own C G B H x v fd) (o2 : Own C G B H y w fd2) :
    (∃ p ws, w = .ref p ∧ (SqL C.K H p ws ∨ SqT C.K H p ws) ∧ flatV v = true ∧ ws.all flatV = true ∧ inV v ws = b) ∨ (∃ (c : Nat) (z : Str), v = V.str ⟨#[c]⟩ ∧ w = V.str z ∧ decide (c ∈ z.cps.toList) = b) ∨ ∃ a r, w = .ref a ∧ DGet H a v r ∧ r.isSome = b := by
  unfold inD at h
  split at h
  · split at h <;> cases h
    rename_i hs
    obtain ⟨a, ws, F', rfl, ea, oa, _⟩ := o2.lstAt gb bh
    exact .inl ⟨a, ws, rfl, .inl (SqL.of ea), flat_v hs.1 o, flats_v hs.2 oa, flats_in hs.1 o hs.2 oa⟩
  · split at h <;> cases h
    rename_i hs
    obtain ⟨a, ws, F', rfl, ea, oa, _⟩ := o2.tupAt gb bh
    exact .inl ⟨a, ws, rfl, .inr ea, flat_v hs.1 o, flats_v hs.2 oa, flats_in hs.1 o hs.2 oa⟩
  · split at h <;> cases h
    rename_i hs
    obtain ⟨rfl, _⟩ := o
    obtain ⟨rfl, _⟩ := o2
    exact .inr (.inl ⟨_, _, congrArg V.str (str_one hs), rfl, rfl⟩)
  · cases h
    rename_i k fl ks xs
    obtain ⟨b, rfl, eb, _⟩ := kup_at gb bh o
    obtain ⟨a, ws, F', rfl, h1, oa, ef, _, hl, nd⟩ := o2
    exact .inr (.inr ⟨a, _, rfl, .inr ⟨_, k, b, h1.viewD gb bh, rfl, eb, rfl⟩, by rw [← valV_any, zip_any k (by rw [hl, oa.length])]⟩)
  · rw [Option.map_eq_some_iff] at h
    obtain ⟨k, hk, rfl⟩ := h
    obtain ⟨a, ws, F', rfl, h1, oa, ef, _, hl, nd⟩ := o2
    have g := dget_rd (k := k) (h1.viewD gb bh)
    rw [← keyOf_v hk o] at g
    exact .inr (.inr ⟨a, _, rfl, g, by rw [← valV_any, zip_any k (by rw [hl, oa.length])]⟩)
  · cases h
theorem v_in (P : Opd C G B H F [e, f] ds vs U) (h : bi2 (fun x y => (inD x y).map D.bl) ds = some d) (q : Res C G B H F pl U d Q) : Two vs (rInD' C.K) H Q := by
  obtain ⟨d1, d2, v1, v2, fd, fd2, rfl, rfl, o1, n1, s1, o2, n2⟩ := P.two
  have h : (inD d1 d2).map D.bl = some d := h
  rw [Option.map_eq_some_iff] at h
  obtain ⟨b, hb, rfl⟩ := h
  have q := q.now P (v := .bl b) ⟨rfl, rfl⟩
  refine ⟨v1, v2, rfl, ?_⟩
  rcases in_cases P.gb P.bh hb o1 o2 with ⟨p, ws, rfl, z1, z2, z3, rfl⟩ | ⟨c, z, rfl, rfl, rfl⟩ | ⟨a, r, rfl, z1, rfl⟩
  · exact .inl ⟨p, ws, rfl, z1, z2, z3, q⟩
  · exact .inr (.inl ⟨c, z, rfl, rfl, q⟩)
  · exact .inr (.inr ⟨a, r, rfl, z1, q⟩)
theorem v_nin (P : Opd C G B H F [e, f] ds vs U) (h : bi2 (fun x y => (inD x y).map fun b => D.bl (!b)) ds = some d) (q : Res C G B H F pl U d Q) : Two vs (rNinD' C.K) H Q := by
  obtain ⟨d1, d2, v1, v2, fd, fd2, rfl, rfl, o1, n1, s1, o2, n2⟩ := P.two
  have h : (inD d1 d2).map (fun b => D.bl (!b)) = some d := h
  rw [Option.map_eq_some_iff] at h
  obtain ⟨b, hb, rfl⟩ := h
  have q := q.now P (v := .bl (!b)) ⟨rfl, rfl⟩
  refine ⟨v1, v2, rfl, ?_⟩
  rcases in_cases P.gb P.bh hb o1 o2 with ⟨p, ws, rfl, z1, z2, z3, rfl⟩ | ⟨c, z, rfl, rfl, rfl⟩ | ⟨a, r, rfl, z1, rfl⟩
  · exact .inl ⟨p, ws, rfl, z1, z2, z3, q⟩
  · exact .inr (.inl ⟨c, z, rfl, rfl, q⟩)
  · exact .inr (.inr ⟨a, r, rfl, z1, q⟩)
end
/-! ### operations as values, as tests -/
section
variable {X : Cx} {C : Gl0} {W : WX} {Γ : Gam}
theorem pt_default {a : Expr} {e : E} (k : CxOk C Γ X) (h : PE X a (tE C W e)) (p : tstPlain a = true) : PT X a (tTst C W e) := by
  refine pt_imp (pt_truth h ?_) fun σ H Q z => by rw [k.K]; exact z.te
  intro whole
  cases a <;> first
    | rfl
    | (simp [tstPlain] at p; done)
    | (rename_i op _ _; cases op <;> first | rfl | (simp [tstPlain] at p))
theorem cmp_okT {es : List E} {as : List Expr} {o : Op} {ao : CmpOp} {a : Expr} {r : R2} (hs : cmpB ao a = some as) (hp : PEL X C W es as) (ho : OpR X (compareOp ao) r)
    (hl : isLook o = false) (hb : ∀ ds d, opD o ds = some d → ∃ b, d = .bl b) (hv : ∀ {G B H F U ds vs d Q} {e f : E}, Opd C G B H F [e, f] ds vs U → opD o ds = some d → Res C G B H F false U d Q → Two vs r H Q) : PE X a (tE C W (.op o es)) ∧ PT X a (tTst C W (.op o es)) := by
  refine ⟨cmp_ok hs hp ho hl hv, ?_⟩
  obtain ⟨a, b, pos, rfl, rfl, ns⟩ := cmpB_some hs
  obtain ⟨e, f, rfl, p1, p2, k⟩ := two_of hp
  refine pt_imp (pt_cmpR ho p1 p2 (noset ns)) fun σ H Q h => ?_
  have h := h.bl fun s d s' e1 => by
    unfold evE at e1
    cases e2 : evEs [e, f] s with
    | bad => rw [e2] at e1; cases e1
    | exc _ _ _ _ => rw [e2] at e1; cases e1
    | ok ds s1 =>
      rw [e2] at e1
      have e1 : R.of (opD o ds) s1 = .ok d s' := e1
      cases e3 : opD o ds with
      | none => rw [e3] at e1; cases e1
      | some d0 =>
        rw [e3] at e1
        cases e1
        exact hb ds d e3
  refine t_two k (op_step h fun ds vs G1 B1 H1 F1 U d P e1 q => ?_)
  rw [show isPl (.op o [e, f]) = false from by simp [isPl, hl]] at q
  exact hv P e1 q
theorem non_okT {es : List E} {as : List Expr} {o : Op} {ao : CmpOp} {a : Expr} {r : R2} (hs : nonB ao a = some as) (hp : PEL X C W es as) (ho : OpR X (compareOp ao) r) (hm : ao ≠ .In ∧ ao ≠ .NotIn)
    (hl : isLook o = false) (hb : ∀ ds d, opD o ds = some d → ∃ b, d = .bl b) (hv : ∀ {G B H F U ds vs d Q} {e : E}, Opd C G B H F [e] ds vs U → opD o ds = some d → Res C G B H F false U d Q → One vs (fun x H Q => r x .non H Q) H Q) : PE X a (tE C W (.op o es)) ∧ PT X a (tTst C W (.op o es)) := by
  refine ⟨non_ok hs hp ho hm hl hv, ?_⟩
  obtain ⟨a, j, p, pos, rfl, rfl⟩ := nonB_some hs
  obtain ⟨e, rfl, p1⟩ := one_of hp
  refine pt_imp (pt_cmpR ho p1 pe_non (nomark _ hm.1 hm.2)) fun σ H Q h => ?_
  have h := h.bl fun s d s' e1 => by
    unfold evE at e1
    cases e2 : evEs [e] s with
    | bad => rw [e2] at e1; cases e1
    | exc _ _ _ _ => rw [e2] at e1; cases e1
    | ok ds s1 =>
      rw [e2] at e1
      have e1 : R.of (opD o ds) s1 = .ok d s' := e1
      cases e3 : opD o ds with
      | none => rw [e3] at e1; cases e1
      | some d0 =>
        rw [e3] at e1
        cases e1
        exact hb ds d e3
  refine t_one (op_step h fun ds vs G1 B1 H1 F1 U d P e1 q => ?_)
  rw [show isPl (.op o [e]) = false from by simp [isPl, hl]] at q
  exact hv P e1 q
theorem bi2_bl {g : D → D → Option D} (h : ∀ x y d, g x y = some d → ∃ b, d = .bl b) (ds : List D) (d : D) (k : bi2 g ds = some d) : ∃ b, d = .bl b := by
  unfold bi2 at k
  split at k
  · exact h _ _ _ k
  · cases k
theorem un1_bl {g : D → Option D} (h : ∀ x d, g x = some d → ∃ b, d = .bl b) (ds : List D) (d : D) (k : un1 g ds = some d) : ∃ b, d = .bl b := by
  unfold un1 at k
  split at k
  · exact h _ _ k
  · cases k
theorem cmpD_bl {p : Int → Int → Bool} (x y d : D) (h : cmpD p x y = some d) : ∃ b, d = .bl b := by
  unfold cmpD at h
  split at h <;> cases h
  exact ⟨_, rfl⟩
theorem eqD_bl (x y d : D) (h : eqD x y = some d) : ∃ b, d = .bl b := by
  unfold eqD at h
  split at h <;> cases h
  exact ⟨_, rfl⟩
theorem neD_bl (x y d : D) (h : neD x y = some d) : ∃ b, d = .bl b := by
  unfold neD at h
  split at h
  · cases h
    exact ⟨_, rfl⟩
  · split at h <;> cases h
    exact ⟨_, rfl⟩
theorem noneD_bl {n : Bool} (x d : D) (h : noneD n x = some d) : ∃ b, d = .bl b := by
  unfold noneD at h
  split at h <;> cases h
  exact ⟨_, rfl⟩
theorem optmap_bl {α : Type} {o : Option α} {g : α → Bool} {d : D} (h : (o.map fun b => D.bl (g b)) = some d) : ∃ b, d = .bl b := by
  rw [Option.map_eq_some_iff] at h
  obtain ⟨a, _, rfl⟩ := h
  exact ⟨_, rfl⟩
theorem some1 {es : List E} {as : List Expr} (h : PEL X C W es as) {ds : List D} {d : D} {G B H : Hp} {F : Fp} {vs : List V} {U : List Addr} (P : Opd C G B H F es ds vs U) (k : ds ≠ []) : as ≠ [] := by
  intro z
  subst z
  cases es with
  | nil => obtain ⟨rfl, _⟩ := P.vl; exact k rfl
  | cons e es => obtain ⟨_, _, q, _⟩ := h; cases q
/-- a call's arguments, known to be one or more -/
theorem cons_of {es : List E} {as : List Expr} (h : PEL X C W es as) (n : es ≠ []) : ∃ a0 ar, as = a0 :: ar := by
  cases es with
  | nil => exact absurd rfl n
  | cons e es => obtain ⟨a, ar, q, _⟩ := h; exact ⟨a, ar, q⟩
end
end TT
namespace PySem
open Builtin Builtin.Str SeqAt
theorem dict_ne_tup (l b : Addr) (es : Array DictEntry) (ep : Nat) (items2 : Array Value) (n2 : Nat) (dd dd2 : Option Addr) (sl sl2 : Array (Option Value)) :
    Meets (Builtin.«dict.__ne__» ⟨[.ref l, .ref b], []⟩) (fun _ R s => s.heap.get? l = some { cls := .type "dict", dict := dd, data := .dict es ep, slots := sl } ∧ s.heap.get? b = some { cls := .type "tuple", dict := dd2, data := .seq items2 n2, slots := sl2 } ∧ R (.ok (.ret .notImplemented)) s) :=
  .of_wp fun prog w A R s h => by obtain ⟨hp, g, d, tk, os⟩ := s; obtain ⟨hl, hb, h⟩ := h; have f1 := F.sub_tuple_dict; wp_walk using wpAny_loadPart' hl, wpAny_loadPart' hb; exact ⟨_, rfl, h⟩
theorem tup_ne_dict (l b : Addr) (es : Array DictEntry) (ep : Nat) (items : Array Value) (n : Nat) (dd dd2 : Option Addr) (sl sl2 : Array (Option Value)) :
    Meets (Builtin.«tuple.__ne__» ⟨[.ref l, .ref b], []⟩) (fun _ R s => s.heap.get? l = some { cls := .type "tuple", dict := dd, data := .seq items n, slots := sl } ∧ s.heap.get? b = some { cls := .type "dict", dict := dd2, data := .dict es ep, slots := sl2 } ∧ R (.ok (.ret .notImplemented)) s) :=
  .of_wp fun prog w A R s h => by obtain ⟨hp, g, d, tk, os⟩ := s; obtain ⟨hl, hb, h⟩ := h; have f1 := F.sub_dict_tuple; wp_walk using wpAny_loadPart' hl, wpAny_loadPart' hb; exact ⟨_, rfl, h⟩
section
variable {A : Around} {s : Shared}
theorem rc_ne_dict_tup {l b : Addr} {ob : Obj} {es : Array DictEntry} {ep : Nat} {items2 : Array Value} (ho : s.heap.get? l = some ob) (hc : ob.cls = .type "dict") (hd : ob.data = .dict es ep) (hb : s.heap.IsTuple b items2) (hu : A.units < cLine) : RcNeAt A s (.ref l) (.ref b) true := fun prog w E Q h => by
  obtain ⟨⟨cls2, dd2, data2, sl2⟩, ho2, hc2, n2, hd2⟩ := id hb
  obtain ⟨cls, dd, data, sl⟩ := ob
  simp only at hc hd hc2 hd2
  subst hc hd hc2 hd2
  have hne : l ≠ b := fun e => by
    rw [e, ho2] at ho
    exact absurd (congrArg (fun o : Option Obj => o.map (·.cls)) ho) (by simp)
  exact (rc_ne_decline_or (k := false) ⟨_, ho, rfl⟩ ⟨_, ho2, rfl⟩ (by decide) F.sub_tuple_dict F.slot_dict_ne F.slot_tuple_ne_refl
    (fun _ hq => call_meets F.slot_dict_ne ⟨_, ho, rfl⟩ F.entry_dict_ne (F.args_dict_ne_2 _ _) (dict_ne_tup l b es ep items2 n2 dd dd2 sl sl2) ⟨ho, ho2, hq⟩)
    (fun _ hq => call_meets F.slot_tuple_ne_refl ⟨_, ho2, rfl⟩ F.entry_tuple_ne (F.args_tuple_ne_2 _ _) (tup_ne_dict b l es ep items2 n2 dd2 dd sl2 sl) ⟨ho2, ho, hq⟩)
    (fun _ hq => wpAny_isSame_ref_other hne ho ho2 (by simp) hq) (.inr hu) h)
end
end PySem
namespace TT
open PySem PySem.Spec PyProof.Rows L2
theorem op_neE {X : Cx} (hu : X.A.units + 64 < cLine) : OpR X (compareOp .NotEq) (fun x y H Q => ∃ a b xs, x = V.ref a ∧ y = V.ref b ∧ H a = some (.dK []) ∧ SqT X.K H b xs ∧ Q (.bl true) H) := by
  intro pins s σ H x y v u Q I rx ry h
  obtain ⟨a, b, xs, rfl, rfl, ha, hb, q⟩ := h
  cases rx
  cases ry
  obtain ⟨_, _, _, _, o, es, ep, e, ex, hd, _⟩ := I.hok a _ ha
  obtain ⟨its, rv, p, hz⟩ := I.tuple hb
  exact rc_ne_dict_tup e ex.1 hd p (by omega) _ _ _ _ ⟨.bl true, H, I, rfl, q⟩
end TT
namespace TT
open PySem PySem.Spec PyProof.Rows L2
/-! ### len(set(..)) of a list of texts -/
theorem metS_snoc (xs : List Str) (x : Str) : metS (xs ++ [x]) = met1 (metS xs) x := by
  unfold metS; rw [List.foldl_append]; rfl
theorem met1_any (m : List Str) (x k : Str) : (met1 m x).any (· == k) = (m.any (· == k) || decide (k = x)) := by
  unfold met1
  by_cases c : m.any (· == x) = true
  · rw [if_pos c]
    by_cases e : k = x
    · rw [e, c]; simp
    · rw [decide_eq_false e, Bool.or_false]
  · rw [if_neg c, List.any_append, List.any_cons, List.any_nil, Bool.or_false]
    by_cases e : k = x
    · rw [e]; simp
    · have ne : (x == k) = false := beq_eq_false_iff_ne.2 fun q => e q.symm
      rw [ne, decide_eq_false e]
theorem met1_len (m : List Str) (x : Str) : (met1 m x).length = if m.any (· == x) then m.length else m.length + 1 := by
  unfold met1
  split
  · rfl
  · rw [List.length_append]; rfl
theorem metS_le : ∀ xs : List Str, (metS xs).length ≤ xs.length := by
  intro xs
  suffices h : ∀ (xs m : List Str), (xs.foldl met1 m).length ≤ m.length + xs.length by
    have := h xs []
    unfold metS
    simpa using this
  intro xs
  induction xs with
  | nil => intro m; simp
  | cons x xs ih =>
    intro m
    have h1 := ih (met1 m x)
    have h2 : (met1 m x).length ≤ m.length + 1 := by rw [met1_len]; split <;> omega
    rw [List.foldl_cons, List.length_cons]
    omega
section
variable {pg : Program} {wd : World} {A0 : Around} {R0 : Result → Shared → Prop} {it : Addr} {fp0 wr0 : List Addr} {G0 : Array GenState → Array GenState → Prop} {m : Nat} {P0 : Nat → Value → Prop} {St0 : Nat → Shared → Prop}
abbrev TxtSet (pg : Program) (wd : World) (h : Heap) (S : Addr) (l : List Str) : Prop := h.SetOf (PySem.strKind pg wd) S (fun k => (metS l).any (· == k)) (metS l).length
theorem TxtSet.at {h h' : Heap} {S : Addr} {l : List Str} (x : TxtSet pg wd h S l) (k : ∀ o, h.get? S = some o → h'.get? S = some o) : TxtSet pg wd h' S l := by
  obtain ⟨o, es, ep, t, ho, r⟩ := x
  exact ⟨o, es, ep, t, k o ho, r⟩
/-- set.update's loop over a walk that gives texts -/
theorem txt_loop (Wk : WalksS pg wd A0.in1 it fp0 wr0 G0 m P0 St0) (S : Addr) (nf : S ∉ fp0) (xs : List Str) (hm : xs.length = m) (hb : m ≤ 4000) (hv : ∀ j v, P0 j v → ∃ t, v = .str (xs.getD j Str.empty) t) :
    ∀ (r j : Nat) (sh : Shared), m - j = r → j ≤ m → St0 j sh → TxtSet pg wd sh.heap S (xs.take j) →
      (∀ sh', Moved (S :: wr0) G0 sh sh' → TxtSet pg wd sh'.heap S xs → R0 (.ok (.ret .none)) sh') →
      codeAny (model pg wd) A0 (.builtin "set.update.loop" ⟨[.ref S, .ref it], []⟩) R0 sh := by
  have nw : S ∉ wr0 := fun q => nf (Wk.sub _ q)
  have up : ∀ b ∈ wr0, b ∈ S :: wr0 := fun b q => List.mem_cons_of_mem _ q
  intro r
  induction r with
  | zero =>
    intro j sh er hj hst hS done
    obtain rfl : j = m := by omega
    refine codeAny_builtin PyProof.Rows.F.entry_set_update_loop ?_
    rw [Around.under_plainId PyProof.Rows.F.plain_set_update_loop _]
    show wpAny _ A0.in1 (pyNext (.ref it) >>= _) _ _ sh
    refine wpAny_bind (Wk.done sh _ _ hst fun sh' mv => ?_)
    show wpAny _ A0.in1 (ret Value.none) _ _ sh'
    rw [List.take_of_length_le (by omega)] at hS
    exact wpAny_pure (done sh' (mv.mono up) (hS.at fun o e => mv.heap S o nw e))
  | succ r ih =>
    intro j sh er hj hst hS done
    have lt : j < m := by omega
    refine codeAny_builtin PyProof.Rows.F.entry_set_update_loop ?_
    rw [Around.under_plainId PyProof.Rows.F.plain_set_update_loop _]
    show wpAny _ A0.in1 (pyNext (.ref it) >>= _) _ _ sh
    refine wpAny_bind (Wk.item j sh _ _ lt hst fun v sh' pv hst' mv => ?_)
    obtain ⟨tk, rfl⟩ := hv j v pv
    have S1 : TxtSet pg wd sh'.heap S (xs.take j) := hS.at fun o e => mv.heap S o nw e
    show wpAny _ A0.in1 (holding [Value.str (xs.getD j Str.empty) tk] (setAdd S (.str (xs.getD j Str.empty) tk)) >>= _) _ _ sh'
    refine wpAny_bind (wpAny_holding ?_)
    unfold setAdd
    refine wpAny_holding (wpAny_bind ((PySem.strKind pg wd).pyHash (k := xs.getD j Str.empty) (strKind_is _ _ _ _) ?_))
    have small : (metS (xs.take j)).length + 1 < scanBound := by
      have h1 := metS_le (xs.take j)
      rw [List.length_take] at h1
      unfold scanBound
      omega
    refine wpAny_setAddHashed_of (knd := PySem.strKind pg wd) (s := { sh' with toks := sh'.toks + 1 }) (strKind_is _ _ _ _) rfl S1 small fun h' one S2 => ?_
    have en : xs.take (j + 1) = xs.take j ++ [xs.getD j Str.empty] := by
      rw [List.take_add_one, List.getD_eq_getElem?_getD, List.getElem?_eq_getElem (by omega)]
      rfl
    have S3 : TxtSet pg wd h' S (xs.take (j + 1)) := PyProof.Rows.SetOf_congr S2 (fun k => by rw [en, metS_snoc, met1_any]) (by rw [en, metS_snoc, met1_len])
    refine wpAny_pure ⟨plainId_quiet PyProof.Rows.F.plain_set_update_loop _, ih (j + 1) _ (by omega) lt (Wk.frame _ sh' _ _ hst' (Nat.le_succ _) fun b q o e => ?_) S3 fun sh2 mv2 S4 => ?_⟩
    · rw [one.2 b (fun z => nf (by rw [← z]; exact q))]
      exact e
    · refine done sh2 (Moved.trans Wk.gtrans ((mv.mono up).then_heap (Nat.le_succ _) fun b o q e => ?_) mv2) S4
      rw [one.2 b (fun z => q (by rw [z]; exact List.mem_cons_self))]
      exact e
end
/-- the set as __new__ leaves it -/
abbrev set0 (led : Bool) : Obj := { cls := .type "set", dict := none, data := .set #[] 0 (.fresh 0 0 led) }
section
variable {pg : Program} {wd : World} {A0 : Around} {E0 : Value → Shared → Prop} {sh : Shared}
/-- what __init__ does with a list of texts -/
theorem set_init_txt {l : Addr} {its : Array Value} {xs : List Str} {led : Bool} {sl : Array (Option Value)} {dc : Option Addr} {nl : Nat} (hh : A0.handled = none) (hl : sh.heap.get? l = some { cls := .type "list", dict := dc, data := .seq its nl, slots := sl }) (hi : StrsAre its.toList xs) (hb : xs.length ≤ 4000)
    (hT : Shared.TypeIs { sh with heap := sh.heap.push (set0 led) } (.ref sh.heap.objs.size) "set") :
    wpAny (model pg wd) A0 (Builtin.«set.__init__» ⟨[.ref sh.heap.objs.size, .ref l], []⟩)
      (fun fin s2 => ∃ r, fin = .done (.ret r) ∧ r = .none ∧ ∃ h' tk, s2 = { sh with heap := h', toks := tk } ∧ TxtSet pg wd h' sh.heap.objs.size xs ∧ ∀ b o, b < sh.heap.objs.size → sh.heap.get? b = some o → h'.get? b = some o) E0 { sh with heap := sh.heap.push (set0 led) } := by
  have at0 : (sh.heap.push (set0 led)).get? sh.heap.objs.size = some (set0 led) := Heap.get?_push_size _ rfl
  have atl : (sh.heap.push (set0 led)).get? l = some { cls := .type "list", dict := dc, data := .seq its nl, slots := sl } := Heap.get?_push_of_some _ hl
  have b1 := PySem.F.sub_list_set
  have b2 := PySem.F.sub_list_frozenset
  have b3 : (Value.type "list" == Value.type "dict") = false := by decide
  have il : (sh.heap.push (set0 led)).IsList l its := ⟨_, atl, rfl, nl, rfl⟩
  unfold Builtin.«set.__init__» noKeywords Builtin.Frozenset.updateFrom
  generalize eI : pyIter = it0
  wp_walk
  subst eI
  refine wpAny_pyIter_list il ?_
  refine wpAny_bind (wpAny_runValue ?_)
  have lt : l < sh.heap.objs.size := Heap.lt_size hl
  have h3 : A0.in1.handled = none := by simp [hh]
  have ne1 : l ≠ (sh.heap.push (set0 led)).objs.size := by
    rw [Heap.size_push]
    exact Nat.ne_of_lt (Nat.lt_succ_of_lt lt)
  have nf : sh.heap.objs.size ∉ [(sh.heap.push (set0 led)).objs.size, l] := fun q => by
    rw [Heap.size_push] at q
    simp only [List.mem_cons, List.not_mem_nil, or_false] at q
    rcases q with q | q
    · exact Nat.ne_of_lt (Nat.lt_succ_self _) q
    · exact Nat.ne_of_lt lt q.symm
  have en : xs.length = its.size := by rw [← StrsAre.len_eq hi, Array.length_toList]
  have hv : ∀ (j : Nat) (v : Value), its[j]? = some v → ∃ t, v = .str (xs.getD j Str.empty) t := fun j v q => SS.strs_at hi j v (by rw [Array.getElem?_toList]; exact q)
  refine txt_loop ((Walks.list h3 _ l ne1 its).toS) sh.heap.objs.size nf xs en (by omega) hv (its.size - 0) 0 _ rfl (Nat.zero_le _) ⟨⟨_, Heap.get?_push_size _ rfl, rfl, rfl⟩, il.push _⟩ ?_ fun s2 mv hS => ?_
  · have g0 : ((sh.heap.push (set0 led)).push { cls := .type "list_iterator", data := .fields #[.ref l, .int 0 0] }).get? sh.heap.objs.size = some (set0 led) := Heap.get?_push_of_some _ at0
    exact PyProof.Rows.SetOf_congr ((PyProof.Rows.setObjOf_fresh (knd := PySem.strKind pg wd) led).setOf g0 (by unfold scanBound; omega)) (fun _ => rfl) rfl
  · obtain ⟨h2, gg, dd, tt, oo⟩ := s2
    obtain rfl : gg = sh.gens := mv.gens
    obtain rfl : dd = sh.drawn := mv.drawn
    obtain rfl : oo = sh.os := mv.os
    show wpAny _ _ _ _ _ _
    refine wpAny_pure ?_
    show wpAny _ _ (ret Value.none) _ _ _
    refine wpAny_pure ⟨_, rfl, rfl, h2, tt, rfl, hS, fun b o q e => mv.heap b o (fun z => ?_) (Heap.get?_push_of_some _ (Heap.get?_push_of_some _ e))⟩
    rw [Heap.size_push] at z
    simp only [List.mem_cons, List.not_mem_nil, or_false] at z
    rcases z with z | z
    · exact Nat.ne_of_lt q z
    · exact Nat.ne_of_lt (Nat.lt_succ_of_lt q) z
set_option maxHeartbeats 3200000 in
theorem call_set_txt {l : Addr} {its : Array Value} {xs : List Str} {Q0 : Value → Shared → Prop} (hh : A0.handled = none) (il : sh.heap.IsList l its) (hi : StrsAre its.toList xs) (hb : xs.length ≤ 4000)
    (fin : ∀ (h' : Heap) (tk : Nat), TxtSet pg wd h' sh.heap.objs.size xs → (∀ b o, b < sh.heap.objs.size → sh.heap.get? b = some o → h'.get? b = some o) → Q0 (.ref sh.heap.objs.size) { sh with heap := h', toks := tk }) :
    wpAny (model pg wd) A0 (call (.type "set") [.ref l]) Q0 E0 sh := by
  obtain ⟨cc, tl, ro⟩ := PySem.F.called_set.mro
  have m1 := PySem.F.called_set.made
  have m2 := PySem.F.called_set.sub
  refine wpAny_call (codeAny_of_tree ?_)
  show wpAny _ _ (callAny (.type "set") _) _ _ _
  refine wpAny_pure ⟨Code.quiet_builtin _ (by decide +kernel), codeAny_builtin PySem.F.entry_type_call ?_⟩
  rw [Around.under_plain (weight_type_call_type "set" [.ref l] []) rfl]
  have m3 := PySem.F.called_set.notType
  have m4 := PySem.F.called_set.canCreate
  have m5 := PySem.F.typeCall_set_1 (.ref l)
  repeat (any_goals (first | assumption | wp_step))
  refine codeAny_mono (code_set_new_1 (.ref l) (E := E0) (Q₁ := fun o s1 => ∃ led : Bool, o = .ref sh.heap.objs.size ∧ s1 = { sh with heap := sh.heap.push (set0 led) }) fun led => ⟨led, rfl, rfl⟩) fun r s1 hr => ?_
  cases r with
  | error e => exact hr
  | ok fl =>
    cases fl with
    | next => exact hr.elim
    | brk => exact hr.elim
    | cont => exact hr.elim
    | ret o =>
      obtain ⟨led, rfl, rfl⟩ := hr
      have hT : Shared.TypeIs { sh with heap := sh.heap.push (set0 led) } (.ref sh.heap.objs.size) "set" := ⟨_, Heap.get?_push_size _ rfl, rfl⟩
      have m6 := PySem.F.called_set.init.lookup
      have m7 := PySem.F.called_set.init.bind (.ref sh.heap.objs.size)
      repeat (any_goals (first | assumption | wp_step))
      refine codeAny_mono (codeAny_call_builtin (R := wants (fun r s2 => r = .none ∧ ∃ h' tk, s2 = { sh with heap := h', toks := tk } ∧ TxtSet pg wd h' sh.heap.objs.size xs ∧ ∀ b o, b < sh.heap.objs.size → sh.heap.get? b = some o → h'.get? b = some o) E0) PySem.F.called_set.init.plain PySem.F.entry_set_init (check_set_init_1 hT ?_)) fun r2 s2 h2 => ?_
      · obtain ⟨⟨cl, dc, da, sl⟩, hol, hc, nl, hd⟩ := il
        simp only at hc hd
        subst hc; subst hd
        refine wpAny_mono (set_init_txt (by simp [hh]) hol hi hb hT) (fun fl s2 z => ?_) fun e s2 z => z
        obtain ⟨r, rfl, z⟩ := z
        exact z
      · cases r2 with
        | error e => exact h2
        | ok f2 =>
          cases f2 with
          | next => exact h2.elim
          | brk => exact h2.elim
          | cont => exact h2.elim
          | ret x =>
            obtain ⟨rfl, h', tk, rfl, a1, a2⟩ := h2
            repeat (any_goals (first | assumption | wp_step))
            exact fin _ _ a1 a2
end
section
variable {X : Cx} {a : Expr} {ta : TE} {p p2 q pos : Pos}
theorem pe_lenSetT (hc : X.calm = true) (hg : Gl X "len") (hm : X.mg "len" = none) (hg2 : Gl X "set") (hm2 : X.mg "set" = none) (ha : PE X a ta)
    (na : starEach [a] X.env = (false, eval a X.env) :: starEach [] X.env) : PE X (.Call (.Name "len" p) [.Call (.Name "set" p2) [a] [] q] [] pos)
    (fun σ H Q => ta σ H fun x H1 => ∃ l, ∃ xs : List Str, x = .ref l ∧ SqL X.K H1 l (xs.map V.str) ∧ xs.length ≤ 4000 ∧ Q (.int ((metS xs).length : Nat)) H1) := by
  refine ⟨fun pins s σ H Q I h => Call_ (ld_blt I hg hm boot_len (PyProof.Rows.callWith_builtin1 (PyProof.Rows.args_cons (Call_ (ld_blt I hg2 hm2 boot_set ?_)) rfl) rfl rfl))⟩
  refine PyProof.Rows.callWith_type1 (PyProof.Rows.args_cons (thn (ha.run pins s σ H _ I h) fun u s1 ⟨x, H1, J, rx, z⟩ => PyProof.Rows.args_nil ?_) na) na rfl
  obtain ⟨l, xs, rfl, sq, hb, z⟩ := z
  cases rx
  obtain ⟨its, rv, pl, _⟩ := J.list sq
  refine call_set_txt (J.ok.hd hc) pl.isList (by simpa using strsAre_of rv) hb fun h' tk hS hk => PyProof.Rows.args_nil ?_
  obtain ⟨o, es, ep, t, ho, y1, y2, _, _, _, y3, y4⟩ := hS
  have J2 : Inv X pins σ H1 { s1 with heap := h', toks := tk } := J.kept fun b o e => hk b o (Heap.lt_size e) e
  exact call_len_set ho y1 y2 y3 (by have := metS_le xs; rw [y4]; omega) ⟨.int ((metS xs).length : Nat), H1, J2.tok _, ⟨_, by rw [y4]⟩, z⟩
end
end TT
namespace TT
open PySem PySem.Spec PyProof.Rows L2
/-! ### dict(zip(keys, values)) -/
theorem kv_zip : ∀ {ks : List Key} {ws : List V} {us : List Value}, Vals ws us → KV (ks.zip ws) (ks.zip us)
  | [], ws, us, _ => by
    rw [List.zip_nil_left, List.zip_nil_left]
    exact .nil
  | k :: ks, [], us, r => by
    cases r
    rw [List.zip_nil_right, List.zip_nil_right]
    exact .nil
  | k :: ks, w :: ws, us, r => by
    cases r with
    | cons r1 r2 => exact .cons ⟨rfl, r1⟩ (kv_zip r2)
theorem key_at {P : Program} {w : World} : ∀ {ks : List Key} {us : List Value}, Vals (ks.map kV) us → ∀ (j : Nat) (u : Value), us[j]? = some u → ∃ k, ks[j]? = some k ∧ (mixKind P w).is k u = true
  | [], us, r, j, u, e => by cases r; simp at e
  | k :: ks, us, r, 0, u, e => by
    cases r with
    | cons r1 r2 =>
      cases e
      exact ⟨k, rfl, kV_is r1⟩
  | k :: ks, us, r, j + 1, u, e => by
    cases r with
    | cons r1 r2 => exact key_at r2 j u e
def two2 (r : V → V → Hp → Prop) : List V → Hp → Prop
  | [x, y], H => r x y H
  | _, _ => False
section
variable {X : Cx} {a b : Expr} {ta tb : TE} {p p2 q pos : Pos}
theorem pe_dictZ (hc : X.calm = true) (hg : Gl X "dict") (hm : X.mg "dict" = none) (hg2 : Gl X "zip") (hm2 : X.mg "zip" = none) (ha : PE X a ta) (hb : PE X b tb)
    (na : starEach [a, b] X.env = (false, eval a X.env) :: starEach [b] X.env) (nb : starEach [b] X.env = (false, eval b X.env) :: starEach [] X.env) : PE X (.Call (.Name "dict" p) [.Call (.Name "zip" p2) [a, b] [] q] [] pos)
    (fun σ H Q => ta σ H fun x H1 => tb σ H1 fun y H2 => ∃ la lb, ∃ (ks : List Key) (ws : List V), x = .ref la ∧ y = .ref lb ∧ H2 la = some (.lst (ks.map kV)) ∧ H2 lb = some (.lst ws) ∧ (ks.zip ws).length ≤ sizeLine ∧
      ∀ p, H2 p = none → Q (.ref p) (upd H2 p (.dK (mergeK [] (ks.zip ws))))) := by
  refine ⟨fun pins s σ H Q I h => Call_ (ld_blt I hg hm PyProof.Rows.boot_dict (PyProof.Rows.callWith_type1 (PyProof.Rows.args_cons (Call_ (ld_blt I hg2 hm2 PyProof.Rows.boot_zip ?_)) rfl) rfl rfl))⟩
  refine PyProof.Rows.callWith_type1 (thn ((pa_cons ha (pa_cons hb pa_nil nb) na).run _ pins s σ H (two2 fun x y H2 => ∃ la lb, ∃ (ks : List Key) (ws : List V), x = .ref la ∧ y = .ref lb ∧ H2 la = some (.lst (ks.map kV)) ∧ H2 lb = some (.lst ws) ∧ (ks.zip ws).length ≤ sizeLine ∧
      ∀ p, H2 p = none → Q (.ref p) (upd H2 p (.dK (mergeK [] (ks.zip ws))))) I h) fun us s1 ⟨vs, H2, J, rx, z⟩ => ?_) na (by rw [nb]; rfl)
  obtain ⟨x, y, rfl⟩ : ∃ x y, vs = [x, y] := by
    match vs, z with
    | [x, y], _ => exact ⟨x, y, rfl⟩
  obtain ⟨la, lb, ks, ws, rfl, rfl, el, eb, hz, z⟩ := z
  obtain ⟨u1, u2, rfl, r1, r2⟩ := vals2 rx
  cases r1
  cases r2
  obtain ⟨its, rv, p1, _⟩ := J.list (.inl (.inl el))
  obtain ⟨its2, rv2, p2, _⟩ := J.list (.inl (.inl eb))
  have l1 := rv.length
  have l2 := rv2.length
  rw [List.length_map] at l1
  rw [List.length_zip] at hz
  refine call_zip_2 p1.isList p2.isList fun h1 gz gI gO g1 g2 gs k1 => PyProof.Rows.args_nil ?_
  have D := PySem.W.ktu_apart s1.heap.objs.size la lb p1.lt p2.lt
  have P := PairArg.zip (prog := X.prog) (w := X.w) (s1.heap.objs.size + 4) (s1.heap.objs.size + 2) (s1.heap.objs.size + 3) s1.heap.objs.size (s1.heap.objs.size + 1) la lb D its.toArray its2.toArray
  refine PySem.call_dict_pairs (knd := mixKind X.prog X.w) (kvs := ks.zip its2) P (J.ok.hd hc) ⟨gz, gI, ⟨_, _, gO⟩, g1, g2, p1.isList.at fun o e => k1 _ _ e, p2.isList.at fun o e => k1 _ _ e⟩ ⟨by rw [List.length_zip]; simp; omega, fun i key v e => ?_⟩ (by simp; omega) fun h' tk hd hk => ?_
  · obtain ⟨e1, e2⟩ := e
    obtain ⟨k, e3, e4⟩ := key_at (P := X.prog) (w := X.w) rv i key (by simpa using e1)
    exact ⟨k, List.getElem?_zip_eq_some.2 ⟨e3, by simpa using e2⟩, e4⟩
  · have rel := kv_zip (ks := ks) rv2
    have big : (h1.objs.size == sysModules) = false := beq_eq_false_iff_ne.mpr (Nat.ne_of_gt (Nat.lt_of_lt_of_le J.big (by rw [gs]; exact Nat.le_add_right _ _)))
    have hlen : (mergeK [] (ks.zip ws)).length ≤ sizeLine := by
      refine Nat.le_trans (length_mergeK _ []) ?_
      rw [List.length_nil, Nat.zero_add, List.length_zip]
      exact hz
    have hp : s1.heap.objs.size ≤ h1.objs.size := by rw [gs]; exact Nat.le_add_right _ _
    refine ⟨.ref h1.objs.size, upd H2 h1.objs.size (.dK (mergeK [] (ks.zip ws))), J.laid (t' := tk) (fun c o e => hk c o (fun m => ?_) (k1 _ _ e)) hp (show ObjOk X.prog X.w _ _ _ (.dK (mergeK [] (ks.zip ws))) from ⟨hlen, big, merged [] (ks.zip its2), KV.merge rel .nil, hd⟩), rfl, z _ (J.hok.fresh hp)⟩
    have lt := Heap.lt_size e
    simp only [List.mem_cons, List.not_mem_nil, or_false] at m
    rcases m with m | m | m | m
    · exact Nat.ne_of_lt (Nat.lt_of_lt_of_le lt (Nat.le_add_right _ _)) m
    · exact Nat.ne_of_lt (Nat.lt_of_lt_of_le lt (Nat.le_add_right _ _)) m
    · exact Nat.ne_of_lt lt m
    · exact Nat.ne_of_lt (Nat.lt_of_lt_of_le lt (Nat.le_add_right _ _)) m
end
end TT
namespace TT
open PySem PySem.Spec PyProof.Rows L2
/-! ### list(d.values()) -/
theorem vals_at : ∀ {kvs : List (Key × V)} {rs : List (Key × Value)} {us : List Value}, KV kvs rs → us.length = rs.length → (∀ (j : Nat) (v : Value), us[j]? = some v → ∃ k, rs[j]? = some (k, v)) → Vals (kvs.map (·.2)) us
  | _, _, [], .nil, _, _ => .nil
  | _, _, _ :: _, .nil, h, _ => by simp at h
  | _, _, [], .cons _ _, h, _ => by simp at h
  | _, _, u :: us, .cons (a := p) (b := q) r t, h, f => by
    obtain ⟨k, e⟩ := f 0 u rfl
    have e : q = (k, u) := Option.some.inj e
    have eu : q.2 = u := by rw [e]
    exact .cons (by rw [← eu]; exact r.2) (vals_at t (by simpa using h) fun j v z => by simpa using f (j + 1) v (by simpa using z))
section
variable {X : Cx} {a : Expr} {ta : TE} {p pos apos cpos : Pos}
theorem pe_listVals (hc : X.calm = true) (hg : Gl X "list") (hm : X.mg "list" = none) (ha : PE X a ta) (hbase : attributeBase a "values" X.env (eval a X.env) = eval a X.env) (hline : (apos.endLine == cpos.line) = true) :
    PE X (.Call (.Name "list" p) [.Call (.Attribute a "values" apos) [] [] cpos] [] pos) (fun σ H Q => ta σ H fun x H1 => ∃ (d : Addr) (kvs : List (Key × V)), x = .ref d ∧ Rd H1 d (.dK kvs) ∧ ∀ p, H1 p = none → Q (.ref p) (upd H1 p (.lst (kvs.map (·.2))))) := by
  refine ⟨fun pins s σ H Q I h => wpAny_Call_Name_kw (ld_blt I hg hm PyProof.Rows.boot_list (PyProof.Rows.callWith_type1 (PyProof.Rows.args_cons ?_ rfl) rfl rfl))⟩
  refine wpAny_Call_method (T := "dict") (id := "dict.values") hbase rfl hline F.plainAttrs_dict F.slot_dict_values F.type_dict_values (thn (ha.run pins s σ H _ I h) fun u s1 ⟨x, H1, J, rx, d, kvs, ex, rd, z⟩ => ?_)
  subst ex
  obtain rfl : u = Value.ref d := rx
  obtain ⟨sz, lo, rs, rel, dd⟩ := dk_rd J.hok rd
  obtain ⟨ep, hat⟩ := dd.dictAt
  have len : kvs.length = rs.length := rel.length
  refine ⟨dd.typeIs, dd.mapOf.noDict, ?_⟩
  show wpAny _ _ (callWith cpos (.builtin "dict.values") [.ref d] [] []) _ X.xe s1
  refine method_meetsIn F.slot_dict_values F.entry_dict_values rfl (PySem.evalArgs_none ⟨rfl, dd.typeIs, F.args_dict_values_1 _, _, meets_dict_values (mixKind X.prog X.w) d lo, ⟨rs, dd⟩, ?_⟩)
  refine PyProof.Rows.args_nil ?_
  have k0 : ∀ b o, s1.heap.get? b = some o → (s1.heap.push { cls := .type "dict_values", data := .fields #[.ref d] }).get? b = some o := fun b o e => Heap.get?_push_of_some _ e
  refine PySem.W.kdl_call (PySem.W.kdl_values (knd := mixKind X.prog X.w) (kvs := rs) (ep := ep) (r := s1.heap.objs.size) (d := d)) (J.ok.hd hc) ⟨⟨_, Heap.get?_push_size _ rfl, rfl, rfl⟩, hat.push _⟩ (by omega) fun h' tk acc c hk hS hacc => ?_
  have hp : s1.heap.objs.size ≤ (s1.heap.push { cls := .type "dict_values", data := .fields #[.ref d] }).objs.size := by rw [Heap.size_push]; exact Nat.le_succ _
  have hv : Vals (kvs.map (·.2)) acc.toList := vals_at rel (by rw [Array.length_toList]; exact hacc.1) fun j v e => hacc.2 j v (by rw [← Array.getElem?_toList]; exact e)
  exact ⟨.ref _, upd H1 _ (.lst (kvs.map (·.2))), J.laid (t' := tk) (fun b o e => hk b o (k0 b o e)) hp (show ObjOk X.prog X.w _ _ _ (.lst (kvs.map (·.2))) from ⟨by rw [List.length_map]; exact sz, acc.toList, c, hv, by rw [Array.toArray_toList]; exact hS⟩), rfl, z _ (J.hok.fresh hp)⟩
end
/-! ### list.remove of a text -/
def eqs (k : Str) (v : Value) : Bool := match v with
  | .str n _ => n == k
  | _ => false
theorem gives_s {k : Str} {t : Tok} {us : List Value} {xs : List Str} (h : StrsAre us xs) : ∀ y ∈ us, MeetsSeq.EqGives y (.str k t) (eqs k y) := fun y hy => by
  obtain ⟨j, hj⟩ := List.mem_iff_getElem?.1 hy
  obtain ⟨z, t2, rfl, _⟩ := h.item j y hj
  intro prog w A E s Q q
  exact wpAny_eqBool_str q
theorem erase_mapS : ∀ (l : List Str) (j : Nat), (l.map V.str).eraseIdx j = (l.eraseIdx j).map V.str
  | [], _ => by simp
  | _ :: _, 0 => by simp
  | _ :: r, j + 1 => by simp [erase_mapS r j]
section
variable {X : Cx}
theorem mt_remT : MtM X "list.remove" (fun x vs H Q => ∃ (l : Addr) (xs : List Str) (z : Str) (j : Nat), x = .ref l ∧ vs = [.str z] ∧ H l = some (.lst (xs.map V.str)) ∧ xs[j]? = some z ∧ (∀ m : Nat, m < j → xs[m]? ≠ some z) ∧ Q .non (upd H l (.lst ((xs.eraseIdx j).map V.str)))) := by
  intro pins s σ H x ys v us Q I rx ry h
  obtain ⟨l, xs, z, j, rfl, rfl, hH, hj, no, q⟩ := h
  cases rx
  obtain ⟨u, rfl, ru⟩ := ry.one
  obtain ⟨t, rfl⟩ := ru
  obtain ⟨sz, its, n, rv, hl, e⟩ := I.lstM hH
  have hi := strsAre_of rv
  rw [List.length_map] at hl sz
  have jn : j < xs.length := (List.getElem?_eq_some_iff.mp hj).1
  have at_ : ∀ m (hm : m < its.toArray.size) (w : Str), xs[m]? = some w → eqs z its.toArray[m] = (w == z) := fun m hm w hw => by
    obtain ⟨tm, e1⟩ := hi.get m w hw
    obtain ⟨h1, h2⟩ := List.getElem?_eq_some_iff.mp e1
    have e2 : its.toArray[m] = .str w tm := by simpa using h2
    rw [e2]; rfl
  refine call_meets PySem.F.slot_list_remove ⟨_, e, rfl⟩ PySem.F.entry_list_remove (PySem.F.args_list_remove_2 _ _)
    (MeetsSeq.list_remove l its.toArray n (.str z t) (eqs z) (fun y hy => gives_s hi y (by simpa using hy)) j (by rw [List.size_toArray]; omega) ?_ ?_ (by rw [List.size_toArray]; omega)) ⟨e, ?_⟩
  · rw [at_ j _ z hj]
    exact beq_self_eq_true z
  · intro m hm mj
    have mn : m < xs.length := by omega
    rw [at_ m _ _ (List.getElem?_eq_getElem mn)]
    exact beq_eq_false_iff_ne.mpr fun e2 => no m mj (by rw [List.getElem?_eq_getElem mn, e2])
  · have rr := rv.eraseIdx j
    rw [erase_mapS] at rr
    refine ⟨.non, _, I.lset (its' := its.eraseIdx j) (t' := s.toks) hH e ?_ rr ?_, rfl, q⟩
    · show its.toArray.eraseIdxIfInBounds j = (its.eraseIdx j).toArray
      rw [List.eraseIdxIfInBounds_toArray]
    · rw [List.length_map, List.length_eraseIdx]
      split <;> omega
end
end TT
namespace TT
open PySem PySem.Spec PyProof.Rows L2
/-! ### d.update(e) -/
section
variable {X : Cx}
theorem mt_dupd (hc : X.calm = true) : MtR X "dict.update" (fun x vs H Q => ∃ (d e : Addr) (kvs more : List (Key × V)), x = .ref d ∧ vs = [.ref e] ∧ H d = some (.dK kvs) ∧ Rd H e (.dK more) ∧ d ≠ e ∧ kvs.length + more.length ≤ sizeLine ∧ Q .non (upd H d (.dK (mergeK kvs more)))) := by
  intro pins s σ H x vs v us Q I rx rv h
  obtain ⟨d, e, kvs, more, rfl, rfl, hd, he, ne, sz, q⟩ := h
  obtain rfl : v = Value.ref d := rx
  obtain ⟨u, rfl, ru⟩ := rv.one
  obtain rfl : u = Value.ref e := ru
  obtain ⟨z1, lo1, rs1, rel1, d1⟩ := dk_of I.hok hd
  obtain ⟨z2, lo2, rs2, rel2, d2⟩ := dk_rd I.hok he
  have n1 : kvs.length = rs1.length := rel1.length
  have n2 : more.length = rs2.length := rel2.length
  refine call_meetsIn PySem.F.slot_dict_update d1.typeIs PySem.F.entry_dict_update (PySem.F.args_dict_update_2 _ _) (meets_dict_update (mixKind X.prog X.w) d e ne lo2) ⟨rs1, rs2, d1, d2, by omega, fun h' d3 _ hs => ⟨.non, _, ?_, rfl, q⟩⟩
  have ex : ∃ q, h'.get? d = some q := let ⟨q, _, _, hq, _⟩ := d3; ⟨q, hq⟩
  exact d_write (t' := s.toks) I (by rw [hd]; exact True.intro) hs ex (dk_new (Nat.le_trans (length_mergeK _ _) sz) lo1 (KV.merge rel2 rel1) d3)
end
end TT
namespace TT
open PySem PySem.Spec PyProof.Rows L2
/-! ### storing at a key -/
section
variable {κ : Type} [DecidableEq κ] {C : Gl0} {G B H : Hp}
theorem putK_cons {q : κ} {w : V} {r : List (κ × V)} {k : κ} {v : V} : putK ((q, w) :: r) k v = if q = k then (q, v) :: r.map (fun kv => if kv.1 = k then (kv.1, v) else kv) else (q, w) :: putK r k v := by
  unfold putK
  by_cases e : q = k
  · simp [e]
  · rw [List.any_cons, if_neg e, decide_eq_false e, Bool.false_or, List.map_cons, if_neg e]
    split
    · rfl
    · rfl
theorem map_same {r : List (κ × V)} {k : κ} {v : V} (h : k ∉ r.map (·.1)) : r.map (fun kv => if kv.1 = k then (kv.1, v) else kv) = r := by
  induction r with
  | nil => rfl
  | cons p r ih =>
    rw [List.map_cons, List.mem_cons, not_or] at h
    rw [List.map_cons, if_neg (fun e => h.1 e.symm), ih h.2]
theorem putD_mem {k : κ} {d : D} : ∀ {ks : List κ} {vs : List D}, ∀ j, j ∈ (putD ks vs k d).1 → j = k ∨ j ∈ ks
  | [], [], j, h => by simp [putD] at h; exact .inl h
  | [], _ :: _, j, h => by simp [putD] at h; exact .inl h
  | q :: ks, [], j, h => by simp [putD] at h; exact .inl h
  | q :: ks, x :: vs, j, h => by
    unfold putD at h
    split at h
    · exact .inr h
    · rcases List.mem_cons.1 h with e | h
      · exact .inr (by rw [e]; exact List.mem_cons_self)
      · exact (putD_mem j h).imp id (List.mem_cons_of_mem _)
/-- the keys keep their order, each once -/
theorem putD_keys {k : κ} {d : D} : ∀ {ks : List κ} {vs : List D}, ks.length = vs.length → ks.Nodup → (putD ks vs k d).1.Nodup ∧ (putD ks vs k d).1.length = (putD ks vs k d).2.length
  | [], [], _, _ => ⟨by simp [putD], by simp [putD]⟩
  | [], _ :: _, h, _ => by simp at h
  | _ :: _, [], h, _ => by simp at h
  | q :: ks, x :: vs, hl, n => by
    obtain ⟨n1, n2⟩ := List.nodup_cons.1 n
    have ih := putD_keys (k := k) (d := d) (ks := ks) (vs := vs) (by simpa using hl) n2
    unfold putD
    split
    · exact ⟨n, by simpa using hl⟩
    · rename_i e
      refine ⟨List.nodup_cons.2 ⟨fun z => ?_, ih.1⟩, by simpa using ih.2⟩
      rcases putD_mem q z with z | z
      · exact e z
      · exact n1 z
theorem put_own {k : κ} {d : D} {v : V} {fd : List Addr} (o : Own C G B H d v fd) : ∀ {ks : List κ} {vs : List D} {ws : List V} {U : List Addr}, ks.length = vs.length → ks.Nodup → Owns C G B H vs ws U →
    ∃ ws' U', putK (ks.zip ws) k v = (putD ks vs k d).1.zip ws' ∧ Owns C G B H (putD ks vs k d).2 ws' U' ∧ (∀ a ∈ U', a ∈ U ∨ a ∈ fd) ∧ (U.Nodup → fd.Nodup → (∀ a ∈ fd, a ∉ U) → U'.Nodup)
  | [], [], ws, U, _, _, h => by
    obtain ⟨rfl, rfl⟩ := h
    exact ⟨[v], fd, rfl, ⟨v, [], fd, [], rfl, by simp, o, rfl, rfl⟩, fun a ha => .inr ha, fun _ n _ => n⟩
  | [], _ :: _, _, _, h, _, _ => by simp at h
  | _ :: _, [], _, _, h, _, _ => by simp at h
  | q :: ks, x :: vs, _, _, hl, n, h => by
    obtain ⟨w, wr, F1, F2, rfl, rfl, o1, o2⟩ := h
    obtain ⟨n1, n2⟩ := List.nodup_cons.1 n
    have hl' : ks.length = vs.length := by simpa using hl
    rw [List.zip_cons_cons, putK_cons]
    unfold putD
    by_cases e : q = k
    · rw [if_pos e, if_pos e]
      subst e
      refine ⟨v :: wr, fd ++ F2, ?_, ⟨v, wr, fd, F2, rfl, rfl, o, o2⟩, fun a ha => ?_, fun nu nf dj => ?_⟩
      · rw [map_same, List.zip_cons_cons]
        intro z
        obtain ⟨p, hp, e⟩ := List.mem_map.1 z
        have := List.of_mem_zip (a := p.1) (b := p.2) hp
        rw [e] at this
        exact n1 this.1
      · rcases List.mem_append.1 ha with z | z
        · exact .inr z
        · exact .inl (List.mem_append_right _ z)
      · obtain ⟨u1, u2, u3⟩ := List.nodup_append.1 nu
        exact List.nodup_append.2 ⟨nf, u2, fun a ha b hb e => dj a ha (List.mem_append_right _ (e ▸ hb))⟩
    · rw [if_neg e, if_neg e]
      obtain ⟨ws', U', e1, o3, s3, d3⟩ := put_own o hl' n2 o2
      refine ⟨w :: ws', F1 ++ U', ?_, ⟨w, ws', F1, U', rfl, rfl, o1, o3⟩, fun a ha => ?_, fun nu nf dj => ?_⟩
      · rw [e1]; rfl
      · rcases List.mem_append.1 ha with z | z
        · exact .inl (List.mem_append_left _ z)
        · exact (s3 a z).imp (List.mem_append_right _) id
      · obtain ⟨u1, u2, u3⟩ := List.nodup_append.1 nu
        refine List.nodup_append.2 ⟨u1, d3 u2 nf fun a ha z => dj a ha (List.mem_append_right _ z), fun a ha b hb e => ?_⟩
        subst e
        rcases s3 a hb with z | z
        · exact u3 a ha a z rfl
        · exact dj a z (List.mem_append_left _ ha)
end
section
variable {C : Gl0} {G B H : Hp}
theorem putF_own {k : Str} {d : D} {v : V} {fd : List Addr} (o : Own C G B H d v fd) : ∀ {ks : List Str} {vs : List D} {ws : List V} {U : List Addr}, ks.length = vs.length → Owns C G B H vs ws U →
    ∃ ws' U', putF k v (ks.zip ws) = (putD ks vs k d).1.zip ws' ∧ Owns C G B H (putD ks vs k d).2 ws' U' ∧ (∀ a ∈ U', a ∈ U ∨ a ∈ fd) ∧ (U.Nodup → fd.Nodup → (∀ a ∈ fd, a ∉ U) → U'.Nodup)
  | [], [], ws, U, _, h => by
    obtain ⟨rfl, rfl⟩ := h
    exact ⟨[v], fd, rfl, ⟨v, [], fd, [], rfl, by simp, o, rfl, rfl⟩, fun a ha => .inr ha, fun _ n _ => n⟩
  | [], _ :: _, _, _, h, _ => by simp at h
  | _ :: _, [], _, _, h, _ => by simp at h
  | q :: ks, x :: vs, _, _, hl, h => by
    obtain ⟨w, wr, F1, F2, rfl, rfl, o1, o2⟩ := h
    have hl' : ks.length = vs.length := by simpa using hl
    rw [List.zip_cons_cons]
    show ∃ ws' U', (if q = k then (q, v) :: ks.zip wr else (q, w) :: putF k v (ks.zip wr)) = _ ∧ _
    unfold putD
    by_cases e : q = k
    · rw [if_pos e, if_pos e]
      refine ⟨v :: wr, fd ++ F2, rfl, ⟨v, wr, fd, F2, rfl, rfl, o, o2⟩, fun a ha => ?_, fun nu nf dj => ?_⟩
      · rcases List.mem_append.1 ha with z | z
        · exact .inr z
        · exact .inl (List.mem_append_right _ z)
      · obtain ⟨u1, u2, u3⟩ := List.nodup_append.1 nu
        exact List.nodup_append.2 ⟨nf, u2, fun a ha b hb e => dj a ha (List.mem_append_right _ (e ▸ hb))⟩
    · rw [if_neg e, if_neg e]
      obtain ⟨ws', U', e1, o3, s3, d3⟩ := putF_own o hl' o2
      refine ⟨w :: ws', F1 ++ U', ?_, ⟨w, ws', F1, U', rfl, rfl, o1, o3⟩, fun a ha => ?_, fun nu nf dj => ?_⟩
      · rw [e1]; rfl
      · rcases List.mem_append.1 ha with z | z
        · exact .inl (List.mem_append_left _ z)
        · exact (s3 a z).imp (List.mem_append_right _) id
      · obtain ⟨u1, u2, u3⟩ := List.nodup_append.1 nu
        refine List.nodup_append.2 ⟨u1, d3 u2 nf fun a ha z => dj a ha (List.mem_append_right _ z), fun a ha b hb e => ?_⟩
        subst e
        rcases s3 a hb with z | z
        · exact u3 a ha a z rfl
        · exact dj a z (List.mem_append_left _ ha)
/-- several behind one another -/
theorem puts_own : ∀ {prs : List (Key × D)} {vs : List V} {V2 : List Addr} {ks : List Key} {xs : List D} {ws : List V} {U : List Addr}, ks.length = xs.length → ks.Nodup → Owns C G B H xs ws U → Owns C G B H (prs.map (·.2)) vs V2 →
    ∃ ws' U', mergeK (ks.zip ws) ((prs.map (·.1)).zip vs) = (putsD ks xs prs).1.zip ws' ∧ Owns C G B H (putsD ks xs prs).2 ws' U' ∧ (∀ a ∈ U', a ∈ U ∨ a ∈ V2) ∧ (U.Nodup → V2.Nodup → (∀ a ∈ V2, a ∉ U) → U'.Nodup) ∧ (putsD ks xs prs).1.Nodup ∧ (putsD ks xs prs).1.length = (putsD ks xs prs).2.length
  | [], vs, V2, ks, xs, ws, U, hl, n, o, o2 => by
    obtain ⟨rfl, rfl⟩ := o2
    exact ⟨ws, U, rfl, o, fun a ha => .inl ha, fun n _ _ => n, n, hl⟩
  | (k, d) :: prs, _, _, ks, xs, ws, U, hl, n, o, o2 => by
    obtain ⟨v, vr, F1, F2, rfl, rfl, o3, o4⟩ := o2
    obtain ⟨ws1, U1, e1, o5, s1, d1⟩ := put_own (k := k) o3 hl n o
    have kk := putD_keys (k := k) (d := d) hl n
    obtain ⟨ws2, U2, e2, o6, s2, d2, n2, l2⟩ := puts_own (prs := prs) kk.2 kk.1 o5 o4
    refine ⟨ws2, U2, ?_, o6, fun a ha => ?_, fun nu nv dj => ?_, n2, l2⟩
    · show mergeK (putK (ks.zip ws) k v) ((prs.map (·.1)).zip vr) = _
      rw [e1]; exact e2
    · rcases s2 a ha with z | z
      · exact (s1 a z).imp id (List.mem_append_left _)
      · exact .inr (List.mem_append_right _ z)
    · obtain ⟨u1, u2, u3⟩ := List.nodup_append.1 nv
      refine d2 (d1 nu u1 fun a ha => dj a (List.mem_append_left _ ha)) u2 fun a ha z => ?_
      rcases s1 a z with z | z
      · exact dj a (List.mem_append_right _ ha) z
      · exact u3 a z a ha rfl
/-- a new dict of one's own -/
theorem Res.dk {F : Fp} {U : List Addr} {es : List E} {ds : List D} {vs : List V} {Q : VK} {ks : List Key} {xs : List D} {kvs : List V} {U' : List Addr} {p : Addr} (P : Opd C G B H F es ds vs U) (q : Res C G B H F false U (.dk .own ks xs) Q) (hp : H p = none)
    (hl : ks.length = xs.length) (nk : ks.Nodup) (o : Owns C G B H xs kvs U') (n : U'.Nodup) (h : ∀ a ∈ U', a ∈ U) : Q (.ref p) (upd H p (.dK (ks.zip kvs))) := by
  obtain ⟨x, b1, bp⟩ := alloc_own (G := G) (o := .dK (ks.zip kvs)) P.bh hp
  refine q (.ref p) G B _ (p :: U') x P.gb b1 ⟨p, kvs, U', rfl, ⟨upd_same, bp⟩, x.owns o (fun _ _ z => z), rfl, trivial, hl, nk⟩ (List.nodup_cons.2 ⟨fun z => (o.fp p z).1 hp, n⟩) ?_
  rw [if_neg (by decide)]
  intro a ha
  rcases List.mem_cons.1 ha with e | e
  · rw [e]; exact .inl hp
  · exact .inr (h a e)
end
end TT
namespace TT
open PySem PySem.Spec PyProof.Rows L2
section
variable {X : Cx} {C : Gl0} {W : WX} {Γ : Gam}
theorem opD_ne {o : Op} {es : List E} {ds : List D} {G B H : Hp} {F : Fp} {vs : List V} {U : List Addr} (P : Opd C G B H F es ds vs U) : ds.length = es.length := P.vl.length
/-- a call of a built-in: no argument is a fault -/
theorem fn_okT {n : Str} {es : List E} {as : List Expr} {o : Op} {a : Expr} {bid : String} {r : List V → Hp → VK → Prop} (k : CxOk C Γ X) (hs : btCall Γ n a = some as) (hp : PEL X C W es as) (ho : CallR X (.builtin bid) r)
    (hv : bootBuiltins n = some (.builtin bid)) (hn : n ≠ "__name__") (hl : isLook o = false) (h0 : opD o [] = none) (hr : ∀ {G B H F U ds vs d Q}, Opd C G B H F es ds vs U → opD o ds = some d → Res C G B H F false U d Q → r vs H Q) : PE X a (tE C W (.op o es)) ∧ PT X a (tTst C W (.op o es)) := by
  have main : PE X a (tE C W (.op o es)) ∧ tstPlain a = true := by
    obtain ⟨x, p, pos, rfl, hb⟩ := btCall_some hs
    refine ⟨?_, rfl⟩
    cases as with
    | nil =>
      cases es with
      | nil =>
        refine ⟨fun pins s σ H Q I h => ?_⟩
        obtain ⟨s0, G, B, F, g, h⟩ := h
        unfold evE evEs at h
        have h : outE C W σ (.op o []) G B H F s0 (R.of (opD o []) s0) Q := h
        rw [h0] at h
        exact h.elim
      | cons e es => obtain ⟨_, _, q, _⟩ := hp; cases q
    | cons a0 as => exact fn_ok k hs hp ho hv hn hl hr
  exact ⟨main.1, pt_default k main.1 main.2⟩
theorem ty_okT {n : Str} {es : List E} {as : List Expr} {o : Op} {a : Expr} {bid : String} {r : List V → Hp → VK → Prop} (k : CxOk C Γ X) (hs : btCall Γ n a = some as) (hp : PEL X C W es as) (ho : CallR X (.type bid) r)
    (hv : bootBuiltins n = some (.type bid)) (hn : n ≠ "__name__") (hl : isLook o = false) (h0 : opD o [] = none) (hr : ∀ {G B H F U ds vs d Q}, Opd C G B H F es ds vs U → opD o ds = some d → Res C G B H F false U d Q → r vs H Q) : PE X a (tE C W (.op o es)) ∧ PT X a (tTst C W (.op o es)) := by
  have main : PE X a (tE C W (.op o es)) ∧ tstPlain a = true := by
    obtain ⟨x, p, pos, rfl, hb⟩ := btCall_some hs
    refine ⟨?_, rfl⟩
    cases as with
    | nil =>
      cases es with
      | nil =>
        refine ⟨fun pins s σ H Q I h => ?_⟩
        obtain ⟨s0, G, B, F, g, h⟩ := h
        unfold evE evEs at h
        have h : outE C W σ (.op o []) G B H F s0 (R.of (opD o []) s0) Q := h
        rw [h0] at h
        exact h.elim
      | cons e es => obtain ⟨_, _, q, _⟩ := hp; cases q
    | cons a0 as => exact ty_ok k hs hp ho hv hn hl hr
  exact ⟨main.1, pt_default k main.1 main.2⟩
theorem bin_okT {es : List E} {as : List Expr} {o : Op} {ao : Operator} {a : Expr} {r : R2} (k : CxOk C Γ X) (hs : binB ao a = some as) (hp : PEL X C W es as) (ho : OpR X (binaryOp ao) r)
    (hl : isLook o = false) (hv : ∀ {G B H F U ds vs d Q} {e f : E}, Opd C G B H F [e, f] ds vs U → opD o ds = some d → Res C G B H F false U d Q → Two vs r H Q) : PE X a (tE C W (.op o es)) ∧ PT X a (tTst C W (.op o es)) := by
  have main := bin_ok hs hp ho hl hv
  obtain ⟨_, _, _, rfl, _⟩ := binB_some hs
  exact ⟨main, pt_default k main rfl⟩
/-- one operand from many -/
theorem one_vs {vs : List V} {es : List E} {ds : List D} {d : D} {g : D → Option D} {G B H : Hp} {F : Fp} {U : List Addr} (P : Opd C G B H F es ds vs U) (h : un1 g ds = some d) : ∃ e, es = [e] := by
  have hl := P.vl.length
  unfold un1 at h
  split at h
  · match es, hl with
    | [e], _ => exact ⟨e, rfl⟩
  · cases h
theorem two_vs {vs : List V} {es : List E} {ds : List D} {d : D} {g : D → D → Option D} {G B H : Hp} {F : Fp} {U : List Addr} (P : Opd C G B H F es ds vs U) (h : bi2 g ds = some d) : ∃ e f, es = [e, f] := by
  have hl := P.vl.length
  unfold bi2 at h
  split at h
  · match es, hl with
    | [e, f], _ => exact ⟨e, f, rfl⟩
  · cases h
theorem both {a : Expr} {e : E} (k : CxOk C Γ X) (h : PE X a (tE C W e)) (p : tstPlain a = true) : PE X a (tE C W e) ∧ PT X a (tTst C W e) := ⟨h, pt_default k h p⟩
theorem hr_units (k : CxOk C Γ X) : X.A.units + 64 < cLine := k.room.units
theorem len2 {α : Type} {l : List α} (h : l.length = 2) : ∃ a b, l = [a, b] := by
  match l, h with
  | [a, b], _ => exact ⟨a, b, rfl⟩
theorem len3 {α : Type} {l : List α} (h : l.length = 3) : ∃ a b c, l = [a, b, c] := by
  match l, h with
  | [a, b, c], _ => exact ⟨a, b, c, rfl⟩
theorem pel_len : ∀ {es : List E} {as : List Expr}, PEL X C W es as → as.length = es.length
  | [], _, h => by obtain rfl : _ = [] := h; rfl
  | _ :: _, _, h => by
    obtain ⟨_, _, rfl, _, _, _, h2⟩ := h
    simp [pel_len h2]
theorem vl_one {e : E} {d : D} {vs : List V} {G B H : Hp} {F : Fp} {U : List Addr} (h : VL C G B H F [e] [d] vs U) : ∃ v fd, vs = [v] ∧ Own C G B H d v fd := by
  obtain ⟨d1, dr, v1, vr, fd1, U1, e1, rfl, o1, _, h, _⟩ := h
  obtain ⟨rfl, rfl⟩ := List.cons.inj e1
  obtain ⟨_, rfl, _⟩ := h
  exact ⟨v1, fd1, rfl, o1⟩
theorem vl_two {e f : E} {d d' : D} {vs : List V} {G B H : Hp} {F : Fp} {U : List Addr} (h : VL C G B H F [e, f] [d, d'] vs U) : ∃ v v' fd fd', vs = [v, v'] ∧ Own C G B H d v fd ∧ Own C G B H d' v' fd' := by
  obtain ⟨d1, dr, v1, vr, fd1, U1, e1, rfl, o1, _, h, _⟩ := h
  obtain ⟨rfl, rfl⟩ := List.cons.inj e1
  obtain ⟨v, fd, rfl, o⟩ := vl_one h
  exact ⟨v1, v, fd1, fd, rfl, o1, o⟩
theorem vl_three {e f g : E} {d d' d'' : D} {vs : List V} {G B H : Hp} {F : Fp} {U : List Addr} (h : VL C G B H F [e, f, g] [d, d', d''] vs U) : ∃ v v' v'' fd fd' fd'', vs = [v, v', v''] ∧ Own C G B H d v fd ∧ Own C G B H d' v' fd' ∧ Own C G B H d'' v'' fd'' := by
  obtain ⟨d1, dr, v1, vr, fd1, U1, e1, rfl, o1, _, h, _⟩ := h
  obtain ⟨rfl, rfl⟩ := List.cons.inj e1
  obtain ⟨v, v', fd, fd', rfl, o, o'⟩ := vl_two h
  exact ⟨v1, v, v', fd1, fd, fd', rfl, o1, o, o'⟩
theorem vl_len : ∀ {es : List E} {ds : List D} {vs : List V} {G B H : Hp} {F : Fp} {U : List Addr}, VL C G B H F es ds vs U → ds.length = es.length
  | [], _, _, _, _, _, _, _, h => by obtain ⟨rfl, _⟩ := h; rfl
  | _ :: _, _, _, _, _, _, _, _, h => by
    obtain ⟨_, _, _, _, _, _, rfl, _, _, _, h, _⟩ := h
    simp [vl_len h]
abbrev rSlAll (K : PySem.W.Frag) : V → Option Int → Option Int → Hp → VK → Prop := fun x lo hi H Q => rSlL K x lo hi H Q ∨ (rSlA K x lo hi H Q ∨ rSlS x lo hi H Q)
theorem part_int {d : D} {i : Int} (h : partD d = some i) : d = .int i := by
  unfold partD at h
  split at h <;> cases h
  rfl
theorem tE_int {i : Int} {σ : L2.St} {H : Hp} {Q : VK} (h : tE C W (.c (.int i)) σ H Q) : tE C W (.c (.int i)) σ H fun y H2 => y = .int i ∧ Q y H2 := by
  obtain ⟨s, G, B, F, g, h⟩ := h
  refine ⟨s, G, B, F, g, ?_⟩
  have e : evE (.c (.int i)) s = .ok (.int i) s := by unfold evE; rfl
  rw [e] at h ⊢
  exact fun v G1 B1 H1 F1 fd p => ⟨p.own.1, h v G1 B1 H1 F1 fd p⟩
theorem three_sl {es : List E} {a b c : Expr} (h : PEL X C W es [a, b, c]) : ∃ e f g, es = [e, f, g] ∧ PE X a (tE C W e) ∧ PE X b (tE C W f) ∧ PE X c (tE C W g) ∧ (isPl e = true → effs [f, g] = false) ∧ (isPl f = true → effs [g] = false) := by
  cases es with
  | nil => cases h
  | cons e es =>
    obtain ⟨_, _, q, n, k, p, h⟩ := h
    obtain ⟨rfl, rfl⟩ := List.cons.inj q
    obtain ⟨f, g, rfl, p2, p3, k2⟩ := two_of h
    exact ⟨e, f, g, rfl, p, p2, p3, k, k2⟩
theorem sl_ok {lo hi : Bool} {es : List E} {as : List Expr} {a : Expr} (k : CxOk C Γ X) (hst : opSt (.sl lo hi) es = true) (hs : shape Γ (.sl lo hi) a = some as) (hp : PEL X C W es as) : PE X a (tE C W (.op (.sl lo hi) es)) := by
  have hr : SlR X (rSlAll C.K) := by
    have := (sl_list (X := X)).or ((sl_tupA (X := X)).or (sl_str (X := X)))
    rw [k.K] at this
    exact this
  unfold shape at hs
  simp only at hs
  split at hs
  · rename_i x l h p p2
    split at hs <;> cases hs
    rename_i hb
    simp only [Bool.and_eq_true, beq_iff_eq] at hb
    obtain ⟨rfl, rfl⟩ := hb
    cases l with
    | none =>
      cases h with
      | none =>
        obtain ⟨e, rfl, p1⟩ := one_of hp
        refine pe_imp (pe_slice hr p1 po_none po_none) fun σ H Q z => t_one (op_step z fun ds vs G1 B1 H1 F1 U d P e1 q => ?_)
        obtain ⟨d0, v0, fd, rfl, rfl, o, _, _⟩ := P.one
        exact ⟨v0, rfl, v_sl P.gb P.bh P o e1 q⟩
      | some j =>
        obtain ⟨e, f, rfl, p1, p2, pp⟩ := two_of hp
        refine pe_imp (pe_slice hr p1 po_none (po_some p2)) fun σ H Q z => t_two (Q := fun x y H2 => ∃ i, y = .int i ∧ rSlAll C.K x none (some i) H2 Q) pp (op_step z fun ds vs G1 B1 H1 F1 U d P e1 q => ?_)
        obtain ⟨d0, d1, rfl⟩ := len2 (vl_len P.vl)
        obtain ⟨v0, v1, fd, fd1, rfl, o, o1⟩ := vl_two P.vl
        replace e1 : ((partD d1).bind fun j => slD d0 none (some j)) = some d := e1
        cases e2 : partD d1 with
        | none => rw [e2] at e1; cases e1
        | some i =>
          rw [e2] at e1
          obtain rfl := part_int e2
          exact ⟨v0, v1, rfl, i, o1.1, v_sl P.gb P.bh P o e1 q⟩
    | some j =>
      cases h with
      | none =>
        obtain ⟨e, f, rfl, p1, p2, pp⟩ := two_of hp
        refine pe_imp (pe_slice hr p1 (po_some p2) po_none) fun σ H Q z => t_two (Q := fun x y H2 => ∃ i, y = .int i ∧ rSlAll C.K x (some i) none H2 Q) pp (op_step z fun ds vs G1 B1 H1 F1 U d P e1 q => ?_)
        obtain ⟨d0, d1, rfl⟩ := len2 (vl_len P.vl)
        obtain ⟨v0, v1, fd, fd1, rfl, o, o1⟩ := vl_two P.vl
        replace e1 : ((partD d1).bind fun j => slD d0 (some j) none) = some d := e1
        cases e2 : partD d1 with
        | none => rw [e2] at e1; cases e1
        | some i =>
          rw [e2] at e1
          obtain rfl := part_int e2
          exact ⟨v0, v1, rfl, i, o1.1, v_sl P.gb P.bh P o e1 q⟩
      | some j2 =>
        obtain ⟨e, f, g, rfl, p1, p2, p3, pp, pq⟩ := three_sl hp
        obtain ⟨n, rfl⟩ : ∃ n, f = .c (.int n) := by
          simp only [opSt, Option.isSome_some, Bool.and_self, Bool.not_true, Bool.false_or] at hst
          unfold lowC at hst
          split at hst
          · rename_i q
            simp only [List.cons.injEq, and_true] at q
            exact ⟨_, q.2.1⟩
          · cases hst
        refine pe_imp (pe_slice hr p1 (po_some p2) (po_some p3)) fun σ H Q z => ?_
        refine (tL.cons pp (op_step z (r := fun vs H1 => ∃ x y w, vs = [x, y, w] ∧ ∃ i, y = .int i ∧ ∃ j, w = .int j ∧ rSlAll C.K x (some i) (some j) H1 Q) fun ds vs G1 B1 H1 F1 U d P e1 q => ?_)).mono fun x H1 z => (tE_int (tL.cons pq z)).mono fun y H2 z2 => ⟨n, z2.1, (tL.cons (fun _ => rfl) z2.2).mono fun w H3 z3 => ?_⟩
        · obtain ⟨d0, d1, d2, rfl⟩ := len3 (vl_len P.vl)
          obtain ⟨v0, v1, v2, fd, fd1, fd2, rfl, o, o1, o2⟩ := vl_three P.vl
          replace e1 : ((partD d1).bind fun i => (partD d2).bind fun j => slD d0 (some i) (some j)) = some d := e1
          cases e2 : partD d1 with
          | none => rw [e2] at e1; cases e1
          | some i =>
            cases e3 : partD d2 with
            | none => rw [e2, e3] at e1; cases e1
            | some j =>
              rw [e2, e3] at e1
              obtain rfl := part_int e2
              obtain rfl := part_int e3
              exact ⟨v0, v1, v2, rfl, i, o1.1, j, o2.1, v_sl P.gb P.bh P o e1 q⟩
        · obtain ⟨x', y', w', e, i, ei, j, e2, q⟩ := z3.nil
          simp only [List.cons.injEq, and_true] at e
          obtain ⟨e1, e3, e4⟩ := e
          have en := z2.1
          rw [e3, ei] at en
          cases en
          rw [e1, e4]
          exact ⟨j, e2, q⟩
  · cases hs
theorem owns_rev {G B H : Hp} : ∀ {xs : List D} {ws : List V}, Owns C G B H xs ws [] → Owns C G B H xs.reverse ws.reverse [] := by
  have snoc : ∀ {ys : List D} {vs : List V} {y : D} {v : V}, Own C G B H y v [] → Owns C G B H ys vs [] → Owns C G B H (ys ++ [y]) (vs ++ [v]) [] := by
    intro ys
    induction ys with
    | nil =>
      intro vs y v o2 o
      obtain ⟨rfl, _⟩ := o
      exact ⟨v, [], [], [], rfl, rfl, o2, rfl, rfl⟩
    | cons x xs ih =>
      intro vs y v o2 o
      obtain ⟨w, vr, F1, F2, rfl, e, o1, o3⟩ := o
      obtain ⟨rfl, rfl⟩ := List.append_eq_nil_iff.1 e.symm
      exact ⟨w, vr ++ [v], [], [], rfl, rfl, o1, ih o2 o3⟩
  intro xs
  induction xs with
  | nil =>
    intro ws o
    obtain ⟨rfl, _⟩ := o
    exact ⟨rfl, rfl⟩
  | cons x xs ih =>
    intro ws o
    obtain ⟨w, vr, F1, F2, rfl, e, o1, o3⟩ := o
    obtain ⟨rfl, rfl⟩ := List.append_eq_nil_iff.1 e.symm
    rw [List.reverse_cons, List.reverse_cons]
    exact snoc o1 (ih o3)
theorem rev_ok {es : List E} {as : List Expr} {a : Expr} (k : CxOk C Γ X) (hs : shape Γ .rev a = some as) (hp : PEL X C W es as) : PE X a (tE C W (.op .rev es)) := by
  unfold shape at hs
  simp only at hs
  split at hs <;> cases hs
  obtain ⟨e, rfl, p1⟩ := one_of hp
  refine pe_imp (pe_revL p1) fun σ H Q z => t_one (op_step z fun ds vs G1 B1 H1 F1 U d P e1 q => ?_)
  obtain ⟨d0, v0, fd, rfl, rfl, o, _, _⟩ := P.one
  refine ⟨v0, rfl, ?_⟩
  replace e1 : revD d0 = some d := e1
  unfold revD at e1
  split at e1
  · split at e1 <;> cases e1
    rename_i hs
    obtain ⟨a, ws, F', rfl, ea, oa, ef, _⟩ := o.lstAt P.gb P.bh
    obtain rfl := oa.nil hs.1
    exact ⟨a, ws, rfl, .inl (.inl ea), fun p hp => q.lst P hp (owns_rev oa) List.nodup_nil fun _ z => nomatch z⟩
  · cases e1
/-! methods of texts, of one operand -/
theorem pel_tail0 {e : E} {es : List E} {a : Expr} {as : List Expr} (h : PEL X C W (e :: es) (a :: as)) : notStar a = true ∧ PEL X C W es as := by
  obtain ⟨_, _, q, n1, _, _, h2⟩ := h
  obtain ⟨rfl, rfl⟩ := List.cons.inj q
  exact ⟨n1, h2⟩
theorem PostL.nil {σ : L2.St} {G B H : Hp} {F : Fp} {s : List D} (g : Good C G B H F s σ) : PostL C σ [] G B H F s [] s [] G B H F [] :=
  { good := g, ext := (Ext.refl (P := inF F)).imp (fun _ z => z) (fun a z => .inl (z.elim id fun z => nomatch z)), vl := ⟨rfl, rfl, rfl⟩, nd := List.nodup_nil, np := (fun _ z => nomatch z), pure := fun _ => ⟨rfl, rfl, fun _ _ z => z⟩ }
/-- behind the operands of a method -/
theorem mth_res {o : Op} {e : E} {es : List E} {σ : L2.St} {Q : VK} {G B H G1 B1 H1 : Hp} {F F1 : Fp} {s s1 : List D} {ds : List D} {d : D} {vs : List V} {U : List Addr} (p : PostL C σ (e :: es) G B H F s ds s1 vs G1 B1 H1 F1 U)
    (h : ∀ v G' B' H' F' fd, PostE C σ (.mth o e es) G B H F s d s1 v G' B' H' F' fd → Q v H') : Res C G1 B1 H1 F1 false U d Q := fun v G' B' H' fd x gb bh own nd src => h v G' B' H' F1 fd (by
      rw [if_neg (by decide)] at src
      refine { good := p.good.alloc x gb bh, ext := p.ext.trans (x.to fun a z => ?_), own := own, nd := nd, pl := fun q => by simp [isPl] at q, np := fun q a ha z => ?_, pure := fun q => ?_ }
      · rcases z with z | z
        · exact .inl (.inl z)
        · rcases src a z with z | z
          · exact .inr z
          · exact .inl (.inr z)
      · rcases src a ha with y | y
        · exact (p.good.inF z).1 y
        · exact p.np a y z
      · obtain ⟨e1, e2, k⟩ := p.pure (by simpa [eff, effs] using q)
        exact ⟨e1, e2, fun a o z => x.keep a o (k a o z) fun z => z⟩)
/-- a method of a built-in type -/
theorem bmN {o : Op} {e : E} {es : List E} {ty : V → Hp → Prop} {r : V → List V → Hp → VK → Prop} {σ : L2.St} {H : Hp} {Q : VK} (hp : isPl e = true → effs es = false) (h : tE C W (.mth o e es) σ H Q)
    (hty : ∀ d0, rcvOk o d0 = true → ∀ v fd G B H, Sb G B → Sb B H → Own C G B H d0 v fd → ty v H)
    (hr : ∀ {ds vs G1 B1 H1 F1 U d}, Opd C G1 B1 H1 F1 (e :: es) ds vs U → opD o ds = some d → Res C G1 B1 H1 F1 false U d Q → ∃ x ys, vs = x :: ys ∧ r x ys H1 Q) : tE C W e σ H fun x H1 => ty x H1 ∧ tL C W es σ H1 fun xs H2 => r x xs H2 Q := by
  obtain ⟨s, G, B, F, g, h⟩ := h
  replace h : outE C W σ (.mth o e es) G B H F s ((evE e s).bind fun d0 s1 => if rcvOk o d0 then (evEs es s1).bind fun ds s2 => R.of (opD o (d0 :: ds)) s2 else .bad) Q := by unfold evE at h; exact h
  refine ⟨s, G, B, F, g, ?_⟩
  cases e1 : evE e s with
  | bad => rw [e1] at h; exact h
  | exc c fs xs s' => rw [e1] at h; exact h
  | ok d0 s1 =>
    rw [e1] at h
    replace h : outE C W σ (.mth o e es) G B H F s (if rcvOk o d0 then (evEs es s1).bind fun ds s2 => R.of (opD o (d0 :: ds)) s2 else .bad) Q := h
    split at h
    case isFalse => exact h.elim
    rename_i hk
    intro v G1 B1 H1 F1 fd p
    refine ⟨hty d0 hk v fd G1 B1 H1 p.good.gb p.good.bh p.own, s1, G1, B1, F1, p.good, ?_⟩
    cases e2 : evEs es s1 with
    | bad => rw [e2] at h; exact h.elim
    | exc c fs xs s' =>
      rw [e2] at h
      exact outX.from p.ext (fun a z => .inl z) h
    | ok ds s2 =>
      rw [e2] at h
      replace h : outE C W σ (.mth o e es) G B H F s (R.of (opD o (d0 :: ds)) s2) Q := h
      cases e3 : opD o (d0 :: ds) with
      | none => rw [e3] at h; exact h.elim
      | some d =>
        rw [e3] at h
        intro ws G2 B2 H2 F2 U1 q1
        obtain ⟨U2, q2⟩ := PostL.cons hp p q1
        obtain ⟨x, ys, e4, z⟩ := hr ⟨q2.good.gb, q2.good.bh, q2.vl, q2.nd⟩ e3 (mth_res q2 h)
        obtain ⟨rfl, rfl⟩ := List.cons.inj e4
        exact z
theorem bmT {o : Op} {e : E} {es : List E} {T : String} {r : V → List V → Hp → VK → Prop} {σ : L2.St} {H : Hp} {Q : VK} (hp : isPl e = true → effs es = false) (h : tE C W (.mth o e es) σ H Q)
    (hty : ∀ d0, rcvOk o d0 = true → ∀ v fd G B H, Sb G B → Sb B H → Own C G B H d0 v fd → tyV C.K T v H)
    (hr : ∀ {ds vs G1 B1 H1 F1 U d}, Opd C G1 B1 H1 F1 (e :: es) ds vs U → opD o ds = some d → Res C G1 B1 H1 F1 false U d Q → ∃ x ys, vs = x :: ys ∧ r x ys H1 Q) : tBM C.K T r (tE C W e) (tL C W es) σ H Q :=
  bmN (ty := tyV C.K T) hp h hty hr
theorem rcv_str {o : Op} {d : D} (ho : o = .part ∨ o = .find ∨ o = .join) (h : rcvOk o d = true) {v : V} {fd : List Addr} {G B H : Hp} (w : Own C G B H d v fd) : tyV C.K "str" v H := by
  rcases ho with rfl | rfl | rfl <;> (cases d <;> first | (simp [rcvOk] at h; done) | (obtain ⟨rfl, _⟩ := w; rfl))
theorem strs_own {G B H : Hp} : ∀ {xs : List D} {ws : List V} {U : List Addr} {ys : List Str}, strsOf xs = some ys → Owns C G B H xs ws U → ws = ys.map V.str
  | [], _, _, _, h, o => by
    cases h
    obtain ⟨rfl, _⟩ := o
    rfl
  | x :: xs, _, _, _, h, o => by
    obtain ⟨w, vr, F1, F2, rfl, e, o1, o3⟩ := o
    unfold strsOf at h
    split at h
    · rename_i q; cases q
    · rename_i b xs' q
      cases q
      cases e2 : strsOf xs with
      | none => rw [e2] at h; cases h
      | some zs =>
        rw [e2] at h
        cases h
        rw [o1.1, strs_own e2 o3]
        rfl
    · cases h
theorem hd_of {es : List E} {as : List Expr} (h : PEL X C W es as) (n : as.length = 1) : ∃ y f, as = [y] ∧ es = [f] ∧ notStar y = true ∧ PE X y (tE C W f) := by
  obtain ⟨y, rfl⟩ := List.length_eq_one_iff.1 n
  obtain ⟨f, rfl, p2⟩ := one_of h
  exact ⟨y, f, rfl, rfl, (pel_tail0 h).1, p2⟩
theorem few_ok {es : List E} {as : List Expr} (h : PEL X C W es as) (hl : as.length < 29) (pos : Pos) (env : Env) : ((backTo pos (starEach as env)).all (fun x => !x.1) && (backToKw pos (keywordEach [] env)).all (fun x => x.1.isSome)
      && decide (as.length + ([] : List Keyword).length + (if ([] : List Keyword).isEmpty then 0 else 1) < 30)) = true := by
  have h1 : (backTo pos (starEach as env)).all (fun x => !x.1) = true := by
    have z := stars_ok h pos env
    rw [List.any_eq_false] at z
    rw [List.all_eq_true]
    intro x hx
    have := z x hx
    simpa using this
  rw [h1]
  simp [keywordEach, backToKw]
  omega
theorem mth_ok {o : Op} {e : E} {es : List E} {x a : Expr} {as : List Expr} (k : CxOk C Γ X) (hs : mthB o a = some (x, as)) (hl : as.length = mthA o) (pe : PE X x (tE C W e)) (hpl : isPl e = true → effs es = false) (hp : PEL X C W es as) : PE X a (tE C W (.mth o e es)) ∧ tstPlain a = true := by
  unfold mthB at hs
  split at hs
  · rename_i x' m ap as' cp
    split at hs <;> cases hs
    rename_i hc
    simp only [Bool.and_eq_true, decide_eq_true_eq] at hc
    obtain ⟨⟨hm, hn⟩, hline⟩ := hc
    refine ⟨?_, rfl⟩
    have hb : ∀ (m : Str) env, attributeBase x m env (eval x env) = eval x env := fun m env => base_ok hn m env _
    have hst : ∀ y, as = [y] → starEach as X.env = (false, eval y X.env) :: starEach [] X.env := fun y hy => by
      subst hy
      exact star_ok (pel_tail0 (e := es.headD (.c .non)) (es := []) (as := []) (by
        obtain ⟨f, rfl, _⟩ := one_of hp
        exact hp)).1
    unfold mthN at hm
    split at hm <;> cases hm
    · obtain ⟨y, f, rfl, rfl, ns, p2⟩ := hd_of hp hl
      refine pe_imp (pe_bm PySem.F.plainAttrs_str PySem.F.slot_str_partition PySem.F.type_str_partition mt_partition pe (pa_of hp) (hb _ _) (few_ok hp (by show 1 < 29; decide) _ _) hline (star_ok ns) (by rfl)) fun σ H Q z => ?_
      rw [k.K]
      refine bmT hpl z (fun d0 h v fd G B H _ _ w => rcv_str (.inl rfl) h w) fun {ds vs G1 B1 H1 F1 U d} P e3 q => ?_
      replace e3 : bi2 txtPart ds = some d := e3
      obtain ⟨d0, d1, rfl⟩ := len2 (vl_len P.vl)
      obtain ⟨v, w, fd, fd1, rfl, o0, o1⟩ := vl_two P.vl
      replace e3 : txtPart d0 d1 = some d := e3
      unfold txtPart at e3
      split at e3
      · split at e3 <;> cases e3
        rename_i hh
        obtain ⟨rfl, _⟩ := o0
        obtain ⟨rfl, _⟩ := o1
        exact ⟨_, _, rfl, _, _, rfl, rfl, hh.1, hh.2, fun p hp => q.tupS P hp ⟨rfl, rfl⟩ ⟨_, _, [], [], rfl, rfl, ⟨rfl, rfl⟩, _, _, [], [], rfl, rfl, ⟨rfl, rfl⟩, _, _, [], [], rfl, rfl, ⟨rfl, rfl⟩, rfl, rfl⟩⟩
      · cases e3
    · obtain ⟨y, f, rfl, rfl, ns, p2⟩ := hd_of hp hl
      refine pe_imp (pe_bm PySem.F.plainAttrs_str PySem.F.slot_str_find PySem.F.type_str_find mt_find pe (pa_of hp) (hb _ _) (few_ok hp (by show 1 < 29; decide) _ _) hline (star_ok ns) (by rfl)) fun σ H Q z => ?_
      rw [k.K]
      refine bmT hpl z (fun d0 h v fd G B H _ _ w => rcv_str (.inr (.inl rfl)) h w) fun {ds vs G1 B1 H1 F1 U d} P e3 q => ?_
      obtain ⟨d0, d1, rfl⟩ := len2 (vl_len P.vl)
      obtain ⟨v, w, fd, fd1, rfl, o0, o1⟩ := vl_two P.vl
      replace e3 : txtFind d0 d1 = some d := e3
      unfold txtFind at e3
      split at e3
      · cases e3
        obtain ⟨rfl, _⟩ := o0
        obtain ⟨rfl, _⟩ := o1
        exact ⟨_, _, rfl, _, _, rfl, rfl, q.now P ⟨rfl, rfl⟩⟩
      · cases e3
    · obtain ⟨y, f, rfl, rfl, ns, p2⟩ := hd_of hp hl
      refine pe_imp (pe_bm PySem.F.plainAttrs_str PySem.F.slot_str_join PySem.F.type_str_join mt_join pe (pa_of hp) (hb _ _) (few_ok hp (by show 1 < 29; decide) _ _) hline (star_ok ns) (by rfl)) fun σ H Q z => ?_
      rw [k.K]
      refine bmT hpl z (fun d0 h v fd G B H _ _ w => rcv_str (.inr (.inr rfl)) h w) fun {ds vs G1 B1 H1 F1 U d} P e3 q => ?_
      obtain ⟨d0, d1, rfl⟩ := len2 (vl_len P.vl)
      obtain ⟨v, w, fd, fd1, rfl, o0, o1⟩ := vl_two P.vl
      replace e3 : txtJoin d0 d1 = some d := e3
      unfold txtJoin at e3
      split at e3
      · rename_i a0 fl xs
        cases e4 : strsOf xs with
        | none => rw [e4] at e3; cases e3
        | some ys =>
          rw [e4] at e3
          replace e3 : (if (ys.map (·.length)).sum + ys.length * a0.length ≤ 16777216 then some (D.str (Txt.join a0 ys)) else none) = some d := e3
          split at e3 <;> cases e3
          rename_i hh
          obtain ⟨rfl, _⟩ := o0
          obtain ⟨b, ws, F', rfl, ha, oo, _, _⟩ := o1.lstAt P.gb P.bh
          obtain rfl := strs_own e4 oo
          exact ⟨_, _, rfl, _, b, ys, rfl, rfl, .inl (.inl (.inl ha)), hh, q.now P ⟨rfl, rfl⟩⟩
      · cases e3
    · obtain ⟨y, f, rfl, rfl, ns, p2⟩ := hd_of hp hl
      have hu : X.A.units + 65 < cLine := by have h2 := k.room.un; omega
      refine pe_imp (pe_bm PySem.F.plainAttrs_list PySem.F.slot_list_index PySem.F.type_list_index (mt_indexD hu) pe (pa_of hp) (hb _ _) (few_ok hp (by show 1 < 29; decide) _ _) hline (star_ok ns) (by rfl)) fun σ H Q z => ?_
      rw [k.K]
      refine bmT hpl z (fun d0 h v fd G B H gb bh w => ?_) fun {ds vs G1 B1 H1 F1 U d} P e3 q => ?_
      · unfold rcvOk at h
        split at h <;> try cases h
        all_goals first
          | (rename_i q; cases q; done)
          | (obtain ⟨a, ws, F', rfl, ea, _⟩ := w.lstAt gb bh; exact .inl ⟨rfl, _, SqL.of ea⟩)
      · obtain ⟨d0, d1, rfl⟩ := len2 (vl_len P.vl)
        obtain ⟨v, w, fd, fd1, rfl, o0, o1⟩ := vl_two P.vl
        replace e3 : idxD d0 d1 = some d := e3
        unfold idxD at e3
        split at e3
        · rename_i fl xs
          split at e3
          · rename_i hh
            rw [Option.map_eq_some_iff] at e3
            obtain ⟨j, e3, rfl⟩ := e3
            have dl : isDat (.lst .own xs) = true := dat_of hh.2
            obtain ⟨a, ws, F', rfl, ea, oa, _⟩ := id (o0.lstAt P.gb P.bh)
            have hl : Dp C.K H1 (.ref a) (.list (toPys xs)) := .lst (SqL.of ea) (dps_of P.gb P.bh dl oa)
            have hx := dp_of P.gb P.bh (dat_of hh.1) o1
            rw [List.findIdx?_eq_some_iff_getElem] at e3
            obtain ⟨hj, h1, h2⟩ := e3
            have tg : ∀ (zs : List D) (m : Nat), (toPys zs)[m]? = (zs[m]?).map toPy := fun zs => by
              induction zs with
              | nil => intro m; rfl
              | cons z zs ih => intro m; cases m with
                | zero => rfl
                | succ m => exact ih m
            have dk : ∀ (zs : List D), isDats zs = true → ∀ z ∈ zs, isDat z = true := fun zs => by
              induction zs with
              | nil => intro _ z hz; cases hz
              | cons z zs ih =>
                intro hd z' hz'
                simp only [isDats, Bool.and_eq_true] at hd
                rcases List.mem_cons.1 hz' with e | e
                · rw [e]; exact hd.1
                · exact ih hd.2 z' e
            have dl2 : isDats xs = true := dl
            refine ⟨_, _, rfl, a, w, toPy d1, toPys xs, j, toPy xs[j], rfl, rfl, hl, hx, shaped_py (x := .lst .own xs) hh.2, shaped_py hh.1, by rw [tg]; simp [hj], ?_, fun m z' hm hz => ?_, q.now P ⟨rfl, rfl⟩⟩
            · rw [← eqv_py _ _ (dk xs dl2 _ (List.getElem_mem hj)) (dat_of hh.1)]
              exact h1
            · rw [tg] at hz
              have hmj : m < xs.length := by omega
              rw [List.getElem?_eq_getElem hmj] at hz
              cases hz
              rw [← eqv_py _ _ (dk xs dl2 _ (List.getElem_mem hmj)) (dat_of hh.1)]
              simpa using h2 m hm
          · cases e3
        · cases e3
    · obtain ⟨y, z, rfl⟩ := len2 hl
      obtain ⟨f, g, rfl, p2, p3, pp⟩ := two_of hp
      have n1 := (pel_tail0 hp).1
      have n2 := (pel_tail0 (pel_tail0 hp).2).1
      have hu : X.A.units + 1 < cLine := hu_of k.room
      have tr : backTo cp (starEach [y, z] X.env) = [(false, eval y X.env), (false, eval z X.env)] := by
        rw [star_ok n1, star_ok n2]; rfl
      refine pe_imp (pe_dget2 hu pe p2 p3 ⟨hb _ _, few_ok hp (by show 2 < 29; decide) _ _, hline, tr⟩) fun σ H Q h => ?_
      have key := bmN (ty := fun x H => ∃ a, x = V.ref a ∧ IsD H a) (r := fun x ys H Q => ∃ y z, ys = [y, z] ∧ ∃ a o, x = V.ref a ∧ DGet H a y o ∧ Q (o.getD z) H) hpl h ?_ ?_
      · refine key.mono fun x H1 q => ?_
        obtain ⟨⟨a, rfl, d⟩, q⟩ := q
        refine ⟨a, rfl, d, t_two pp (q.mono fun vs H2 q => ?_)⟩
        obtain ⟨y', z', rfl, b, o, eb, q⟩ := q
        cases eb
        exact ⟨y', z', rfl, o, q⟩
      · intro d0 h v fd G B H gb bh w
        unfold rcvOk at h
        split at h <;> try cases h
        all_goals first
          | (rename_i q; cases q; done)
          | (obtain ⟨a, ws, F', rfl, h1, _⟩ := w; first | exact ⟨a, rfl, .inl ⟨_, h1.viewD gb bh⟩⟩ | exact ⟨a, rfl, .inr ⟨_, h1.viewD gb bh⟩⟩)
      · intro ds vs G1 B1 H1 F1 U d P e3 q
        obtain ⟨d0, d1, d2, rfl⟩ := len3 (vl_len P.vl)
        obtain ⟨v, w, u, fd, fd1, fd2, rfl, o0, o1, o2⟩ := vl_three P.vl
        replace e3 : getD2 d0 d1 d2 = some d := e3
        refine ⟨v, [w, u], rfl, w, u, rfl, ?_⟩
        have fin : ∀ {κ : Type} [DecidableEq κ] {ks : List κ} {xs : List D} {ws : List V} {F' : List Addr} (kk : κ), Owns C G1 B1 H1 xs ws F' → ks.length = xs.length → noOwn ((dget ks xs kk).getD d2) = true → live ((dget ks xs kk).getD d2) = some d → Q ((valV (ks.zip ws) kk).getD u) H1 := by
          intro κ _ ks xs ws F' kk oa hl hn hd
          obtain rfl := live_some hd
          cases e : dget ks xs kk with
          | none =>
            rw [e] at hn q
            have e2 : valV (ks.zip ws) kk = none := by
              rw [Option.eq_none_iff_forall_ne_some]
              intro x hx
              have z1 := valV_any kk (ks.zip ws)
              rw [hx, zip_any kk (by rw [hl, oa.length])] at z1
              have z2 : (dget ks xs kk).isSome = true := by
                unfold dget
                rw [Option.isSome_map, List.find?_isSome]
                obtain ⟨y, hy, ey⟩ := List.any_eq_true.1 (z1.trans rfl)
                obtain ⟨n, hn, rfl⟩ := List.getElem_of_mem hy
                refine ⟨(ks[n], xs[n]), ?_, ey⟩
                rw [List.mem_iff_getElem]
                exact ⟨n, by simp; omega, by simp⟩
              rw [e] at z2; cases z2
            rw [e2]
            obtain rfl := Own.nil hn o2
            exact q.now P o2
          | some x =>
            rw [e] at hn q
            obtain ⟨v', fdk, h3, o3, _⟩ := find_zip kk oa hl e
            rw [h3]
            obtain rfl := Own.nil hn o3
            exact q.now P o3
        unfold getD2 at e3
        split at e3
        · cases e4 : keyOf d1 with
          | none => rw [e4] at e3; cases e3
          | some kk =>
            rw [e4] at e3
            replace e3 : (if noOwn _ then live _ else none) = some d := e3
            split at e3
            · rename_i hn
              obtain ⟨a, ws, F', rfl, h1, oa, ef, _, hl, nd⟩ := o0
              have g := dget_rd (k := kk) (h1.viewD P.gb P.bh)
              rw [← keyOf_v e4 o1] at g
              exact ⟨a, _, rfl, g, fin kk oa hl hn e3⟩
            · cases e3
        · split at e3
          · rename_i hn
            obtain ⟨a, ws, F', rfl, h1, oa, ef, _, hl, nd⟩ := o0
            obtain ⟨b, rfl, eb, _⟩ := kup_at P.gb P.bh o1
            exact ⟨a, _, rfl, .inr ⟨_, _, b, h1.viewD P.gb P.bh, rfl, eb, rfl⟩, fin _ oa hl hn e3⟩
          · cases e3
        · cases e3
  · cases hs
theorem op_mul_str {X : Cx} : OpR X (binaryOp .Mult) (fun x y H Q => ∃ (a : Str) (k : Int), x = .str a ∧ y = .int k ∧ 0 ≤ k ∧ k ≤ 1000000 ∧ a.length * k.toNat ≤ 1000000 ∧ Q (.str (repS a k)) H) := by
  intro pins s σ H x y v u Q I rx ry h
  obtain ⟨a, k, rfl, rfl, h0, h1, h2, q⟩ := h
  obtain ⟨t, rfl⟩ := rx
  obtain ⟨t', rfl⟩ := ry
  have hz : sizeLine = 16777216 := PySem.sizeLine_eq
  have fl : ∀ (l : List (Array Nat)) (b : Array Nat), l.foldl (· ++ ·) b = ⟨b.toList ++ (l.map Array.toList).flatten⟩ := by
    intro l
    induction l with
    | nil => intro b; simp
    | cons c l ih => intro b; rw [List.foldl_cons, ih]; simp
  have len : ∀ n : Nat, ((List.replicate n a.cps.toList).flatten).length = n * a.length := fun n => by
    simp [List.length_flatten, Str.length]
  have hr : (decide (k < -(2 ^ 63 : Int)) || decide (k ≥ 2 ^ 63)) = false := by
    rw [decide_eq_false (by omega), decide_eq_false (by omega)]; rfl
  have hsz : a.cps.size = a.length := rfl
  refine PySem.P.mul_str hr (fun q1 q2 => ?_) (fun q1 q2 => ?_) ?_
  · have w1 : (a.length : Int) * k ≤ 2 ^ 63 - 1 := by
      have : (a.length : Int) * k = ((a.length * k.toNat : Nat) : Int) := by
        rw [Int.natCast_mul, Int.toNat_of_nonneg h0]
      omega
    have w2 := Int.le_ediv_of_mul_le (by omega) w1
    omega
  · have : a.length * k.toNat ≤ 16777216 := by omega
    show decide (a.length * k.toNat > 16777216) = false
    simp
    omega
  · split
    · rename_i hk
      have : k = 0 := by omega
      subst this
      exact ⟨by decide, .str (repS a 0), H, I.tok _, ⟨_, rfl⟩, q⟩
    · split
      · rename_i hk
        have e : repS a k = a := by
          rw [Bool.or_eq_true] at hk
          rcases hk with hk | hk
          · have : k = 1 := by simpa using hk
            subst this
            show (⟨(List.replicate 1 a.cps.toList).flatten.toArray⟩ : Str) = a
            simp
          · have h0 : a.cps.toList = [] := by
              have : a.cps.size = 0 := by simpa [hsz] using hk
              exact List.eq_nil_of_length_eq_zero (by simpa using this)
            have h00 : a = ⟨#[]⟩ := by
              cases a with
              | mk c => cases c with
                | mk l => cases l with
                  | nil => rfl
                  | cons _ _ => cases h0
            rw [h00]
            show (⟨(List.replicate k.toNat ([] : List Nat)).flatten.toArray⟩ : Str) = _
            simp
        rw [e] at q
        exact ⟨.str a, H, I, ⟨_, rfl⟩, q⟩
      · have e : repS a k = ⟨(List.replicate k.toNat a.cps).foldl (· ++ ·) #[]⟩ := by
          rw [fl]
          show (⟨(List.replicate k.toNat a.cps.toList).flatten.toArray⟩ : Str) = _
          simp
        refine ⟨?_, ?_⟩
        · rw [← e, hz]
          show (List.replicate k.toNat a.cps.toList).flatten.toArray.size ≤ 16777216
          rw [List.size_toArray, len, Nat.mul_comm]
          omega
        · rw [e] at q
          exact ⟨.str _, H, I.tok _, ⟨_, rfl⟩, q⟩
theorem v_rep {e f : E} {G B H : Hp} {F : Fp} {ds : List D} {vs : List V} {U : List Addr} {d : D} {Q : VK} (P : Opd C G B H F [e, f] ds vs U) (h : bi2 repD ds = some d) (q : Res C G B H F false U d Q) : Two vs (fun x y H Q => ∃ (a : Str) (k : Int), x = .str a ∧ y = .int k ∧ 0 ≤ k ∧ k ≤ 1000000 ∧ a.length * k.toNat ≤ 1000000 ∧ Q (.str (repS a k)) H) H Q := by
  obtain ⟨d0, d1, rfl⟩ := len2 (vl_len P.vl)
  obtain ⟨v, w, fd, fd1, rfl, o0, o1⟩ := vl_two P.vl
  replace h : repD d0 d1 = some d := h
  unfold repD at h
  split at h
  · split at h <;> cases h
    rename_i hh
    obtain ⟨rfl, _⟩ := o0
    obtain ⟨rfl, _⟩ := o1
    exact ⟨_, _, rfl, _, _, rfl, rfl, hh.1, hh.2.1, hh.2.2, q.now P ⟨rfl, rfl⟩⟩
  · cases h
theorem snd_zip_take {α β : Type} : ∀ (ks : List α) (ys : List β), (ks.zip ys).map (·.2) = ys.take (ks.zip ys).length
  | [], ys => by simp
  | _ :: _, [] => by simp
  | k :: ks, y :: ys => by simp [snd_zip_take ks ys]
theorem fst_zip_take {α β : Type} : ∀ (ks : List α) (ys : List β), (ks.zip ys).map (·.1) = ks.take (ks.zip ys).length
  | [], ys => by simp
  | _ :: _, [] => by simp
  | k :: ks, y :: ys => by simp [fst_zip_take ks ys]
theorem take_zip2 {α β : Type} : ∀ (n : Nat) (ks : List α) (ys : List β), (ks.zip ys).take n = (ks.take n).zip (ys.take n)
  | 0, _, _ => by simp
  | _ + 1, [], _ => by simp
  | _ + 1, _ :: _, [] => by simp
  | n + 1, k :: ks, y :: ys => by simp [take_zip2 n ks ys]
theorem pairs_own {G B H : Hp} (gb : Sb G B) (bh : Sb B H) : ∀ {xs : List D} {ws : List V} {U : List Addr} {prs : List (Key × D)}, pairsOf xs = some prs → Owns C G B H xs ws U →
    ∃ (ps : List Addr) (us : List V) (U2 : List Addr), ws = ps.map V.ref ∧ Paired (fun p kv => SqT C.K H p [kV kv.1, kv.2]) ps ((prs.map (·.1)).zip us) ∧ Owns C G B H (prs.map (·.2)) us U2 ∧ (∀ a ∈ U2, a ∈ U) ∧ (U.Nodup → U2.Nodup) ∧ True
  | [], ws, U, prs, h, o => by
    cases h
    obtain ⟨rfl, rfl⟩ := o
    exact ⟨[], [], [], rfl, .nil, ⟨rfl, rfl⟩, fun _ z => z, fun n => n, trivial⟩
  | x :: xs, ws, U, prs, h, o => by
    obtain ⟨v, vr, F1, F2, rfl, rfl, o1, o2⟩ := o
    unfold pairsOf at h
    split at h
    · rename_i q; cases q
    · rename_i fl x1 y1 xs' q
      cases q
      cases e2 : keyOf x1 with
      | none => rw [e2] at h; cases h
      | some kk =>
        rw [e2] at h
        cases e3 : pairsOf xs with
        | none => rw [e3] at h; cases h
        | some pr =>
          rw [e3] at h
          cases h
          obtain ⟨ps, us, U2, rfl, h1, h2, h3, h4, _⟩ := pairs_own gb bh e3 o2
          obtain ⟨a, w2, F', rfl, ea, oa, ef, _⟩ := o1.tupAt gb bh
          obtain ⟨u1, ur, G1, G2, rfl, rfl, ou1, u2, ur2, G3, G4, rfl, rfl, ou2, rfl, rfl⟩ := oa
          have := keyOf_v e2 ou1
          subst this
          refine ⟨a :: ps, u2 :: us, G3 ++ U2, rfl, .cons ea h1, ⟨u2, us, G3, U2, rfl, rfl, ou2, h2⟩, fun b hb => ?_, fun nu => ?_, trivial⟩
          · rcases List.mem_append.1 hb with z | z
            · exact List.mem_append_left _ (mem_kids ef b (List.mem_append_right _ (by simpa using z)))
            · exact List.mem_append_right _ (h3 b z)
          · obtain ⟨n1, n2, n3⟩ := List.nodup_append.1 nu
            have n4 := nodup_kids ef n1
            have n5 := (List.nodup_append.1 n4).2.1
            exact List.nodup_append.2 ⟨by simpa using n5, h4 n2, fun b hb c hc e => n3 b (mem_kids ef b (List.mem_append_right _ (by simpa using hb))) c (h3 c hc) e⟩
    · cases h
/-- the pairs of a display -/
def trsOf (C : Gl0) (W : WX) : List Str → List E → List (TE × TE)
  | k :: ks, e :: es => (tC (.str k), tE C W e) :: trsOf C W ks es
  | _, _ => []
theorem pps_of {pos : Pos} : ∀ {ks : List Str} {keys : List (Option Expr)} {es : List E} {as : List Expr}, keysB ks keys = true → ks.length = es.length → PEL X C W es as → PPs X pos keys as (trsOf C W ks es)
  | [], [], [], as, _, _, hp => by obtain rfl : as = [] := hp; exact pps_nil
  | [], [], _ :: _, _, _, h, _ => by simp at h
  | [], _ :: _, _, _, h, _, _ => by simp [keysB] at h
  | _ :: _, [], _, _, h, _, _ => by simp [keysB] at h
  | k :: ks, key :: keys, es, as, h, hl, hp => by
    unfold keysB at h
    split at h
    · rename_i e _; cases e
    · rename_i k' ks' y j p es' e1 e2
      cases e1
      cases e2
      simp only [Bool.and_eq_true, decide_eq_true_eq] at h
      obtain ⟨rfl, h⟩ := h
      cases es with
      | nil => simp at hl
      | cons e es =>
        obtain ⟨a, ar, rfl, _, _, p1, h2⟩ := hp
        exact pps_cons pe_str p1 (pps_of h (by simpa using hl) h2)
    · cases h
theorem pairs_run {ks : List Str} {es : List E} {σ : L2.St} : ∀ {H : Hp} {Q : List V → Hp → Prop} {R : List (V × V) → Hp → Prop}, ks.length = es.length → (∀ e ∈ es, isPl e = false) → (∀ vs H, Q vs H → R ((ks.map V.str).zip vs) H) → tL C W es σ H Q → tPairs (trsOf C W ks es) σ H R := by
  induction ks generalizing es with
  | nil =>
    intro H Q R hl hpl hr h
    cases es with
    | nil => exact hr _ _ h.nil
    | cons _ _ => simp at hl
  | cons k ks ih =>
    intro H Q R hl hpl hr h
    cases es with
    | nil => simp at hl
    | cons e es =>
      show tE C W e σ H fun y H2 => tPairs (trsOf C W ks es) σ H2 fun ps H3 => R ((V.str k, y) :: ps) H3
      refine (tL.cons (fun z => by rw [hpl e List.mem_cons_self] at z; cases z) h).mono fun y H2 z => ?_
      exact ih (by simpa using hl) (fun e he => hpl e (List.mem_cons_of_mem _ he)) (fun vs H3 q => hr (y :: vs) H3 q) z
theorem keysB_len : ∀ {ks : List Str} {keys : List (Option Expr)}, keysB ks keys = true → keys.length = ks.length ∧ keys.all (·.isSome) = true
  | [], [], _ => ⟨rfl, rfl⟩
  | [], _ :: _, h => by simp [keysB] at h
  | _ :: _, [], h => by simp [keysB] at h
  | k :: ks, key :: keys, h => by
    unfold keysB at h
    split at h
    · rename_i e _; cases e
    · rename_i k' ks' y j p es' e1 e2
      cases e1
      cases e2
      simp only [Bool.and_eq_true] at h
      have := keysB_len h.2
      simp [this]
    · cases h
theorem merge_new : ∀ {more kvs : List (Key × V)}, (kvs.map (·.1) ++ more.map (·.1)).Nodup → mergeK kvs more = kvs ++ more
  | [], kvs, _ => by simp [mergeK]
  | p :: more, kvs, n => by
    have hn : p.1 ∉ kvs.map (·.1) := fun z => by
      rw [List.map_cons, List.nodup_append] at n
      exact n.2.2 _ z p.1 List.mem_cons_self rfl
    have e : putK kvs p.1 p.2 = kvs ++ [p] := by
      unfold putK
      rw [if_neg]
      intro z
      obtain ⟨q, hq, e⟩ := List.any_eq_true.1 z
      exact hn (by rw [← of_decide_eq_true e]; exact List.mem_map_of_mem hq)
    show mergeK (putK kvs p.1 p.2) more = _
    rw [e, merge_new (by simpa using n)]
    simp
theorem dlit_ok {ks : List Str} {es : List E} {as : List Expr} {keys : List (Option Expr)} {pos : Pos} (k : CxOk C Γ X) (hk : keysB ks keys = true) (hl' : ks.length = as.length) (h0 : ks ≠ []) (h15 : ks.length ≤ 15) (hnd : ks.Nodup) (hpl : ∀ e ∈ es, isPl e = false) (hp : PEL X C W es as) : PE X (.Dict keys as pos) (tE C W (.op (.dlit ks) es)) := by
  obtain ⟨kl, ka⟩ := keysB_len hk
  have al := pel_len hp
  have hl : ks.length = es.length := by omega
  · refine pe_imp (pe_disp (pps_of hk hl hp) ka (by omega) (fun z => h0 (by subst z; exact List.eq_nil_of_length_eq_zero kl.symm)) (by omega)) fun σ H Q h => ?_
    obtain ⟨s, G, B, F, g, h⟩ := h
    intro p hp0
    obtain ⟨x0, b0, bp⟩ := alloc_own (G := G) (o := .dK []) g.bh hp0
    have g0 := g.alloc x0 g.gb b0
    refine pairs_run (Q := fun vs H2 => H2 p = some (.dK []) ∧ vs.length = es.length ∧ Q (.ref p) (upd H2 p (.dK ((ks.map Sum.inr).zip vs)))) hl hpl (fun vs H2 q => ?_) ⟨s, G, B, F, g0, ?_⟩
    · obtain ⟨q1, q2, q3⟩ := q
      refine ⟨q1, (ks.map Sum.inr).zip vs, ?_, by simp; omega, ?_⟩
      · rw [List.zip_map_left, List.zip_map_left, List.map_map]; rfl
      · rw [merge_new (kvs := [])]
        · simpa using q3
        · rw [List.map_nil, List.nil_append, List.map_fst_zip (by simp; omega)]
          exact List.Pairwise.map _ (fun a b h => fun z => h (Sum.inr.inj z)) hnd
    · have h : outE C W σ (.op (.dlit ks) es) G B H F s ((evEs es s).bind fun ds s1 => R.of (opD (.dlit ks) ds) s1) Q := by unfold evE at h; exact h
      cases e1 : evEs es s with
      | bad => rw [e1] at h; exact h
      | exc c fs xs s' => 
        rw [e1] at h
        exact outX.from (x0.to (P := inF F) (P' := inF F) fun a z => .inl z) (fun _ z => z) h
      | ok ds s1 =>
        rw [e1] at h
        intro vs G1 B1 H1 F1 U P
        have h : outE C W σ (.op (.dlit ks) es) G B H F s (R.of (dlitD ks ds) s1) Q := h
        unfold dlitD at h
        split at h
        case isFalse => exact h.elim
        rename_i hh
        have np : ¬ inF F p := fun z => (g.inF z).1 hp0
        have hp1 : H1 p = some (.dK []) := P.ext.keep p _ upd_same np
        have ov := P.vl.all hpl
        have pU : p ∉ U := fun z => by
          rcases P.ext.pn p (.inr z) with q | q
          · exact np q
          · rw [upd_same] at q; cases q
        have pF : ¬ inF F1 p := fun z => by
          rcases P.ext.pn p (.inl z) with q | q
          · exact np q
          · rw [upd_same] at q; cases q
        have pB : B1 p = none := none_of_ne fun z => by
          rcases P.ext.bn p z with q | q | q
          · exact q bp
          · exact np q
          · rw [upd_same] at q; cases q
        have pG : G1 p = none := none_of_ne fun z => P.good.gb.ne z pB
        have hlen := ov.length
        refine ⟨hp1, by rw [← vl_len P.vl]; exact hlen.symm, ?_⟩
        have keep : ∀ a, a ≠ p → upd H1 p (.dK ((ks.map Sum.inr).zip vs)) a = H1 a := fun a z => upd_ne z
        have bh1 : Sb B1 (upd H1 p (.dK ((ks.map Sum.inr).zip vs))) := fun a o e => by
          have : a ≠ p := fun z => by rw [z, pB] at e; cases e
          rw [keep a this]; exact P.good.bh a o e
        have ov2 : Owns C G1 B1 (upd H1 p (.dK ((ks.map Sum.inr).zip vs))) ds vs U := ov.mono (fun _ _ z => z) (fun _ _ z => z) fun a ha => ⟨keep a (fun z => pU (z ▸ ha)), (ov.fp a ha).2⟩
        have good2 : Good C G1 B1 (upd H1 p (.dK ((ks.map Sum.inr).zip vs))) F1 s1 σ := ⟨P.good.gb, bh1, P.good.len, fun i q => by
          obtain ⟨v, e, o⟩ := P.good.sl i q
          exact ⟨v, e, o.mono (fun _ _ z => z) (fun _ _ z => z) fun a ha => ⟨keep a (fun z => pF ⟨i, z ▸ ha⟩), (o.fp a ha).2⟩⟩, P.good.nf, P.good.nd, P.good.dj⟩
        refine h (.ref p) G1 B1 _ F1 (p :: U) { good := good2, ext := ⟨fun a o e z => ?_, fun a o e => P.ext.g a o e, fun a o e => P.ext.b a o e, fun a z => ?_, fun a z => ?_, fun a z => ?_⟩, own := ⟨p, vs, U, rfl, ⟨upd_same, pB⟩, ov2, rfl, trivial, by simp; omega, List.Pairwise.map _ (fun a b h => fun z => h (Sum.inr.inj z)) hnd⟩, nd := List.nodup_cons.2 ⟨pU, P.nd⟩, pl := (fun q => by simp [isPl, isLook] at q), np := fun _ a ha => ?_, pure := fun q => ?_ }
        · have : a ≠ p := fun z => by rw [z, hp0] at e; cases e
          rw [keep a this]
          exact P.ext.keep a o (by rw [upd_ne this]; exact e) z
        · rcases P.ext.gn a z with q | q | q
          · exact .inl q
          · exact .inr (.inl q)
          · by_cases ap : a = p
            · subst ap; exact absurd pG z
            · rw [upd_ne ap] at q; exact .inr (.inr q)
        · rcases P.ext.bn a z with q | q | q
          · exact .inl q
          · exact .inr (.inl q)
          · by_cases ap : a = p
            · subst ap; exact absurd pB z
            · rw [upd_ne ap] at q; exact .inr (.inr q)
        · by_cases ap : a = p
          · subst ap; exact .inr hp0
          · have z' : inF F1 a ∨ a ∈ U := z.imp id fun z => (List.mem_cons.1 z).resolve_left ap
            rcases P.ext.pn a z' with q | q
            · exact .inl q
            · rw [upd_ne ap] at q; exact .inr q
        · rcases List.mem_cons.1 ha with e | e
          · rw [e]; exact pF
          · exact P.np a e
        · obtain ⟨e1, e2, kk⟩ := P.pure (by simpa [eff] using q)
          refine ⟨e1, e2, fun a o z => ?_⟩
          have : a ≠ p := fun w => by rw [w, hp0] at z; cases z
          rw [keep a this]
          exact kk a o (by rw [upd_ne this]; exact z)
theorem op_all {o : Op} {es : List E} {as : List Expr} {a : Expr} (k : CxOk C Γ X) (hn : ∀ t x tab tabI, o = .isi t x tab tabI → NdOk C X (.isi t x tab tabI)) (hf : ∀ f cs, o = .fld f cs → NdOk C X (.fl f cs)) (hs : shape Γ o a = some as) (hst : opSt o es = true) (hp : PEL X C W es as) (hnot : o ≠ .not) :
    PE X a (tE C W (.op o es)) ∧ PT X a (tTst C W (.op o es)) := by
  have hu : X.A.units + 1 < cLine := hu_of k.room
  have eK := k.K
  cases o with
  | add => exact bin_okT k hs hp op_add' rfl fun P h q => by rw [eK]; exact v_add P h q
  | sub => exact bin_okT k hs hp op_sub rfl fun P h q => v_sub P h q
  | mul => exact bin_okT k hs hp op_mul' rfl fun P h q => v_mul P h q
  | fdiv => exact bin_okT k hs hp op_fdivW rfl fun P h q => v_fdiv P h q
  | mod => exact bin_okT k hs hp op_mod rfl fun P h q => v_mod P h q
  | pow => exact bin_okT k hs hp op_pow rfl fun P h q => v_pow P h q
  | neg =>
    unfold shape at hs
    simp only at hs
    split at hs <;> cases hs
    obtain ⟨e, rfl, p1⟩ := one_of hp
    exact both k (pe_imp (pe_un un_neg p1) fun σ H Q h => t_one (op_step h fun ds vs G1 B1 H1 F1 U d P e1 q => v_neg P e1 q)) rfl
  | eq => exact cmp_okT hs hp (op_eqD (hr_units k)) rfl (bi2_bl eqD_bl) fun P h q => by rw [eK]; exact v_eq P h q
  | ne => exact cmp_okT hs hp ((op_neD (hr_units k)).or (op_neE (hr_units k))) rfl (bi2_bl neD_bl) fun P h q => by rw [eK]; exact v_ne P h q
  | lt => exact cmp_okT hs hp op_lt rfl (bi2_bl cmpD_bl) fun P h q => v_cmp P h q
  | le => exact cmp_okT hs hp op_le rfl (bi2_bl cmpD_bl) fun P h q => v_cmp P h q
  | gt => exact cmp_okT hs hp op_gt rfl (bi2_bl cmpD_bl) fun P h q => v_cmp P h q
  | ge => exact cmp_okT hs hp op_ge rfl (bi2_bl cmpD_bl) fun P h q => v_cmp P h q
  | isN => exact non_okT hs hp op_isN ⟨by decide, by decide⟩ rfl (un1_bl noneD_bl) fun P h q => let ⟨x, e, z⟩ := v_isN P h q; ⟨x, e, rfl, z⟩
  | notN => exact non_okT hs hp op_notN ⟨by decide, by decide⟩ rfl (un1_bl noneD_bl) fun P h q => let ⟨x, e, z⟩ := v_notN P h q; ⟨x, e, rfl, z⟩
  | in_ => exact cmp_okT hs hp (op_inD' hu) rfl (bi2_bl fun x y d h => optmap_bl h) fun P h q => by rw [eK]; exact v_in P h q
  | nin => exact cmp_okT hs hp (op_ninD' hu) rfl (bi2_bl fun x y d h => optmap_bl h) fun P h q => by rw [eK]; exact v_nin P h q
  | not => exact absurd rfl hnot
  | tup =>
    unfold shape at hs
    simp only at hs
    split at hs <;> cases hs
    have hpl : ∀ e ∈ es, isPl e = false := by simpa [opSt] using hst
    exact both k (pe_imp (pe_tup (pa_of hp)) fun σ H Q h => op_step h fun ds vs G1 B1 H1 F1 U d P e1 q => v_tup P hpl e1 q) rfl
  | lst =>
    unfold shape at hs
    simp only at hs
    split at hs <;> cases hs
    have hpl : ∀ e ∈ es, isPl e = false := by simpa [opSt] using hst
    exact both k (pe_imp (pe_lst (pa_of hp)) fun σ H Q h => op_step h fun ds vs G1 B1 H1 F1 U d P e1 q => v_lst P hpl e1 q) rfl
  | dnk =>
    unfold shape at hs
    simp only at hs
    split at hs <;> cases hs
    refine both k (pe_imp pe_dnewK fun σ H Q h => ?_) rfl
    · cases es with
      | cons e es => obtain ⟨_, _, q, _⟩ := hp; cases q
      | nil =>
        obtain ⟨s, G, B, F, g, h⟩ := h
        intro p hp'
        obtain ⟨x, b1, bp⟩ := alloc_own (G := G) (o := .dK []) g.bh hp'
        refine h (.ref p) G B _ F [p] { good := g.alloc x g.gb b1, ext := Alloc.to x fun a z => ?_, own := ⟨p, [], [], rfl, ⟨upd_same, bp⟩, ⟨rfl, rfl⟩, rfl, trivial, rfl, List.nodup_nil⟩, nd := by simp, pl := fun q => by simp [isPl, isLook] at q, np := fun _ a ha z => ?_, pure := fun _ => ⟨rfl, rfl, fun a o z => x.keep a o z fun z => z⟩ }
        · rcases z with z | z
          · exact .inl z
          · rw [List.mem_singleton.1 z]; exact .inr hp'
        · rw [List.mem_singleton.1 ha] at z; exact (g.inF z).1 hp'
  | dnt =>
    unfold shape at hs
    simp only at hs
    split at hs <;> cases hs
    refine both k (pe_imp pe_dnewT fun σ H Q h => ?_) rfl
    · cases es with
      | cons e es => obtain ⟨_, _, q, _⟩ := hp; cases q
      | nil =>
        obtain ⟨s, G, B, F, g, h⟩ := h
        intro p hp'
        obtain ⟨x, b1, bp⟩ := alloc_own (G := G) (o := .dT []) g.bh hp'
        refine h (.ref p) G B _ F [p] { good := g.alloc x g.gb b1, ext := Alloc.to x fun a z => ?_, own := ⟨p, [], [], rfl, ⟨upd_same, bp⟩, ⟨rfl, rfl⟩, rfl, trivial, rfl, List.nodup_nil⟩, nd := by simp, pl := fun q => by simp [isPl, isLook] at q, np := fun _ a ha z => ?_, pure := fun _ => ⟨rfl, rfl, fun a o z => x.keep a o z fun z => z⟩ }
        · rcases z with z | z
          · exact .inl z
          · rw [List.mem_singleton.1 z]; exact .inr hp'
        · rw [List.mem_singleton.1 ha] at z; exact (g.inF z).1 hp'
  | ix =>
    have main := ix_ok k hs hp
    unfold shape at hs
    simp only at hs
    split at hs
    · exact ⟨main, pt_default k main rfl⟩
    · cases hs
  | sl lo hi =>
    have main := sl_ok k hst hs hp
    unfold shape at hs
    simp only at hs
    split at hs
    · exact ⟨main, pt_default k main rfl⟩
    · cases hs
  | rev =>
    have main := rev_ok k hs hp
    unfold shape at hs
    simp only at hs
    split at hs
    · exact ⟨main, pt_default k main rfl⟩
    · cases hs
  | fld f cs =>
    have m := fld_ok k (hf f cs rfl) hs hp
    exact both k m.1 m.2
  | tupK =>
    unfold shape at hs
    simp only at hs
    split at hs <;> cases hs
    refine both k (pe_imp (pe_tup (pa_of hp)) fun σ H Q h => op_step h fun ds vs G1 B1 H1 F1 U d P e1 q => ?_) rfl
    replace e1 : newTupK ds = some d := e1
    unfold newTupK at e1
    cases e2 : keysOf ds with
    | none => rw [e2] at e1; cases e1
    | some ks =>
      rw [e2] at e1
      replace e1 : (if ds.length ≤ sizeLine then some (D.ktup ks) else none) = some d := e1
      split at e1 <;> cases e1
      rename_i hl
      obtain ⟨U', ov⟩ := P.vl.views
      have hlen := ov.length
      obtain rfl := keysOf_v e2 ov
      exact ⟨by omega, fun p hp => q.ktup P hp⟩
  | tupleK =>
    exact ty_okT k hs hp call_tuple_of PyProof.Rows.boot_tuple (by decide) rfl rfl fun {G B H F U ds vs d Q} P h q => by
      obtain ⟨e, rfl⟩ := one_vs P h
      rw [eK]
      obtain ⟨d0, v, fd, rfl, rfl, o, _, _⟩ := P.one
      replace h : tupleKD d0 = some d := h
      unfold tupleKD at h
      split at h
      · rw [Option.map_eq_some_iff] at h
        obtain ⟨ks, h, rfl⟩ := h
        obtain ⟨a, ws, F', rfl, ea, oa, _⟩ := o.lstAt P.gb P.bh
        obtain rfl := keysOf_v h oa
        exact ⟨a, _, rfl, .inl ⟨SqL.of ea, fun p hp => q.ktup P hp⟩⟩
      · cases h
        obtain ⟨a, rfl, ea, rfl⟩ := id (kup_at P.gb P.bh o)
        exact ⟨a, _, rfl, .inr ⟨.inl (.inl ea), q.now P o⟩⟩
      · cases h
  | vals =>
    unfold shape at hs
    simp only at hs
    split at hs
    · rename_i hc0
      split at hs <;> cases hs
      rename_i hh
      simp only [Bool.and_eq_true, decide_eq_true_eq] at hh
      obtain ⟨⟨rfl, hb⟩, hline⟩ := hh
      obtain ⟨x, p, pos, rfl, hbt⟩ := btCall_some hc0
      obtain ⟨rfl, hg, hd, hm⟩ := k.bt hbt
      obtain ⟨e, rfl, p1⟩ := one_of hp
      refine both k (pe_imp (pe_listVals k.calm hg hm p1 (base_ok hb _ _ _) hline) fun σ H Q h => t_one (op_step h fun ds vs G1 B1 H1 F1 U d P e1 q => ?_)) rfl
      obtain ⟨d0, v, fd, rfl, rfl, o, _, _⟩ := P.one
      replace e1 : valsD d0 = some d := e1
      unfold valsD at e1
      split at e1
      · split at e1 <;> cases e1
        rename_i hh
        obtain ⟨a, ws, F', rfl, h1, oa, ef, _, hl, nd⟩ := o
        obtain rfl := oa.nil hh.1
        refine ⟨_, rfl, a, _, rfl, h1.viewD P.gb P.bh, fun l hp => ?_⟩
        rw [List.map_snd_zip (by rw [← oa.length]; omega)]
        exact q.lst P hp oa List.nodup_nil fun _ z => nomatch z
      · cases e1
    · cases hs
  | dictP =>
    have hpl : ∀ e ∈ es, isPl e = false := by simpa [opSt] using hst
    exact ty_okT k hs hp (call_dictP k.calm) (by decide +kernel) (by decide) rfl rfl fun {G B H F U ds vs d Q} P h q => by
      obtain ⟨e, rfl⟩ := one_vs P h
      rw [eK]
      obtain ⟨d0, v, fd, rfl, rfl, o, nfd, src⟩ := P.one
      have src : ∀ a ∈ fd, a ∈ U := by
        rcases src with ⟨z, _⟩ | ⟨_, z⟩
        · rw [hpl e List.mem_cons_self] at z; cases z
        · exact z
      replace h : dictPD d0 = some d := h
      unfold dictPD at h
      split at h
      · rename_i fl xs
        cases e2 : pairsOf xs with
        | none => rw [e2] at h; cases h
        | some prs =>
          rw [e2] at h
          replace h : (if goodKids (prs.map (·.2)) = true ∧ prs.length ≤ sizeLine then some (dkOf prs) else none) = some d := h
          split at h <;> cases h
          rename_i hh
          obtain ⟨a, ws, F', rfl, ea, oa, ef, _⟩ := o.lstAt P.gb P.bh
          obtain ⟨ps, us, U2, rfl, h1, h2, h3, h4, h5⟩ := pairs_own (gb := P.gb) (bh := P.bh) e2 oa
          obtain ⟨ws', U', z1, z2, z3, z4, z5, z6⟩ := puts_own (ks := []) (xs := []) (ws := []) (U := []) rfl List.nodup_nil ⟨rfl, rfl⟩ h2
          refine ⟨a, ps, (prs.map (·.1)).zip us, rfl, SqL.of ea, h1, fun p hp => ?_⟩
          · have z1 : mergeK [] ((prs.map (·.1)).zip us) = (putsD [] [] prs).1.zip ws' := z1
            rw [z1]
            exact q.dk P hp z6 z5 z2 (z4 List.nodup_nil (h4 (nodup_kids ef nfd)) fun _ _ z => nomatch z) fun b hb => src b (mem_kids ef b (by
              rcases z3 b hb with z | z
              · cases z
              · exact h3 b z))
      · cases h
  | dictC =>
    exact ty_okT k hs hp call_dictD (by decide +kernel) (by decide) rfl rfl fun {G B H F U ds vs d Q} P h q => by
      obtain ⟨e, rfl⟩ := one_vs P h
      obtain ⟨d0, v, fd, rfl, rfl, o, _, _⟩ := P.one
      replace h : dictCD d0 = some d := h
      unfold dictCD at h
      split at h
      · split at h <;> cases h
        rename_i hh
        obtain ⟨a, ws, F', rfl, h1, oa, ef, _, hl, nd⟩ := o
        obtain rfl := oa.nil hh.1
        exact ⟨a, _, rfl, h1.viewD P.gb P.bh, fun p hp => q.dk P hp hl nd oa List.nodup_nil fun _ z => nomatch z⟩
      · cases h
  | dictZ =>
    unfold shape at hs
    simp only at hs
    split at hs
    · rename_i z hc0
      obtain ⟨x, p, pos, rfl, hbt⟩ := btCall_some hc0
      split at hs <;> cases hs
      rename_i hs
      obtain ⟨x2, p2, pos2, rfl, hbt2⟩ := btCall_some hs
      obtain ⟨rfl, hg, hd, hm⟩ := k.bt hbt
      obtain ⟨rfl, hg2, hd2, hm2⟩ := k.bt hbt2
      refine both k ?_ rfl
      · · obtain ⟨e, f, rfl, p1, p2, pp⟩ := two_of hp
          have n1 := (pel_tail0 hp).1
          have n2 := (pel_tail0 (pel_tail0 hp).2).1
          refine pe_imp (pe_dictZ k.calm hg hm hg2 hm2 p1 p2 (star_ok n1) (star_ok n2)) fun σ H Q h => t_two pp (op_step h fun ds vs G1 B1 H1 F1 U d P e1 q => ?_)
          obtain ⟨d0, d1, rfl⟩ := len2 (vl_len P.vl)
          obtain ⟨v, w, fd, fd1, rfl, o0, o1⟩ := vl_two P.vl
          replace e1 : dictZD d0 d1 = some d := e1
          unfold dictZD at e1
          split at e1
          · rename_i fl xs fl2 ys
            cases e2 : keysOf xs with
            | none => rw [e2] at e1; cases e1
            | some ks =>
              rw [e2] at e1
              replace e1 : (if noOwns ys = true ∧ goodKids ys = true ∧ (ks.zip ys).length ≤ sizeLine then some (dkOf (ks.zip ys)) else none) = some d := e1
              split at e1 <;> cases e1
              rename_i hh
              obtain ⟨a, ws, F', rfl, ea, oa, _⟩ := o0.lstAt P.gb P.bh
              obtain ⟨b, us, F2, rfl, eb, ob, _⟩ := o1.lstAt P.gb P.bh
              obtain rfl := keysOf_v e2 oa
              obtain rfl := ob.nil hh.1
              have hlen := ob.length
              have lz : (ks.zip us).length = (ks.zip ys).length := by simp [hlen]
              refine ⟨_, _, rfl, a, b, ks, us, rfl, rfl, ea, eb, by rw [lz]; exact hh.2.2, fun p hp => ?_⟩
              have ot : Owns C G1 B1 H1 ((ks.zip ys).map (·.2)) (us.take (ks.zip ys).length) [] := by
                rw [snd_zip_take]
                exact ob.takeN _
              obtain ⟨ws', U', z1, z2, z3, z4, z5, z6⟩ := puts_own (prs := ks.zip ys) (ks := []) (xs := []) (ws := []) (U := []) rfl List.nodup_nil ⟨rfl, rfl⟩ ot
              have z0 : ((ks.zip ys).map (·.1)).zip (us.take (ks.zip ys).length) = ks.zip us := by
                rw [fst_zip_take, ← take_zip2, ← lz, List.take_length]
              rw [z0] at z1
              have z1 : mergeK [] (ks.zip us) = (putsD [] [] (ks.zip ys)).1.zip ws' := z1
              rw [z1]
              exact q.dk P hp z6 z5 z2 (z4 List.nodup_nil List.nodup_nil fun _ z => nomatch z) fun b hb => by
                rcases z3 b hb with z | z <;> cases z
          · cases e1
    · cases hs
  | lenSet =>
    unfold shape at hs
    simp only at hs
    split at hs
    · rename_i z hc0
      obtain ⟨x, p, pos, rfl, hbt⟩ := btCall_some hc0
      split at hs <;> cases hs
      rename_i hs
      obtain ⟨x2, p2, pos2, rfl, hbt2⟩ := btCall_some hs
      obtain ⟨rfl, hg, hd, hm⟩ := k.bt hbt
      obtain ⟨rfl, hg2, hd2, hm2⟩ := k.bt hbt2
      refine both k ?_ rfl
      · · obtain ⟨e, rfl, p1⟩ := one_of hp
          have n1 := (pel_tail0 hp).1
          refine pe_imp (pe_lenSetT k.calm hg hm hg2 hm2 p1 (star_ok n1)) fun σ H Q h => t_one (op_step h fun ds vs G1 B1 H1 F1 U d P e1 q => ?_)
          obtain ⟨d0, v, fd, rfl, rfl, o, _, _⟩ := P.one
          replace e1 : lenSetD d0 = some d := e1
          unfold lenSetD at e1
          split at e1
          · rename_i fl xs
            cases e2 : strsOf xs with
            | none => rw [e2] at e1; cases e1
            | some ys =>
              rw [e2] at e1
              replace e1 : (if ys.length ≤ 4000 then some (D.int ((metS ys).length : Nat)) else none) = some d := e1
              split at e1 <;> cases e1
              rename_i hh
              obtain ⟨a, ws, F', rfl, ea, oa, _⟩ := o.lstAt P.gb P.bh
              obtain rfl := strs_own e2 oa
              exact ⟨_, rfl, a, ys, rfl, SqL.of ea, hh, q.now P ⟨rfl, rfl⟩⟩
          · cases e1
    · cases hs
  | dlit ks =>
    unfold shape at hs
    simp only at hs
    split at hs
    · split at hs <;> cases hs
      rename_i hk
      simp only [Bool.and_eq_true, decide_eq_true_eq, Bool.not_eq_true'] at hk
      have hpl : ∀ e ∈ es, isPl e = false := by simpa [opSt] using hst
      exact both k (dlit_ok k hk.1.1.1.1 hk.1.1.1.2 (by simpa using hk.1.1.2) hk.1.2 hk.2 hpl hp) rfl
    · cases hs
  | get2 => cases hs
  | idx => cases hs
  | len =>
    exact fn_okT k hs hp (call_len.or call_lenR) PySem.boot_len (by decide) rfl rfl fun P h q => by
      obtain ⟨e, rfl⟩ := one_vs P h
      rw [eK]
      exact v_len P h q
  | list =>
    exact ty_okT k hs hp (call_list_of.or (call_listD k.calm)) PyProof.Rows.boot_list (by decide) rfl rfl fun P h q => by
      obtain ⟨e, rfl⟩ := one_vs P h
      rw [eK]
      exact (v_list P h q)
  | tuple =>
    exact ty_okT k hs hp call_tuple_of PyProof.Rows.boot_tuple (by decide) rfl rfl fun P h q => by
      obtain ⟨e, rfl⟩ := one_vs P h
      rw [eK]
      exact v_tuple P h q
  | int =>
    exact ty_okT k hs hp call_int1 PyProof.Rows.boot_int (by decide) rfl rfl fun P h q => by
      obtain ⟨e, rfl⟩ := one_vs P h
      exact v_int P h q
  | strI =>
    exact ty_okT k hs hp call_str_int PyProof.Rows.boot_str (by decide) rfl rfl fun P h q => by
      obtain ⟨e, rfl⟩ := one_vs P h
      exact v_strI P h q
  | sum =>
    exact fn_okT k hs hp (cr_sum k.calm) (by decide +kernel) (by decide) rfl rfl fun P h q => by
      obtain ⟨e, rfl⟩ := one_vs P h
      rw [eK]
      exact v_sum P h q
  | min2 =>
    exact fn_okT k hs hp (call_min2 k.calm) (by decide +kernel) (by decide) rfl rfl fun P h q => by
      obtain ⟨e, f, rfl⟩ := two_vs P h
      exact v_min2 P h q
  | max2 =>
    exact fn_okT k hs hp (call_max2 k.calm) (by decide +kernel) (by decide) rfl rfl fun P h q => by
      obtain ⟨e, f, rfl⟩ := two_vs P h
      exact v_max2 P h q
  | all =>
    exact fn_okT k hs hp (cr_all k.calm) (by decide +kernel) (by decide) rfl rfl fun P h q => by
      obtain ⟨e, rfl⟩ := one_vs P h
      rw [eK]
      exact v_all P h q
  | any =>
    exact fn_okT k hs hp (cr_any k.calm) (by decide +kernel) (by decide) rfl rfl fun P h q => by
      obtain ⟨e, rfl⟩ := one_vs P h
      rw [eK]
      exact v_any P h q
  | part => cases hs
  | find => cases hs
  | join => cases hs
  | divmod =>
    exact fn_okT k hs hp call_divmodW (by decide +kernel) (by decide) rfl rfl fun {G B H F U ds vs d Q} P h q => by
      obtain ⟨e, f, rfl⟩ := two_vs P h
      obtain ⟨d0, d1, rfl⟩ := len2 (vl_len P.vl)
      obtain ⟨v, w, fd, fd1, rfl, o0, o1⟩ := vl_two P.vl
      replace h : divmodD d0 d1 = some d := h
      unfold divmodD at h
      split at h
      · split at h <;> cases h
        rename_i hh
        obtain ⟨rfl, _⟩ := o0
        obtain ⟨rfl, _⟩ := o1
        exact ⟨_, _, rfl, divp_ok hh.1 hh.2, fun p hp => q.tupS P hp ⟨rfl, rfl⟩ ⟨_, _, [], [], rfl, rfl, ⟨rfl, rfl⟩, _, _, [], [], rfl, rfl, ⟨rfl, rfl⟩, rfl, rfl⟩⟩
      · cases h
  | intT =>
    exact ty_okT k hs hp call_int_str PyProof.Rows.boot_int (by decide) rfl rfl fun {G B H F U ds vs d Q} P h q => by
      obtain ⟨e, rfl⟩ := one_vs P h
      obtain ⟨d0, v, fd, rfl, rfl, o, _, _⟩ := P.one
      replace h : intTD d0 = some d := h
      unfold intTD at h
      split at h
      · rename_i a
        cases e2 : PySem.intText? a with
        | none => rw [e2] at h; cases h
        | some n =>
          rw [e2] at h
          replace h : (if a.length ≤ 640 then some (D.int n) else none) = some d := h
          split at h <;> cases h
          obtain ⟨rfl, _⟩ := o
          exact ⟨a, n, rfl, e2, ‹_›, q.now P ⟨rfl, rfl⟩⟩
      · cases h
  | rep => exact bin_okT k hs hp op_mul_str rfl fun P h q => v_rep P h q
  | isi t x tab tabI =>
    have main := isi_ok k (hn t x tab tabI rfl) hs hp
    unfold shape at hs
    simp only at hs
    split at hs
    · rename_i a' b' hc
      obtain ⟨_, _, _, rfl, _⟩ := btCall_some hc
      exact ⟨main, pt_default k main rfl⟩
    · cases hs
end
end TT
namespace TT
open PySem PySem.Spec PyProof.Rows L2
/-! ### calls of a def of the text, with what is raised wished for at the slots -/
section
variable {X : Cx} {CX : CXT} {k : Nat} {f : Addr} {fd : FuncData} {ps : List Str} {sp : Sp} {E : L2.St → XK} {x : Str} {p pos : Pos} {e : Expr} {es : List Expr} {ta : TE} {t : TA} {dvs : List V} {ds : List Value}
theorem run_fnD {pins : List (Addr × Obj)} {σ : L2.St} {H : Hp} {s : Shared} {Q : VK} {us : List Value} {vs : List V} (F : FnOk X.prog X.w X.K X.mg X.base CX k f fd ps sp) (hr : Room k X.A) (hb : Binds X.K fd ps ds) (hd : Vals dvs ds) (hx : PassesAt CX X σ (E σ))
    (I : Inv X pins σ H s) (r : Vals vs us) (h : sp (vs ++ dvs) H Q (E σ)) : wpAny (model X.prog X.w) X.A (call (.ref f) us) (EP X pins σ Q) X.xe s := by
  have r2 : Vals (vs ++ dvs) (us ++ ds) := r.append hd
  have hl : (us ++ ds).length = ps.length := by rw [← r2.length]; exact F.len _ _ _ _ h
  refine wpAny_call (codeAny_mono (F.run X.A X.stack s H ⟨us, []⟩ (us ++ ds) (vs ++ dvs) Q (E σ) hr I.env0 (hb s us I.kIn hl) r2 h) fun r s' hq => ?_)
  cases r with
  | error e => exact hx pins H s e s' I hq
  | ok fl =>
    cases fl with
    | ret u => exact I.after hq
    | next => exact False.elim hq
    | brk => exact False.elim hq
    | cont => exact False.elim hq
def tCallD (sp : Sp) (dvs : List V) (E : L2.St → XK) (t : TA) : TE := fun σ H Q => t σ H fun vs H1 => sp (vs ++ dvs) H1 Q (E σ)
theorem pe_callD (F : FnOk X.prog X.w X.K X.mg X.base CX k f fd ps sp) (hr : Room k X.A) (hg : Gl X x) (hm : X.mg x = some (.ref f)) (hk : PySem.W.keepIn X.K (.ref f) = true) (hb : Binds X.K fd ps ds) (hd : Vals dvs ds) (hx : ∀ σ, PassesAt CX X σ (E σ))
    (ha : PA X (e :: es) t) (hdb : (x == ("__debug__" : Str)) = false) (he : starEach (e :: es) X.env = (false, eval e X.env) :: starEach es X.env) (hpl : (backTo pos (starEach es X.env)).any (·.1) = false) :
    PE X (.Call (.Name x p) (e :: es) [] pos) (tCallD sp dvs E t) := by
  refine ⟨fun pins s σ H Q I h => ?_⟩
  refine wpAny_Call_Name_kw (ld_glob I hg hm ?_ hdb)
  refine PySem.W.callWith_K (h₀ := X.base) I.ok.mod.kin hk (thn (ha.run pos pins s σ H _ I h) fun us s1 ⟨vs, H1, I1, r, q⟩ => ⟨I1.kIn, ?_⟩) he hpl
  exact run_fnD F hr hb hd (hx σ) I1 r q
theorem pe_callD0 (F : FnOk X.prog X.w X.K X.mg X.base CX k f fd ps sp) (hr : Room k X.A) (hg : Gl X x) (hm : X.mg x = some (.ref f)) (hk : PySem.W.keepIn X.K (.ref f) = true) (hb : Binds X.K fd ps ds) (hd : Vals dvs ds) (hx : ∀ σ, PassesAt CX X σ (E σ))
    (hdb : (x == ("__debug__" : Str)) = false) : PE X (.Call (.Name x p) [] [] pos) (tCallD sp dvs E tNil) := by
  refine ⟨fun pins s σ H Q I h => ?_⟩
  refine wpAny_Call_Name_kw (ld_glob I hg hm ?_ hdb)
  exact PySem.W.callWith_K0 I.kIn hk (run_fnD (us := []) (vs := []) F hr hb hd (hx σ) I .nil h)
end
section
variable {X : Cx} {C : Gl0} {W : WX} {Γ : Gam}
theorem nm_pv (k : CxOk C Γ X) {i : Nat} {a : Expr} (h : nmB Γ i a = true) : PE X a (tVar i) := by
  unfold nmB at h
  split at h
  · rename_i x pos
    unfold dbgB at h
    simp only [Bool.and_eq_true, decide_eq_true_eq, Bool.not_eq_true'] at h
    obtain ⟨⟨h1, h2⟩, h3, h4⟩ := h
    refine pe_var (by rw [k.N]; exact h1) ?_ h3 h4
    unfold Vis
    rw [k.sc]
    unfold visB at h2
    split at h2
    · exact .inl ‹_›
    · exact .inr (.inl ‹_›)
    · exact .inr (.inr ‹_›)
    · cases h2
  · cases h
theorem nm_plain {Γ : Gam} {i : Nat} {a : Expr} (h : nmB Γ i a = true) : tstPlain a = true := by
  unfold nmB at h
  split at h
  · rfl
  · cases h
theorem call_ok {f : FE} {es : List E} {as : List Expr} {x : Str} {p pos : Pos} (k : CxOk C Γ X) (tk : Takes X W) (hn : NdOk C X (.fe f)) (hx : x = f.name) (hg : glB Γ.sc x = true) (hlv : f.lv ≤ Γ.lv) (hm : f.m = false) (hl : es.length ≤ f.np) (hl2 : f.np ≤ es.length + f.dfl.length) (hp : PEL X C W es as) :
    PE X (.Call (.Name x p) as [] pos) (tE C W (.call f es)) := by
  obtain ⟨a, fd, ps, dV, dv, h1, h2, F⟩ := hn
  subst hx
  obtain ⟨g1, g2⟩ := k.gl hg
  have hd : Vals (dV.drop (f.dfl.length - (f.np - es.length))) (dv.drop (f.dfl.length - (f.np - es.length))) := F.dr.drop _
  cases es with
  | nil =>
    obtain rfl : as = [] := hp
    refine pe_imp (pe_callD0 F.ok (k.room.mono hlv) g1 h1 h2 (F.bd _) hd (passAt tk) g2) fun σ H Q h => ?_
    exact (call_step hm hl hl2 F.dl F.do_ h).nil
  | cons e es =>
    obtain ⟨a0, ar, rfl, n1, _, _, h3⟩ := id hp
    exact pe_imp (pe_callD F.ok (k.room.mono hlv) g1 h1 h2 (F.bd _) hd (passAt tk) (pa_of hp) g2 (star_ok n1) (stars_ok h3 _ _)) fun σ H Q h => call_step hm hl hl2 F.dl F.do_ h
/-! ### and, or -/
theorem evE_and1 (e : E) (s : List D) : evE (.band [e]) s = evE e s := rfl
theorem evE_or1 (e : E) (s : List D) : evE (.bor [e]) s = evE e s := rfl
theorem same_run {e e' : E} {σ : L2.St} {H : Hp} {Q : VK} (hr : ∀ s, evE e s = evE e' s) (h1 : isPl e = false) (h2 : isPl e' = false) (h3 : eff e = eff e') (h : tE C W e σ H Q) : tE C W e' σ H Q := by
  obtain ⟨s, G, B, F, g, h⟩ := h
  refine ⟨s, G, B, F, g, ?_⟩
  rw [← hr]
  cases e1 : evE e s with
  | bad => rw [e1] at h; exact h
  | exc c fs xs s' => rw [e1] at h; exact h
  | ok d s1 =>
    rw [e1] at h
    exact fun v G1 B1 H1 F1 fd p => h v G1 B1 H1 F1 fd { good := p.good, ext := p.ext, own := p.own, nd := p.nd, pl := (fun q => by rw [h1] at q; cases q), np := (fun _ => p.np h2), pure := fun q => p.pure (by rw [← h3]; exact q) }
theorem same_tst {e e' : E} {σ : L2.St} {H : Hp} {Q : Bool → Hp → Prop} (hr : ∀ s, evE e s = evE e' s) (h1 : isPl e = false) (h2 : isPl e' = false) (h3 : eff e = eff e') (h : tTst C W e σ H Q) : tTst C W e' σ H Q := by
  obtain ⟨s, G, B, F, g, h⟩ := h
  refine ⟨s, G, B, F, g, ?_⟩
  rw [← hr]
  cases e1 : evE e s with
  | bad => rw [e1] at h; exact h
  | exc c fs xs s' => rw [e1] at h; exact h
  | ok d s1 =>
    rw [e1] at h
    obtain ⟨b, hb, h⟩ := h
    exact ⟨b, hb, fun v G1 B1 H1 F1 fd p => h v G1 B1 H1 F1 fd { good := p.good, ext := p.ext, own := p.own, nd := p.nd, pl := (fun q => by rw [h1] at q; cases q), np := (fun _ => p.np h2), pure := fun q => p.pure (by rw [← h3]; exact q) }⟩
/-- one expression, then what stands behind it: the second is run from the first one's end -/
theorem PostE.trans {σ : L2.St} {a b e : E} {G B H G1 B1 H1 G2 B2 H2 : Hp} {F F1 F2 : Fp} {s s1 s2 : List D} {d d2 : D} {v v2 : V} {fd fd2 : List Addr} (p : PostE C σ a G B H F s d s1 v G1 B1 H1 F1 fd) (q : PostE C σ b G1 B1 H1 F1 s1 d2 s2 v2 G2 B2 H2 F2 fd2)
    (hb : isPl b = false) (he : isPl e = false) (hf : eff e = false → eff a = false ∧ eff b = false) : PostE C σ e G B H F s d2 s2 v2 G2 B2 H2 F2 fd2 where
  good := q.good
  ext := (p.ext.imp (fun _ z => z) fun a z => .inl (.inl z)).trans q.ext
  own := q.own
  nd := q.nd
  pl := fun z => by rw [he] at z; cases z
  np := fun _ => q.np hb
  pure := fun z => by
    obtain ⟨e1, e2, k1⟩ := p.pure (hf z).1
    obtain ⟨e3, e4, k2⟩ := q.pure (hf z).2
    exact ⟨e3.trans e1, e4.trans e2, fun a o w => k2 a o (k1 a o w)⟩
theorem bl_now {σ : L2.St} {a e : E} {G B H G1 B1 H1 : Hp} {F F1 : Fp} {s s1 : List D} {d : D} {v : V} {fd : List Addr} {c : Bool} (p : PostE C σ a G B H F s d s1 v G1 B1 H1 F1 fd) (he : isPl e = false) (hf : eff e = false → eff a = false) : PostE C σ e G B H F s (.bl c) s1 (.bl c) G1 B1 H1 F1 [] where
  good := p.good
  ext := p.ext.imp (fun _ z => z) fun a z => .inl (z.elim .inl fun z => nomatch z)
  own := ⟨rfl, rfl⟩
  nd := List.nodup_nil
  pl := fun z => by rw [he] at z; cases z
  np := fun _ _ z => nomatch z
  pure := fun z => p.pure (hf z)
theorem effs_two {e f : E} {es : List E} (z : effs (e :: f :: es) = false) : eff e = false ∧ effs (f :: es) = false := by
  simp only [effs, Bool.or_eq_false_iff] at z ⊢
  exact ⟨z.1, z.2⟩
theorem and_cs {e f : E} {es : List E} {σ : L2.St} {H : Hp} {Q : VK} (h : tE C W (.band (e :: f :: es)) σ H Q) : tAndV (tE C W e) (tE C W (.band (f :: es))) σ H Q := by
  obtain ⟨s, G, B, F, g, h⟩ := h
  refine ⟨s, G, B, F, g, ?_⟩
  have h : outE C W σ (.band (e :: f :: es)) G B H F s ((evE e s).bind fun d s1 => match d with
    | .bl true => evAnd (f :: es) s1
    | .bl false => .ok (.bl false) s1
    | _ => .bad) Q := by unfold evE evAnd at h; exact h
  cases e1 : evE e s with
  | bad => rw [e1] at h; exact h
  | exc c fs xs s' => rw [e1] at h; exact h
  | ok d s1 =>
    rw [e1] at h
    intro v G1 B1 H1 F1 fd p
    have h : outE C W σ (.band (e :: f :: es)) G B H F s (match (generalizing := false) d with
      | .bl true => evAnd (f :: es) s1
      | .bl false => .ok (.bl false) s1
      | _ => .bad) Q := h
    split at h
    · refine ⟨true, p.own.1, ?_⟩
      rw [if_pos rfl]
      refine ⟨s1, G1, B1, F1, p.good, ?_⟩
      show outE C W σ (.band (f :: es)) G1 B1 H1 F1 s1 (evAnd (f :: es) s1) Q
      cases e2 : evAnd (f :: es) s1 with
      | bad => rw [e2] at h; exact h
      | exc c fs xs s' => rw [e2] at h; exact outX.from p.ext (fun a z => .inl z) h
      | ok d2 s2 =>
        rw [e2] at h
        exact fun v2 G2 B2 H2 F2 fd2 q => h v2 G2 B2 H2 F2 fd2 (p.trans q rfl rfl fun z => effs_two z)
    · refine ⟨false, p.own.1, ?_⟩
      rw [if_neg (by decide)]
      exact h (.bl false) G1 B1 H1 F1 [] (bl_now p rfl fun z => (effs_two z).1)
    · exact h.elim
theorem or_cs {e f : E} {es : List E} {σ : L2.St} {H : Hp} {Q : VK} (h : tE C W (.bor (e :: f :: es)) σ H Q) : tOrV (tE C W e) (tE C W (.bor (f :: es))) σ H Q := by
  obtain ⟨s, G, B, F, g, h⟩ := h
  refine ⟨s, G, B, F, g, ?_⟩
  have h : outE C W σ (.bor (e :: f :: es)) G B H F s ((evE e s).bind fun d s1 => match d with
    | .bl false => evOr (f :: es) s1
    | .bl true => .ok (.bl true) s1
    | _ => .bad) Q := by unfold evE evOr at h; exact h
  cases e1 : evE e s with
  | bad => rw [e1] at h; exact h
  | exc c fs xs s' => rw [e1] at h; exact h
  | ok d s1 =>
    rw [e1] at h
    intro v G1 B1 H1 F1 fd p
    have h : outE C W σ (.bor (e :: f :: es)) G B H F s (match (generalizing := false) d with
      | .bl false => evOr (f :: es) s1
      | .bl true => .ok (.bl true) s1
      | _ => .bad) Q := h
    split at h
    · refine ⟨false, p.own.1, ?_⟩
      rw [if_neg (by decide)]
      refine ⟨s1, G1, B1, F1, p.good, ?_⟩
      show outE C W σ (.bor (f :: es)) G1 B1 H1 F1 s1 (evOr (f :: es) s1) Q
      cases e2 : evOr (f :: es) s1 with
      | bad => rw [e2] at h; exact h
      | exc c fs xs s' => rw [e2] at h; exact outX.from p.ext (fun a z => .inl z) h
      | ok d2 s2 =>
        rw [e2] at h
        exact fun v2 G2 B2 H2 F2 fd2 q => h v2 G2 B2 H2 F2 fd2 (p.trans q rfl rfl fun z => effs_two z)
    · refine ⟨true, p.own.1, ?_⟩
      rw [if_pos rfl]
      exact h (.bl true) G1 B1 H1 F1 [] (bl_now p rfl fun z => (effs_two z).1)
    · exact h.elim
theorem and_csT {e f : E} {es : List E} {σ : L2.St} {H : Hp} {Q : Bool → Hp → Prop} (h : tTst C W (.band (e :: f :: es)) σ H Q) : tAnd (tTst C W e) (tTst C W (.band (f :: es))) σ H Q := by
  obtain ⟨s, G, B, F, g, h⟩ := h
  refine ⟨s, G, B, F, g, ?_⟩
  have h : outT C W σ (.band (e :: f :: es)) G B H F s ((evE e s).bind fun d s1 => match d with
    | .bl true => evAnd (f :: es) s1
    | .bl false => .ok (.bl false) s1
    | _ => .bad) Q := by unfold evE evAnd at h; exact h
  cases e1 : evE e s with
  | bad => rw [e1] at h; exact h
  | exc c fs xs s' => rw [e1] at h; exact h
  | ok d s1 =>
    rw [e1] at h
    have h : outT C W σ (.band (e :: f :: es)) G B H F s (match (generalizing := false) d with
      | .bl true => evAnd (f :: es) s1
      | .bl false => .ok (.bl false) s1
      | _ => .bad) Q := h
    split at h
    · refine ⟨true, rfl, fun v G1 B1 H1 F1 fd p => ?_⟩
      refine iteT ?_
      refine ⟨s1, G1, B1, F1, p.good, ?_⟩
      show outT C W σ (.band (f :: es)) G1 B1 H1 F1 s1 (evAnd (f :: es) s1) Q
      cases e2 : evAnd (f :: es) s1 with
      | bad => rw [e2] at h; exact h
      | exc c fs xs s' => rw [e2] at h; exact outX.from p.ext (fun a z => .inl z) h
      | ok d2 s2 =>
        rw [e2] at h
        obtain ⟨b, hb, h⟩ := h
        exact ⟨b, hb, fun v2 G2 B2 H2 F2 fd2 q => h v2 G2 B2 H2 F2 fd2 (p.trans q rfl rfl fun z => effs_two z)⟩
    · obtain ⟨b, hb, h⟩ := h
      cases hb
      refine ⟨false, rfl, fun v G1 B1 H1 F1 fd p => ?_⟩
      refine iteF ?_
      exact h (.bl false) G1 B1 H1 F1 [] (bl_now p rfl fun z => (effs_two z).1)
    · exact h.elim
theorem or_csT {e f : E} {es : List E} {σ : L2.St} {H : Hp} {Q : Bool → Hp → Prop} (h : tTst C W (.bor (e :: f :: es)) σ H Q) : tOr (tTst C W e) (tTst C W (.bor (f :: es))) σ H Q := by
  obtain ⟨s, G, B, F, g, h⟩ := h
  refine ⟨s, G, B, F, g, ?_⟩
  have h : outT C W σ (.bor (e :: f :: es)) G B H F s ((evE e s).bind fun d s1 => match d with
    | .bl false => evOr (f :: es) s1
    | .bl true => .ok (.bl true) s1
    | _ => .bad) Q := by unfold evE evOr at h; exact h
  cases e1 : evE e s with
  | bad => rw [e1] at h; exact h
  | exc c fs xs s' => rw [e1] at h; exact h
  | ok d s1 =>
    rw [e1] at h
    have h : outT C W σ (.bor (e :: f :: es)) G B H F s (match (generalizing := false) d with
      | .bl false => evOr (f :: es) s1
      | .bl true => .ok (.bl true) s1
      | _ => .bad) Q := h
    split at h
    · refine ⟨false, rfl, fun v G1 B1 H1 F1 fd p => ?_⟩
      refine iteF ?_
      refine ⟨s1, G1, B1, F1, p.good, ?_⟩
      show outT C W σ (.bor (f :: es)) G1 B1 H1 F1 s1 (evOr (f :: es) s1) Q
      cases e2 : evOr (f :: es) s1 with
      | bad => rw [e2] at h; exact h
      | exc c fs xs s' => rw [e2] at h; exact outX.from p.ext (fun a z => .inl z) h
      | ok d2 s2 =>
        rw [e2] at h
        obtain ⟨b, hb, h⟩ := h
        exact ⟨b, hb, fun v2 G2 B2 H2 F2 fd2 q => h v2 G2 B2 H2 F2 fd2 (p.trans q rfl rfl fun z => effs_two z)⟩
    · obtain ⟨b, hb, h⟩ := h
      cases hb
      refine ⟨true, rfl, fun v G1 B1 H1 F1 fd p => ?_⟩
      refine iteT ?_
      exact h (.bl true) G1 B1 H1 F1 [] (bl_now p rfl fun z => (effs_two z).1)
    · exact h.elim
end
end TT
namespace TT
open PySem PySem.Spec PyProof.Rows L2
/-! ### calls that may change their first argument -/
/-- what the callee has borrowed: all but the first argument's own things -/
def bexc (B H : Hp) (fs : List Addr) : Hp := fun a => if a ∈ fs then none else ovl B H a
section
variable {C : Gl0} {W : WX} {σ : L2.St} {G B H G1 B1 H1 G' B' H' : Hp} {F F1 : Fp} {s s1 : List D} {fs fs' fr U : List Addr} {ds : List D} {vs : List V} {d0 : D} {v0 : V}
theorem bexc_in {a : Addr} (h : a ∈ fs) : bexc B H fs a = none := if_pos h
theorem bexc_out {a : Addr} (h : a ∉ fs) : bexc B H fs a = ovl B H a := if_neg h
theorem bexc_some (hB : ∀ a ∈ fs, B a = none) {a : Addr} {o : HO} (h : B a = some o) : bexc B H fs a = some o := by
  rw [bexc_out fun z => by rw [hB a z] at h; cases h]
  exact ovl_some h
/-- going in -/
theorem core_in (gb : Sb G1 B1) (bh : Sb B1 H1) (o0 : Own C G1 B1 H1 d0 v0 fs) (ov : Owns C G1 B1 H1 ds vs U) (dj : ∀ a ∈ U, a ∉ fs) :
    Sb G1 (bexc B1 H1 fs) ∧ Sb (bexc B1 H1 fs) H1 ∧ Own C G1 (bexc B1 H1 fs) H1 d0 v0 fs ∧ Owns C G1 (bexc B1 H1 fs) H1 (refls Fl.lend ds) vs [] := by
  have hB : ∀ a ∈ fs, B1 a = none := fun a ha => (o0.fp a ha).2
  refine ⟨fun a o h => ?_, fun a o h => ?_, o0.mono (fun _ _ z => z) (fun b u z => bexc_some hB z) fun a ha => ⟨rfl, bexc_in ha⟩, ?_⟩
  · have : a ∉ fs := fun z => gb.ne (by rw [h]; simp) (hB a z)
    rw [bexc_out this]
    exact sb_ovl gb a o h
  · by_cases z : a ∈ fs
    · rw [bexc_in z] at h; cases h
    · rw [bexc_out z] at h
      exact ovl_sb bh a o h
  · exact Owns.lend (fun _ _ z => z) (fun b u z => bexc_some hB z) (fun a ha => by rw [bexc_out (dj a ha)]; exact ovl_none (ov.fp a ha).2) ov
/-- coming back -/
theorem core_out (gb : Sb G1 B1) (bh : Sb B1 H1) (hB : ∀ a ∈ fs, B1 a = none) {P : Addr → Prop} (x : Ext G1 (bexc B1 H1 fs) H1 (fun a => a ∈ fs) G' B' H' P) (gb' : Sb G' B') (bh' : Sb B' H') :
    Sb G' (ovl B1 G') ∧ Sb (ovl B1 G') H' ∧ Ext G1 B1 H1 (fun a => a ∈ fs) G' (ovl B1 G') H' P ∧ ∀ a, P a → B' a = none → ovl B1 G' a = none := by
  have sb1 : Sb G' (ovl B1 G') := fun a o e => by
    cases e3 : B1 a with
    | none => exact .inl (by rw [ovl_none e3]; exact e)
    | some u =>
      rcases x.gn a (by rw [e]; simp) with q | q | q
      · cases e4 : G1 a with
        | none => exact absurd e4 q
        | some w =>
          have := x.g a w e4
          rw [e] at this; cases this
          exact sb_ovl gb a o e4
      · rw [hB a q] at e3; cases e3
      · exact absurd q (bh.ne (by rw [e3]; simp))
  have sb2 : Sb (ovl B1 G') H' := fun a o e => by
    cases e3 : B1 a with
    | none => rw [ovl_none e3] at e; exact (gb'.trans bh') a o e
    | some u =>
      rw [ovl_some e3] at e; cases e
      have nf : a ∉ fs := fun z => by rw [hB a z] at e3; cases e3
      rcases bh a _ e3 with q | ⟨l, ob, q⟩
      · exact .inl (x.keep a _ q nf)
      · exact .inr ⟨l, ob, x.keep a _ q nf⟩
  refine ⟨sb1, sb2, ⟨x.keep, x.g, fun a o e => ovl_some e, x.gn, fun a z => ?_, x.pn⟩, fun a pa hb => ?_⟩
  · cases e : B1 a with
    | some o => exact .inl (by simp)
    | none =>
      rw [ovl_none e] at z
      rcases x.gn a z with q | q | q
      · exact absurd e (gb.ne q)
      · exact .inr (.inl q)
      · exact .inr (.inr q)
  · have b1 : B1 a = none := by
      rcases x.pn a pa with q | q
      · exact hB a q
      · exact none_of_ne fun z => bh.ne z q
    rw [ovl_none b1]
    exact none_of_ne fun z => gb'.ne z hb
/-- slot i behind the call -/
theorem good_back {i : Nat} {d0' : D} (g : Good C G1 B1 H1 F1 s1 σ) (hi : σ[i]? = some (some v0)) (nd0 : isDead d0' = false) (hl : i < s1.length) (x : Ext G1 B1 H1 (fun a => a ∈ F1 i) G' B' H' (fun a => a ∈ fs' ∨ a ∈ fr)) (gb' : Sb G' B') (bh' : Sb B' H') (o' : Own C G' B' H' d0' v0 fs') (n' : fs'.Nodup) :
    Good C G' B' H' (fun j => if j = i then fs' else F1 j) (s1.set i d0') σ := by
  have src : ∀ a ∈ fs', a ∈ F1 i ∨ H1 a = none := fun a ha => x.pn a (.inl ha)
  have off : ∀ j, j ≠ i → ∀ a ∈ F1 j, a ∉ fs' := fun j hj a h1 h2 => by
    rcases src a h2 with q | q
    · exact hj (g.dj j i a h1 q)
    · exact (g.nb h1).1 q
  refine ⟨gb', bh', by rw [List.length_set]; exact g.len, fun j hj => ?_, fun j hj => ?_, fun j => ?_, fun j k a h1 h2 => ?_⟩
  · rw [getD_set] at hj ⊢
    by_cases q : j = i
    · rw [if_pos ⟨q, hl⟩]
      subst q
      exact ⟨v0, hi, by show Own _ _ _ _ _ _ (if j = j then fs' else F1 j); rw [if_pos rfl]; exact o'⟩
    · have q' : ¬ (j = i ∧ i < s1.length) := fun z => q z.1
      rw [if_neg q'] at hj ⊢
      obtain ⟨w, ew, ow⟩ := g.sl j hj
      refine ⟨w, ew, ?_⟩
      show Own _ _ _ _ _ _ (if j = i then fs' else F1 j)
      rw [if_neg q]
      exact x.own ow fun a ha z => q (g.dj j i a ha z)
  · by_cases q : j = i
    · rw [getD_set, if_pos ⟨q, hl⟩] at hj
      exact absurd hj (not_dead nd0)
    · rw [getD_set, if_neg fun z => q z.1] at hj
      show (if j = i then fs' else F1 j) = []
      rw [if_neg q]; exact g.nf j hj
  · show (if j = i then fs' else F1 j).Nodup
    by_cases q : j = i
    · rw [if_pos q]; exact n'
    · rw [if_neg q]; exact g.nd j
  · by_cases q : j = i <;> by_cases q2 : k = i <;> simp only [q, q2, if_true, if_false] at h1 h2
    · rw [q, q2]
    · exact absurd h1 (off k q2 a h2)
    · exact absurd h2 (off j q a h1)
    · exact g.dj j k a h1 h2
theorem inF_back {i : Nat} {a : Addr} (h : inF (fun j => if j = i then fs' else F1 j) a) : a ∈ fs' ∨ inF F1 a := by
  obtain ⟨j, z⟩ := h
  by_cases q : j = i
  · simp only [q, if_true] at z; exact .inl z
  · simp only [q, if_false] at z; exact .inr ⟨j, z⟩
/-- the callee's promise, from the caller's state -/
theorem callM_spec {f : FE} {e : E} {i : Nat} {es : List E} {Q : VK} {dV : List V} (he : isPl e = false) (hm : f.m = true) (hl : es.length + 1 ≤ f.np) (hl2 : f.np ≤ es.length + 1 + f.dfl.length) (hdl : dV.length = f.dfl.length) (hef : eff e = true)
    (hdo : ∀ G B H, Owns C G B H f.dfl dV []) (hpl : ∀ x ∈ es, isPl x = false) (p : PostL C σ es G B H F s ds s1 vs G1 B1 H1 F1 U) (hi : σ[i]? = some (some v0)) (hd : isDead (s1.getD i .dead) = false)
    (h : outE C W σ e G B H F s (retM i s1 (f.g (fillM f (s1.getD i .dead) ds))) Q) : spec C f (v0 :: (vs ++ dV.drop (f.dfl.length - (f.np - (es.length + 1))))) H1 Q (WE W σ) := by
  have hlen := vl_len p.vl
  have ov := p.vl.all hpl
  have vl := ov.length
  obtain ⟨w, ew, o0⟩ := p.good.sl i (not_dead hd)
  rw [hi] at ew; cases ew
  have hli := getD_some (not_dead hd)
  obtain ⟨a1, a2, a3, a4⟩ := core_in p.good.gb p.good.bh o0 ov fun a ha z => p.np a ha ⟨i, z⟩
  have hB : ∀ a ∈ F1 i, B1 a = none := fun a ha => (o0.fp a ha).2
  have od := hdo G1 (bexc B1 H1 (F1 i)) H1
  refine ⟨?_, fillM f (s1.getD i .dead) ds, G1, bexc B1 H1 (F1 i), F1 i, a1, a2, ?_, ?_⟩
  · rw [List.length_cons, List.length_append, List.length_drop, hdl]; omega
  · unfold ArgsOk
    rw [hm, if_pos rfl]
    refine ⟨_, _, _, _, rfl, rfl, a3, p.good.nd i, ?_⟩
    rw [hlen]
    exact a4.app (od.dropN _)
  · cases e2 : f.g (fillM f (s1.getD i .dead) ds) with
    | bad => rw [e2] at h; exact h
    | exc c fs xs d0' =>
      rw [e2] at h
      replace h : outE C W σ e G B H F s (if (noBor d0' && !isDead d0') = true then .exc c fs xs (s1.set i d0') else .bad) Q := h
      split at h
      case isFalse => exact h.elim
      rename_i hh
      simp only [Bool.and_eq_true, Bool.not_eq_true'] at hh
      intro cls dd G' B' H' fs' x gb' bh' xr sf
      unfold Self at sf
      rw [hm, if_pos rfl] at sf
      obtain ⟨⟨v0', vr', e3, o'⟩, n', _⟩ := sf
      obtain ⟨rfl, _⟩ := List.cons.inj e3
      obtain ⟨c1, c2, c3, c4⟩ := core_out p.good.gb p.good.bh hB x gb' bh'
      have o2 := o'.reB (B' := ovl B1 G') (H' := H') hh.1 fun a ha => ⟨c4 a ha (o'.fp a ha).2, rfl⟩
      have x3 : Ext G1 B1 H1 (fun a => a ∈ F1 i) G' (ovl B1 G') H' (fun a => a ∈ fs' ∨ a ∈ ([] : List Addr)) := c3.imp (fun _ z => z) fun a z => .inl (z.elim id fun z => nomatch z)
      refine h cls dd G' (ovl B1 G') H' _ (good_back p.good hi hh.2 hli x3 c1 c2 o2 n') ?_ xr
      refine p.ext.trans (x3.imp (fun a z => .inl ⟨i, z⟩) fun a z => ?_)
      rcases inF_back z with z | z
      · exact .inl (.inl z)
      · exact .inr (.inr (.inl z))
    | ok r d0' =>
      rw [e2] at h
      replace h : outE C W σ e G B H F s (if (noBor r && !isDead r && (noBor d0' && !isDead d0')) = true then .ok r (s1.set i d0') else .bad) Q := h
      split at h
      case isFalse => exact h.elim
      rename_i hh
      simp only [Bool.and_eq_true, Bool.not_eq_true'] at hh
      refine ⟨hh.1.1, hh.1.2, fun v G' B' H' fr fs' x gb' bh' own nd sf => ?_⟩
      unfold Self at sf
      rw [hm, if_pos rfl] at sf
      obtain ⟨⟨v0', vr', e3, o'⟩, n', dj'⟩ := sf
      obtain ⟨rfl, _⟩ := List.cons.inj e3
      obtain ⟨c1, c2, c3, c4⟩ := core_out p.good.gb p.good.bh hB x gb' bh'
      have o2 := o'.reB (B' := ovl B1 G') (H' := H') hh.2.1 fun a ha => ⟨c4 a (.inl ha) (o'.fp a ha).2, rfl⟩
      have r2 := own.reB (B' := ovl B1 G') (H' := H') hh.1.1 fun a ha => ⟨c4 a (.inr ha) (own.fp a ha).2, rfl⟩
      refine h v G' (ovl B1 G') H' (fun j => if j = i then fs' else F1 j) fr { good := good_back p.good hi hh.2.2 hli c3 c1 c2 o2 n', ext := p.ext.trans (c3.imp (fun a z => .inl ⟨i, z⟩) fun a z => ?_), own := r2, nd := nd, pl := (fun q => by rw [he] at q; cases q), np := (fun _ a ha z => ?_), pure := (fun q => by rw [hef] at q; cases q) }
      · rcases z with z | z
        · rcases inF_back z with z | z
          · exact .inl (.inl z)
          · exact .inr (.inr (.inl z))
        · exact .inl (.inr z)
      · obtain ⟨j, hj⟩ := z
        by_cases e : j = i
        · simp only [e, if_true] at hj; exact dj' a hj ha
        · simp only [e, if_false] at hj
          rcases c3.pn a (.inr ha) with q | q
          · exact e (p.good.dj j i a hj q)
          · exact (p.good.nb hj).1 q
end
end TT
namespace TT
open PySem PySem.Spec PyProof.Rows L2
/-! ### methods, instances made -/
section
variable {X : Cx} {CX : CXT} {k : Nat} {f C0 : Addr} {fd : FuncData} {ps : List Str} {sp : Sp} {E : L2.St → XK} {x m : Str} {p pos apos : Pos} {o e : Expr} {es : List Expr} {ta : TE} {t : TA} {dvs : List V} {ds : List Value}
def tMethD (C0 : Addr) (m : Str) (sp : Sp) (dvs : List V) (E : L2.St → XK) (ta : TE) (t : TA) : TE := fun σ H Q => ta σ H fun x H1 => ∃ a dx fs, x = .ref a ∧ H1 a = some (.ins C0 dx fs) ∧ fs.lookup m = none ∧ t σ H1 fun vs H2 => sp (x :: (vs ++ dvs)) H2 Q (E σ)
/-- o.m(..), what is raised wished for at the slots -/
theorem pe_methD {pl : Sem Bool} (he : PE X o ta) (cc : Cls X.K C0) (hm : Meth X.K C0 m f) (F : FnOk X.prog X.w X.K X.mg X.base CX k f fd ps sp) (hr : Room k X.A) (hb : Binds X.K fd ps ds) (hd : Vals dvs ds) (hx : ∀ σ, PassesAt CX X σ (E σ)) (ha : PA X (e :: es) t)
    (hst : starEach (e :: es) X.env = (false, eval e X.env) :: starEach es X.env) (hpl : (backTo pos (starEach es X.env)).any (·.1) = false)
    (ht : eval (.Call (.Attribute o m apos) (e :: es) [] pos) X.env = (do
      let w ← eval o X.env
      standAt apos.atName
      let (g, first) ← holding [w] (getMethod w m pl)
      callWith pos g first (backTo pos (starEach (e :: es) X.env)) (backToKw pos (keywordEach [] X.env)))) :
    PE X (.Call (.Attribute o m apos) (e :: es) [] pos) (tMethD C0 m sp dvs E ta t) := by
  refine ⟨fun pins s σ H Q I h => PySem.W.methodCall_KW (pl := pl) (thn (he.run pins s σ H _ I h) fun u s1 z => ?_) ht⟩
  obtain ⟨y, H1, I1, ry, a, dx, fs, rfl, ea, l, q⟩ := z
  obtain rfl : u = Value.ref a := ry
  refine getmeth_ok I1 ea cc hm l ?_
  refine PySem.W.callWith_K (first := [.ref a]) (h₀ := X.base) I.ok.mod.kin hm.kp (thn (ha.run pos pins s1 σ H1 _ I1 q) fun us s2 z => ?_) hst hpl
  obtain ⟨vs, H2, I2, r, q2⟩ := z
  exact ⟨I2.kIn, run_fnD (us := .ref a :: us) (vs := .ref a :: vs) F hr hb hd (hx σ) I2 (.cons rfl r) q2⟩
theorem pe_methD0 {pl : Sem Bool} (he : PE X o ta) (cc : Cls X.K C0) (hm : Meth X.K C0 m f) (F : FnOk X.prog X.w X.K X.mg X.base CX k f fd ps sp) (hr : Room k X.A) (hb : Binds X.K fd ps ds) (hd : Vals dvs ds) (hx : ∀ σ, PassesAt CX X σ (E σ))
    (ht : eval (.Call (.Attribute o m apos) [] [] pos) X.env = (do
      let w ← eval o X.env
      standAt apos.atName
      let (g, first) ← holding [w] (getMethod w m pl)
      callWith pos g first (backTo pos (starEach [] X.env)) (backToKw pos (keywordEach [] X.env)))) :
    PE X (.Call (.Attribute o m apos) [] [] pos) (tMethD C0 m sp dvs E ta tNil) := by
  refine ⟨fun pins s σ H Q I h => PySem.W.methodCall_KW (pl := pl) (thn (he.run pins s σ H _ I h) fun u s1 z => ?_) ht⟩
  obtain ⟨y, H1, I1, ry, a, dx, fs, rfl, ea, l, q⟩ := z
  obtain rfl : u = Value.ref a := ry
  refine getmeth_ok I1 ea cc hm l ?_
  exact PySem.W.callWith_K0 (first := [.ref a]) I1.kIn hm.kp (run_fnD (us := [.ref a]) (vs := [.ref a]) F hr hb hd (hx σ) I1 (.cons rfl .nil) q)
/-- how a method's call is run -/
theorem meth_tree {o : Expr} {as : List Expr} (env : Env) (hb : baseOk o = true) (hf : ((backTo pos (starEach as env)).all (fun x => !x.1) && (backToKw pos (keywordEach [] env)).all (fun x => x.1.isSome)
      && decide (as.length + ([] : List Keyword).length + (if ([] : List Keyword).isEmpty then 0 else 1) < 30)) = true) (hl : (apos.endLine == pos.line) = true) :
    eval (.Call (.Attribute o m apos) as [] pos) env = (do
      let w ← eval o env
      standAt apos.atName
      let (g, first) ← holding [w] (getMethod w m (do return (← importBound o env).getD true))
      callWith pos g first (backTo pos (starEach as env)) (backToKw pos (keywordEach [] env))) := by
  have hform : methodCallForm (as.length + ([] : List Keyword).length) (backTo pos (starEach as env)) (backToKw pos (keywordEach [] env)) = true := by
    unfold methodCallForm
    simp only [Bool.and_eq_true, decide_eq_true_eq] at hf
    simp only [Bool.and_eq_true, decide_eq_true_eq]
    have hk : backToKw pos (keywordEach [] env) = [] := rfl
    rw [hk]
    rw [hk] at hf
    exact ⟨hf.1, by simpa using hf.2⟩
  show (do
    let ov ← attributeBase o m env (eval o env)
    standAt apos.atName
    methodCall o m apos pos env ov (as.length + ([] : List Keyword).length) (backTo pos (starEach as env)) (backToKw pos (keywordEach [] env))) = _
  rw [base_ok hb]
  have hp : ∀ w, methodCall o m apos pos env w (as.length + ([] : List Keyword).length) (backTo pos (starEach as env)) (backToKw pos (keywordEach [] env)) = (do
      let (g, first) ← holding [w] (getMethod w m (do return (← importBound o env).getD true))
      callWith pos g first (backTo pos (starEach as env)) (backToKw pos (keywordEach [] env))) := fun w => by
    unfold methodCall
    rw [hform]
    have h1 : calleeOf true o env w m = getMethod w m (do return (← importBound o env).getD true) := rfl
    have h2 : methodCallPos true o env apos pos = pure pos := by
      unfold methodCallPos
      rw [hl]; rfl
    rw [h1, h2]
    rfl
  simp only [hp]
end
section
variable {X : Cx} {C : Gl0} {W : WX} {Γ : Gam}
/-- a call that changes none, behind its operands -/
theorem call_spec {f : FE} {e : E} {es : List E} {σ : L2.St} {Q : VK} {dV : List V} {G B H G1 B1 H1 : Hp} {F F1 : Fp} {s s1 ds : List D} {vs : List V} {U : List Addr} (he : isPl e = false) (hef : eff e = false → effs es = false) (hm : f.m = false) (hl : es.length ≤ f.np) (hl2 : f.np ≤ es.length + f.dfl.length) (hdl : dV.length = f.dfl.length)
    (hdo : ∀ G B H, Owns C G B H f.dfl dV []) (p : PostL C σ es G B H F s ds s1 vs G1 B1 H1 F1 U) (h : outE C W σ e G B H F s (retR s1 (f.g (fillD f ds))) Q) :
    spec C f (vs ++ dV.drop (f.dfl.length - (f.np - es.length))) H1 Q (WE W σ) := by
  have hlen := vl_len p.vl
  obtain ⟨U', ov⟩ := p.vl.views
  obtain ⟨a1, a2, _, a4⟩ := core_in (fs := []) (d0 := .non) (v0 := .non) p.good.gb p.good.bh ⟨rfl, rfl⟩ ov fun a _ z => nomatch z
  have od := hdo G1 (bexc B1 H1 []) H1
  have vl := ov.length
  refine ⟨?_, fillD f ds, G1, bexc B1 H1 [], [], a1, a2, ?_, ?_⟩
  · rw [List.length_append, List.length_drop, hdl]; omega
  · unfold ArgsOk
    rw [hm, if_neg (by decide)]
    refine ⟨?_, rfl⟩
    unfold fillD
    rw [hlen]
    exact a4.app (od.dropN _)
  · have nb : ∀ a ∈ ([] : List Addr), B1 a = none := fun _ z => nomatch z
    cases e2 : f.g (fillD f ds) with
    | bad => rw [e2] at h; exact h
    | exc c fs xs d0 =>
      rw [e2] at h
      intro cls dd G' B' H' fs' x gb' bh' xr sf
      obtain rfl : fs' = [] := by
        unfold Self at sf
        rw [hm, if_neg (by decide)] at sf
        exact sf
      obtain ⟨c1, c2, c3, c4⟩ := core_out p.good.gb p.good.bh nb x gb' bh'
      have x0 : Alloc G1 B1 H1 G' (ovl B1 G') H' := c3.imp (fun _ z => nomatch z) fun a z => z.elim
      exact h cls dd G' (ovl B1 G') H' F1 (p.good.alloc x0 c1 c2) ((p.ext.trans (Alloc.ext x0)).imp (fun _ z => z) fun a z => .inl (.inl z)) xr
    | ok r d0 =>
      rw [e2] at h
      replace h : outE C W σ e G B H F s (if (noBor r && !isDead r) = true then .ok r s1 else .bad) Q := h
      split at h
      case isFalse => exact h.elim
      rename_i hr
      simp only [Bool.and_eq_true, Bool.not_eq_true'] at hr
      refine ⟨hr.1, hr.2, fun v G' B' H' fr fs' x gb' bh' own nd sf => ?_⟩
      obtain rfl : fs' = [] := by
        unfold Self at sf
        rw [hm, if_neg (by decide)] at sf
        exact sf
      obtain ⟨c1, c2, c3, c4⟩ := core_out p.good.gb p.good.bh nb x gb' bh'
      have fresh : ∀ a ∈ fr, H1 a = none := fun a ha => by
        rcases x.pn a (.inr ha) with q | q
        · cases q
        · exact q
      have x0 : Alloc G1 B1 H1 G' (ovl B1 G') H' := ⟨fun a o e _ => c3.keep a o e (fun z => nomatch z), c3.g, c3.b, fun a z => (c3.gn a z).imp id fun z => .inr (z.elim (fun z => nomatch z) id), fun a z => (c3.bn a z).imp id fun z => .inr (z.elim (fun z => nomatch z) id), fun _ z => z.elim⟩
      refine h v G' (ovl B1 G') H' F1 fr { good := p.good.alloc x0 c1 c2, ext := p.ext.trans (Alloc.to x0 fun a z => ?_), own := own.reB hr.1 fun a ha => ⟨c4 a (.inr ha) (own.fp a ha).2, rfl⟩, nd := nd, pl := (fun q => by rw [he] at q; cases q), np := (fun _ a ha z => (p.good.inF z).1 (fresh a ha)), pure := (fun q => ?_) }
      · rcases z with z | z
        · exact .inl (.inl z)
        · exact .inr (fresh a z)
      · obtain ⟨e1, e2, k⟩ := p.pure (hef q)
        exact ⟨e1, e2, fun a o z => x0.keep a o (k a o z) fun z => z⟩
theorem tab_mem {tab : List (Nat × FE)} {c : Option Nat} {f : FE} (h : selF tab c = some f) : ∃ k, c = some k ∧ (k, f) ∈ tab := by
  cases c with
  | none => cases h
  | some k => exact ⟨k, rfl, lookup_mem h⟩
theorem tabB_of {tab : List (Nat × FE)} {m : Bool} {n : Nat} (h : tabB Γ tab m n = true) : (∃ p, p ∈ tab) ∧ ∀ p ∈ tab, p.2.lv ≤ Γ.lv ∧ p.2.m = m ∧ n ≤ p.2.np ∧ p.2.np ≤ n + p.2.dfl.length := by
  unfold tabB arB at h
  simp only [Bool.and_eq_true, List.all_eq_true, decide_eq_true_eq, Bool.not_eq_true', beq_iff_eq] at h
  obtain ⟨h0, h⟩ := h
  constructor
  · cases tab with
    | nil => simp at h0
    | cons p r => exact ⟨p, List.mem_cons_self⟩
  · exact fun p hp => ⟨(h p hp).1.1, (h p hp).1.2, (h p hp).2.1, (h p hp).2.2⟩
theorem nd_map {α : Type} {g : α → Nd} : ∀ {l : List α} {r : List Nd}, AllNd C X (l.map g ++ r) → (∀ p ∈ l, NdOk C X (g p)) ∧ AllNd C X r
  | [], r, h => ⟨(fun _ z => nomatch z), h⟩
  | a :: l, r, h => by
    obtain ⟨h1, h2⟩ := h
    obtain ⟨h3, h4⟩ := nd_map h2
    exact ⟨fun p hp => by
      rcases List.mem_cons.1 hp with e | e
      · rw [e]; exact h1
      · exact h3 p e, h4⟩
theorem clsI_some {x : Str} {d : D} {c : Nat} (h : clsI x d = some c) : ∃ fl fs xs, d = .ins fl c fs xs ∧ x ∉ fs := by
  unfold clsI at h
  split at h
  · split at h <;> cases h
    rename_i hh
    exact ⟨_, _, _, rfl, by simpa using hh⟩
  · cases h
theorem lookup_none {fs : List Str} {x : Str} (h : x ∉ fs) : ∀ {ws : List V}, (fs.zip ws).lookup x = none := by
  induction fs with
  | nil => intro ws; rfl
  | cons f fs ih =>
    intro ws
    rw [List.mem_cons, not_or] at h
    cases ws with
    | nil => rfl
    | cons w ws =>
      rw [List.zip_cons_cons, List.lookup_cons]
      have : (x == f) = false := by simpa using h.1
      rw [this]
      exact ih h.2
theorem meth_one {x : Str} {c : Nat} {f : FE} {t : TA} {to : TE} {n : Nat} {oe : Expr} {as : List Expr} {ap cp : Pos} (k : CxOk C Γ X) (tk : Takes X W) (hn : NdOk C X (.me c x f)) (hb : baseOk oe = true) (hline : (ap.endLine == cp.line) = true) (hfew : as.length < 29)
    (ho : PE X oe to) (hlv : f.lv ≤ Γ.lv) {es : List E} (hp : PEL X C W es as) (ht : PA X as t) (h0 : as = [] → t = tNil) :
    PE X (.Call (.Attribute oe x ap) as [] cp) (fun σ H Q => ∀ dV : List V, dV.length = f.dfl.length → (∀ G B H, Owns C G B H f.dfl dV []) → tMethD (C.ca c) x (spec C f) (dV.drop (f.dfl.length - (f.np - n))) (WE W) to t σ H Q) := by
  obtain ⟨a, fd, ps, dV, dv, hc, hm, F⟩ := hn
  have hd : Vals (dV.drop (f.dfl.length - (f.np - n))) (dv.drop (f.dfl.length - (f.np - n))) := F.dr.drop _
  have htree := meth_tree (m := x) (apos := ap) X.env hb (few_ok hp hfew cp X.env) hline
  cases as with
  | nil =>
    rw [h0 rfl]
    exact pe_imp (pe_methD0 ho hc hm F.ok (k.room.mono hlv) (F.bd _) hd (passAt tk) htree) fun σ H Q h => h dV F.dl F.do_
  | cons a0 ar =>
    cases es with
    | nil => cases hp
    | cons e es =>
      obtain ⟨_, _, q, n1, _, _, h3⟩ := id hp
      obtain ⟨rfl, rfl⟩ := List.cons.inj q
      exact pe_imp (pe_methD ho hc hm F.ok (k.room.mono hlv) (F.bd _) hd (passAt tk) ht (star_ok n1) (stars_ok h3 _ _) htree) fun σ H Q h => h dV F.dl F.do_
theorem nil_of {es : List E} (hp : PEL X C W es []) : es = [] := by
  cases es with
  | nil => rfl
  | cons _ _ => obtain ⟨_, _, q, _⟩ := hp; cases q
theorem pa_nilL : PA X [] (tNil : TA) := pa_nil
/-- o.m(..), o an instance of one of some classes, unchanged -/
theorem meth_ok {x : Str} {tab : List (Nat × FE)} {o : E} {es : List E} {oe : Expr} {as : List Expr} {ap cp : Pos} (k : CxOk C Γ X) (tk : Takes X W) (hn : ∀ p ∈ tab, NdOk C X (.me p.1 x p.2)) (hb : baseOk oe = true) (hline : (ap.endLine == cp.line) = true) (hfew : as.length < 29)
    (ho : PE X oe (tE C W o)) (hpl : isPl o = true → effs es = false) (hp : PEL X C W es as) (ht : tabB Γ tab false (es.length + 1) = true) : PE X (.Call (.Attribute oe x ap) as [] cp) (tE C W (.meth x tab o es)) := by
  obtain ⟨⟨p0, hp0⟩, ht⟩ := tabB_of ht
  obtain ⟨t, hT, h0, hTL⟩ : ∃ t : TA, PA X as t ∧ (as = [] → t = tNil) ∧ ∀ σ H (Q : List V → Hp → Prop), tL C W es σ H Q → t σ H Q := by
    cases as with
    | nil =>
      obtain rfl := nil_of hp
      exact ⟨tNil, pa_nil, fun _ => rfl, fun σ H Q z => z.nil⟩
    | cons a ar => exact ⟨_, pa_of hp, fun z => (nomatch z), fun _ _ _ z => z⟩
  refine ⟨fun pins sh σ H Q I h => ?_⟩
  obtain ⟨s, G, B, F, g, h⟩ := h
  replace h : outE C W σ (.meth x tab o es) G B H F s ((evE o s).bind fun d0 s1 => match selF tab (clsI x d0) with
    | some f => (evEs es s1).bind fun ds s2 => retR s2 (f.g (fillD f (d0 :: ds)))
    | none => .bad) Q := by unfold evE at h; exact h
  cases e1 : evE o s with
  | bad => rw [e1] at h; exact h.elim
  | exc c fs xs s' =>
    rw [e1] at h
    refine (meth_one (n := es.length + 1) k tk (hn p0 hp0) hb hline hfew ho (ht p0 hp0).1 hp hT h0).run pins sh σ H Q I fun dV _ _ => ⟨s, G, B, F, g, ?_⟩
    rw [e1]; exact h
  | ok d0 s1 =>
    rw [e1] at h
    replace h : outE C W σ (.meth x tab o es) G B H F s (match (generalizing := false) selF tab (clsI x d0) with
      | some f => (evEs es s1).bind fun ds s2 => retR s2 (f.g (fillD f (d0 :: ds)))
      | none => .bad) Q := h
    cases e2 : selF tab (clsI x d0) with
    | none => rw [e2] at h; exact h.elim
    | some f =>
      rw [e2] at h
      replace h : outE C W σ (.meth x tab o es) G B H F s ((evEs es s1).bind fun ds s2 => retR s2 (f.g (fillD f (d0 :: ds)))) Q := h
      obtain ⟨c, e3, hm⟩ := tab_mem e2
      obtain ⟨fl, fs, xs, rfl, hx⟩ := clsI_some e3
      obtain ⟨t1, t2, t3, t4⟩ := ht _ hm
      refine (meth_one (n := es.length + 1) k tk (hn _ hm) hb hline hfew ho t1 hp hT h0).run pins sh σ H Q I fun dV hdl hdo => ⟨s, G, B, F, g, ?_⟩
      rw [e1]
      intro v G1 B1 H1 F1 fd p
      obtain ⟨a, dx, ws, F', rfl, ea, _⟩ := p.own.insAt p.good.gb p.good.bh
      refine ⟨a, dx, _, rfl, ea, lookup_none hx, hTL _ _ _ ⟨s1, G1, B1, F1, p.good, ?_⟩⟩
      cases e4 : evEs es s1 with
      | bad => rw [e4] at h; exact h.elim
      | exc c fs xs s' => rw [e4] at h; exact outX.from p.ext (fun a z => .inl z) h
      | ok ds s2 =>
        rw [e4] at h
        intro vs G2 B2 H2 F2 U q
        obtain ⟨U2, q2⟩ := PostL.cons hpl p q
        exact call_spec (e := .meth x tab o es) (es := o :: es) rfl (fun z => z) t2 t3 t4 hdl hdo q2 h
/-- f(x, ..), x changed -/
theorem callM_ok {f : FE} {i : Nat} {es : List E} {a0 : Expr} {as : List Expr} {x : Str} {p pos : Pos} (k : CxOk C Γ X) (tk : Takes X W) (hn : NdOk C X (.fe f)) (hx : x = f.name) (hg : glB Γ.sc x = true) (hlv : f.lv ≤ Γ.lv) (hm : f.m = true) (hl : es.length + 1 ≤ f.np) (hl2 : f.np ≤ es.length + 1 + f.dfl.length)
    (hi : nmB Γ i a0 = true) (hpl : ∀ e ∈ es, isPl e = false) (hp : PEL X C W es as) : PE X (.Call (.Name x p) (a0 :: as) [] pos) (tE C W (.callM f i es)) := by
  obtain ⟨a, fd, ps, dV, dv, h1, h2, F⟩ := hn
  subst hx
  obtain ⟨g1, g2⟩ := k.gl hg
  have hd : Vals (dV.drop (f.dfl.length - (f.np - (es.length + 1)))) (dv.drop (f.dfl.length - (f.np - (es.length + 1)))) := F.dr.drop _
  have ns : notStar a0 = true := by
    unfold nmB at hi
    split at hi
    · rfl
    · cases hi
  refine pe_imp (pe_callD F.ok (k.room.mono hlv) g1 h1 h2 (F.bd _) hd (passAt tk) (pa_cons (nm_pv k hi) (pa_of hp) (star_ok ns)) g2 (star_ok ns) (stars_ok hp _ _)) fun σ H Q h => ?_
  obtain ⟨s, G, B, F0, g, h⟩ := h
  replace h : outE C W σ (.callM f i es) G B H F0 s (if isDead (s.getD i .dead) then .bad else (evEs es s).bind fun ds s1 => if isDead (s1.getD i .dead) then .bad else retM i s1 (f.g (fillM f (s1.getD i .dead) ds))) Q := by unfold evE at h; exact h
  split at h
  · exact h.elim
  · rename_i hd0
    obtain ⟨v0, ev, o0⟩ := g.sl i (not_dead (by simpa using hd0))
    refine ⟨v0, ev, s, G, B, F0, g, ?_⟩
    cases e1 : evEs es s with
    | bad => rw [e1] at h; exact h.elim
    | exc c fs xs s' => rw [e1] at h; exact h
    | ok ds s1 =>
      rw [e1] at h
      replace h : outE C W σ (.callM f i es) G B H F0 s (if isDead (s1.getD i .dead) then .bad else retM i s1 (f.g (fillM f (s1.getD i .dead) ds))) Q := h
      split at h
      · exact h.elim
      · rename_i hd1
        intro vs G1 B1 H1 F1 U q
        exact callM_spec (e := .callM f i es) rfl hm hl hl2 F.dl rfl F.do_ hpl q ev (by simpa using hd1) h
/-- x.m(..), x changed -/
theorem methM_ok {x : Str} {tab : List (Nat × FE)} {i : Nat} {es : List E} {oe : Expr} {as : List Expr} {ap cp : Pos} (k : CxOk C Γ X) (tk : Takes X W) (hn : ∀ p ∈ tab, NdOk C X (.me p.1 x p.2)) (hline : (ap.endLine == cp.line) = true) (hfew : as.length < 29)
    (hi : nmB Γ i oe = true) (hpl : ∀ e ∈ es, isPl e = false) (hp : PEL X C W es as) (ht : tabB Γ tab true (es.length + 1) = true) : PE X (.Call (.Attribute oe x ap) as [] cp) (tE C W (.methM x tab i es)) := by
  obtain ⟨⟨p0, hp0⟩, ht⟩ := tabB_of ht
  have hb : baseOk oe = true := by
    unfold nmB at hi
    split at hi
    · rfl
    · cases hi
  obtain ⟨t, hT, h0, hTL⟩ : ∃ t : TA, PA X as t ∧ (as = [] → t = tNil) ∧ ∀ σ H (Q : List V → Hp → Prop), tL C W es σ H Q → t σ H Q := by
    cases as with
    | nil =>
      obtain rfl := nil_of hp
      exact ⟨tNil, pa_nil, fun _ => rfl, fun σ H Q z => z.nil⟩
    | cons a ar => exact ⟨_, pa_of hp, fun z => (nomatch z), fun _ _ _ z => z⟩
  refine ⟨fun pins sh σ H Q I h => ?_⟩
  obtain ⟨s, G, B, F, g, h⟩ := h
  replace h : outE C W σ (.methM x tab i es) G B H F s (match (generalizing := false) selF tab (clsI x (s.getD i .dead)) with
    | some f => (evEs es s).bind fun ds s1 => if isDead (s1.getD i .dead) then .bad else retM i s1 (f.g (fillM f (s1.getD i .dead) ds))
    | none => .bad) Q := by unfold evE at h; exact h
  cases e2 : selF tab (clsI x (s.getD i .dead)) with
  | none => rw [e2] at h; exact h.elim
  | some f =>
    rw [e2] at h
    replace h : outE C W σ (.methM x tab i es) G B H F s ((evEs es s).bind fun ds s1 => if isDead (s1.getD i .dead) then .bad else retM i s1 (f.g (fillM f (s1.getD i .dead) ds))) Q := h
    obtain ⟨c, e3, hm⟩ := tab_mem e2
    obtain ⟨fl, fs, xs, e5, hx⟩ := clsI_some e3
    obtain ⟨t1, t2, t3, t4⟩ := ht _ hm
    have nd0 : s.getD i .dead ≠ .dead := by rw [e5]; exact fun z => nomatch z
    obtain ⟨v0, ev, o0⟩ := g.sl i nd0
    rw [e5] at o0
    obtain ⟨a, dx, ws, F', rfl, ea, _⟩ := o0.insAt g.gb g.bh
    refine (meth_one (n := es.length + 1) k tk (hn _ hm) hb hline hfew (nm_pv k hi) t1 hp hT h0).run pins sh σ H Q I fun dV hdl hdo => ⟨.ref a, ev, a, dx, _, rfl, ea, lookup_none hx, hTL _ _ _ ⟨s, G, B, F, g, ?_⟩⟩
    cases e4 : evEs es s with
    | bad => rw [e4] at h; exact h.elim
    | exc c fs xs s' => rw [e4] at h; exact h
    | ok ds s1 =>
      rw [e4] at h
      replace h : outE C W σ (.methM x tab i es) G B H F s (if isDead (s1.getD i .dead) then .bad else retM i s1 (f.g (fillM f (s1.getD i .dead) ds))) Q := h
      split at h
      · exact h.elim
      · rename_i hd1
        intro vs G1 B1 H1 F1 U q
        exact callM_spec (e := .methM x tab i es) rfl t2 t3 t4 hdl rfl hdo hpl q ev (by simpa using hd1) h
end
end TT
namespace TT
open PySem PySem.Spec PyProof.Rows L2
section
variable {X : Cx} {CX : CXT} {k : Nat} {f C0 : Addr} {fd : FuncData} {ps : List Str} {sp : Sp} {E : L2.St → XK} {x : Str} {p pos : Pos} {e : Expr} {es : List Expr} {t : TA} {dvs : List V} {ds : List Value}
theorem run_makeD {pins : List (Addr × Obj)} {σ : L2.St} {H : Hp} {sh : Shared} {Q : VK} {us : List Value} {vs : List V} (M : Mk X.K C0 f) (F : FnOk X.prog X.w X.K X.mg X.base CX k f fd ps sp) (hr : Room (k + 1) X.A) (hb : Binds X.K fd ps ds) (hd : Vals dvs ds)
    (hx : PassesAt CX X σ (E σ)) (I : Inv X pins σ H sh) (rel : Vals vs us)
    (want : ∀ y dy, H y = none → H dy = none → dy ≠ y → sp (.ref y :: (vs ++ dvs)) (upd (upd H dy (.own y)) y (.ins C0 dy [])) (fun v H2 => v = .non ∧ Q (.ref y) H2) (E σ)) :
    wpAny (model X.prog X.w) X.A (call (.ref C0) us) (EP X pins σ Q) X.xe sh := by
  have n0 := I.hok.fresh (Nat.le_refl sh.heap.objs.size)
  have n1 := I.hok.fresh (Nat.le_succ sh.heap.objs.size)
  have ask := want (sh.heap.objs.size + 1) sh.heap.objs.size n1 n0 (Nat.ne_of_lt (Nat.lt_succ_self _))
  have J := Inv.made (C := C0) I
  have rel2 : Vals (V.ref (sh.heap.objs.size + 1) :: (vs ++ dvs)) (Value.ref (sh.heap.objs.size + 1) :: (us ++ ds)) := Paired.cons rfl (rel.append hd)
  have ln : (Value.ref (sh.heap.objs.size + 1) :: us ++ ds).length = ps.length := by
    have q := rel2.length
    rw [F.len _ _ _ _ ask] at q
    exact q.symm
  have run := F.run _ X.stack _ _ ⟨Value.ref (sh.heap.objs.size + 1) :: us, []⟩ (Value.ref (sh.heap.objs.size + 1) :: (us ++ ds)) _ _ (E σ) (hr.make C0 us []) (J.env0.make C0 us []) (hb _ (Value.ref (sh.heap.objs.size + 1) :: us) J.kIn ln) rel2 ask
  refine wpAny_call (make_map (f := f) I.kIn M.makes M.init (beq_iff_eq.mp M.fn) (codeAny_mono run fun r s' out => ?_))
  match r, out with
  | .error err, out => exact hx pins _ _ err s' J out
  | .ok (.ret u), out =>
    obtain ⟨v, H', J2, rv, ev, q3⟩ := J.after out
    subst ev
    exact ⟨rv, V.ref (sh.heap.objs.size + 1), H', J2, rfl, q3⟩
  | .ok .next, out => exact False.elim out
  | .ok .brk, out => exact False.elim out
  | .ok .cont, out => exact False.elim out
def tMakeD (C0 : Addr) (sp : Sp) (dvs : List V) (E : L2.St → XK) (t : TA) : TE := fun σ H Q => t σ H fun vs H1 => ∀ y dy, H1 y = none → H1 dy = none → dy ≠ y → sp (.ref y :: (vs ++ dvs)) (upd (upd H1 dy (.own y)) y (.ins C0 dy [])) (fun v H2 => v = .non ∧ Q (.ref y) H2) (E σ)
theorem pe_makeD (M : Mk X.K C0 f) (F : FnOk X.prog X.w X.K X.mg X.base CX k f fd ps sp) (hr : Room (k + 1) X.A) (hg : Gl X x) (hm : X.mg x = some (.ref C0)) (hb : Binds X.K fd ps ds) (hd : Vals dvs ds) (hx : ∀ σ, PassesAt CX X σ (E σ))
    (ha : PA X (e :: es) t) (hdb : (x == ("__debug__" : Str)) = false) (he : starEach (e :: es) X.env = (false, eval e X.env) :: starEach es X.env) (hpl : (backTo pos (starEach es X.env)).any (·.1) = false) :
    PE X (.Call (.Name x p) (e :: es) [] pos) (tMakeD C0 sp dvs E t) :=
  ⟨fun pins s σ H Q I h => wpAny_Call_Name_kw (ld_glob I hg hm (PySem.W.callWith_K (h₀ := X.base) I.ok.mod.kin M.kp (thn (ha.run pos pins s σ H _ I h) fun us s1 z => by
    obtain ⟨vs, H1, I1, r, q⟩ := z
    exact ⟨I1.kIn, run_makeD M F hr hb hd (hx σ) I1 r q⟩) he hpl) hdb)⟩
theorem pe_makeD0 (M : Mk X.K C0 f) (F : FnOk X.prog X.w X.K X.mg X.base CX k f fd ps sp) (hr : Room (k + 1) X.A) (hg : Gl X x) (hm : X.mg x = some (.ref C0)) (hb : Binds X.K fd ps ds) (hd : Vals dvs ds) (hx : ∀ σ, PassesAt CX X σ (E σ))
    (hdb : (x == ("__debug__" : Str)) = false) : PE X (.Call (.Name x p) [] [] pos) (tMakeD C0 sp dvs E tNil) :=
  ⟨fun pins s σ H Q I h => wpAny_Call_Name_kw (ld_glob I hg hm (PySem.W.callWith_K0 I.kIn M.kp (run_makeD (us := []) (vs := []) M F hr hb hd (hx σ) I .nil h)) hdb)⟩
end
section
variable {X : Cx} {C : Gl0} {W : WX} {Γ : Gam}
theorem make_spec {f : FE} {c : Nat} {e : E} {es : List E} {σ : L2.St} {Q : VK} {dV : List V} {G B H G1 B1 H1 : Hp} {F F1 : Fp} {s s1 ds : List D} {vs : List V} {U : List Addr} {y dy : Addr} (he : isPl e = false) (hef : eff e = effs es) (hm : f.m = true) (hl : es.length + 1 ≤ f.np) (hl2 : f.np ≤ es.length + 1 + f.dfl.length) (hdl : dV.length = f.dfl.length)
    (hdo : ∀ G B H, Owns C G B H f.dfl dV []) (p : PostL C σ es G B H F s ds s1 vs G1 B1 H1 F1 U) (h : outE C W σ e G B H F s (retI s1 (f.g (fillM f (.ins .own c [] []) ds))) Q) (hy : H1 y = none) (hdy : H1 dy = none) (ne : dy ≠ y) :
    spec C f (.ref y :: (vs ++ dV.drop (f.dfl.length - (f.np - (es.length + 1))))) (upd (upd H1 dy (.own y)) y (.ins (C.ca c) dy [])) (fun v H2 => v = .non ∧ Q (.ref y) H2) (WE W σ) := by
  have hlen := vl_len p.vl
  obtain ⟨U', ov⟩ := p.vl.views
  have vl := ov.length
  obtain ⟨x1, b1, bdy⟩ := alloc_own (G := G1) (o := .own y) p.good.bh hdy
  have hy2 : upd H1 dy (.own y) y = none := by rw [upd_ne (Ne.symm ne)]; exact hy
  obtain ⟨x2, b2, by_⟩ := alloc_own (G := G1) (o := .ins (C.ca c) dy []) b1 hy2
  have xa : Alloc G1 B1 H1 G1 B1 (upd (upd H1 dy (.own y)) y (.ins (C.ca c) dy [])) := x1.trans x2
  have ov2 := xa.owns ov fun _ _ z => z
  have o0 : Own C G1 B1 (upd (upd H1 dy (.own y)) y (.ins (C.ca c) dy [])) (.ins .own c [] []) (.ref y) [y] := ⟨y, dy, [], [], rfl, ⟨upd_same, by_⟩, ⟨rfl, rfl⟩, rfl, trivial, rfl, List.nodup_nil⟩
  have nU : ∀ a ∈ U', a ∉ [y] := fun a ha z => by
    rw [List.mem_singleton.1 z] at ha
    exact (ov.fp y ha).1 hy
  obtain ⟨a1, a2, a3, a4⟩ := core_in p.good.gb b2 o0 ov2 nU
  have hB : ∀ a ∈ [y], B1 a = none := fun a ha => by rw [List.mem_singleton.1 ha]; exact by_
  have od := hdo G1 (bexc B1 (upd (upd H1 dy (.own y)) y (.ins (C.ca c) dy [])) [y]) (upd (upd H1 dy (.own y)) y (.ins (C.ca c) dy []))
  -- behind the call
  have back : ∀ {G' B' H' : Hp} {P : Addr → Prop}, Ext G1 B1 (upd (upd H1 dy (.own y)) y (.ins (C.ca c) dy [])) (fun a => a ∈ [y]) G' B' H' P → Alloc G1 B1 H1 G' B' H' ∧ ∀ a, P a → H1 a = none := fun {G' B' H' P} x => by
    have nn : ∀ a, (a ∈ [y] ∨ upd (upd H1 dy (.own y)) y (.ins (C.ca c) dy []) a = none) → H1 a = none := fun a z => by
      rcases z with z | z
      · rw [List.mem_singleton.1 z]; exact hy
      · cases e : H1 a with
        | none => rfl
        | some o => rw [xa.keep a o e fun z => z] at z; cases z
    refine ⟨⟨fun a o z _ => x.keep a o (xa.keep a o z fun z => z) (fun q => by rw [List.mem_singleton.1 q, hy] at z; cases z), x.g, x.b, fun a z => ?_, fun a z => ?_, fun _ z => z.elim⟩, fun a z => nn a (x.pn a z)⟩
    · rcases x.gn a z with q | q
      · exact .inl q
      · exact .inr (.inr (nn a q))
    · rcases x.bn a z with q | q
      · exact .inl q
      · exact .inr (.inr (nn a q))
  refine ⟨?_, fillM f (.ins .own c [] []) ds, G1, bexc B1 (upd (upd H1 dy (.own y)) y (.ins (C.ca c) dy [])) [y], [y], a1, a2, ?_, ?_⟩
  · rw [List.length_cons, List.length_append, List.length_drop, hdl]; omega
  · unfold ArgsOk
    rw [hm, if_pos rfl]
    refine ⟨_, _, _, _, rfl, rfl, a3, by simp, ?_⟩
    rw [hlen]
    exact a4.app (od.dropN _)
  · cases e2 : f.g (fillM f (.ins .own c [] []) ds) with
    | bad => rw [e2] at h; exact h
    | exc cc fs xs d0' =>
      rw [e2] at h
      intro cls dd G' B' H' fs' x gb' bh' xr sf
      obtain ⟨c1, c2, c3, c4⟩ := core_out p.good.gb b2 hB x gb' bh'
      obtain ⟨x0, _⟩ := back c3
      exact h cls dd G' (ovl B1 G') H' F1 (p.good.alloc x0 c1 c2) ((p.ext.trans (Alloc.ext x0)).imp (fun _ z => z) fun a z => .inl (.inl z)) xr
    | ok r d0' =>
      rw [e2] at h
      cases r with
      | non =>
        replace h : outE C W σ e G B H F s (if (noBor d0' && !isDead d0') = true then .ok d0' s1 else .bad) Q := h
        split at h
        case isFalse => exact h.elim
        rename_i hh
        simp only [Bool.and_eq_true, Bool.not_eq_true'] at hh
        refine ⟨rfl, rfl, fun v G' B' H' fr fs' x gb' bh' own nd sf => ⟨own.1, ?_⟩⟩
        unfold Self at sf
        rw [hm, if_pos rfl] at sf
        obtain ⟨⟨v0', vr', e3, o'⟩, n', _⟩ := sf
        obtain ⟨rfl, _⟩ := List.cons.inj e3
        obtain ⟨c1, c2, c3, c4⟩ := core_out p.good.gb b2 hB x gb' bh'
        obtain ⟨x0, fresh⟩ := back c3
        refine h (.ref y) G' (ovl B1 G') H' F1 fs' { good := p.good.alloc x0 c1 c2, ext := p.ext.trans (Alloc.to x0 fun a z => ?_), own := o'.reB hh.1 fun a ha => ⟨c4 a (.inl ha) (o'.fp a ha).2, rfl⟩, nd := n', pl := (fun q => by rw [he] at q; cases q), np := (fun _ a ha z => (p.good.inF z).1 (fresh a (.inl ha))), pure := (fun q => ?_) }
        · rcases z with z | z
          · exact .inl (.inl z)
          · exact .inr (fresh a (.inl z))
        · obtain ⟨e1, e2, kk⟩ := p.pure (by rw [← hef]; exact q)
          exact ⟨e1, e2, fun a o z => x0.keep a o (kk a o z) fun z => z⟩
      | dead => exact h.elim
      | bl _ => exact h.elim
      | int _ => exact h.elim
      | str _ => exact h.elim
      | fn _ => exact h.elim
      | scr _ => exact h.elim
      | ktup _ => exact h.elim
      | tup _ _ => exact h.elim
      | lst _ _ => exact h.elim
      | dk _ _ _ => exact h.elim
      | dt _ _ _ => exact h.elim
      | ins _ _ _ _ => exact h.elim
      | exn _ _ _ => exact h.elim
/-- an instance made -/
theorem make_ok {c : Nat} {x : Str} {f : FE} {es : List E} {as : List Expr} {p pos : Pos} (k : CxOk C Γ X) (tk : Takes X W) (hn : NdOk C X (.mk c x f)) (hg : glB Γ.sc x = true) (hlv : f.lv + 1 ≤ Γ.lv) (hm : f.m = true) (hl : es.length + 1 ≤ f.np) (hl2 : f.np ≤ es.length + 1 + f.dfl.length)
    (hp : PEL X C W es as) : PE X (.Call (.Name x p) as [] pos) (tE C W (.make c x f es)) := by
  obtain ⟨a, fd, ps, dV, dv, h1, M, F⟩ := hn
  obtain ⟨g1, g2⟩ := k.gl hg
  have hd : Vals (dV.drop (f.dfl.length - (f.np - (es.length + 1)))) (dv.drop (f.dfl.length - (f.np - (es.length + 1)))) := F.dr.drop _
  have key : ∀ σ H (Q : VK), tE C W (.make c x f es) σ H Q → tL C W es σ H fun vs H1 => ∀ y dy, H1 y = none → H1 dy = none → dy ≠ y → spec C f (.ref y :: (vs ++ dV.drop (f.dfl.length - (f.np - (es.length + 1))))) (upd (upd H1 dy (.own y)) y (.ins (C.ca c) dy [])) (fun v H2 => v = .non ∧ Q (.ref y) H2) (WE W σ) := fun σ H Q h => by
    obtain ⟨s, G, B, F0, g, h⟩ := h
    replace h : outE C W σ (.make c x f es) G B H F0 s ((evEs es s).bind fun ds s1 => retI s1 (f.g (fillM f (.ins .own c [] []) ds))) Q := by unfold evE at h; exact h
    refine ⟨s, G, B, F0, g, ?_⟩
    cases e1 : evEs es s with
    | bad => rw [e1] at h; exact h.elim
    | exc c fs xs s' => rw [e1] at h; exact h
    | ok ds s1 =>
      rw [e1] at h
      intro vs G1 B1 H1 F1 U q y dy hy hdy ne
      exact make_spec (e := .make c x f es) rfl rfl hm hl hl2 F.dl F.do_ q h hy hdy ne
  cases es with
  | nil =>
    obtain rfl : as = [] := hp
    exact pe_imp (pe_makeD0 M F.ok (k.room.mono hlv) g1 h1 (F.bd _) hd (passAt tk) g2) fun σ H Q h => (key σ H Q h).nil
  | cons e es =>
    obtain ⟨a0, ar, rfl, n1, _, _, h3⟩ := id hp
    exact pe_imp (pe_makeD M F.ok (k.room.mono hlv) g1 h1 (F.bd _) hd (passAt tk) (pa_of hp) g2 (star_ok n1) (stars_ok h3 _ _)) key
/-- a call of a local name that holds a def -/
theorem pe_callLD {CX : CXT} {kk i : Nat} {f : Addr} {fd : FuncData} {ps : List Str} {sp : Sp} {E : L2.St → XK} {x : Str} {p pos : Pos} {e : Expr} {es : List Expr} {t : TA} {dvs : List V} {ds : List Value} (F : FnOk X.prog X.w X.K X.mg X.base CX kk f fd ps sp) (hr : Room kk X.A) (hv : PE X (.Name x p) (tVar i)) (hk : PySem.W.keepIn X.K (.ref f) = true) (hb : Binds X.K fd ps ds) (hd : Vals dvs ds) (hx : ∀ σ, PassesAt CX X σ (E σ))
    (ha : PA X (e :: es) t) (he : starEach (e :: es) X.env = (false, eval e X.env) :: starEach es X.env) (hpl : (backTo pos (starEach es X.env)).any (·.1) = false) :
    PE X (.Call (.Name x p) (e :: es) [] pos) (fun σ H Q => σ[i]? = some (some (.ref f)) ∧ t σ H fun vs H1 => sp (vs ++ dvs) H1 Q (E σ)) := by
  refine ⟨fun pins s σ H Q I h => ?_⟩
  obtain ⟨hs, h⟩ := h
  refine wpAny_Call_Name_kw ?_
  refine thn (hv.run pins s σ H (fun v H1 => v = .ref f ∧ H1 = H) I ⟨_, hs, rfl, rfl⟩) fun u s1 z => ?_
  obtain ⟨v, H1, I1, rv, rfl, rfl⟩ := z
  obtain rfl : u = Value.ref f := rv
  refine PySem.W.callWith_K (h₀ := X.base) I.ok.mod.kin hk (thn (ha.run pos pins s1 σ _ _ I1 h) fun us s2 z => ?_) he hpl
  obtain ⟨vs, H2, I2, r, q⟩ := z
  exact ⟨I2.kIn, run_fnD F hr hb hd (hx σ) I2 r q⟩
theorem pe_callLD0 {CX : CXT} {kk i : Nat} {f : Addr} {fd : FuncData} {ps : List Str} {sp : Sp} {E : L2.St → XK} {x : Str} {p pos : Pos} {dvs : List V} {ds : List Value} (F : FnOk X.prog X.w X.K X.mg X.base CX kk f fd ps sp) (hr : Room kk X.A) (hv : PE X (.Name x p) (tVar i)) (hk : PySem.W.keepIn X.K (.ref f) = true) (hb : Binds X.K fd ps ds) (hd : Vals dvs ds) (hx : ∀ σ, PassesAt CX X σ (E σ)) :
    PE X (.Call (.Name x p) [] [] pos) (fun σ H Q => σ[i]? = some (some (.ref f)) ∧ sp dvs H Q (E σ)) := by
  refine ⟨fun pins s σ H Q I h => ?_⟩
  obtain ⟨hs, h⟩ := h
  refine wpAny_Call_Name_kw ?_
  refine thn (hv.run pins s σ H (fun v H1 => v = .ref f ∧ H1 = H) I ⟨_, hs, rfl, rfl⟩) fun u s1 z => ?_
  obtain ⟨v, H1, I1, rv, rfl, rfl⟩ := z
  obtain rfl : u = Value.ref f := rv
  exact PySem.W.callWith_K0 I1.kIn hk (run_fnD (us := []) (vs := []) F hr hb hd (hx σ) I1 .nil h)
/-- a call of a local name that holds one of some defs -/
theorem callV_ok {i : Nat} {tab : List (Nat × FE)} {es : List E} {as : List Expr} {x : Str} {p pos : Pos} (k : CxOk C Γ X) (tk : Takes X W) (hn : ∀ q ∈ tab, NdOk C X (.fv q.1 q.2)) (hi : nmB Γ i (.Name x p) = true) (hp : PEL X C W es as) (ht : tabB Γ tab false es.length = true) :
    PE X (.Call (.Name x p) as [] pos) (tE C W (.callV i tab es)) := by
  obtain ⟨_, ht⟩ := tabB_of ht
  refine ⟨fun pins sh σ H Q I h => ?_⟩
  obtain ⟨s, G, B, F, g, h⟩ := h
  replace h : outE C W σ (.callV i tab es) G B H F s (match (generalizing := false) selF tab (fnI (s.getD i .dead)) with
    | some f => (evEs es s).bind fun ds s1 => retR s1 (f.g (fillD f ds))
    | none => .bad) Q := by unfold evE at h; exact h
  cases e2 : selF tab (fnI (s.getD i .dead)) with
  | none => rw [e2] at h; exact h.elim
  | some f =>
    rw [e2] at h
    replace h : outE C W σ (.callV i tab es) G B H F s ((evEs es s).bind fun ds s1 => retR s1 (f.g (fillD f ds))) Q := h
    obtain ⟨c, e3, hm⟩ := tab_mem e2
    have e4 : s.getD i .dead = .fn c := by
      unfold fnI at e3
      split at e3
      · rename_i q; rw [q]; cases e3; rfl
      · cases e3
    obtain ⟨t1, t2, t3, t4⟩ := ht _ hm
    obtain ⟨v0, ev, o0⟩ := g.sl i (by rw [e4]; exact fun z => nomatch z)
    rw [e4] at o0
    obtain ⟨rfl, _⟩ := o0
    obtain ⟨fd, ps, dV, dv, hk, FF⟩ := hn _ hm
    have hd : Vals (dV.drop (f.dfl.length - (f.np - es.length))) (dv.drop (f.dfl.length - (f.np - es.length))) := FF.dr.drop _
    have key : tL C W es σ H fun vs H1 => spec C f (vs ++ dV.drop (f.dfl.length - (f.np - es.length))) H1 Q (WE W σ) := by
      refine ⟨s, G, B, F, g, ?_⟩
      cases e5 : evEs es s with
      | bad => rw [e5] at h; exact h.elim
      | exc c fs xs s' => rw [e5] at h; exact h
      | ok ds s1 =>
        rw [e5] at h
        intro vs G1 B1 H1 F1 U q
        exact call_spec (e := .callV i tab es) rfl (fun z => z) t2 t3 t4 FF.dl FF.do_ q h
    cases es with
    | nil =>
      obtain rfl : as = [] := hp
      exact (pe_callLD0 FF.ok (k.room.mono t1) (nm_pv k hi) hk (FF.bd _) hd (passAt tk)).run pins sh σ H Q I ⟨ev, key.nil⟩
    | cons e es =>
      obtain ⟨a0, ar, rfl, n1, _, _, h3⟩ := id hp
      exact (pe_callLD FF.ok (k.room.mono t1) (nm_pv k hi) hk (FF.bd _) hd (passAt tk) (pa_of hp) (star_ok n1) (stars_ok h3 _ _)).run pins sh σ H Q I ⟨ev, key⟩
end
end TT
namespace TT
open PySem PySem.Spec PyProof.Rows L2
section
variable {X : Cx} {C : Gl0} {W : WX} {Γ : Gam}
abbrev Both (X : Cx) (C : Gl0) (W : WX) (e : E) (a : Expr) : Prop := PE X a (tE C W e) ∧ (tstB a = true → PT X a (tTst C W e))
theorem Both.of {e : E} {a : Expr} (k : CxOk C Γ X) (h : PE X a (tE C W e)) (p : tstPlain a = true) : Both X C W e a := ⟨h, fun _ => pt_default k h p⟩
def BL (X : Cx) (C : Gl0) (W : WX) : List E → List Expr → Prop
  | [], as => as = []
  | e :: es, as => ∃ a ar, as = a :: ar ∧ notStar a = true ∧ (isPl e = true → effs es = false) ∧ Both X C W e a ∧ BL X C W es ar
theorem BL.pel : ∀ {es : List E} {as : List Expr}, BL X C W es as → PEL X C W es as
  | [], _, h => h
  | _ :: _, _, h => by
    obtain ⟨a, ar, rfl, n, p, b, h⟩ := h
    exact ⟨a, ar, rfl, n, p, b.1, h.pel⟩
theorem c_ok {a : Expr} {d : D} {v : V} (o : ∀ G B H, Own C G B H d v []) (p : PE X a (tC v)) : PE X a (tE C W (.c d)) :=
  pe_imp p fun σ H Q z => tE_now (e := .c d) (d := d) (fun _ => rfl) rfl o z
theorem cst_ok {d : D} {c : Const} {j : Nat} {pos : Pos} (h : cstB d c = true) : PE X (.Constant c j pos) (tE C W (.c d)) := by
  unfold cstB at h
  split at h
  · simp only [decide_eq_true_eq] at h; subst h
    exact c_ok (v := .int _) (fun _ _ _ => ⟨rfl, rfl⟩) pe_int
  · simp only [decide_eq_true_eq] at h; subst h
    exact c_ok (v := .str _) (fun _ _ _ => ⟨rfl, rfl⟩) pe_str
  · have h := eq_of_beq h; subst h
    exact c_ok (v := .bl _) (fun _ _ _ => ⟨rfl, rfl⟩) pe_bl
  · exact c_ok (v := .non) (fun _ _ _ => ⟨rfl, rfl⟩) pe_non
  · cases h
theorem tstB_not {a : Expr} {pos : Pos} : tstB (.UnaryOp .Not a pos) = true := rfl
theorem not_cs {e : E} {σ : L2.St} {H : Hp} {Q : Bool → Hp → Prop} (h : tTst C W (.op .not [e]) σ H Q) : tNot (tTst C W e) σ H Q := by
  obtain ⟨s, G, B, F, g, h⟩ := h
  refine ⟨s, G, B, F, g, ?_⟩
  have h : outT C W σ (.op .not [e]) G B H F s ((evEs [e] s).bind fun ds s1 => R.of (opD .not ds) s1) Q := by unfold evE at h; exact h
  unfold evEs evEs at h
  cases e1 : evE e s with
  | bad => rw [e1] at h; exact h
  | exc c fs xs s' => rw [e1] at h; exact h
  | ok d s1 =>
    rw [e1] at h
    have h : outT C W σ (.op .not [e]) G B H F s (R.of (notD d) s1) Q := h
    unfold notD at h
    split at h
    · rename_i b _
      obtain ⟨b', hb, h⟩ := h
      cases hb
      refine ⟨b, rfl, fun v G1 B1 H1 F1 fd p => h (.bl (!b)) G1 B1 H1 F1 [] (bl_now p rfl fun z => by simpa [eff, effs] using z)⟩
    · exact h.elim
theorem not_pe {e : E} {a : Expr} {pos : Pos} (h : PE X a (tE C W e)) : PE X (.UnaryOp .Not a pos) (tE C W (.op .not [e])) :=
  pe_imp (pe_not h) fun σ H Q z => t_one (op_step z fun ds vs G1 B1 H1 F1 U d P e1 q => v_not P e1 q)
theorem ite_cs {c a b : E} {σ : L2.St} {H : Hp} {Q : VK} (ha : isPl a = false) (hb : isPl b = false) (h : tE C W (.ite c a b) σ H Q) : tIf (tTst C W c) (tE C W a) (tE C W b) σ H Q := by
  obtain ⟨s, G, B, F, g, h⟩ := h
  refine ⟨s, G, B, F, g, ?_⟩
  have h : outE C W σ (.ite c a b) G B H F s ((evE c s).bind fun d s1 => match truth d with
    | some true => evE a s1
    | some false => evE b s1
    | none => .bad) Q := by unfold evE at h; exact h
  cases e1 : evE c s with
  | bad => rw [e1] at h; exact h
  | exc c fs xs s' => rw [e1] at h; exact h
  | ok d s1 =>
    rw [e1] at h
    have h : outE C W σ (.ite c a b) G B H F s (match (generalizing := false) truth d with
      | some true => evE a s1
      | some false => evE b s1
      | none => .bad) Q := h
    cases e2 : truth d with
    | none => rw [e2] at h; exact h.elim
    | some t =>
      rw [e2] at h
      refine ⟨t, e2, fun v G1 B1 H1 F1 fd p => ?_⟩
      have ef : eff (.ite c a b) = false → eff c = false ∧ eff a = false ∧ eff b = false := fun z => by
        simp only [eff, Bool.or_eq_false_iff] at z
        exact ⟨z.1.1, z.1.2, z.2⟩
      cases t with
      | true =>
        refine iteT ?_
        refine ⟨s1, G1, B1, F1, p.good, ?_⟩
        have h : outE C W σ (.ite c a b) G B H F s (evE a s1) Q := h
        cases e3 : evE a s1 with
        | bad => rw [e3] at h; exact h
        | exc c fs xs s' => rw [e3] at h; exact outX.from p.ext (fun a z => .inl z) h
        | ok d2 s2 =>
          rw [e3] at h
          exact fun v2 G2 B2 H2 F2 fd2 q => h v2 G2 B2 H2 F2 fd2 (p.trans q ha rfl fun z => ⟨(ef z).1, (ef z).2.1⟩)
      | false =>
        refine iteF ?_
        refine ⟨s1, G1, B1, F1, p.good, ?_⟩
        have h : outE C W σ (.ite c a b) G B H F s (evE b s1) Q := h
        cases e3 : evE b s1 with
        | bad => rw [e3] at h; exact h
        | exc c fs xs s' => rw [e3] at h; exact outX.from p.ext (fun a z => .inl z) h
        | ok d2 s2 =>
          rw [e3] at h
          exact fun v2 G2 B2 H2 F2 fd2 q => h v2 G2 B2 H2 F2 fd2 (p.trans q hb rfl fun z => ⟨(ef z).1, (ef z).2.2⟩)
/-- a < b < c -/
theorem chain_cs {o1 o2 : Op} {a b c : E} {p1 p2 : Int → Int → Bool} {σ : L2.St} {H : Hp} {Q : VK} (h1 : ordP o1 = some p1) (h2 : ordP o2 = some p2) (ha : isPl a = false) (hb : isPl b = false) (hc : isPl c = false) (h : tE C W (.chain o1 o2 a b c) σ H Q) :
    tChain (rI0 fun i j => .bl (p1 i j)) (rI0 fun i j => .bl (p2 i j)) (tE C W a) (tE C W b) (tE C W c) σ H Q := by
  obtain ⟨s, G, B, F, g, h⟩ := h
  refine ⟨s, G, B, F, g, ?_⟩
  replace h : outE C W σ (.chain o1 o2 a b c) G B H F s ((evE a s).bind fun x s1 => (evE b s1).bind fun y s2 => match ordD o1 x y with
    | some true => (evE c s2).bind fun z s3 => R.of ((ordD o2 y z).map .bl) s3
    | some false => .ok (.bl false) s2
    | none => .bad) Q := by unfold evE at h; exact h
  cases e1 : evE a s with
  | bad => rw [e1] at h; exact h
  | exc c fs xs s' => rw [e1] at h; exact h
  | ok x s1 =>
    rw [e1] at h
    intro v G1 B1 H1 F1 fd p
    refine ⟨s1, G1, B1, F1, p.good, ?_⟩
    replace h : outE C W σ (.chain o1 o2 a b c) G B H F s ((evE b s1).bind fun y s2 => match ordD o1 x y with
      | some true => (evE c s2).bind fun z s3 => R.of ((ordD o2 y z).map .bl) s3
      | some false => .ok (.bl false) s2
      | none => .bad) Q := h
    cases e2 : evE b s1 with
    | bad => rw [e2] at h; exact h
    | exc c fs xs s' => rw [e2] at h; exact outX.from p.ext (fun a z => .inl z) h
    | ok y s2 =>
      rw [e2] at h
      intro w G2 B2 H2 F2 fd2 q
      have pq : PostE C σ (.chain o1 o2 a b c) G B H F s y s2 w G2 B2 H2 F2 fd2 := p.trans q hb rfl fun z => by
        simp only [eff, Bool.or_eq_false_iff] at z
        exact ⟨z.1, z.2.1⟩
      replace h : outE C W σ (.chain o1 o2 a b c) G B H F s (match (generalizing := false) ordD o1 x y with
        | some true => (evE c s2).bind fun z s3 => R.of ((ordD o2 y z).map .bl) s3
        | some false => .ok (.bl false) s2
        | none => .bad) Q := h
      cases x <;> (try (simp only [ordD, h1] at h; exact h.elim))
      rename_i i
      cases y <;> (try (simp only [ordD, h1] at h; exact h.elim))
      rename_i j
      refine ⟨i, j, p.own.1, q.own.1, p1 i j, rfl, ?_⟩
      have eo : ordD o1 (.int i) (.int j) = some (p1 i j) := by simp only [ordD, h1]
      rw [eo] at h
      cases hp : p1 i j with
      | false =>
        rw [hp] at h
        rw [if_neg (by decide)]
        exact h (.bl false) G2 B2 H2 F2 [] (bl_now pq rfl id)
      | true =>
        rw [hp] at h
        rw [if_pos rfl]
        refine ⟨s2, G2, B2, F2, q.good, ?_⟩
        replace h : outE C W σ (.chain o1 o2 a b c) G B H F s ((evE c s2).bind fun z s3 => R.of ((ordD o2 (.int j) z).map .bl) s3) Q := h
        cases e3 : evE c s2 with
        | bad => rw [e3] at h; exact h
        | exc c fs xs s' => rw [e3] at h; exact outX.from pq.ext (fun a z => .inl z) h
        | ok z s3 =>
          rw [e3] at h
          intro u G3 B3 H3 F3 fd3 r
          replace h : outE C W σ (.chain o1 o2 a b c) G B H F s (R.of ((ordD o2 (.int j) z).map .bl) s3) Q := h
          cases z <;> (try (simp only [ordD, h2] at h; exact h.elim))
          rename_i k
          have eo2 : ordD o2 (.int j) (.int k) = some (p2 j k) := by simp only [ordD, h2]
          rw [eo2] at h
          have pqr : PostE C σ (.chain o1 o2 a b c) G B H F s (.int k) s3 u G3 B3 H3 F3 fd3 := pq.trans r hc rfl fun z => by
            have z' := z
            simp only [eff, Bool.or_eq_false_iff] at z'
            exact ⟨z, z'.2.2⟩
          exact ⟨j, k, q.own.1, r.own.1, h _ G3 B3 H3 F3 [] (bl_now pqr rfl id)⟩
theorem ord_okR {o : Op} {p : CmpOp} (h : ordO o = some p) : ∃ f, ordP o = some f ∧ OpR X (compareOp p) (rI0 fun i j => .bl (f i j)) := by
  cases o <;> simp only [ordO] at h <;> cases h
  · exact ⟨_, rfl, op_lt⟩
  · exact ⟨_, rfl, op_le⟩
  · exact ⟨_, rfl, op_gt⟩
  · exact ⟨_, rfl, op_ge⟩
theorem chain_bl {o1 o2 : Op} {a b c : E} (s : List D) (d : D) (s' : List D) (h : evE (.chain o1 o2 a b c) s = .ok d s') : ∃ b, d = .bl b := by
  unfold evE at h
  cases e1 : evE a s with
  | bad => rw [e1] at h; cases h
  | exc c fs xs s' => rw [e1] at h; cases h
  | ok x s1 =>
    rw [e1] at h
    replace h : ((evE b s1).bind fun y s2 => match ordD o1 x y with
      | some true => (evE c s2).bind fun z s3 => R.of ((ordD o2 y z).map D.bl) s3
      | some false => R.ok (D.bl false) s2
      | none => R.bad) = R.ok d s' := h
    cases e2 : evE b s1 with
    | bad => rw [e2] at h; cases h
    | exc c fs xs s' => rw [e2] at h; cases h
    | ok y s2 =>
      rw [e2] at h
      replace h : (match ordD o1 x y with
        | some true => (evE c s2).bind fun z s3 => R.of ((ordD o2 y z).map D.bl) s3
        | some false => R.ok (D.bl false) s2
        | none => R.bad) = R.ok d s' := h
      split at h
      · cases e3 : evE c s2 with
        | bad => rw [e3] at h; cases h
        | exc c fs xs s' => rw [e3] at h; cases h
        | ok z s3 =>
          rw [e3] at h
          replace h : R.of ((ordD o2 y z).map D.bl) s3 = R.ok d s' := h
          cases e4 : ordD o2 y z with
          | none => rw [e4] at h; cases h
          | some b => rw [e4] at h; cases h; exact ⟨b, rfl⟩
      · cases h; exact ⟨false, rfl⟩
      · cases h
theorem chain_ok {o1 o2 : Op} {a b c : E} {x y z : Expr} {p1 p2 : CmpOp} {pos : Pos} (h1 : ordO o1 = some p1) (h2 : ordO o2 = some p2) (ny : notSet y = true) (nz : notSet z = true) (ha : PE X x (tE C W a)) (hb : PE X y (tE C W b)) (hc : PE X z (tE C W c)) (la : isPl a = false) (lb : isPl b = false) (lc : isPl c = false) :
    PE X (.Compare x [p1, p2] [y, z] pos) (tE C W (.chain o1 o2 a b c)) ∧ PT X (.Compare x [p1, p2] [y, z] pos) (tTst C W (.chain o1 o2 a b c)) := by
  obtain ⟨f1, e1, r1⟩ := ord_okR (X := X) h1
  obtain ⟨f2, e2, r2⟩ := ord_okR (X := X) h2
  have hm : lastMarks [p1, p2] [y, z] = false := by cases o2 <;> simp only [ordO] at h2 <;> cases h2 <;> (unfold lastMarks lastMarks behindInMarks; cases z <;> first | rfl | exact (Bool.false_ne_true nz).elim)
  exact ⟨pe_imp (pe_chain r1 r2 ha hb hc (hm := hm)) fun σ H Q q => chain_cs e1 e2 la lb lc q, pt_imp (pt_chain r1 r2 ha hb hc (hm := hm)) fun σ H Q q => chain_cs e1 e2 la lb lc (q.bl chain_bl)⟩
theorem tstB_mem {es : List E} {as : List Expr} (h : BL X C W es as) : True := trivial
theorem and_ok {pos : Pos} : ∀ {es : List E} {as : List Expr}, es ≠ [] → (∀ e ∈ es, isPl e = false) → (∀ a ∈ as, tstB a = true) → BL X C W es as → PE X (.BoolOp .And as pos) (tE C W (.band es)) ∧ PW X (.BoolOp .And as pos) (tTst C W (.band es))
  | [], _, n, _, _, _ => absurd rfl n
  | [e], _, _, k, t, h => by
    obtain ⟨a, ar, rfl, _, _, b, h⟩ := h
    obtain rfl : ar = [] := h
    have he := k e List.mem_cons_self
    refine ⟨pe_imp (pe_one b.1) fun σ H Q z => same_run (e := .band [e]) (e' := e) (fun s => rfl) rfl he (by simp [eff, effs]) z, ?_⟩
    have q := pw_and1 (pos := pos) (b.2 (t a List.mem_cons_self))
    exact ⟨fun wh pins s σ H Q I z => q.run wh pins s σ H Q I (same_tst (e := .band [e]) (e' := e) (fun s => rfl) rfl he (by simp [eff, effs]) z)⟩
  | e :: f :: es, _, _, k, t, h => by
    obtain ⟨a, ar, rfl, _, _, b, h⟩ := h
    have r := and_ok (pos := pos) (by simp) (fun x hx => k x (List.mem_cons_of_mem _ hx)) (fun x hx => t x (List.mem_cons_of_mem _ hx)) h
    obtain ⟨a2, ar2, rfl, _⟩ := id h
    refine ⟨pe_imp (pe_and b.1 r.1) fun σ H Q z => and_cs z, ?_⟩
    have q := pw_and (pos := pos) (b.2 (t a List.mem_cons_self)) r.2
    exact ⟨fun wh pins s σ H Q I z => q.run wh pins s σ H Q I (and_csT z)⟩
theorem or_ok {pos : Pos} : ∀ {es : List E} {as : List Expr}, es ≠ [] → (∀ e ∈ es, isPl e = false) → (∀ a ∈ as, tstB a = true) → BL X C W es as → PE X (.BoolOp .Or as pos) (tE C W (.bor es)) ∧ PW X (.BoolOp .Or as pos) (tTst C W (.bor es))
  | [], _, n, _, _, _ => absurd rfl n
  | [e], _, _, k, t, h => by
    obtain ⟨a, ar, rfl, _, _, b, h⟩ := h
    obtain rfl : ar = [] := h
    have he := k e List.mem_cons_self
    refine ⟨pe_imp (pe_one b.1) fun σ H Q z => same_run (e := .bor [e]) (e' := e) (fun s => rfl) rfl he (by simp [eff, effs]) z, ?_⟩
    have q := pw_or1 (pos := pos) (b.2 (t a List.mem_cons_self))
    exact ⟨fun wh pins s σ H Q I z => q.run wh pins s σ H Q I (same_tst (e := .bor [e]) (e' := e) (fun s => rfl) rfl he (by simp [eff, effs]) z)⟩
  | e :: f :: es, _, _, k, t, h => by
    obtain ⟨a, ar, rfl, _, _, b, h⟩ := h
    have r := or_ok (pos := pos) (by simp) (fun x hx => k x (List.mem_cons_of_mem _ hx)) (fun x hx => t x (List.mem_cons_of_mem _ hx)) h
    obtain ⟨a2, ar2, rfl, _⟩ := id h
    refine ⟨pe_imp (pe_or b.1 r.1) fun σ H Q z => or_cs z, ?_⟩
    have q := pw_or (pos := pos) (b.2 (t a List.mem_cons_self)) r.2
    exact ⟨fun wh pins s σ H Q I z => q.run wh pins s σ H Q I (or_csT z)⟩
theorem all_tst {as : List Expr} (h : as.all tstB = true) : ∀ a ∈ as, tstB a = true := by simpa using h
theorem nmB_all {i : Nat} {a : Expr} (k : CxOk C Γ X) (h : nmB Γ i a = true) : PE X a (tVar i) ∧ tstPlain a = true := ⟨nm_pv k h, nm_plain h⟩
/-- THE LOOK IS SOUND: expressions -/
theorem gl_ok {x : Str} {d : D} {pos : Pos} (k : CxOk C Γ X) (hn : NdOk C X (.gl x d)) (hg : glB Γ.sc x = true) : PE X (.Name x pos) (tE C W (.gl x d)) := by
  obtain ⟨h0, h1, v, u, hm, r, o⟩ := hn
  obtain ⟨g1, g2⟩ := k.gl hg
  exact pe_imp (pe_glob g1 hm r g2) fun σ H Q z => tE_now (e := .gl x d) (fun _ => rfl) rfl o z
end
end TT
namespace TT
open PySem PySem.Spec PyProof.Rows L2
/-- the first parameter's slot stays -/
def Prot (m : Bool) (σ σ' : L2.St) : Prop := m = true → σ'[0]? = σ[0]?
theorem Prot.refl {m : Bool} {σ : L2.St} : Prot m σ σ := fun _ => rfl
theorem Prot.trans {m : Bool} {σ σ1 σ2 : L2.St} (a : Prot m σ σ1) (b : Prot m σ1 σ2) : Prot m σ σ2 := fun h => (b h).trans (a h)
theorem Prot.set {m : Bool} {σ : L2.St} {i : Nat} {v : Option V} (h : (m && decide (i = 0)) = false) : Prot m σ (σ.set i v) := fun hm => by
  subst hm
  have : i ≠ 0 := by simpa using h
  rw [List.getElem?_set_ne this]
structure PostS (C : Gl0) (m : Bool) (σ : L2.St) (G B H : Hp) (F : Fp) (s' : List D) (σ' : L2.St) (G' B' H' : Hp) (F' : Fp) : Prop where
  good : Good C G' B' H' F' s' σ'
  ext : Ext G B H (inF F) G' B' H' (inF F')
  pr : Prot m σ σ'
structure PostV (C : Gl0) (m : Bool) (σ : L2.St) (G B H : Hp) (F : Fp) (d : D) (s' : List D) (v : V) (σ' : L2.St) (G' B' H' : Hp) (F' : Fp) (fd : List Addr) : Prop where
  good : Good C G' B' H' F' s' σ'
  ext : Ext G B H (inF F) G' B' H' (fun a => inF F' a ∨ a ∈ fd)
  own : Own C G' B' H' d v fd
  nd : fd.Nodup
  np : ∀ a ∈ fd, ¬ inF F' a
  pr : Prot m σ σ'
def outS (C : Gl0) (W : WX) (m : Bool) (σ : L2.St) (G B H : Hp) (F : Fp) (o : O) (De : Ends) : Prop :=
  match o with
  | .nx s' => ∀ σ' G' B' H' F', PostS C m σ G B H F s' σ' G' B' H' F' → De.nx σ' H'
  | .bk s' => ∀ σ' G' B' H' F', PostS C m σ G B H F s' σ' G' B' H' F' → De.bk σ' H'
  | .ct s' => ∀ σ' G' B' H' F', PostS C m σ G B H F s' σ' G' B' H' F' → De.ct σ' H'
  | .rt d s' => ∀ v σ' G' B' H' F' fd, PostV C m σ G B H F d s' v σ' G' B' H' F' fd → De.rt v H'
  | .exc c fs xs s' => ∀ cls dd σ' G' B' H' F', PostS C m σ G B H F s' σ' G' B' H' F' → ExR C G' c fs xs cls dd → W cls dd σ' H'
  | .bad => False
def tS (C : Gl0) (W : WX) (m : Bool) (x : S) : TS := fun De σ H => ∃ s G B F, Good C G B H F s σ ∧ outS C W m σ G B H F (exS x s) De
def tSs (C : Gl0) (W : WX) (m : Bool) (x : List S) : TS := fun De σ H => ∃ s G B F, Good C G B H F s σ ∧ outS C W m σ G B H F (exSs x s) De
section
variable {C : Gl0} {W : WX} {m : Bool} {σ σ1 : L2.St} {G B H G1 B1 H1 : Hp} {F F1 : Fp} {s s1 : List D}
theorem PostS.trans {s2 : List D} {σ2 : L2.St} {G2 B2 H2 : Hp} {F2 : Fp} (p : PostS C m σ G B H F s1 σ1 G1 B1 H1 F1) (q : PostS C m σ1 G1 B1 H1 F1 s2 σ2 G2 B2 H2 F2) : PostS C m σ G B H F s2 σ2 G2 B2 H2 F2 :=
  ⟨q.good, p.ext.trans q.ext, p.pr.trans q.pr⟩
theorem PostS.transV {s2 : List D} {d : D} {v : V} {σ2 : L2.St} {G2 B2 H2 : Hp} {F2 : Fp} {fd : List Addr} (p : PostS C m σ G B H F s1 σ1 G1 B1 H1 F1) (q : PostV C m σ1 G1 B1 H1 F1 d s2 v σ2 G2 B2 H2 F2 fd) : PostV C m σ G B H F d s2 v σ2 G2 B2 H2 F2 fd :=
  ⟨q.good, p.ext.trans q.ext, q.own, q.nd, q.np, p.pr.trans q.pr⟩
/-- from a later state -/
theorem outS.from {o : O} {De : Ends} (p : PostS C m σ G B H F s1 σ1 G1 B1 H1 F1) (h : outS C W m σ G B H F o De) : outS C W m σ1 G1 B1 H1 F1 o De := by
  cases o with
  | nx s' => exact fun σ' G' B' H' F' q => h σ' G' B' H' F' (p.trans q)
  | bk s' => exact fun σ' G' B' H' F' q => h σ' G' B' H' F' (p.trans q)
  | ct s' => exact fun σ' G' B' H' F' q => h σ' G' B' H' F' (p.trans q)
  | rt d s' => exact fun v σ' G' B' H' F' fd q => h v σ' G' B' H' F' fd (p.transV q)
  | exc c fs xs s' => exact fun cls dd σ' G' B' H' F' q r => h cls dd σ' G' B' H' F' (p.trans q) r
  | bad => exact h
theorem PostE.toS {e : E} {d : D} {v : V} {fd : List Addr} (p : PostE C σ e G B H F s d s1 v G1 B1 H1 F1 fd) : PostS C m σ G B H F s1 σ G1 B1 H1 F1 :=
  ⟨p.good, p.ext.imp (fun _ z => z) fun a z => .inl (.inl z), .refl⟩
theorem outS.x {c : Nat} {fs : List Str} {xs s' : List D} {De : Ends} (h : outS C W m σ G B H F (.exc c fs xs s') De) : outX C W σ G B H F c fs xs s' :=
  fun cls dd G' B' H' F' g x r => h cls dd σ G' B' H' F' ⟨g, x, .refl⟩ r
/-- an expression, then more -/
theorem then_te {e : E} {De : Ends} {k : D → List D → O} {Q : VK} (g : Good C G B H F s σ) (h : outS C W m σ G B H F ((evE e s).then k) De)
    (hk : ∀ d s1 v G1 B1 H1 F1 fd, PostE C σ e G B H F s d s1 v G1 B1 H1 F1 fd → outS C W m σ G B H F (k d s1) De → Q v H1) : tE C W e σ H Q := by
  refine ⟨s, G, B, F, g, ?_⟩
  cases e1 : evE e s with
  | bad => rw [e1] at h; exact h
  | exc c fs xs s' => rw [e1] at h; exact outS.x h
  | ok d s1 =>
    rw [e1] at h
    exact fun v G1 B1 H1 F1 fd p => hk d s1 v G1 B1 H1 F1 fd p h
theorem then_tst {e : E} {De : Ends} {a b : List D → O} {Q : Bool → Hp → Prop} (g : Good C G B H F s σ) (h : outS C W m σ G B H F ((evE e s).then fun d s1 => match truth d with | some true => a s1 | some false => b s1 | none => .bad) De)
    (h1 : ∀ d s1 v G1 B1 H1 F1 fd, PostE C σ e G B H F s d s1 v G1 B1 H1 F1 fd → outS C W m σ G1 B1 H1 F1 (a s1) De → Q true H1)
    (h2 : ∀ d s1 v G1 B1 H1 F1 fd, PostE C σ e G B H F s d s1 v G1 B1 H1 F1 fd → outS C W m σ G1 B1 H1 F1 (b s1) De → Q false H1) : tTst C W e σ H Q := by
  refine ⟨s, G, B, F, g, ?_⟩
  cases e1 : evE e s with
  | bad => rw [e1] at h; exact h
  | exc c fs xs s' => rw [e1] at h; exact outS.x h
  | ok d s1 =>
    rw [e1] at h
    have h : outS C W m σ G B H F (match (generalizing := false) truth d with | some true => a s1 | some false => b s1 | none => .bad) De := h
    cases e2 : truth d with
    | none => rw [e2] at h; exact h.elim
    | some t =>
      rw [e2] at h
      refine ⟨t, e2, fun v G1 B1 H1 F1 fd p => ?_⟩
      cases t with
      | true => exact h1 d s1 v G1 B1 H1 F1 fd p (outS.from p.toS h)
      | false => exact h2 d s1 v G1 B1 H1 F1 fd p (outS.from p.toS h)
/-- a slot is given a value -/
theorem Good.set {i : Nat} {d : D} {v : V} {fd : List Addr} (g : Good C G B H F s σ) (o : Own C G B H d v fd) (n : fd.Nodup) (np : ∀ a ∈ fd, ¬ TT.inF F a) :
    ∃ F', Good C G B H F' (s.set i d) (σ.set i (some v)) ∧ ∀ a, TT.inF F' a → TT.inF F a ∨ a ∈ fd := by
  by_cases hi : i < s.length
  · refine ⟨fun j => if j = i then fd else F j, ⟨g.gb, g.bh, by rw [List.length_set, List.length_set]; exact g.len, fun j hj => ?_, fun j hj => ?_, fun j => ?_, fun j k a h1 h2 => ?_⟩, fun a ⟨j, z⟩ => ?_⟩
    · rw [getD_set] at hj ⊢
      by_cases q : j = i
      · rw [if_pos ⟨q, hi⟩]
        subst q
        refine ⟨v, by rw [List.getElem?_set_self (by rw [← g.len]; exact hi)], ?_⟩
        show Own C G B H d v (if j = j then fd else F j)
        rw [if_pos rfl]; exact o
      · have q' : ¬ (j = i ∧ i < s.length) := fun z => q z.1
        rw [if_neg q'] at hj ⊢
        obtain ⟨w, ew, ow⟩ := g.sl j hj
        refine ⟨w, by rw [List.getElem?_set_ne (Ne.symm q)]; exact ew, ?_⟩
        show Own C G B H _ w (if j = i then fd else F j)
        rw [if_neg q]; exact ow
    · by_cases q : j = i
      · rw [getD_set, if_pos ⟨q, hi⟩] at hj
        subst hj
        show (if j = i then fd else F j) = []
        rw [if_pos q]; exact o
      · rw [getD_set, if_neg fun z => q z.1] at hj
        show (if j = i then fd else F j) = []
        rw [if_neg q]; exact g.nf j hj
    · show (if j = i then fd else F j).Nodup
      by_cases q : j = i
      · rw [if_pos q]; exact n
      · rw [if_neg q]; exact g.nd j
    · by_cases q : j = i <;> by_cases q2 : k = i <;> simp only [q, q2, if_true, if_false] at h1 h2
      · rw [q, q2]
      · exact absurd ⟨k, h2⟩ (np a h1)
      · exact absurd ⟨j, h1⟩ (np a h2)
      · exact g.dj j k a h1 h2
    · by_cases q : j = i <;> simp only [q, if_true, if_false] at z
      · exact .inr z
      · exact .inl ⟨j, z⟩
  · refine ⟨F, ?_, fun a z => .inl z⟩
    rw [List.set_eq_of_length_le (Nat.le_of_not_lt hi), List.set_eq_of_length_le (by rw [← g.len]; exact Nat.le_of_not_lt hi)]
    exact g
/-- a slot is forgotten -/
theorem Good.drop {i : Nat} {v : Option V} (g : Good C G B H F s σ) : ∃ F', Good C G B H F' (s.set i .dead) (σ.set i v) ∧ ∀ a, TT.inF F' a → TT.inF F a := by
  by_cases hi : i < s.length
  · refine ⟨fun j => if j = i then [] else F j, ⟨g.gb, g.bh, by rw [List.length_set, List.length_set]; exact g.len, fun j hj => ?_, fun j hj => ?_, fun j => ?_, fun j k a h1 h2 => ?_⟩, fun a ⟨j, z⟩ => ?_⟩
    · rw [getD_set] at hj ⊢
      by_cases q : j = i
      · rw [if_pos ⟨q, hi⟩] at hj; exact absurd rfl hj
      · have q' : ¬ (j = i ∧ i < s.length) := fun z => q z.1
        rw [if_neg q'] at hj ⊢
        obtain ⟨w, ew, ow⟩ := g.sl j hj
        refine ⟨w, by rw [List.getElem?_set_ne (Ne.symm q)]; exact ew, ?_⟩
        show Own C G B H _ w (if j = i then [] else F j)
        rw [if_neg q]; exact ow
    · show (if j = i then [] else F j) = []
      by_cases q : j = i
      · rw [if_pos q]
      · rw [getD_set, if_neg fun z => q z.1] at hj
        rw [if_neg q]; exact g.nf j hj
    · show (if j = i then [] else F j).Nodup
      by_cases q : j = i
      · rw [if_pos q]; exact List.nodup_nil
      · rw [if_neg q]; exact g.nd j
    · by_cases q : j = i <;> by_cases q2 : k = i <;> simp [q, q2] at h1 h2
      exact g.dj j k a h1 h2
    · by_cases q : j = i <;> simp [q] at z
      exact ⟨j, z⟩
  · refine ⟨F, ?_, fun a z => z⟩
    rw [List.set_eq_of_length_le (Nat.le_of_not_lt hi), List.set_eq_of_length_le (by rw [← g.len]; exact Nat.le_of_not_lt hi)]
    exact g
/-- several slots are given the parts of a value -/
theorem Good.sets : ∀ {is : List Nat} {ds : List D} {vs : List V} {U : List Addr} {F : Fp} {s s' : List D} {σ : L2.St}, Good C G B H F s σ → Owns C G B H ds vs U → U.Nodup → (∀ a ∈ U, ¬ TT.inF F a) → setAll is ds s = some s' →
    ∃ σ' F', Good C G B H F' s' σ' ∧ (∀ a, TT.inF F' a → TT.inF F a ∨ a ∈ U) ∧ σ' = (is.zip vs).foldl (fun t p => t.set p.1 (some p.2)) σ
  | [], [], vs, U, F, s, s', σ, g, o, n, np, h => by
    cases h
    exact ⟨σ, F, g, fun a z => .inl z, rfl⟩
  | [], _ :: _, _, _, _, _, _, _, _, _, _, _, h => by simp [setAll] at h
  | _ :: _, [], _, _, _, _, _, _, _, _, _, _, h => by simp [setAll] at h
  | i :: is, d :: ds, vs, U, F, s, s', σ, g, o, n, np, h => by
    obtain ⟨v, vr, U1, U2, rfl, rfl, o1, o2⟩ := o
    obtain ⟨n1, n2, n3⟩ := List.nodup_append.1 n
    obtain ⟨F1, g1, k1⟩ := g.set (i := i) o1 n1 fun a ha => np a (List.mem_append_left _ ha)
    obtain ⟨σ', F2, g2, k2, e⟩ := Good.sets g1 o2 n2 (fun a ha z => by
      rcases k1 a z with z | z
      · exact np a (List.mem_append_right _ ha) z
      · exact n3 a z a ha rfl) h
    refine ⟨σ', F2, g2, fun a z => ?_, e⟩
    rcases k2 a z with z | z
    · exact (k1 a z).imp id fun z => List.mem_append_left _ z
    · exact .inr (List.mem_append_right _ z)
theorem prot_fold : ∀ {is : List Nat} {vs : List V} {σ : L2.St}, (m = true → 0 ∉ is) → Prot m σ ((is.zip vs).foldl (fun t p => t.set p.1 (some p.2)) σ)
  | [], _, σ, _ => by simp [Prot]
  | _ :: _, [], σ, _ => by simp [Prot]
  | i :: is, v :: vs, σ, h => by
    refine Prot.trans (Prot.set (i := i) (v := some v) ?_) (prot_fold fun hm z => h hm (List.mem_cons_of_mem _ z))
    cases m with
    | false => rfl
    | true =>
      have : i ≠ 0 := fun z => h rfl (by rw [z]; exact List.mem_cons_self)
      simp [this]
/-- behind an expression its value goes to a slot -/
theorem PostE.set {e : E} {d : D} {v : V} {fd : List Addr} {i : Nat} (p : PostE C σ e G B H F s d s1 v G1 B1 H1 F1 fd) (hp : isPl e = false) (hi : (m && decide (i = 0)) = false) : ∃ F2, PostS C m σ G B H F (s1.set i d) (σ.set i (some v)) G1 B1 H1 F2 := by
  obtain ⟨F2, g2, k2⟩ := p.good.set (i := i) p.own p.nd (p.np hp)
  exact ⟨F2, g2, p.ext.imp (fun _ z => z) fun a z => .inl (k2 a z), Prot.set hi⟩
end
section
variable {X : Cx} {C : Gl0} {W : WX} {Γ : Gam}
theorem ps_imp {a : Stmt} {t t' : TS} (h : PS X a t) (k : ∀ De σ H, t' De σ H → t De σ H) : PS X a t' := ⟨fun pins s σ H De I z => h.run pins s σ H De I (k De σ H z)⟩
theorem pss_imp {a : List Stmt} {t t' : TS} (h : PSs X a t) (k : ∀ De σ H, t' De σ H → t De σ H) : PSs X a t' := ⟨fun pins s σ H De I z => h.run pins s σ H De I (k De σ H z)⟩
theorem st_ok (k : CxOk C Γ X) {i : Nat} {t : Expr} (h : stB Γ i t = true) : ∃ x p, t = .Name x p ∧ X.N[i]? = some x ∧ L2.Loc X.env.scope x ∧ (X.fn x = true ∨ X.env.scope.names.lookup x = some .local) ∧ (Γ.m && decide (i = 0)) = false := by
  unfold stB at h
  split at h
  · rename_i x0 p0
    simp only [Bool.and_eq_true, decide_eq_true_eq, Bool.not_eq_true'] at h
    obtain ⟨⟨⟨h1, h2⟩, h4⟩, h3⟩ := h
    have hL : L2.Loc X.env.scope x0 := by
      unfold L2.Loc
      rw [k.sc]
      unfold locB at h2
      split at h2
      · exact .inl ‹_›
      · exact .inr ‹_›
      · cases h2
    exact ⟨_, _, rfl, by rw [k.N]; exact h1, hL, k.fn _ hL h4, by simpa using h3⟩
  · cases h
theorem nd_of (k : CxOk C Γ X) : X.N.Nodup := by rw [k.N]; exact k.nd
theorem swaps_no {v : Expr} {t : Option Expr} {l : Nat} {env : Env} (h : notComp v = true) : swapsWith v t l env = pure false := by
  cases v <;> first | rfl | (simp [notComp] at h)
theorem s_asg {i : Nat} {e : E} {t v : Expr} {pos : Pos} (k : CxOk C Γ X) (h1 : stB Γ i t = true) (h2 : PE X v (tE C W e)) (h3 : isPl e = false) (h4 : notComp v = true) : PS X (.Assign [t] v pos) (tS C W Γ.m (.asg i e)) := by
  obtain ⟨x, p, rfl, hN, hL, hF, hm⟩ := st_ok k h1
  refine ps_imp (ps_set (nd_of k) hN hL h2 (swaps_no h4) hF) fun De σ H z => ?_
  obtain ⟨s, G, B, F, g, z⟩ := z
  unfold exS at z
  refine then_te g z fun d s1 v G1 B1 H1 F1 fd p z => ?_
  obtain ⟨F2, q⟩ := p.set (m := Γ.m) (i := i) h3 hm
  exact z _ G1 B1 H1 F2 q
theorem s_ex {e : E} {v : Expr} {pos : Pos} (h2 : PE X v (tE C W e)) (h4 : notComp v = true) : PS X (.Expr v pos) (tS C W Γ.m (.ex e)) := by
  refine ps_imp (ps_expr h2 (swaps_no h4)) fun De σ H z => ?_
  obtain ⟨s, G, B, F, g, z⟩ := z
  unfold exS at z
  refine then_te g z fun d s1 v G1 B1 H1 F1 fd p z => ?_
  exact z σ G1 B1 H1 F1 p.toS
theorem s_ret {e : E} {v : Expr} {pos : Pos} (h2 : PE X v (tE C W e)) (h3 : isPl e = false) : PS X (.Return (some v) pos) (tS C W Γ.m (.ret e)) := by
  refine ps_imp (ps_ret h2) fun De σ H z => ?_
  obtain ⟨s, G, B, F, g, z⟩ := z
  unfold exS at z
  refine then_te g z fun d s1 v G1 B1 H1 F1 fd p z => ?_
  exact z v σ G1 B1 H1 F1 fd ⟨p.good, p.ext, p.own, p.nd, p.np h3, .refl⟩
theorem s_pass {pos : Pos} : PS X (.Pass pos) (tS C W Γ.m .pass) := ps_imp ps_pass fun De σ H z => by
  obtain ⟨s, G, B, F, g, z⟩ := z
  exact z σ G B H F ⟨g, Ext.refl, .refl⟩
theorem s_cont {pos : Pos} : PS X (.Continue pos) (tS C W Γ.m .cont) := ps_imp ps_continue fun De σ H z => by
  obtain ⟨s, G, B, F, g, z⟩ := z
  exact z σ G B H F ⟨g, Ext.refl, .refl⟩
theorem s_ift {c : E} {x y : List S} {t : Expr} {a b : List Stmt} {pos : Pos} (h1 : PT X t (tTst C W c)) (h2 : PSs X a (tSs C W Γ.m x)) (h3 : PSs X b (tSs C W Γ.m y)) : PS X (.If t a b pos) (tS C W Γ.m (.ift c x y)) := by
  refine ps_imp (ps_if h1 h2 h3) fun De σ H z => ?_
  obtain ⟨s, G, B, F, g, z⟩ := z
  unfold exS at z
  refine then_tst g z (fun d s1 v G1 B1 H1 F1 fd p z => ?_) fun d s1 v G1 B1 H1 F1 fd p z => ?_
  · exact iteT ⟨s1, G1, B1, F1, p.good, z⟩
  · exact iteF ⟨s1, G1, B1, F1, p.good, z⟩
theorem ss_nil : PSs X [] (tSs C W Γ.m []) := pss_imp pss_nil fun De σ H z => by
  obtain ⟨s, G, B, F, g, z⟩ := z
  exact z σ G B H F ⟨g, Ext.refl, .refl⟩
theorem ss_cons {x : S} {xs : List S} {a : Stmt} {as : List Stmt} (h1 : PS X a (tS C W Γ.m x)) (h2 : PSs X as (tSs C W Γ.m xs)) : PSs X (a :: as) (tSs C W Γ.m (x :: xs)) := by
  refine pss_imp (pss_cons h1 h2) fun De σ H z => ?_
  obtain ⟨s, G, B, F, g, z⟩ := z
  refine ⟨s, G, B, F, g, ?_⟩
  have z : outS C W Γ.m σ G B H F ((exS x s).bind fun s1 => exSs xs s1) De := by unfold exSs at z; exact z
  cases e1 : exS x s with
  | nx s1 =>
    rw [e1] at z
    exact fun σ' G' B' H' F' p => ⟨s1, G', B', F', p.good, outS.from p z⟩
  | bk s1 => rw [e1] at z; exact z
  | ct s1 => rw [e1] at z; exact z
  | rt d s1 => rw [e1] at z; exact z
  | exc c fs xs' s1 => rw [e1] at z; exact z
  | bad => rw [e1] at z; exact z
theorem iop_mulW' {X : Cx} : OpR X (inplaceOp .Mult) (rI CMulO fun i j => .int (i * j)) := opI fun _ _ _ _ _ _ _ hc q => imul_int q (mulOk_ok hc)
theorem ip_all {X : Cx} {o : Op} {ao : Operator} (h : (match o, ao with | .add, .Add => true | .mul, .Mult => true | _, _ => false) = true) : ∃ r : R2, OpR X (inplaceOp ao) r ∧
    ∀ {C : Gl0} {G B H : Hp} {d1 d2 d : D} {v1 v2 : V} {fd1 fd2 : List Addr} {Q : VK}, Own C G B H d1 v1 fd1 → Own C G B H d2 v2 fd2 → augD o d1 d2 = some d → (∀ v, (∀ G B H, Own C G B H d v []) → Q v H) → r v1 v2 H Q := by
  split at h
  · refine ⟨_, iop_add.or iop_add_str, fun {C G B H d1 d2 d v1 v2 fd1 fd2 Q} o1 o2 e q => ?_⟩
    unfold augD at e
    split at e
    · cases e
      exact .inl ⟨_, _, o1.1, o2.1, q _ fun _ _ _ => ⟨rfl, rfl⟩⟩
    · split at e
      · cases e
        exact .inr ⟨_, _, o1.1, o2.1, ‹_›, q _ fun _ _ _ => ⟨rfl, rfl⟩⟩
      · cases e
    · rename_i h1; cases h1
    · cases e
  · refine ⟨_, iop_mulW', fun {C G B H d1 d2 d v1 v2 fd1 fd2 Q} o1 o2 e q => ?_⟩
    unfold augD at e
    split at e
    · rename_i h1; cases h1
    · rename_i h1; cases h1
    · split at e
      · cases e
        exact ⟨_, _, o1.1, o2.1, ‹_›, q _ fun _ _ _ => ⟨rfl, rfl⟩⟩
      · cases e
    · cases e
  · cases h
theorem s_aug {i : Nat} {o : Op} {ao : Operator} {e : E} {t v : Expr} {pos : Pos} (k : CxOk C Γ X) (h1 : stB Γ i t = true) (h2 : PE X v (tE C W e)) (h3 : isPl e = false)
    (h : (match o, ao with | .add, .Add => true | .mul, .Mult => true | _, _ => false) = true) : PS X (.AugAssign t ao v pos) (tS C W Γ.m (.aug i o e)) := by
  obtain ⟨x, p, rfl, hN, hL, hF, hm⟩ := st_ok k h1
  obtain ⟨r, hr, hv⟩ := ip_all (X := X) h
  refine ps_imp (ps_aug (nd_of k) hN hL h2 hr hF) fun De σ H z => ?_
  obtain ⟨s, G, B, F, g, z⟩ := z
  unfold exS at z
  split at z
  · exact z.elim
  · rename_i hd
    obtain ⟨w, ew, _⟩ := g.sl i (fun q => hd (by rw [q]; rfl))
    refine ⟨w, ew, then_te g z fun d s1 v G1 B1 H1 F1 fd p z => ?_⟩
    have z : outS C W Γ.m σ G B H F (match (generalizing := false) augD o (s1.getD i .dead) d with | some r => .nx (s1.set i r) | none => .bad) De := z
    cases e2 : augD o (s1.getD i .dead) d with
    | none => rw [e2] at z; exact z.elim
    | some d' =>
      rw [e2] at z
      have hd1 : s1.getD i .dead ≠ .dead := fun q => by rw [q] at e2; cases o <;> cases e2
      obtain ⟨w1, ew1, ow⟩ := p.good.sl i hd1
      rw [ew] at ew1
      cases ew1
      refine hv ow p.own e2 fun v' o' => ?_
      obtain ⟨F2, g2, k2⟩ := p.good.set (i := i) (o' G1 B1 H1) List.nodup_nil (fun _ q => nomatch q)
      refine z _ G1 B1 H1 F2 ⟨g2, p.ext.imp (fun _ z => z) fun a q => ?_, Prot.set hm⟩
      rcases k2 a q with q | q
      · exact .inl (.inl q)
      · cases q
theorem fm2 {f : Expr → Option Str} {a b : Expr} {x y : Str} (h1 : f a = some x) (h2 : f b = some y) : [a, b].filterMap f = [x, y] := by simp [h1, h2]
theorem swap_par {i j : Nat} {t e : Expr} (k : CxOk C Γ X) (h : parB Γ i j t e = true) : ∃ x y px py kt pt a b k2 pt2, t = .Tuple [.Name x px, .Name y py] kt pt ∧ e = .Tuple [a, b] k2 pt2 ∧ X.N[i]? = some x ∧ X.N[j]? = some y ∧ i ≠ j ∧
    X.env.scope.names.lookup x = some .local ∧ X.env.scope.names.lookup y = some .local ∧ swappedStores [t] e X.env = pure (some [x, y]) ∧ notStar a = true ∧ notStar b = true ∧ (Γ.m && (decide (i = 0) || decide (j = 0))) = false := by
  unfold parB at h
  split at h
  · rename_i x px y py kt pt a b k2 pt2
    simp only [Bool.and_eq_true, decide_eq_true_eq, Bool.not_eq_true'] at h
    obtain ⟨⟨⟨⟨⟨⟨⟨⟨⟨⟨⟨⟨h0, h1⟩, h2⟩, h3⟩, h4⟩, h5⟩, h6⟩, h7⟩, h8⟩, h9⟩, h10⟩, h11⟩, h12⟩ := h
    rw [← k.sc] at h0 h4 h5
    rw [← k.N] at h1 h2
    refine ⟨x, y, px, py, kt, pt, a, b, k2, pt2, rfl, rfl, h1, h2, h3, h4, h5, ?_, h8, h9, h12⟩
    have e1 : X.env.kindOf x = some .local := h4
    have e2 : X.env.kindOf y = some .local := h5
    have e3 : X.env.blockKind = .function := by unfold Env.blockKind; rw [h0]; rfl
    have e4 : [a, b].any (fun | .Starred .. => true | _ => false) = false := by
      cases a <;> cases b <;> first | rfl | exact (Bool.false_ne_true h8).elim | exact (Bool.false_ne_true h9).elim
    have e5 : ([x, y].eraseDups.length != [x, y].length) = false := by
      have : (y == x) = false := by
        cases q : y == x with
        | false => rfl
        | true => exact absurd (eq_of_beq q).symm h7
      simp [List.eraseDups_cons, this]
    have e6 : ([Expr.Name x px, Expr.Name y py].filterMap fun
      | .Name id pos => if X.env.kindOf id == some .local && pos.line == (([Expr.Name x px, Expr.Name y py].head?.map (·.pos.line)).getD 0) then some id else none
      | _ => none) = [x, y] := by
      refine fm2 ?_ ?_
      · show (if X.env.kindOf x == some .local && px.line == px.line then some x else none) = some x
        rw [e1]; simp
      · show (if X.env.kindOf y == some .local && py.line == px.line then some y else none) = some y
        rw [e2, h6]; simp
    unfold swappedStores
    show (do
      if !([Expr.Name x px, Expr.Name y py].length == 2 || [Expr.Name x px, Expr.Name y py].length == 3) || [a, b].length != [Expr.Name x px, Expr.Name y py].length || X.env.blockKind != .function then return none
      if [a, b].any fun | .Starred .. => true | _ => false then return none
      let line := ([Expr.Name x px, Expr.Name y py].head?.map (·.pos.line)).getD 0
      let names := [Expr.Name x px, Expr.Name y py].filterMap fun
        | .Name id pos => if X.env.kindOf id == some .local && pos.line == line then some id else none
        | _ => none
      if names.length != [Expr.Name x px, Expr.Name y py].length || names.eraseDups.length != names.length then return none
      if [a, b].all (foldedForSure 8) then return none
      if [a, b].all (constantsAlone 8) then unsupported "assign.tuple-of-constant-expressions:order-of-the-stores"
      return some names : Sem (Option (List Str))) = _
    simp only [e3, e4, e5, e6, h10, h11]
    rfl
  · cases h
theorem asg_name {x : Str} {p : Pos} {es : List Expr} {env : Env} : assignEach (.Name x p :: es) env = (false, assign (.Name x p) env) :: assignEach es env := rfl
def gNames : List Nat → TGs := fun is vs σ H Q => vs.length = is.length ∧ Q ((is.zip vs).foldl (fun t p => t.set p.1 (some p.2)) σ) H
theorem sts_ok (k : CxOk C Γ X) : ∀ {is : List Nat} {ts : List Expr}, stBs Γ is ts = true → PGs X ts (gNames is) ∧ (assignEach ts X.env).length = is.length ∧ (assignEach ts X.env).findIdx? (·.1) = none ∧ (Γ.m = true → 0 ∉ is)
  | [], [], _ => ⟨⟨fun pins s σ H vs us Q I r h => pgs_nil.run pins s σ H vs us Q I r ⟨by
      have := h.1
      cases vs with
      | nil => rfl
      | cons => simp at this, by
      have := h.2
      cases vs <;> exact this⟩⟩, rfl, rfl, fun _ z => nomatch z⟩
  | [], _ :: _, h => by simp [stBs] at h
  | _ :: _, [], h => by simp [stBs] at h
  | i :: is, t :: ts, h => by
    simp only [stBs, Bool.and_eq_true] at h
    obtain ⟨h1, h2⟩ := h
    obtain ⟨x, p, rfl, hN, hL, hF, hm⟩ := st_ok k h1
    obtain ⟨a, b, c, d⟩ := sts_ok k h2
    refine ⟨⟨fun pins s σ H vs us Q I r h => (pgs_cons (pg_name (nd_of k) hN hL hF) a).run pins s σ H vs us Q I r ?_⟩, ?_, ?_, fun m z => ?_⟩
    · obtain ⟨l, q⟩ := h
      cases vs with
      | nil => simp at l
      | cons v vr => exact ⟨v, vr, rfl, by simpa using l, q⟩
    · rw [asg_name, List.length_cons, b, List.length_cons]
    · rw [asg_name, List.findIdx?_cons, c]; rfl
    · rcases List.mem_cons.1 z with z | z
      · rw [m, ← z] at hm; cases hm
      · exact d m z
theorem setAll_len : ∀ {is : List Nat} {xs s s' : List D}, setAll is xs s = some s' → xs.length = is.length
  | [], [], _, _, _ => rfl
  | [], _ :: _, _, _, h => by simp [setAll] at h
  | _ :: _, [], _, _, h => by simp [setAll] at h
  | i :: is, x :: xs, s, s', h => by
    have := setAll_len (is := is) (xs := xs) h
    simp [this]
theorem owns_len {G B H : Hp} : ∀ {ds : List D} {vs : List V} {U : List Addr}, Owns C G B H ds vs U → vs.length = ds.length
  | [], _, _, h => by
    obtain ⟨rfl, _⟩ := h
    rfl
  | _ :: _, _, _, h => by
    obtain ⟨v, vr, U1, U2, rfl, rfl, o1, o2⟩ := h
    simp [owns_len o2]
/-- a tuple's parts go to slots -/
theorem tg_tup {is : List Nat} {d : D} {v : V} {fd : List Addr} {G B H : Hp} {F : Fp} {s s2 : List D} {σ : L2.St} (g : Good C G B H F s σ) (o : Own C G B H d v fd) (n : fd.Nodup) (np : ∀ a ∈ fd, ¬ TT.inF F a) (h : tgSet (.tup is) d s = some s2) :
    ∃ a vs F', v = .ref a ∧ SqT C.K H a vs ∧ vs.length = is.length ∧ Good C G B H F' s2 ((is.zip vs).foldl (fun t p => t.set p.1 (some p.2)) σ) ∧ ∀ a, TT.inF F' a → TT.inF F a ∨ a ∈ fd := by
  unfold tgSet at h
  split at h
  · rename_i h1; cases h1
  · rename_i is' fl xs s' h1
    cases h1
    obtain ⟨a, ws, U, rfl, hq, oo, hf, _⟩ := o.tupAt g.gb g.bh
    obtain ⟨σ', F', g', k', e⟩ := g.sets oo (nodup_kids hf n) (fun b hb => np b (mem_kids hf b hb)) h
    subst e
    refine ⟨a, ws, F', rfl, hq, by rw [owns_len oo, setAll_len h], g', fun b z => (k' b z).imp id fun z => mem_kids hf b z⟩
  · cases h
theorem swap_no {ts : List Expr} {v : Expr} {env : Env} (h : notTup v = true) : swappedStores ts v env = pure none := by
  cases v <;> first | exact (Bool.false_ne_true h).elim | skip
  all_goals (unfold swappedStores; split <;> rename_i q <;> (split at q <;> simp_all))
theorem s_asgT {is : List Nat} {e : E} {ts : List Expr} {j : Nat} {p : Pos} {v : Expr} {pos : Pos} (k : CxOk C Γ X) (h1 : stBs Γ is ts = true) (h2 : PE X v (tE C W e)) (h3 : isPl e = false) (h4 : notComp v = true) (h5 : notTup v = true) : PS X (.Assign [.Tuple ts j p] v pos) (tS C W Γ.m (.asgT is e)) := by
  obtain ⟨hg, hl, hst, hm⟩ := sts_ok k h1
  refine ps_imp (ps_asg h2 (pg_tup k.calm hg hl hst) (by unfold swapsWithSole; exact swaps_no h4) (swap_no h5)) fun De σ H z => ?_
  obtain ⟨s, G, B, F, g, z⟩ := z
  unfold exS at z
  refine then_te g z fun d s1 v G1 B1 H1 F1 fd p z => ?_
  have z : outS C W Γ.m σ G B H F (match (generalizing := false) tgSet (.tup is) d s1 with | some s2 => .nx s2 | none => .bad) De := z
  cases e2 : tgSet (.tup is) d s1 with
  | none => rw [e2] at z; exact z.elim
  | some s2 =>
    rw [e2] at z
    obtain ⟨a, vs, F', rfl, hq, hle, g', k'⟩ := tg_tup p.good p.own p.nd (p.np h3) e2
    rw [k.K]
    exact ⟨a, vs, rfl, hq, hle, hle, z _ G1 B1 H1 F' ⟨g', p.ext.imp (fun _ z => z) fun a q => .inl (k' a q), prot_fold hm⟩⟩
theorem s_par {i j : Nat} {e f : E} {t v : Expr} {as : List Expr} {n : Nat} {pp pos : Pos} (k : CxOk C Γ X) (hv : v = .Tuple as n pp) (h1 : parB Γ i j t v = true) (h2 : PEL X C W [e, f] as) (h3 : isPl e = false) (h4 : isPl f = false) : PS X (.Assign [t] v pos) (tS C W Γ.m (.par i j e f)) := by
  obtain ⟨x, y, px, py, kt, pt, a, b, k2, pt2, rfl, rfl, hi, hj, hij, hx, hy, hw, n1, n2, hm⟩ := swap_par k h1
  obtain ⟨rfl, _, _⟩ := Expr.Tuple.inj hv
  refine ps_imp (ps_par k.calm (nd_of k) hi hj hij hx hy (pa_of h2) hw) fun De σ H z => ?_
  obtain ⟨s, G, B, F, g, z⟩ := z
  unfold exS at z
  refine ⟨s, G, B, F, g, ?_⟩
  cases e1 : evEs [e, f] s with
  | bad => rw [e1] at z; exact z
  | exc c fs xs s' => rw [e1] at z; exact outS.x z
  | ok ds s1 =>
    rw [e1] at z
    intro vs G1 B1 H1 F1 U p
    obtain ⟨d1, dr, v1, vr, fd1, U1, rfl, rfl, o1, nd1, vl, q1⟩ := p.vl
    obtain ⟨d2, dr2, v2, vr2, fd2, U2, rfl, rfl, o2, nd2, vl2, q2⟩ := vl
    obtain ⟨rfl, rfl, rfl⟩ := vl2
    rw [h3] at q1
    rw [h4] at q2
    obtain ⟨⟨q, _⟩⟩ | ⟨_, q1, rfl⟩ := q1
    · cases q
    obtain ⟨⟨q, _⟩⟩ | ⟨_, q2, rfl⟩ := q2
    · cases q
    rw [List.append_nil] at *
    have hm1 : (Γ.m && decide (i = 0)) = false := by revert hm; cases Γ.m <;> cases decide (i = 0) <;> simp
    have hm2 : (Γ.m && decide (j = 0)) = false := by revert hm; cases Γ.m <;> cases decide (j = 0) <;> cases decide (i = 0) <;> simp
    obtain ⟨F2, g2, k2⟩ := p.good.set (i := i) o1 nd1 fun a ha => (q1 a ha).1
    obtain ⟨F3, g3, k3⟩ := g2.set (i := j) o2 nd2 fun a ha z => by
      rcases k2 a z with z | z
      · exact (q2 a ha).1 z
      · exact (q1 a z).2 ha
    refine ⟨v1, v2, rfl, ?_⟩
    refine z _ G1 B1 H1 F3 ⟨g3, p.ext.imp (fun _ z => z) fun a q => .inl ?_, (Prot.set hm1).trans (Prot.set hm2)⟩
    rcases k3 a q with q | q
    · rcases k2 a q with q | q
      · exact .inl q
      · exact .inr (List.mem_append_left _ q)
    · exact .inr (List.mem_append_right _ (by simpa using q))
end
end TT
namespace TT
open PySem PySem.Spec PyProof.Rows L2
/-! ### walks -/
def Yd (C : Gl0) (G B : Hp) (xs : List D) : Nat → Hp → V → Hp → Prop := fun i H x H' =>
  ∀ G1 B1, (∀ a o, G a = some o → G1 a = some o) → (∀ a o, B a = some o → B1 a = some o) → Sb G1 B1 → Sb B1 H → ∃ d G2 B2, xs[i]? = some d ∧ Alloc G1 B1 H G2 B2 H' ∧ Sb G2 B2 ∧ Sb B2 H' ∧ Own C G2 B2 H' d x []
def outI (C : Gl0) (W : WX) (σ : L2.St) (es : List E) (G B H : Hp) (F : Fp) (s : List D) (r : R (List D)) (Q : L2.It → Hp → Prop) : Prop :=
  match r with
  | .ok xs s' => ∀ J G' B' H' F', Good C G' B' H' F' s' σ → Ext G B H (inF F) G' B' H' (inF F') → (effs es = false → s' = s ∧ F' = F ∧ ∀ a o, H a = some o → H' a = some o) → Walk J xs.length (fun H => Sb B' H) (Yd C G' B' xs) → Q J H'
  | .exc c fs xs s' => outX C W σ G B H F c fs xs s'
  | .bad => False
def tI (C : Gl0) (W : WX) (it : It) : TI := fun σ H Q => ∃ s G B F, Good C G B H F s σ ∧ outI C W σ it.es G B H F s (evIt it s) Q
section
variable {C : Gl0} {W : WX} {σ : L2.St} {G B H G1 B1 H1 : Hp} {F F1 : Fp} {s s1 : List D}
theorem alloc_bor {p : Addr} {o : HO} (gb : Sb G B) (bh : Sb B H) (hp : H p = none) : Alloc G B H G (upd B p o) (upd H p o) ∧ Sb G (upd B p o) ∧ Sb (upd B p o) (upd H p o) := by
  obtain ⟨x, g1, b1⟩ := alloc_shr (o := o) gb bh hp
  have bp : B p = none := none_of_ne fun z => bh.ne z hp
  have gp : G p = none := none_of_ne fun z => gb.ne z bp
  refine ⟨⟨x.keep, fun _ _ z => z, x.b, fun _ z => .inl z, x.bn, x.pn⟩, fun a u e => ?_, b1⟩
  rw [upd_ne (ne_of_none e gp)]
  exact gb a u e
theorem Own.still {d : D} {v : V} (o : Own C G B H d v []) (g : ∀ a o, G a = some o → G1 a = some o) (b : ∀ a o, B a = some o → B1 a = some o) : Own C G1 B1 H1 d v [] := o.mono g b fun _ z => nomatch z
theorem Owns.still {d : List D} {v : List V} (o : Owns C G B H d v []) (g : ∀ a o, G a = some o → G1 a = some o) (b : ∀ a o, B a = some o → B1 a = some o) : Owns C G1 B1 H1 d v [] := o.mono g b fun _ z => nomatch z
theorem pair_own {x y : D} {v w : V} {T : Addr} (gb : Sb G B) (bh : Sb B H) (nx : noOwn x = true) (ny : noOwn y = true) (ox : Own C G B H x v []) (oy : Own C G B H y w []) (hT : H T = none) :
    ∃ G2 B2, Alloc G B H G2 B2 (upd H T (.tup [v, w])) ∧ Sb G2 B2 ∧ Sb B2 (upd H T (.tup [v, w])) ∧ Own C G2 B2 (upd H T (.tup [v, w])) (pairD x y) (.ref T) [] := by
  unfold pairD
  split
  · rename_i h
    simp only [allShr, Bool.and_eq_true] at h
    obtain ⟨x1, g1, b1⟩ := alloc_shr (o := .tup [v, w]) gb bh hT
    refine ⟨_, _, x1, g1, b1, T, [v, w], [], rfl, .inl (.inl upd_same), ⟨v, [w], [], [], rfl, rfl, ox.still x1.g x1.b, w, [], [], [], rfl, rfl, oy.still x1.g x1.b, rfl, rfl⟩, rfl, ?_, ?_⟩
    · simp [noOwns, h.1.1, h.2.1]
    · simp [noBors, h.1.2, h.2.2]
  · obtain ⟨x1, g1, b1⟩ := alloc_bor (o := .tup [v, w]) gb bh hT
    refine ⟨_, _, x1, g1, b1, T, [v, w], [], rfl, .inl (.inl upd_same), ⟨v, [w], [], [], rfl, rfl, ox.still x1.g x1.b, w, [], [], [], rfl, rfl, oy.still x1.g x1.b, rfl, rfl⟩, rfl, ?_⟩
    show noOwns [x, y] = true
    simp [noOwns, nx, ny]
/-- an item as it lies -/
theorem yd_at {xs : List D} {vs : List V} {i : Nat} {H' : Hp} {x : V} (o : Owns C G B H xs vs []) (h : vs[i]? = some x) : Yd C G B xs i H' x H' := fun G1 B1 g b gb bh => by
  have hl := o.length
  have hi : i < xs.length := by rw [hl]; exact (List.getElem?_eq_some_iff.1 h).1
  obtain ⟨v, fd, e, ov, _, z⟩ := o.get (i := i) (d := xs[i]) (by simp [hi])
  rw [h] at e; cases e
  have : fd = [] := by
    cases fd with
    | nil => rfl
    | cons a r => cases (z a List.mem_cons_self)
  subst this
  exact ⟨xs[i], G1, B1, by simp [hi], Ext.refl, gb, bh, ov.still g b⟩
theorem yd_int {xs : List D} {i : Nat} {k : Int} {H' : Hp} (h : xs[i]? = some (.int k)) : Yd C G B xs i H' (.int k) H' := fun G1 B1 _ _ gb bh => ⟨_, G1, B1, h, Ext.refl, gb, bh, rfl, rfl⟩
theorem yd_str {xs : List D} {i : Nat} {k : Str} {H' : Hp} (h : xs[i]? = some (.str k)) : Yd C G B xs i H' (.str k) H' := fun G1 B1 _ _ gb bh => ⟨_, G1, B1, h, Ext.refl, gb, bh, rfl, rfl⟩
theorem rngD_get {lo c : Int} {n i : Nat} (h : i < n) : (rngD lo n c)[i]? = some (.int (lo + (i : Int) * c)) := by simp [rngD, h]
theorem rngD_len {lo c : Int} {n : Nat} : (rngD lo n c).length = n := by simp [rngD]
theorem small62_iff {i : Int} : small62 i = true ↔ -(2 ^ 62) ≤ i ∧ i < 2 ^ 62 := by simp [small62]
theorem rgC {i j k : Int} (h1 : small62 i = true) (h2 : small62 j = true) (h3 : 0 < k) (h4 : k < 1073741824) : RgC i j k ((j - i + (k - 1)) / k).toNat := by
  rw [small62_iff] at h1 h2
  have hs : Builtin.Range.rangeSize i j k = ((((j - i + (k - 1)) / k).toNat : Nat) : Int) := by
    unfold Builtin.Range.rangeSize
    rw [if_pos h3]
    split
    · have e : j - i + (k - 1) = (j - i - 1) + k := by omega
      rw [e, Int.add_ediv_of_dvd_right ⟨1, by omega⟩, Int.ediv_self (by omega)]
      have : 0 ≤ (j - i - 1) / k := Int.ediv_nonneg (by omega) (by omega)
      omega
    · have h : (j - i + (k - 1)) / k ≤ 0 := by
        have : (j - i + (k - 1)) / k < 1 := Int.ediv_lt_of_lt_mul h3 (by omega)
        omega
      omega
  refine ⟨by omega, by omega, ?_, hs⟩
  have hb : Builtin.Range.rangeSize i j k ≤ 2 ^ 63 - 1 := by
    unfold Builtin.Range.rangeSize
    rw [if_pos h3]
    split
    · have : (j - i - 1) / k ≤ j - i - 1 := Int.ediv_le_self _ (by omega)
      omega
    · omega
  have hb0 : 0 ≤ Builtin.Range.rangeSize i j k := by rw [hs]; omega
  unfold Builtin.Range.small
  simp only [Builtin.Range.rangeFitsLong, Bool.and_eq_true, Bool.or_eq_true, decide_eq_true_eq, beq_iff_eq, if_pos h3]
  omega
end
/-! ### what is walked -/
section
variable {X : Cx} {C : Gl0} {W : WX} {Γ : Gam}
theorem pi_imp {tg e : Expr} {t t' : TI} (h : PI X tg e t) (k : ∀ σ H Q, t' σ H Q → t σ H Q) : PI X tg e t' := ⟨fun pins s σ H Q I z => h.run pins s σ H Q I (k σ H Q z)⟩
/-- a list, a tuple, a text -/
def iSeq (K : PySem.W.Frag) (te : TE) : TI := fun σ H R => te σ H fun x H1 => (∃ a, x = .ref a ∧ (∃ xs, SqL K H1 a xs) ∧ R (Itl K a) H1) ∨ (∃ a, x = .ref a ∧ (∃ xs, SqT K H1 a xs) ∧ R (Itt K a) H1) ∨ ∃ z, x = .str z ∧ R (Its z) H1
theorem pi_seq {tg l : Expr} {tl : TE} (hl : PE X l tl) : PI X tg l (iSeq X.K tl) := by
  refine ⟨fun pins s σ H R I h => ?_⟩
  refine thn (hl.run pins s σ H _ I h) fun v s1 ⟨x, H1, I1, r1, q1⟩ => ?_
  rcases q1 with ⟨a, e, ⟨xs, hq⟩, q⟩ | ⟨a, e, ⟨xs, hq⟩, q⟩ | ⟨x, ex, q⟩
  · subst e
    cases r1
    obtain ⟨its, rv, p, hz⟩ := I1.list hq
    refine wpAny_pyIter_list p.isList ?_
    refine ⟨s1.heap.objs.size, [s1.heap.objs.size], _, _, H1, rfl, I1.kept (t' := s1.toks) fun b o e => Heap.get?_push_of_some _ e, turn_list a _, ⟨_, Heap.get?_push_size _ rfl, rfl, rfl⟩, fun b hb => ?_, q⟩
    have e : b = s1.heap.objs.size := by simpa using hb
    subst e
    exact I1.fpOk (Nat.le_refl _) (I1.hok.fresh (Nat.le_refl _))
  · subst e
    cases r1
    obtain ⟨its, rv, p, hz⟩ := I1.tuple hq
    refine wpAny_pyIter_tuple (show s1.heap.IsTuple a its.toArray from p) ?_
    refine ⟨s1.heap.objs.size, [s1.heap.objs.size], _, _, H1, rfl, I1.kept (t' := s1.toks) fun b o e => Heap.get?_push_of_some _ e, turn_tuple a _, ⟨_, Heap.get?_push_size _ rfl, rfl, rfl⟩, fun b hb => ?_, q⟩
    have e : b = s1.heap.objs.size := by simpa using hb
    subst e
    exact I1.fpOk (Nat.le_refl _) (I1.hok.fresh (Nat.le_refl _))
  · subst ex
    obtain ⟨t, rfl⟩ := r1
    cases ha : x.cps.all (· < 128)
    · exact wpAny_pyIter_wide ha (pi_one (tk := s1.toks) I1 _ (turn_str _ x t "str_iterator" (.inr rfl)) ⟨_, Heap.get?_push_size _ rfl, rfl, rfl⟩ q)
    · exact wpAny_pyIter_ascii ha (pi_one (tk := s1.toks) I1 _ (turn_str _ x t "str_ascii_iterator" (.inl rfl)) ⟨_, Heap.get?_push_size _ rfl, rfl, rfl⟩ q)
theorem PostE.xI {σ : L2.St} {e : E} {d : D} {v : V} {fd : List Addr} {G B H G1 B1 H1 : Hp} {F F1 : Fp} {s s1 : List D} (p : PostE C σ e G B H F s d s1 v G1 B1 H1 F1 fd) : Ext G B H (inF F) G1 B1 H1 (inF F1) :=
  p.ext.imp (fun _ z => z) fun a z => .inl (.inl z)
theorem PostL.xI {σ : L2.St} {es : List E} {ds : List D} {vs : List V} {U : List Addr} {G B H G1 B1 H1 : Hp} {F F1 : Fp} {s s1 : List D} (p : PostL C σ es G B H F s ds s1 vs G1 B1 H1 F1 U) : Ext G B H (inF F) G1 B1 H1 (inF F1) :=
  p.ext.imp (fun _ z => z) fun a z => .inl (.inl z)
/-- a list, by what never moves -/
theorem lst_fix {fl : Fl} {xs : List D} {v : V} {fd : List Addr} {G B H : Hp} (gb : Sb G B) (o : Own C G B H (.lst fl xs) v fd) (h1 : (fl != .own) = true) (h2 : noOwns xs = true) : ∃ a vs, v = .ref a ∧ (∀ H', Sb B H' → SqL C.K H' a vs) ∧ Owns C G B H xs vs [] := by
  obtain ⟨a, vs, F', rfl, h, oo, e, k⟩ := o
  have := oo.nil h2
  subst this
  refine ⟨a, vs, rfl, fun H' b => .inl (.inl ?_), oo⟩
  cases fl with
  | own => cases h1
  | bor => exact b.plain h (fun z => z)
  | shr => exact (gb.trans b).plain h (fun z => z)
theorem tup_fix {fl : Fl} {xs : List D} {v : V} {fd : List Addr} {G B H : Hp} (gb : Sb G B) (o : Own C G B H (.tup fl xs) v fd) (h1 : (fl != .own) = true) (h2 : noOwns xs = true) : ∃ a vs, v = .ref a ∧ (∀ H', Sb B H' → SqT C.K H' a vs) ∧ Owns C G B H xs vs [] := by
  obtain ⟨a, vs, F', rfl, h, oo, e, k⟩ := o
  have := oo.nil h2
  subst this
  refine ⟨a, vs, rfl, fun H' b => ?_, oo⟩
  cases fl with
  | own => cases h1
  | bor => exact b.seqT h
  | shr => exact (gb.trans b).seqT h
theorem scr_fix {ns : List Int} {v : V} {fd : List Addr} {G B H : Hp} (gb : Sb G B) (o : Own C G B H (.scr ns) v fd) : ∃ a, v = .ref a ∧ (∀ H', Sb B H' → SqL C.K H' a (ns.map V.int)) := by
  obtain ⟨⟨a, rfl, h⟩, _⟩ := o
  exact ⟨a, rfl, fun H' b => (gb.trans b).seqL h⟩
/-- what may be walked as a list -/
theorem lstD_fix {d : D} {xs : List D} {v : V} {fd : List Addr} {G B H : Hp} (gb : Sb G B) (o : Own C G B H d v fd) (h : lstD d = some xs) : ∃ a vs, v = .ref a ∧ (∀ H', Sb B H' → SqL C.K H' a vs) ∧ Owns C G B H xs vs [] ∧ noOwns xs = true := by
  unfold lstD at h
  split at h
  · split at h <;> cases h
    rename_i q
    simp only [Bool.and_eq_true] at q
    obtain ⟨a, vs, h1, h2, h3⟩ := lst_fix gb o q.1.1 q.1.2
    exact ⟨a, vs, h1, h2, h3, q.1.2⟩
  · cases h
    obtain ⟨a, h1, h2⟩ := scr_fix gb o
    refine ⟨a, _, h1, h2, owns_ints _, ?_⟩
    rw [noOwns_iff]
    intro x hx
    obtain ⟨n, _, rfl⟩ := List.mem_map.1 hx
    rfl
  · cases h
theorem i_seq {tg a : Expr} {e : E} (k : CxOk C Γ X) (h : PE X a (tE C W e)) : PI X tg a (tI C W ⟨.seq, [e]⟩) := pi_imp (pi_seq h) fun σ H Q z => by
  obtain ⟨s, G, B, F, g, z⟩ := z
  refine ⟨s, G, B, F, g, ?_⟩
  replace z : outI C W σ [e] G B H F s ((evE e s).bind fun d s1 => R.of (seqD d) s1) Q := by
    have hz : evIt ⟨.seq, [e]⟩ s = (evE e s).bind fun d s1 => R.of (seqD d) s1 := by
      unfold evIt
      show (evEs [e] s).bind _ = _
      unfold evEs evEs
      cases evE e s <;> rfl
    rw [hz] at z
    exact z
  cases e1 : evE e s with
  | bad => rw [e1] at z; exact z
  | exc c fs xs s' => rw [e1] at z; exact z
  | ok d s1 =>
    rw [e1] at z
    replace z : outI C W σ [e] G B H F s (R.of (seqD d) s1) Q := z
    intro v G1 B1 H1 F1 fd p
    cases e2 : seqD d with
    | none => rw [e2] at z; exact z.elim
    | some xs =>
      rw [e2] at z
      replace z : ∀ J G' B' H' F', Good C G' B' H' F' s1 σ → Ext G B H (inF F) G' B' H' (inF F') → (effs [e] = false → s1 = s ∧ F' = F ∧ ∀ a o, H a = some o → H' a = some o) → Walk J xs.length (fun H => Sb B' H) (Yd C G' B' xs) → Q J H' := z
      have pu : effs [e] = false → s1 = s ∧ F1 = F ∧ ∀ a o, H a = some o → H1 a = some o := fun q => p.pure (by simpa [effs] using q)
      rw [k.K]
      unfold seqD at e2
      split at e2
      · split at e2 <;> cases e2
        rename_i q
        simp only [Bool.and_eq_true] at q
        obtain ⟨a, vs, rfl, h2, h3⟩ := lst_fix p.good.gb p.own q.1.1 q.1.2
        refine .inl ⟨a, rfl, ⟨vs, h2 _ p.good.bh⟩, z _ G1 B1 H1 F1 p.good p.xI pu ?_⟩
        rw [h3.length]
        exact walk_list.mono (fun H' b => h2 H' b) fun i H x H' _ _ y => by obtain ⟨rfl, y⟩ := y; exact yd_at h3 y
      · split at e2 <;> cases e2
        rename_i q
        simp only [Bool.and_eq_true] at q
        obtain ⟨a, vs, rfl, h2, h3⟩ := tup_fix p.good.gb p.own q.1.1 q.1.2
        refine .inr (.inl ⟨a, rfl, ⟨vs, h2 _ p.good.bh⟩, z _ G1 B1 H1 F1 p.good p.xI pu ?_⟩)
        rw [h3.length]
        exact walk_tup.mono (fun H' b => h2 H' b) fun i H x H' _ _ y => by obtain ⟨rfl, y⟩ := y; exact yd_at h3 y
      · cases e2
        rename_i ks
        obtain ⟨⟨a, rfl, ea⟩, _⟩ := p.own
        have h2 : ∀ H', Sb B1 H' → SqT C.K H' a (ks.map kV) := fun H' b => .inl (.inl ((p.good.gb.trans b).plain ea (fun z => z)))
        have h3 : Owns C G1 B1 H1 (ks.map keyD) (ks.map kV) [] := owns_keyD ks
        refine .inr (.inl ⟨a, rfl, ⟨_, h2 _ p.good.bh⟩, z _ G1 B1 H1 F1 p.good p.xI pu ?_⟩)
        rw [h3.length]
        exact walk_tup.mono (fun H' b => h2 H' b) fun i H x H' _ _ y => by obtain ⟨rfl, y⟩ := y; exact yd_at h3 y
      · cases e2
        rename_i x
        obtain ⟨rfl, _⟩ := p.own
        refine .inr (.inr ⟨x, rfl, z _ G1 B1 H1 F1 p.good p.xI pu ?_⟩)
        have hl : (x.cps.toList.map fun c => D.str ⟨#[c]⟩).length = x.cps.size := by simp
        rw [hl]
        exact walk_str.mono (fun _ _ => trivial) fun i H v H' _ _ y => by
          obtain ⟨rfl, c, e, rfl⟩ := y
          exact yd_str (by simp [e])
      · cases e2
        obtain ⟨a, rfl, h2⟩ := scr_fix p.good.gb p.own
        rename_i ns
        refine .inl ⟨a, rfl, ⟨_, h2 _ p.good.bh⟩, z _ G1 B1 H1 F1 p.good p.xI pu ?_⟩
        have hl : (ns.map D.int).length = (ns.map V.int).length := by simp
        rw [hl]
        exact walk_list.mono (fun H' b => h2 H' b) fun i H x H' _ _ y => by obtain ⟨rfl, y⟩ := y; exact yd_at (owns_ints (H := H1) _) y
      · cases e2
end
end TT
/-! zip of two, each a list or a tuple -/
namespace TT
open PySem PySem.Spec PyProof.Rows L2
open PySem.Sem (wp)
inductive Kd where
  | l | t
def isSq (h : Heap) : Kd → Addr → Array Value → Prop
  | .l => h.IsList
  | .t => h.IsTuple
def isIt (h : Heap) : Kd → Addr → Addr → Nat → Prop
  | .l => h.IsListIter
  | .t => h.IsTupleIter
def SqK (K : PySem.W.Frag) (H : Hp) : Kd → Addr → List V → Prop
  | .l => SqL K H
  | .t => SqT K H
theorem isIt.at {h h' : Heap} {k : Kd} {i a : Addr} {n : Nat} (x : isIt h k i a n) (e : ∀ o, h.get? i = some o → h'.get? i = some o) : isIt h' k i a n := by
  cases k
  · exact Heap.IsListIter.at x e
  · exact Heap.IsTupleIter.at x e
theorem isIt.get {h : Heap} {k : Kd} {i a : Addr} {n : Nat} (x : isIt h k i a n) : ∃ o, h.get? i = some o ∧ ∀ v, o.data ≠ .seq v 0 := by
  cases k <;> (obtain ⟨o, e, _, d⟩ := x; exact ⟨o, e, fun v q => by rw [d] at q; cases q⟩)
theorem isSq.lt {h : Heap} {k : Kd} {a : Addr} {its : Array Value} (x : isSq h k a its) : a < h.objs.size := by
  cases k <;> (obtain ⟨o, e, _⟩ := x; exact Heap.lt_size e)
theorem draws_kd {prog : Program} {w : World} {A : Around} (hh : A.handled = none) (k : Kd) (i a : Addr) (hne : a ≠ i) (its : Array Value) :
    Draws prog w A i [i, a] its.size (fun n v => its[n]? = some v) (fun n h => isIt h k i a n ∧ isSq h k a its) := by
  cases k with
  | l => exact Draws.list hh i a hne its
  | t =>
    refine ⟨fun _ _ st => let ⟨o, ho, _⟩ := st.1; ⟨o, ho⟩, fun _ _ _ st hk => ⟨Heap.IsTupleIter.at st.1 fun o e => hk i (by simp) o e, Heap.IsTuple.at st.2 fun o e => hk a (by simp) o e⟩, fun n s Q E hi st hQ => ?_, fun s Q E st hE => ?_⟩
    · refine RZ.nextOf_tuple_item st.1 st.2 (x := its[n]) (by simp [hi]) fun h' hit' hs' => ?_
      exact hQ _ h' s.toks (by simp [hi]) ⟨hit', Heap.IsTuple.extBut st.2 hs'.extBut hne⟩ hs'
    · exact RZ.nextOf_tuple_end hh st.1 st.2 (by simp) hE
theorem sep_of {z TI TO i1 i2 a b : Addr} (D : ZipApart z TI TO i1 i2 a b) : ZipSep2 z TI TO i1 i2 [i1, a] [i2, b] where
  TIz := D.TIz
  TOz := D.TOz
  TITO := D.TITO
  TIi1 := D.TIi1
  mem1 := by simp
  zf1 := by simp [D.i1z.symm, D.l1z.symm]
  Tf1 := by simp [D.TOi1, D.l1TO.symm]
  TIi2 := D.TIi2
  mem2 := by simp
  zf2 := by simp [D.i2z.symm, D.l2z.symm]
  Tf2 := by simp [D.TOi2, D.l2TO.symm]
  sep1_2 := by simp [D.i12, D.l2i1.symm]
  sep2_1 := by simp [D.i12.symm, D.l1i2.symm]
theorem isq_of {X : Cx} {pins : List (Addr × Obj)} {σ : L2.St} {H : Hp} {s : Shared} {k : Kd} {a : Addr} {xs : List V} (I : Inv X pins σ H s) (h : SqK X.K H k a xs) : ∃ its, Vals xs its ∧ isSq s.heap k a its.toArray := by
  cases k with
  | l =>
    obtain ⟨its, rv, p, _⟩ := I.list h
    exact ⟨its, rv, p.isList⟩
  | t =>
    obtain ⟨its, rv, p, _⟩ := I.tuple h
    exact ⟨its, rv, p⟩
theorem isq_inj {X : Cx} {pins : List (Addr × Obj)} {σ : L2.St} {H : Hp} {s : Shared} {k : Kd} {a : Addr} {xs ys : List V} (I : Inv X pins σ H s) (h : SqK X.K H k a xs) (h2 : SqK X.K H k a ys) : xs = ys := by
  cases k with
  | l => exact I.list_inj h h2
  | t => exact I.tuple_inj h h2
/-- the items of both, in new pairs -/
def ItzK (K : PySem.W.Frag) (k1 k2 : Kd) (a b : Addr) : L2.It :=
  ⟨fun n H => ∃ (xs ys : List V) (x y : V), SqK K H k1 a xs ∧ SqK K H k2 b ys ∧ xs[n]? = some x ∧ ys[n]? = some y,
    fun n H v H' => ∃ T x y, v = .ref T ∧ H T = none ∧ H' = upd H T (.tup [x, y]) ∧ (∀ xs, SqK K H k1 a xs → xs[n]? = some x) ∧ ∀ ys, SqK K H k2 b ys → ys[n]? = some y,
    fun n H => ∃ xs ys : List V, SqK K H k1 a xs ∧ SqK K H k2 b ys ∧ n = min xs.length ys.length⟩
theorem turn_zipK {P : Program} {w : World} {K : PySem.W.Frag} {elts : List Expr} {kk : Nat} {tpos : Pos} {k1 k2 : Kd} {a b z TI TO i1 i2 : Addr} (D : ZipApart z TI TO i1 i2 a b) :
    Turn P w K (.Tuple elts kk tpos) (ItzK K k1 k2 a b) [z, TI, TO, i1, i2] z (fun n h => IsZip h z TI TO .none ∧ IsPair h TI (.ref i1) (.ref i2) ∧ (∃ x y, IsPair h TO x y) ∧ isIt h k1 i1 a n ∧ isIt h k2 i2 b n) where
  mem := by simp
  obj := fun n h st c hc => by
    obtain ⟨hz, hTI, ⟨x, y, hTO⟩, h1, h2⟩ := st
    have e' : c = z ∨ c = TI ∨ c = TO ∨ c = i1 ∨ c = i2 := by simpa using hc
    rcases e' with q | q | q | q | q
    · rw [q]; exact ⟨_, hz, fun v q => nomatch q⟩
    · rw [q]; exact ⟨_, hTI, fun v q => nomatch q⟩
    · rw [q]; exact ⟨_, hTO, fun v q => nomatch q⟩
    · rw [q]
      cases k1 <;> (obtain ⟨o1, e1, _, d1⟩ := h1; exact ⟨o1, e1, fun v q => by rw [d1] at q; cases q⟩)
    · rw [q]
      cases k2 <;> (obtain ⟨o2, e2, _, d2⟩ := h2; exact ⟨o2, e2, fun v q => by rw [d2] at q; cases q⟩)
  keep := fun n h h' st k => by
    obtain ⟨hz, hTI, ⟨x, y, hTO⟩, h1, h2⟩ := st
    exact ⟨k z (by simp) _ hz, k TI (by simp) _ hTI, ⟨x, y, k TO (by simp) _ hTO⟩, h1.at fun o q => k i1 (by simp) o q, h2.at fun o q => k i2 (by simp) o q⟩
  item := by
    intro X hP hw hK hc n pins s σ H E I hf st hg
    subst hP hw hK
    obtain ⟨hz, hTI, ⟨x0, y0, hTO⟩, h1, h2⟩ := st
    obtain ⟨xs, ys, x, y, hqx, hqy, hx, hy⟩ := hg
    obtain ⟨its, rv, p⟩ := isq_of I hqx
    obtain ⟨its2, rv2, p2⟩ := isq_of I hqy
    obtain ⟨u, hu, ru⟩ := rv.get hx
    obtain ⟨u2, hu2, ru2⟩ := rv2.get hy
    have hzl : z < s.heap.objs.size := Heap.lt_size hz
    have lt1 : n < its.toArray.size := by
      rw [List.size_toArray]; exact (List.getElem?_eq_some_iff.1 hu).1
    have lt2 : n < its2.toArray.size := by
      rw [List.size_toArray]; exact (List.getElem?_eq_some_iff.1 hu2).1
    refine wpAny_pyNext_zipD2_item (sep_of D) (draws_kd (A := X.A.in1) (I.ok.hd hc) k1 i1 a D.l1i1 its.toArray) (draws_kd (A := X.A.in1) (I.ok.hd hc) k2 i2 b D.l2i2 its2.toArray) hz hTI hTO ⟨h1, p⟩ ⟨h2, p2⟩ lt1 lt2 fun v1 v2 h' tk y1 y2 z' TO' st1 st2 hT hsz hk => ?_
    have ev1 : v1 = u := by
      have q : its[n]? = some v1 := by simpa using y1
      rw [hu] at q
      injection q with q
      exact q.symm
    have ev2 : v2 = u2 := by
      have q : its2[n]? = some v2 := by simpa using y2
      rw [hu2] at q
      injection q with q
      exact q.symm
    rw [ev1, ev2] at TO' hT
    refine ⟨_, rfl, wpAny_letOwnedTupleGo_zip (s := { s with heap := h', toks := tk }) z' fun h'' z'' sb => ?_⟩
    have hT2 : h''.get? s.heap.objs.size = some { cls := .type "tuple", data := .seq #[u, u2] } := (sb.2 _ (Nat.ne_of_gt hzl)).trans hT
    have new : ObjOk X.prog X.w (upd H s.heap.objs.size (.tup [x, y])) h'' s.heap.objs.size (.tup [x, y]) :=
      ⟨by show 2 ≤ sizeLine; decide, [u, u2], .cons ru (.cons ru2 .nil), ⟨_, hT2, rfl, _, rfl⟩⟩
    have I1 : Inv X pins σ (upd H s.heap.objs.size (.tup [x, y])) { s with heap := h'', toks := tk } :=
      I.turnedNew (t' := tk) (ch := [z, TI, TO, i1, i2]) (fun c o hb q => (sb.2 c (fun q' => hb (by simp [q']))).trans (hk c o (fun q' => hb (by simp [q'])) (fun q' => hb (by simp [q'])) (fun q' => hb (by simp [q'])) (fun q' => hb (by simp [q'])) q)) hf (Nat.le_refl _) new
    refine ⟨.ref s.heap.objs.size, _, I1, rfl, ⟨_, x, y, rfl, I.hok.fresh (Nat.le_refl _), rfl, fun l hl => by rw [isq_inj I hl hqx]; exact hx, fun l hl => by rw [isq_inj I hl hqy]; exact hy⟩, ⟨z'', ?_, ⟨u, u2, ?_⟩, ?_, ?_⟩, fun c hcm => ?_⟩
    · exact (sb.2 _ D.TIz).trans (hk _ _ D.TIz D.TITO D.TIi1 D.TIi2 hTI)
    · exact (sb.2 _ D.TOz).trans TO'
    · exact st1.1.at fun o q => (sb.2 _ D.i1z).trans q
    · exact st2.1.at fun o q => (sb.2 _ D.i2z).trans q
    · have hlt : c < s.heap.objs.size := by
        have e' : c = z ∨ c = TI ∨ c = TO ∨ c = i1 ∨ c = i2 := by simpa using hcm
        rcases e' with q | q | q | q | q
        · rw [q]; exact hzl
        · rw [q]; exact Heap.lt_size hTI
        · rw [q]; exact Heap.lt_size hTO
        · rw [q]; obtain ⟨_, e1, _⟩ := h1.get; exact Heap.lt_size e1
        · rw [q]; obtain ⟨_, e2, _⟩ := h2.get; exact Heap.lt_size e2
      rw [upd_ne (Nat.ne_of_lt hlt)]
      exact (hf c hcm).1
  done := by
    intro X hP hw hK hc n pins s σ H E I hf st hg
    subst hP hw hK
    obtain ⟨hz, hTI, ⟨x0, y0, hTO⟩, h1, h2⟩ := st
    obtain ⟨xs, ys, hqx, hqy, hend⟩ := hg
    obtain ⟨its, rv, p⟩ := isq_of I hqx
    obtain ⟨its2, rv2, p2⟩ := isq_of I hqy
    have l1 := rv.length
    have l2 := rv2.length
    refine wpAny_pyNext_zipD2_end (sep_of D) (draws_kd (A := X.A.in1) (I.ok.hd hc) k1 i1 a D.l1i1 its.toArray) (draws_kd (A := X.A.in1) (I.ok.hd hc) k2 i2 b D.l2i2 its2.toArray) hz hTI hTO ⟨h1, p⟩ ⟨h2, p2⟩ (by simp; omega) (by simp; omega) (by simp; omega) fun h' tk hk => ⟨rfl, I.turnedL (t' := tk) (ch := [z, TI, TO, i1, i2]) (fun c o hb q =>
      hk c o (fun q' => hb (by simp [q'])) (fun q' => hb (by simp [q'])) (fun q' => hb (by simp [q'])) (fun q' => hb (by simp [q'])) q) hf⟩
  self := fun A n s Q E st h => wpAny_pyIter_zip st.1 h
theorem walk_zipK {K : PySem.W.Frag} {k1 k2 : Kd} {a b : Addr} {xs ys : List V} {n : Nat} (hn : n = min xs.length ys.length) : Walk (ItzK K k1 k2 a b) n (fun H => SqK K H k1 a xs ∧ SqK K H k2 b ys) (YPair (fun i => xs[i]?) (fun i => ys[i]?)) := by
  subst hn
  refine ⟨fun i _ hi q => ?_, fun _ q => ⟨xs, ys, q.1, q.2, rfl⟩, fun i H v H' _ q y => ?_⟩
  · have g1 : i < xs.length := by omega
    have g2 : i < ys.length := by omega
    exact ⟨xs, ys, xs[i], ys[i], q.1, q.2, by simp [g1], by simp [g2]⟩
  · obtain ⟨T, x, z, g1, g2, g3, g4, g5⟩ := y
    exact ⟨T, x, z, g1, g2, g3, g4 xs q.1, g5 ys q.2⟩
def Kd.it : Kd → String
  | .l => "list_iterator"
  | .t => "tuple_iterator"
abbrev zk1 (h : Heap) (k1 : Kd) (a : Addr) : Heap := h.push { cls := .type k1.it, data := .fields #[.ref a, .int 0 0] }
abbrev zk2 (h : Heap) (k1 k2 : Kd) (a b : Addr) : Heap := (zk1 h k1 a).push { cls := .type k2.it, data := .fields #[.ref b, .int 0 0] }
abbrev zk3 (h : Heap) (k1 k2 : Kd) (a b : Addr) : Heap := (zk2 h k1 k2 a b).push { cls := .type "tuple", data := .seq #[.ref h.objs.size, .ref (zk1 h k1 a).objs.size] }
abbrev zk4 (h : Heap) (k1 k2 : Kd) (a b : Addr) : Heap := (zk3 h k1 k2 a b).push { cls := .type "tuple", data := .seq #[.none, .none] }
abbrev zk5 (h : Heap) (k1 k2 : Kd) (a b : Addr) : Heap := (zk4 h k1 k2 a b).push { cls := .type "zip", data := .fields #[.none, .bool false, .bool false, .ref (zk2 h k1 k2 a b).objs.size, .ref (zk3 h k1 k2 a b).objs.size] }
theorem meets_zipK (k1 k2 : Kd) (a b : Addr) (xs ys : Array Value) :
    Meets (Builtin.«zip.__new__» ⟨[.type "zip", .ref a, .ref b], []⟩) (fun _ R s => isSq s.heap k1 a xs ∧ isSq s.heap k2 b ys ∧
      R (.ok (.ret (.ref (zk4 s.heap k1 k2 a b).objs.size))) { s with heap := zk5 s.heap k1 k2 a b }) :=
  .of_wp fun prog w A R s h => by
    obtain ⟨hp, g, d, tk, os⟩ := s; obtain ⟨hl1, hl2, h⟩ := h
    have hsub := sub_zip
    cases k1 with
    | l =>
      have hL1 : Heap.IsList (Shared.heap ⟨hp, g, d, tk, os⟩) a xs := hl1
      cases k2 with
      | l =>
        have hL2 : Heap.IsList (Shared.heap ⟨hp.push { cls := .type "list_iterator", data := .fields #[.ref a, .int 0 0] }, g, d, tk, os⟩) b ys := Heap.IsList.push hl2 _
        wp_walk using wpAny_pyIter_list hL1, wpAny_pyIter_list hL2
        exact ⟨_, rfl, h⟩
      | t =>
        have hL2 : Heap.IsTuple (Shared.heap ⟨hp.push { cls := .type "list_iterator", data := .fields #[.ref a, .int 0 0] }, g, d, tk, os⟩) b ys := Heap.IsTuple.push hl2 _
        wp_walk using wpAny_pyIter_list hL1, wpAny_pyIter_tuple hL2
        exact ⟨_, rfl, h⟩
    | t =>
      have hL1 : Heap.IsTuple (Shared.heap ⟨hp, g, d, tk, os⟩) a xs := hl1
      cases k2 with
      | l =>
        have hL2 : Heap.IsList (Shared.heap ⟨hp.push { cls := .type "tuple_iterator", data := .fields #[.ref a, .int 0 0] }, g, d, tk, os⟩) b ys := Heap.IsList.push hl2 _
        wp_walk using wpAny_pyIter_tuple hL1, wpAny_pyIter_list hL2
        exact ⟨_, rfl, h⟩
      | t =>
        have hL2 : Heap.IsTuple (Shared.heap ⟨hp.push { cls := .type "tuple_iterator", data := .fields #[.ref a, .int 0 0] }, g, d, tk, os⟩) b ys := Heap.IsTuple.push hl2 _
        wp_walk using wpAny_pyIter_tuple hL1, wpAny_pyIter_tuple hL2
        exact ⟨_, rfl, h⟩
theorem isIt_new {h : Heap} {k : Kd} {i a : Addr} (e : h.get? i = some { cls := .type k.it, data := .fields #[.ref a, .int 0 0] }) : isIt h k i a 0 := by
  cases k <;> exact ⟨_, e, rfl, rfl⟩
theorem call_zipK {prog : Program} {w : World} {A : Around} {E : Value → Shared → Prop} {s : Shared} {k1 k2 : Kd} {a b : Addr} {xs ys : Array Value} {Q : Value → Shared → Prop} (hl1 : isSq s.heap k1 a xs) (hl2 : isSq s.heap k2 b ys)
    (h : ∀ h', IsZip h' (s.heap.objs.size + 4) (s.heap.objs.size + 2) (s.heap.objs.size + 3) .none → IsPair h' (s.heap.objs.size + 2) (.ref s.heap.objs.size) (.ref (s.heap.objs.size + 1)) →
      IsPair h' (s.heap.objs.size + 3) .none .none → isIt h' k1 s.heap.objs.size a 0 → isIt h' k2 (s.heap.objs.size + 1) b 0 →
      (∀ c o, s.heap.get? c = some o → h'.get? c = some o) → Q (.ref (s.heap.objs.size + 4)) { s with heap := h' }) :
    wpAny (model prog w) A (call (.type "zip") [.ref a, .ref b]) Q E s := by
  refine callType_new F.called_zip (by decide) (F.typeCall_zip_2 _ _) (F.newCall_zip_2 _ _) (fun obj => F.args_object_init_3 obj _ _) F.entry_zip_new
    (meets_zipK k1 k2 a b xs ys) ⟨hl1, hl2, ?_⟩
  have z1 : (zk1 s.heap k1 a).objs.size = s.heap.objs.size + 1 := Heap.size_push ..
  have z2 : (zk2 s.heap k1 k2 a b).objs.size = s.heap.objs.size + 2 := by rw [Heap.size_push, z1]
  have z3 : (zk3 s.heap k1 k2 a b).objs.size = s.heap.objs.size + 3 := by rw [Heap.size_push, z2]
  have z4 : (zk4 s.heap k1 k2 a b).objs.size = s.heap.objs.size + 4 := by rw [Heap.size_push, z3]
  have g5 : (zk5 s.heap k1 k2 a b).get? (zk4 s.heap k1 k2 a b).objs.size = some _ := Heap.get?_push_size _ rfl
  have g4 : (zk5 s.heap k1 k2 a b).get? (zk3 s.heap k1 k2 a b).objs.size = some _ := Heap.get?_push_of_some _ (Heap.get?_push_size _ rfl)
  have g3 : (zk5 s.heap k1 k2 a b).get? (zk2 s.heap k1 k2 a b).objs.size = some _ := Heap.get?_push_of_some _ (Heap.get?_push_of_some _ (Heap.get?_push_size _ rfl))
  have g2 : (zk5 s.heap k1 k2 a b).get? (zk1 s.heap k1 a).objs.size = some _ := Heap.get?_push_of_some _ (Heap.get?_push_of_some _ (Heap.get?_push_of_some _ (Heap.get?_push_size _ rfl)))
  have g1 : (zk5 s.heap k1 k2 a b).get? s.heap.objs.size = some _ := Heap.get?_push_of_some _ (Heap.get?_push_of_some _ (Heap.get?_push_of_some _ (Heap.get?_push_of_some _ (Heap.get?_push_size _ rfl))))
  show _ ∧ _
  rw [z2, z3, z4] at g5
  rw [z1, z2] at g3
  rw [z3] at g4
  rw [z1] at g2
  rw [z4]
  exact ⟨⟨_, g5, rfl⟩, h _ g5 g3 g4 (isIt_new g1) (isIt_new g2) fun c o x =>
    Heap.get?_push_of_some _ (Heap.get?_push_of_some _ (Heap.get?_push_of_some _ (Heap.get?_push_of_some _ (Heap.get?_push_of_some _ x))))⟩
def iZipK (K : PySem.W.Frag) (ta : TA) : TI := fun σ H R => ta σ H fun vs H1 => ∃ k1 k2 a b xs ys, vs = [.ref a, .ref b] ∧ SqK K H1 k1 a xs ∧ SqK K H1 k2 b ys ∧ R (ItzK K k1 k2 a b) H1
theorem pi_zipK {X : Cx} {e e2 : Expr} {ta : TA} {p pos tpos : Pos} {elts : List Expr} {kk : Nat} (hg : Gl X "zip") (hm : X.mg "zip" = none) (ha : PA X [e, e2] ta)
    (hs : starEach [e, e2] X.env = (false, eval e X.env) :: starEach [e2] X.env := by rfl) (hpl : (backTo pos (starEach [e2] X.env)).any (·.1) = false := by rfl) :
    PI X (.Tuple elts kk tpos) (.Call (.Name "zip" p) [e, e2] [] pos) (iZipK X.K ta) := by
  refine ⟨fun pins s σ H R I h => ?_⟩
  refine Call_ (ld_blt I hg hm PyProof.Rows.boot_zip (PyProof.Rows.callWith_type1 (thn (ha.run pos pins s σ H _ I h) fun us s1 ⟨vs, H1, I1, r1, q1⟩ => ?_) hs hpl))
  obtain ⟨k1, k2, a, b, xs, ys, ex, hqx, hqy, q⟩ := q1
  subst ex
  obtain ⟨u1, u2, rfl, r, r'⟩ := vals2 r1
  cases r
  cases r'
  have fresh5 : ∀ c, c ∈ [s1.heap.objs.size + 4, s1.heap.objs.size + 2, s1.heap.objs.size + 3, s1.heap.objs.size, s1.heap.objs.size + 1] → FpOk X pins H1 c := fun c hcm => by
    have hle : s1.heap.objs.size ≤ c := by
      rcases List.mem_cons.1 hcm with q | hcm
      · rw [q]; exact Nat.le_add_right _ _
      rcases List.mem_cons.1 hcm with q | hcm
      · rw [q]; exact Nat.le_add_right _ _
      rcases List.mem_cons.1 hcm with q | hcm
      · rw [q]; exact Nat.le_add_right _ _
      rcases List.mem_cons.1 hcm with q | hcm
      · rw [q]; exact Nat.le_refl _
      rcases List.mem_cons.1 hcm with q | hcm
      · rw [q]; exact Nat.le_add_right _ _
      · cases hcm
    exact I1.fpOk hle (I1.hok.fresh hle)
  obtain ⟨its, rv, p1⟩ := isq_of I1 hqx
  obtain ⟨its2, rv2, p2⟩ := isq_of I1 hqy
  refine call_zipK p1 p2 fun h' hz hTI hTO h1 h2 hk => wpAny_pyIter_zip hz ?_
  have I2 : Inv X pins σ H1 { s1 with heap := h' } := I1.kept (t' := s1.toks) hk
  exact ⟨s1.heap.objs.size + 4, [s1.heap.objs.size + 4, s1.heap.objs.size + 2, s1.heap.objs.size + 3, s1.heap.objs.size, s1.heap.objs.size + 1], _, _, H1, rfl, I2, turn_zipK (PySem.W.ktu_apart s1.heap.objs.size a b p1.lt p2.lt), ⟨hz, hTI, ⟨_, _, hTO⟩, h1, h2⟩, fresh5, q⟩
end TT
namespace TT
open PySem PySem.Spec PyProof.Rows L2
section
variable {X : Cx} {C : Gl0} {W : WX} {Γ : Gam}
theorem pel_tail {e : E} {es : List E} {a : Expr} {as : List Expr} (h : PEL X C W (e :: es) (a :: as)) : notStar a = true ∧ PEL X C W es as := by
  obtain ⟨_, _, q, n1, _, _, h2⟩ := h
  obtain ⟨rfl, rfl⟩ := List.cons.inj q
  exact ⟨n1, h2⟩
/-- operands, then a walk -/
theorem outI_L {es : List E} {σ : L2.St} {G B H : Hp} {F : Fp} {s : List D} {k : List D → List D → R (List D)} {Q : L2.It → Hp → Prop} {K : List V → Hp → Prop} (g : Good C G B H F s σ) (h : outI C W σ es G B H F s ((evEs es s).bind k) Q)
    (hk : ∀ ds s1 vs G1 B1 H1 F1 U, PostL C σ es G B H F s ds s1 vs G1 B1 H1 F1 U → outI C W σ es G B H F s (k ds s1) Q → K vs H1) : tL C W es σ H K := by
  refine ⟨s, G, B, F, g, ?_⟩
  cases e1 : evEs es s with
  | bad => rw [e1] at h; exact h
  | exc c fs xs s' => rw [e1] at h; exact h
  | ok ds s1 =>
    rw [e1] at h
    exact fun vs G1 B1 H1 F1 U p => hk ds s1 vs G1 B1 H1 F1 U p h
theorem evI_one {e : E} {s : List D} {k : D → List D → R (List D)} : ((evE e s).bind k) = (evEs [e] s).bind fun ds s1 => match ds with | [d] => k d s1 | _ => .bad := by
  unfold evEs evEs
  cases evE e s <;> rfl
theorem walk_rng {lo c : Int} {n : Nat} {G B : Hp} : Walk (Itc lo c n) (rngD lo n c).length (fun H => Sb B H) (Yd C G B (rngD lo n c)) := by
  rw [rngD_len]
  exact walk_rangeC.mono (fun _ _ => trivial) fun i H x H' hi _ y => by obtain ⟨rfl, rfl⟩ := y; exact yd_int (rngD_get hi)
theorem walk_rng1 {lo : Int} {n : Nat} {G B : Hp} : Walk (Itr lo n) (rngD lo n 1).length (fun H => Sb B H) (Yd C G B (rngD lo n 1)) := by
  rw [rngD_len]
  exact walk_range.mono (fun _ _ => trivial) fun i H x H' hi _ y => by
    obtain ⟨rfl, rfl⟩ := y
    exact yd_int (by rw [rngD_get hi, Int.mul_one])
theorem i_rng1 {tg a : Expr} {as : List Expr} {e : E} (k : CxOk C Γ X) (hs : btCall Γ "range" a = some as) (h : PEL X C W [e] as) : PI X tg a (tI C W ⟨.rng1, [e]⟩) := by
  obtain ⟨x, p, pos, rfl, hb⟩ := btCall_some hs
  obtain ⟨rfl, hg, hd, hm⟩ := k.bt hb
  obtain ⟨a, rfl⟩ := List.length_eq_one_iff.1 (pel_len h)
  refine pi_imp (pi_range1 hg hm (pa_of h) (star_ok (pel_tail h).1)) fun σ H Q z => ?_
  obtain ⟨s, G, B, F, g, z⟩ := z
  simp only [evIt] at z
  refine outI_L g z fun ds s1 vs G1 B1 H1 F1 U p z => ?_
  obtain ⟨d, rfl⟩ := List.length_eq_one_iff.1 (vl_len p.vl)
  obtain ⟨v, fd, rfl, o⟩ := vl_one p.vl
  cases d <;> first | exact z.elim | skip
  rename_i j
  replace z : outI C W σ _ G B H F s (R.of (if small62 j then some (rngD 0 j.toNat 1) else none) s1) Q := z
  split at z
  · rename_i q
    rw [small62_iff] at q
    exact ⟨j, by rw [o.1], q.1, q.2, z _ G1 B1 H1 F1 p.good p.xI p.pure walk_rng1⟩
  · exact z.elim
theorem i_rng2 {tg a : Expr} {as : List Expr} {e f : E} (k : CxOk C Γ X) (hs : btCall Γ "range" a = some as) (h : PEL X C W [e, f] as) : PI X tg a (tI C W ⟨.rng2, [e, f]⟩) := by
  obtain ⟨x, p, pos, rfl, hb⟩ := btCall_some hs
  obtain ⟨rfl, hg, hd, hm⟩ := k.bt hb
  obtain ⟨a, b, rfl⟩ := len2 (pel_len h)
  obtain ⟨n1, h2⟩ := pel_tail h
  obtain ⟨n2, _⟩ := pel_tail h2
  refine pi_imp (pi_range2 hg hm (pa_of h) (by rw [star_ok n1, star_ok n2]; rfl) (star_ok n2)) fun σ H Q z => ?_
  obtain ⟨s, G, B, F, g, z⟩ := z
  simp only [evIt] at z
  refine outI_L g z fun ds s1 vs G1 B1 H1 F1 U p z => ?_
  obtain ⟨d, d', rfl⟩ := len2 (vl_len p.vl)
  obtain ⟨v, v', fd, fd', rfl, o, o'⟩ := vl_two p.vl
  cases d <;> first | exact z.elim | skip
  cases d' <;> first | exact z.elim | skip
  rename_i i j
  replace z : outI C W σ _ G B H F s (R.of (if small62 i && small62 j then some (rngD i (j - i).toNat 1) else none) s1) Q := z
  split at z
  · rename_i q
    rw [Bool.and_eq_true, small62_iff, small62_iff] at q
    exact ⟨i, j, by rw [o.1, o'.1], ⟨q.1.1, q.1.2, q.2.1, q.2.2⟩, z _ G1 B1 H1 F1 p.good p.xI p.pure walk_rng1⟩
  · exact z.elim
theorem i_rng3 {tg a : Expr} {as : List Expr} {e f f3 : E} (k : CxOk C Γ X) (hs : btCall Γ "range" a = some as) (h : PEL X C W [e, f, f3] as) : PI X tg a (tI C W ⟨.rng3, [e, f, f3]⟩) := by
  obtain ⟨x, p, pos, rfl, hb⟩ := btCall_some hs
  obtain ⟨rfl, hg, hd, hm⟩ := k.bt hb
  obtain ⟨a, b, c, rfl⟩ := len3 (pel_len h)
  obtain ⟨n1, h2⟩ := pel_tail h
  refine pi_imp (pi_range3 hg hm (pa_of h) (star_ok n1) (stars_ok h2 _ _)) fun σ H Q z => ?_
  obtain ⟨s, G, B, F, g, z⟩ := z
  simp only [evIt] at z
  refine outI_L g z fun ds s1 vs G1 B1 H1 F1 U p z => ?_
  obtain ⟨d, d', d'', rfl⟩ := len3 (vl_len p.vl)
  obtain ⟨v, v', v'', fd, fd', fd'', rfl, o, o', o''⟩ := vl_three p.vl
  cases d <;> first | exact z.elim | skip
  cases d' <;> first | exact z.elim | skip
  cases d'' <;> first | exact z.elim | skip
  rename_i i j l
  replace z : outI C W σ _ G B H F s (R.of (if small62 i && small62 j && decide (0 < l) && decide (l < 1073741824) then some (rngD i ((j - i + (l - 1)) / l).toNat l) else none) s1) Q := z
  split at z
  · rename_i q
    simp only [Bool.and_eq_true, decide_eq_true_eq] at q
    exact ⟨i, j, l, _, by rw [o.1, o'.1, o''.1], rgC q.1.1.1 q.1.1.2 q.1.2 q.2, z _ G1 B1 H1 F1 p.good p.xI p.pure walk_rng⟩
  · exact z.elim
theorem yd_pair {xs ys zs : List D} {vs ws : List V} {i : Nat} {T : Addr} {v w : V} {G B H : Hp} (ox : Owns C G B H xs vs []) (oy : Owns C G B H ys ws []) (nx : noOwns xs = true) (ny : noOwns ys = true) (hv : vs[i]? = some v) (hw : ws[i]? = some w) {H1 : Hp} (hT : H1 T = none)
    (hz : ∀ x y, xs[i]? = some x → ys[i]? = some y → zs[i]? = some (pairD x y)) : Yd C G B zs i H1 (.ref T) (upd H1 T (.tup [v, w])) := fun G1 B1 g b gb bh => by
  obtain ⟨x, G', B', ex, x1, gb1, bh1, o1⟩ := yd_at (H' := H1) ox hv G1 B1 g b gb bh
  obtain ⟨y, G'', B'', ey, x2, gb2, bh2, o2⟩ := yd_at (H' := H1) oy hw G' B' (fun a o z => x1.g a o (g a o z)) (fun a o z => x1.b a o (b a o z)) gb1 bh1
  obtain ⟨G2, B2, x3, gb3, bh3, o3⟩ := pair_own gb2 bh2 (noOwns_iff.1 nx x (List.mem_of_getElem? ex)) (noOwns_iff.1 ny y (List.mem_of_getElem? ey)) (o1.still x2.g x2.b) o2 hT
  exact ⟨_, G2, B2, hz x y ex ey, (x1.trans x2).trans x3, gb3, bh3, o3⟩
theorem i_enum {tg a : Expr} {as : List Expr} {e : E} (k : CxOk C Γ X) (hs : btCall Γ "enumerate" a = some as) (h : PEL X C W [e] as) (ht : isTup tg = true) : PI X tg a (tI C W ⟨.enum, [e]⟩) := by
  obtain ⟨x, p, pos, rfl, hb⟩ := btCall_some hs
  obtain ⟨rfl, hg, hd, hm⟩ := k.bt hb
  obtain ⟨a, rfl⟩ := List.length_eq_one_iff.1 (pel_len h)
  obtain ⟨elts, kk, tpos, rfl⟩ : ∃ elts kk tpos, tg = .Tuple elts kk tpos := by
    cases tg <;> first | exact ⟨_, _, _, rfl⟩ | cases ht
  refine pi_imp (pi_enum hg hm (pa_of h) (star_ok (pel_tail h).1)) fun σ H Q z => ?_
  obtain ⟨s, G, B, F, g, z⟩ := z
  simp only [evIt] at z
  refine outI_L g z fun ds s1 vs G1 B1 H1 F1 U p z => ?_
  obtain ⟨d, rfl⟩ := List.length_eq_one_iff.1 (vl_len p.vl)
  obtain ⟨v, fd, rfl, o⟩ := vl_one p.vl
  replace z : outI C W σ _ G B H F s (R.of ((lstD d).map fun xs => (xs.zipIdx.map fun p => pairD (.int (p.2 : Nat)) p.1)) s1) Q := z
  cases e2 : lstD d with
  | none => rw [e2] at z; exact z.elim
  | some xs =>
    rw [e2] at z
    obtain ⟨a, vs, rfl, h2, h3, h4⟩ := lstD_fix p.good.gb o e2
    rw [k.K]
    refine ⟨a, vs, rfl, h2 _ p.good.bh, z _ G1 B1 H1 F1 p.good p.xI p.pure ?_⟩
    have hl : (xs.zipIdx.map fun p => pairD (.int (p.2 : Nat)) p.1).length = vs.length := by simp [h3.length]
    rw [hl]
    refine walk_enum.mono (fun H' b => h2 H' b) fun i H x H' hi _ y => ?_
    obtain ⟨T, x, y, rfl, hT, rfl, e1, e3⟩ := y
    cases e1
    refine yd_pair (H := H1) (xs := (List.range vs.length).map fun (i : Nat) => D.int (i : Nat)) (vs := ((List.range vs.length).map fun (i : Nat) => (i : Int)).map V.int) (by rw [show ((List.range vs.length).map fun (i : Nat) => D.int (i : Nat)) = ((List.range vs.length).map fun (i : Nat) => (i : Int)).map D.int from by simp]; exact owns_ints _) h3 (noOwns_iff.2 fun d hd => ?_) h4 (by simp [hi]) e3 hT fun x y ex ey => ?_
    · obtain ⟨_, _, rfl⟩ := List.mem_map.1 hd
      rfl
    · simp [hi] at ex
      simp [ey, ← ex]
/-- what zip may be given -/
theorem zsD_fix {d : D} {xs : List D} {v : V} {fd : List Addr} {G B H : Hp} (gb : Sb G B) (o : Own C G B H d v fd) (h : zsD d = some xs) : ∃ k a vs, v = .ref a ∧ (∀ H', Sb B H' → SqK C.K H' k a vs) ∧ Owns C G B H xs vs [] ∧ noOwns xs = true := by
  unfold zsD at h
  split at h
  · split at h <;> cases h
    rename_i q
    simp only [Bool.and_eq_true] at q
    obtain ⟨a, vs, h1, h2, h3⟩ := tup_fix gb o q.1.1 q.1.2
    exact ⟨.t, a, vs, h1, h2, h3, q.1.2⟩
  · cases h
    rename_i ks
    obtain ⟨⟨a, rfl, ea⟩, _⟩ := o
    refine ⟨.t, a, ks.map kV, rfl, fun H' b => .inl (.inl ((gb.trans b).plain ea (fun z => z))), owns_keyD ks, ?_⟩
    rw [noOwns_iff]
    intro x hx
    obtain ⟨k, _, rfl⟩ := List.mem_map.1 hx
    cases k <;> rfl
  · obtain ⟨a, vs, h1, h2, h3, h4⟩ := lstD_fix gb o h
    exact ⟨.l, a, vs, h1, h2, h3, h4⟩
theorem i_zip {tg a : Expr} {as : List Expr} {e f : E} (k : CxOk C Γ X) (hs : btCall Γ "zip" a = some as) (h : PEL X C W [e, f] as) (ht : isTup tg = true) : PI X tg a (tI C W ⟨.zip, [e, f]⟩) := by
  obtain ⟨x, p, pos, rfl, hb⟩ := btCall_some hs
  obtain ⟨rfl, hg, hd, hm⟩ := k.bt hb
  obtain ⟨a, b, rfl⟩ := len2 (pel_len h)
  obtain ⟨n1, h2⟩ := pel_tail h
  obtain ⟨elts, kk, tpos, rfl⟩ : ∃ elts kk tpos, tg = .Tuple elts kk tpos := by
    cases tg <;> first | exact ⟨_, _, _, rfl⟩ | cases ht
  refine pi_imp (pi_zipK hg hm (pa_of h) (star_ok n1) (stars_ok h2 _ _)) fun σ H Q z => ?_
  obtain ⟨s, G, B, F, g, z⟩ := z
  simp only [evIt] at z
  refine outI_L g z fun ds s1 vs G1 B1 H1 F1 U p z => ?_
  obtain ⟨d, d', rfl⟩ := len2 (vl_len p.vl)
  obtain ⟨v, v', fd, fd', rfl, o, o'⟩ := vl_two p.vl
  replace z : outI C W σ _ G B H F s (R.of ((zsD d).bind fun xs => (zsD d').map fun ys => (xs.zip ys).map fun p => pairD p.1 p.2) s1) Q := z
  cases e2 : zsD d with
  | none => rw [e2] at z; exact z.elim
  | some xs =>
    cases e3 : zsD d' with
    | none => rw [e2, e3] at z; exact z.elim
    | some ys =>
      rw [e2, e3] at z
      obtain ⟨k1, a, vs, rfl, q2, q3, q4⟩ := zsD_fix p.good.gb o e2
      obtain ⟨k2, b, ws, rfl, r2, r3, r4⟩ := zsD_fix p.good.gb o' e3
      rw [k.K]
      refine ⟨k1, k2, a, b, vs, ws, rfl, q2 _ p.good.bh, r2 _ p.good.bh, z _ G1 B1 H1 F1 p.good p.xI p.pure ?_⟩
      refine (walk_zipK (n := ((xs.zip ys).map fun p => pairD p.1 p.2).length) (by simp [q3.length, r3.length])).mono (fun H' b => ⟨q2 H' b, r2 H' b⟩) fun i H x H' hi _ y => ?_
      obtain ⟨T, x, y, rfl, hT, rfl, e1, e3⟩ := y
      exact yd_pair q3 r3 q4 r4 e1 e3 hT fun x y ex ey => by
        have q : (xs.zip ys)[i]? = some (x, y) := List.getElem?_zip_eq_some.2 ⟨ex, ey⟩
        rw [List.getElem?_map, q]
        rfl
/-! ### for, while -/
theorem tg_ok (k : CxOk C Γ X) {t : Tg} {e : Expr} (h : tgB Γ t e = true) : ∃ g, PG X e g ∧ ∀ {s s2 : List D} {d : D} {v : V} {G B H : Hp} {F : Fp} {σ : L2.St} {Q : L2.St → Hp → Prop}, Good C G B H F s σ → Own C G B H d v [] → tgSet t d s = some s2 →
    (∀ σ2 F2, Good C G B H F2 s2 σ2 → (∀ a, TT.inF F2 a → TT.inF F a) → Prot Γ.m σ σ2 → Q σ2 H) → g v σ H Q := by
  cases t with
  | nm i =>
    obtain ⟨x, p, rfl, hN, hL, hF, hm⟩ := st_ok k (by unfold tgB at h; exact h)
    refine ⟨_, pg_name (nd_of k) hN hL hF, fun {s s2 d v G B H F σ Q} g o e q => ?_⟩
    cases e
    obtain ⟨F2, g2, k2⟩ := g.set (i := i) o List.nodup_nil fun _ z => nomatch z
    exact q _ F2 g2 (fun a z => (k2 a z).elim id fun z => nomatch z) (Prot.set hm)
  | tup is =>
    unfold tgB at h
    split at h
    · rename_i q; cases q
    · rename_i q
      cases q
      obtain ⟨hg, hl, hst, hm⟩ := sts_ok k h
      refine ⟨_, pg_tup k.calm hg hl hst, fun {s s2 d v G B H F σ Q} g o e q => ?_⟩
      obtain ⟨a, vs, F2, rfl, hq, hle, g2, k2⟩ := tg_tup g o List.nodup_nil (fun _ z => nomatch z) e
      rw [k.K]
      exact ⟨a, vs, rfl, hq, hle, hle, q _ F2 g2 (fun a z => (k2 a z).elim id fun z => nomatch z) (prot_fold hm)⟩
    · cases h
end
end TT
namespace TT
open PySem PySem.Spec PyProof.Rows L2
/-! ### list comprehensions -/
section
variable {X : Cx} {C : Gl0} {W : WX} {Γ : Gam}
/-- in a comprehension's block nothing is raised -/
abbrev never : WX := fun _ _ _ _ => False
theorem takes_blk {s : Shared} {H : Hp} {scope : Scope} {cenv : Env} {fp : List Addr} : Takes (X.blk s H scope cenv fp) never := fun u s' ⟨_, _, _, _, _, _, _, _, _, _, _, _, _, _, _, _, w⟩ => w.elim
theorem cx_blk (k : CxOk C Γ X) {s : Shared} {H : Hp} {scope : Scope} {a : Addr} {cl : List (Str × Addr)} {fp : List Addr} : CxOk C (Γ.blk scope) (X.blk s H scope (compEnvC scope cl a X.env) fp) where
  K := k.K
  N := k.N
  nd := k.nd
  sc := by
    show relS scope X.env.scope = relS scope Γ.sc
    rw [k.sc]
  calm := k.calm
  room := k.room
  bn := k.bn
  fn := fun x _ h2 => by
    have h2 : locB scope x = true := h2
    unfold locB at h2
    split at h2
    · exact .inr (lookup_relS_keep (by decide) ‹_›)
    · rename_i e
      refine .inl ?_
      show (scope.names.lookup x == some .cell) = true
      rw [e]; rfl
    · cases h2
theorem nd_blk {nd : Nd} {s : Shared} {H : Hp} {scope : Scope} {cenv : Env} {fp : List Addr} (h : NdOk C X nd) : NdOk C (X.blk s H scope cenv fp) nd := by
  cases nd with
  | fe f =>
    obtain ⟨a, fd, ps, dV, dv, h1, h2, h3⟩ := h
    exact ⟨a, fd, ps, dV, dv, h1, h2, ⟨h3.ln, h3.dl, h3.dr, h3.do_, h3.bd, h3.ok⟩⟩
  | gl x d => exact h
  | isi t x tab tabI => exact h
  | me c x f =>
    obtain ⟨a, fd, ps, dV, dv, h1, h2, h3⟩ := h
    exact ⟨a, fd, ps, dV, dv, h1, h2, ⟨h3.ln, h3.dl, h3.dr, h3.do_, h3.bd, h3.ok⟩⟩
  | mk c x f =>
    obtain ⟨a, fd, ps, dV, dv, h1, h2, h3⟩ := h
    exact ⟨a, fd, ps, dV, dv, h1, h2, ⟨h3.ln, h3.dl, h3.dr, h3.do_, h3.bd, h3.ok⟩⟩
  | fv k f =>
    obtain ⟨fd, ps, dV, dv, h1, h3⟩ := h
    exact ⟨fd, ps, dV, dv, h1, ⟨h3.ln, h3.dl, h3.dr, h3.do_, h3.bd, h3.ok⟩⟩
  | fl f cs => exact h
  | exc c x => exact ⟨h.g, h.x, h.k, h.b, h.t⟩
  | tr c x tab => exact h
theorem all_blk {s : Shared} {H : Hp} {scope : Scope} {cenv : Env} {fp : List Addr} : ∀ {l : List Nd}, AllNd C X l → AllNd C (X.blk s H scope cenv fp) l
  | [], _ => trivial
  | _ :: _, h => ⟨nd_blk h.1, all_blk h.2⟩
/-! slots put aside -/
theorem clr_len (s : List D) : ∀ is : List Nat, (clr is s).length = s.length
  | [] => rfl
  | i :: is => by unfold clr; rw [List.length_set, clr_len s is]
theorem rst_len (s0 s : List D) : ∀ is : List Nat, (rst s0 is s).length = s.length
  | [] => rfl
  | i :: is => by unfold rst; rw [List.length_set, rst_len s0 s is]
theorem clr_get (s : List D) (j : Nat) : ∀ is : List Nat, (clr is s).getD j .dead = if j ∈ is then .dead else s.getD j .dead
  | [] => by simp [clr]
  | i :: is => by
    unfold clr
    rw [getD_set, clr_get s j is, clr_len]
    by_cases h : j = i
    · by_cases hl : i < s.length
      · simp [h, hl]
      · have : s.getD j .dead = .dead := by
          rw [List.getD_eq_getElem?_getD, List.getElem?_eq_none (by omega)]; rfl
        simp [h, hl]
    · simp [h]
theorem rst_get (s0 s : List D) (hl : s.length = s0.length) (j : Nat) : ∀ is : List Nat, (rst s0 is s).getD j .dead = if j ∈ is then s0.getD j .dead else s.getD j .dead
  | [] => by simp [rst]
  | i :: is => by
    unfold rst
    rw [getD_set, rst_get s0 s hl j is, rst_len]
    by_cases h : j = i
    · by_cases hh : i < s.length
      · simp [h, hh]
      · have e1 : s.getD j .dead = .dead := by
          rw [List.getD_eq_getElem?_getD, List.getElem?_eq_none (by omega)]; rfl
        have e2 : s0.getD j .dead = .dead := by
          rw [List.getD_eq_getElem?_getD, List.getElem?_eq_none (by omega)]; rfl
        rw [h] at e1 e2
        simp only [h, hh, and_false, if_false, List.mem_cons, true_or, if_true]
        split
        · rfl
        · rw [e1, e2]
    · simp [h]
theorem wipe_at {σ : L2.St} {j : Nat} : ∀ {vs : List Nat}, j ∉ vs → (wipe σ vs)[j]? = σ[j]?
  | [], _ => rfl
  | v :: vs, h => by
    unfold wipe
    rw [List.getElem?_set_ne (fun e => h (by rw [e]; exact List.mem_cons_self)), wipe_at fun z => h (List.mem_cons_of_mem _ z)]
theorem wipe_in {σ : L2.St} {j : Nat} : ∀ {vs : List Nat}, j ∈ vs → j < σ.length → (wipe σ vs)[j]? = some none
  | v :: vs, h, hl => by
    unfold wipe
    by_cases e : v = j
    · rw [e, List.getElem?_set_self (by rw [wipe_length]; exact hl)]
    · rw [List.getElem?_set_ne e]
      rcases List.mem_cons.1 h with z | z
      · exact absurd z.symm e
      · exact wipe_in z hl
/-- a slot that is stored is among the own ones: forgotten, all are alike -/
theorem wipe_set {σ : L2.St} {i : Nat} {v : Option V} : ∀ {vs : List Nat}, i ∈ vs → wipe (σ.set i v) vs = wipe σ vs
  | u :: vs, h => by
    unfold wipe
    by_cases e : i ∈ vs
    · rw [wipe_set e]
    · have q : i = u := by
        rcases List.mem_cons.1 h with z | z
        · exact z
        · exact absurd z e
      subst q
      have : ∀ (ws : List Nat), i ∉ ws → wipe (σ.set i v) ws = (wipe σ ws).set i v := fun ws => by
        induction ws with
        | nil => intro _; rfl
        | cons w ws ih =>
          intro hw
          unfold wipe
          rw [ih fun z => hw (List.mem_cons_of_mem _ z), List.set_comm _ _ (fun z => hw (by rw [z]; exact List.mem_cons_self))]
      rw [this vs e, List.set_set]
theorem wipe_sets {vs : List Nat} : ∀ {is : List Nat} {ws : List V} {σ : L2.St}, (∀ i ∈ is, i ∈ vs) → wipe ((is.zip ws).foldl (fun t p => t.set p.1 (some p.2)) σ) vs = wipe σ vs
  | [], _, σ, _ => by simp
  | _ :: _, [], σ, _ => by simp
  | i :: is, w :: ws, σ, h => by
    show wipe ((is.zip ws).foldl _ (σ.set i (some w))) vs = _
    rw [wipe_sets fun j hj => h j (List.mem_cons_of_mem _ hj), wipe_set (h i List.mem_cons_self)]
theorem wipe_wipe {σ : L2.St} {vs : List Nat} : wipe (wipe σ vs) vs = wipe σ vs := by
  apply List.ext_getElem?
  intro j
  by_cases h : j ∈ vs
  · by_cases hl : j < σ.length
    · rw [wipe_in h (by rw [wipe_length]; exact hl), wipe_in h hl]
    · rw [List.getElem?_eq_none (by rw [wipe_length, wipe_length]; omega), List.getElem?_eq_none (by rw [wipe_length]; omega)]
  · rw [wipe_at h]
end
end TT
namespace TT
open PySem PySem.Spec PyProof.Rows L2
section
variable {X : Cx} {C : Gl0} {W : WX} {Γ : Gam}
theorem all_out {own : List Nat} {j : Nat} (hj : j ∉ own) : ∀ {is : List Nat} {xs s s2 : List D}, (∀ i ∈ is, i ∈ own) → setAll is xs s = some s2 → s2.getD j .dead = s.getD j .dead
  | [], [], _, _, _, e => by cases e; rfl
  | [], _ :: _, _, _, _, e => by simp [setAll] at e
  | _ :: _, [], _, _, _, e => by simp [setAll] at e
  | i :: is, x :: xs, s, s2, hi, e => by
    have := all_out hj (fun i hh => hi i (List.mem_cons_of_mem _ hh)) (show setAll is xs (s.set i x) = some s2 from e)
    rw [this, getD_set, if_neg fun z => hj (by rw [z.1]; exact hi i List.mem_cons_self)]
theorem sets_out {own : List Nat} {j : Nat} {is : List Nat} {d : D} {s s2 : List D} (hi : ∀ i ∈ is, i ∈ own) (hj : j ∉ own) (e : tgSet (.tup is) d s = some s2) : s2.getD j .dead = s.getD j .dead := by
  cases d <;> first | (simp [tgSet] at e; done) | skip
  exact all_out hj hi e
/-- a target whose slots are a comprehension's own -/
def gOf (C : Gl0) : Tg → TG
  | .nm i => gName i
  | .tup is => gTup C.K is.length (gNames is)
theorem tg_okP {Y : Cx} (k : CxOk C Γ Y) {t : Tg} {e : Expr} (h : tgB Γ t e = true) : PG Y e (gOf C t) := by
  cases t with
  | nm i =>
    obtain ⟨x, p, rfl, hN, hL, hF, hm⟩ := st_ok k (by unfold tgB at h; exact h)
    exact pg_name (nd_of k) hN hL hF
  | tup is =>
    unfold tgB at h
    split at h
    · rename_i q; cases q
    · rename_i q
      cases q
      obtain ⟨hg, hl, hst, hm⟩ := sts_ok k h
      have := pg_tup k.calm hg hl hst (k := ‹Nat›) (pos := ‹Pos›)
      rw [k.K] at this
      exact this
    · cases h
theorem tg_okW {t : Tg} {own : List Nat} (hin : tgIn own t = true) {s s2 : List D} {d : D} {v : V} {G B H : Hp} {F : Fp} {σ : L2.St} {Q : L2.St → Hp → Prop} (g : Good C G B H F s σ) (o : Own C G B H d v []) (e : tgSet t d s = some s2)
    (q : ∀ σ2 F2, Good C G B H F2 s2 σ2 → (∀ a, TT.inF F2 a → TT.inF F a) → wipe σ2 own = wipe σ own → (∀ j, j ∉ own → s2.getD j .dead = s.getD j .dead) → Q σ2 H) : gOf C t v σ H Q := by
  cases t with
  | nm i =>
    have hi : i ∈ own := by simpa [tgIn] using hin
    cases e
    obtain ⟨F2, g2, k2⟩ := g.set (i := i) o List.nodup_nil fun _ z => nomatch z
    refine q _ F2 g2 (fun a z => (k2 a z).elim id fun z => nomatch z) (wipe_set hi) fun j hj => ?_
    rw [getD_set, if_neg fun z => hj (by rw [z.1]; exact hi)]
  | tup is =>
    have hi : ∀ i ∈ is, i ∈ own := by simpa [tgIn] using hin
    obtain ⟨a, vs, F2, rfl, hq, hle, g2, k2⟩ := tg_tup g o List.nodup_nil (fun _ z => nomatch z) e
    refine ⟨a, vs, rfl, hq, hle, hle, q _ F2 g2 (fun a z => (k2 a z).elim id fun z => nomatch z) (wipe_sets hi) fun j hj => ?_⟩
    exact sets_out hi hj e
/-- a comprehension's tests -/
def tTs (C : Gl0) : List E → L2.TT
  | [] => tYes
  | [e] => tTst C never e
  | _ => fun _ _ _ => False
abbrev stepC (t : Tg) (co : List E) (elt : E) : D → List D → R (Option D) := fun d s => match tgSet t d s with
  | some s2 => (evTs co s2).bind fun b s3 => if b then (evE elt s3).bind fun y s4 => .ok (some y) s4 else .ok none s3
  | none => .bad
structure Acc (C : Gl0) (own : List Nat) (σ : L2.St) (pu : Bool) (s1 all s2 : List D) (f : D → List D → R (Option D)) (xs : List D) (G0 B0 H0 : Hp) (F0 : Fp) (Ad : Addr) (i : Nat) (H : Hp) (sI : List D) (G B : Hp) (F : Fp) (ys : List D) (acc : List V) (U : List Addr) (zs : List D) : Prop where
  good : Good C G B H F sI (wipe σ own)
  ext : Ext G0 B0 H0 (inF F0) G B H (fun a => inF F a ∨ a = Ad ∨ a ∈ U)
  at_ : H Ad = some (.lst acc)
  bn : B Ad = none
  owns : Owns C G B H ys acc U
  nd : U.Nodup
  nD : Ad ∉ U
  fD : ¬ inF F Ad
  fU : ∀ a ∈ U, ¬ inF F a
  run : loopC own f (xs.drop i) sI = .ok zs s2
  all_ : all = ys ++ zs
  pure : pu = true → (∀ j, j ∉ own → sI.getD j .dead = s1.getD j .dead) ∧ Alloc G0 B0 H0 G B H ∧ ∀ a ∈ U, H0 a = none
theorem PostE.alloc {σ : L2.St} {e : E} {G B H G' B' H' : Hp} {F F' : Fp} {s s' : List D} {d : D} {v : V} {fd : List Addr} (p : PostE C σ e G B H F s d s' v G' B' H' F' fd) (h : eff e = false) : Alloc G B H G' B' H' := by
  obtain ⟨_, e2, k⟩ := p.pure h
  have hb : ∀ a, TT.inF F a → B' a = none := fun a z => (p.good.inF (by rw [e2]; exact z)).2
  exact ⟨fun a o h _ => k a o h, p.ext.g, p.ext.b, fun a h => by
    rcases p.ext.gn a h with q | q | q
    · exact .inl q
    · exact absurd (hb a q) (p.good.gb.ne h)
    · exact .inr (.inr q), fun a h => by
    rcases p.ext.bn a h with q | q | q
    · exact .inl q
    · exact absurd (hb a q) h
    · exact .inr (.inr q), fun _ z => z.elim⟩
theorem Good.clr {G B H : Hp} {F : Fp} {s : List D} {σ : L2.St} {own : List Nat} (g : Good C G B H F s σ) (h : chk own s = true) : Good C G B H F (TT.clr own s) (wipe σ own) := by
  have hn : ∀ j ∈ own, F j = [] := fun j hj => by
    by_cases e : s.getD j .dead = .dead
    · exact g.nf j e
    · obtain ⟨v, _, o⟩ := g.sl j e
      exact o.nil (by simp only [chk, List.all_eq_true] at h; exact h j hj)
  refine ⟨g.gb, g.bh, by rw [clr_len, wipe_length]; exact g.len, fun j hj => ?_, fun j hj => ?_, g.nd, g.dj⟩
  · rw [clr_get] at hj ⊢
    by_cases q : j ∈ own
    · rw [if_pos q] at hj; exact absurd rfl hj
    · rw [if_neg q] at hj ⊢
      obtain ⟨v, e, o⟩ := g.sl j hj
      exact ⟨v, by rw [wipe_at q]; exact e, o⟩
  · rw [clr_get] at hj
    by_cases q : j ∈ own
    · exact hn j q
    · rw [if_neg q] at hj; exact g.nf j hj
theorem Good.rst {G B H G2 B2 H2 : Hp} {F F2 : Fp} {s s2 : List D} {σ : L2.St} {own : List Nat} (g : Good C G B H F s σ) (h : chk own s = true) (g2 : Good C G2 B2 H2 F2 s2 (wipe σ own)) (hg : ∀ a o, G a = some o → G2 a = some o) (hb : ∀ a o, B a = some o → B2 a = some o) :
    Good C G2 B2 H2 (fun j => if j ∈ own then [] else F2 j) (TT.rst s own s2) σ := by
  have hl : s2.length = s.length := by rw [g2.len, wipe_length, g.len]
  refine ⟨g2.gb, g2.bh, by rw [rst_len, hl]; exact g.len, fun j hj => ?_, fun j hj => ?_, fun j => ?_, fun j k a h1 h2 => ?_⟩
  · rw [rst_get s s2 hl] at hj ⊢
    by_cases q : j ∈ own
    · rw [if_pos q] at hj ⊢
      obtain ⟨v, e, o⟩ := g.sl j hj
      have n : F j = [] := o.nil (by simp only [chk, List.all_eq_true] at h; exact h j q)
      refine ⟨v, e, ?_⟩
      show Own C G2 B2 H2 _ v (if j ∈ own then [] else F2 j)
      rw [if_pos q]
      rw [n] at o
      exact o.mono hg hb fun _ z => nomatch z
    · rw [if_neg q] at hj ⊢
      obtain ⟨v, e, o⟩ := g2.sl j hj
      rw [wipe_at q] at e
      refine ⟨v, e, ?_⟩
      show Own C G2 B2 H2 _ v (if j ∈ own then [] else F2 j)
      rw [if_neg q]; exact o
  · rw [rst_get s s2 hl] at hj
    show (if j ∈ own then [] else F2 j) = []
    by_cases q : j ∈ own
    · rw [if_pos q]
    · rw [if_neg q] at hj ⊢; exact g2.nf j hj
  · show (if j ∈ own then [] else F2 j).Nodup
    by_cases q : j ∈ own
    · rw [if_pos q]; exact List.nodup_nil
    · rw [if_neg q]; exact g2.nd j
  · by_cases q : j ∈ own <;> by_cases q2 : k ∈ own <;> simp [q, q2] at h1 h2
    exact g2.dj j k a h1 h2
theorem owns_snoc {G B H : Hp} {y : D} {v : V} {fd : List Addr} (o2 : Own C G B H y v fd) : ∀ {ys : List D} {vs : List V} {U : List Addr}, Owns C G B H ys vs U → Owns C G B H (ys ++ [y]) (vs ++ [v]) (U ++ fd)
  | [], vs, U, o => by
    obtain ⟨rfl, rfl⟩ := o
    exact ⟨v, [], fd, [], rfl, by simp, o2, rfl, rfl⟩
  | x :: xs, vs, U, o => by
    obtain ⟨w, vr, F1, F2, rfl, rfl, o1, o3⟩ := o
    exact ⟨w, vr ++ [v], F1, F2 ++ fd, rfl, by simp, o1, owns_snoc o2 o3⟩
theorem Ext.updAt {G B H : Hp} {P : Addr → Prop} {a : Addr} {o : HO} (h : P a) : Ext G B H P G B (upd H a o) P :=
  ⟨fun b u e np => by rw [upd_ne (fun z => np (by rw [z]; exact h))]; exact e, fun _ _ z => z, fun _ _ z => z, fun _ z => .inl z, fun _ z => .inl z, fun _ z => .inl z⟩
theorem Good.updAt {G B H : Hp} {F : Fp} {s : List D} {σ : L2.St} {a : Addr} {o : HO} (g : Good C G B H F s σ) (h : ¬ TT.inF F a) (hb : B a = none) : Good C G B (upd H a o) F s σ :=
  ⟨g.gb, fun b u e => by rw [upd_ne (fun z => by rw [z, hb] at e; cases e)]; exact g.bh b u e, g.len, fun j hj => by
    obtain ⟨v, e, ow⟩ := g.sl j hj
    exact ⟨v, e, ow.mono (fun _ _ z => z) (fun _ _ z => z) fun b z => ⟨upd_ne (fun q => h (by rw [← q]; exact ⟨j, z⟩)), (ow.fp b z).2⟩⟩, g.nf, g.nd, g.dj⟩
end
end TT
namespace TT
open PySem PySem.Spec PyProof.Rows L2
section
variable {C : Gl0} {W : WX}
abbrev PvC (C : Gl0) (own : List Nat) (σ : L2.St) (pu : Bool) (s1 all s2 : List D) (f : D → List D → R (Option D)) (xs : List D) (G0 B0 H0 : Hp) (F0 : Fp) (Ad : Addr) (i : Nat) (H : Hp) : Prop :=
  ∃ sI G B F ys acc U zs, Acc C own σ pu s1 all s2 f xs G0 B0 H0 F0 Ad i H sI G B F ys acc U zs
/-- what comes behind a turn's test -/
def aftC (own : List Nat) (f : D → List D → R (Option D)) (ds : List D) : R (Option D) → R (List D)
  | .ok (some y) s1 => if chk own s1 then (loopC own f ds (clr own s1)).bind fun ys s2 => .ok (y :: ys) s2 else .bad
  | .ok none s1 => if chk own s1 then loopC own f ds (clr own s1) else .bad
  | _ => .bad
theorem loopC_cons {own : List Nat} {f : D → List D → R (Option D)} {d : D} {ds s : List D} : loopC own f (d :: ds) s = aftC own f ds (f d s) := by
  rw [loopC]
  cases f d s with
  | ok o s1 => cases o <;> rfl
  | exc c fs xs s1 => rfl
  | bad => rfl
section
variable {own : List Nat} {σ : L2.St} {pu : Bool} {s1 all s2 : List D} {f : D → List D → R (Option D)} {xs : List D} {G0 B0 H0 : Hp} {F0 : Fp} {Ad : Addr} {i : Nat}
/-- a turn that keeps nothing -/
theorem acc_skip {H2 H5 G2 B2 G5 B5 : Hp} {F2 F5 : Fp} {sI s5 : List D} {σ5 : L2.St} {ys zs : List D} {acc : List V} {U : List Addr} (A : Acc C own σ pu s1 all s2 f xs G0 B0 H0 F0 Ad i H2 sI G2 B2 F2 ys acc U zs)
    (g5 : Good C G5 B5 H5 F5 s5 σ5) (w5 : wipe σ5 own = wipe σ own) (x : Ext G2 B2 H2 (inF F2) G5 B5 H5 (inF F5)) (hc : chk own s5 = true) (r : loopC own f (xs.drop (i + 1)) (TT.clr own s5) = .ok zs s2)
    (p5 : pu = true → (∀ j, j ∉ own → s5.getD j .dead = sI.getD j .dead) ∧ Alloc G2 B2 H2 G5 B5 H5) : PvC C own σ pu s1 all s2 f xs G0 B0 H0 F0 Ad (i + 1) H5 := by
  have hA : H2 Ad ≠ none := by rw [A.at_]; simp
  have out : ∀ a, ¬ inF F2 a → H2 a ≠ none → ¬ inF F5 a := fun a h1 h2 z => (x.pn a z).elim h1 h2
  have h5A : H5 Ad = some (.lst acc) := x.keep _ _ A.at_ A.fD
  refine ⟨TT.clr own s5, G5, B5, F5, ys, acc, U, zs, ?_, ?_, h5A, ?_, ?_, A.nd, A.nD, out Ad A.fD hA, fun a ha => out a (A.fU a ha) (A.owns.fp a ha).1, r, A.all_, fun hp => ?_⟩
  · rw [← w5]; exact g5.clr hc
  · exact A.ext.trans x.frame
  · exact x.bnone A.bn A.fD hA
  · exact x.owns A.owns A.fU
  · obtain ⟨q1, q2, q3⟩ := A.pure hp
    obtain ⟨r1, r2⟩ := p5 hp
    exact ⟨fun j hj => by rw [clr_get, if_neg hj, r1 j hj, q1 j hj], q2.trans r2, q3⟩
/-- a turn that keeps its value -/
theorem acc_put {H2 H5 H6 G2 B2 G5 B5 G6 B6 : Hp} {F2 F5 F6 : Fp} {sI s5 s6 : List D} {σ5 : L2.St} {ys zs : List D} {acc : List V} {U fd : List Addr} {elt : E} {y : D} {v : V} (hp : isPl elt = false) (hA0 : H0 Ad = none) (A : Acc C own σ pu s1 all s2 f xs G0 B0 H0 F0 Ad i H2 sI G2 B2 F2 ys acc U (y :: zs))
    (g5 : Good C G5 B5 H5 F5 s5 σ5) (w5 : wipe σ5 own = wipe σ own) (x : Ext G2 B2 H2 (inF F2) G5 B5 H5 (inF F5)) (p5 : pu = true → eff elt = false ∧ (∀ j, j ∉ own → s5.getD j .dead = sI.getD j .dead) ∧ Alloc G2 B2 H2 G5 B5 H5)
    (p : PostE C σ5 elt G5 B5 H5 F5 s5 y s6 v G6 B6 H6 F6 fd) (hc : chk own s6 = true) (r : loopC own f (xs.drop (i + 1)) (TT.clr own s6) = .ok zs s2) :
    H6 Ad = some (.lst acc) ∧ acc.length + 1 ≤ all.length ∧ PvC C own σ pu s1 all s2 f xs G0 B0 H0 F0 Ad (i + 1) (upd H6 Ad (.lst (acc ++ [v]))) := by
  have hA : H2 Ad ≠ none := by rw [A.at_]; simp
  have out : ∀ a, ¬ inF F2 a → H2 a ≠ none → ¬ inF F5 a := fun a h1 h2 z => (x.pn a z).elim h1 h2
  have h5A : H5 Ad = some (.lst acc) := x.keep _ _ A.at_ A.fD
  have f5A := out Ad A.fD hA
  have n5A : H5 Ad ≠ none := by rw [h5A]; simp
  have b5A : B5 Ad = none := x.bnone A.bn A.fD hA
  have o5 := x.owns A.owns A.fU
  have f5U : ∀ a ∈ U, ¬ inF F5 a := fun a ha => out a (A.fU a ha) (A.owns.fp a ha).1
  have h6A : H6 Ad = some (.lst acc) := p.ext.keep _ _ h5A f5A
  have out6 : ∀ a, ¬ inF F5 a → H5 a ≠ none → ¬ inF F6 a ∧ a ∉ fd := fun a h1 h2 => ⟨fun z => (p.ext.pn a (.inl z)).elim h1 h2, fun z => (p.ext.pn a (.inr z)).elim h1 h2⟩
  have q6A := out6 Ad f5A n5A
  have b6A : B6 Ad = none := p.ext.bnone b5A f5A n5A
  have o6 := p.ext.owns o5 f5U
  have q6U : ∀ a ∈ U, ¬ inF F6 a ∧ a ∉ fd := fun a ha => out6 a (f5U a ha) (o5.fp a ha).1
  have np := p.np hp
  refine ⟨h6A, ?_, TT.clr own s6, G6, B6, F6, ys ++ [y], acc ++ [v], U ++ fd, zs, ?_, ?_, upd_same, b6A, ?_, ?_, ?_, q6A.1, ?_, r, ?_, fun hpu => ?_⟩
  · rw [A.all_, ← A.owns.length]; simp
  · rw [← w5]; exact (p.good.updAt q6A.1 b6A).clr hc
  · refine ((A.ext.trans x.frame).trans (p.ext.frame (R := fun a => a = Ad ∨ a ∈ U))).trans ?_
    refine (Ext.updAt (P := fun a => (inF F6 a ∨ a ∈ fd) ∨ (a = Ad ∨ a ∈ U)) (.inr (.inl rfl))).imp (fun _ z => z) fun a z => .inl ?_
    rcases z with z | z | z
    · exact .inl (.inl z)
    · exact .inr (.inl z)
    · rcases List.mem_append.1 z with z | z
      · exact .inr (.inr z)
      · exact .inl (.inr z)
  · refine (owns_snoc p.own o6).mono (fun _ _ z => z) (fun _ _ z => z) fun a ha => ?_
    have : a ≠ Ad := fun e => by
      rw [e] at ha
      rcases List.mem_append.1 ha with z | z
      · exact A.nD z
      · exact q6A.2 z
    refine ⟨upd_ne this, ?_⟩
    rcases List.mem_append.1 ha with z | z
    · exact (o6.fp a z).2
    · exact (p.own.fp a z).2
  · refine List.nodup_append.2 ⟨A.nd, p.nd, fun a ha b hb e => ?_⟩
    subst e
    exact (q6U a ha).2 hb
  · intro z
    rcases List.mem_append.1 z with z | z
    · exact A.nD z
    · exact q6A.2 z
  · intro a ha
    rcases List.mem_append.1 ha with z | z
    · exact (q6U a z).1
    · exact np a z
  · rw [A.all_]; simp
  · obtain ⟨q1, q2, q3⟩ := A.pure hpu
    obtain ⟨r0, r1, r2⟩ := p5 hpu
    obtain ⟨e1, e2, _⟩ := p.pure r0
    have al := (q2.trans r2).trans (p.alloc r0)
    refine ⟨fun j hj => by rw [clr_get, if_neg hj, e1, r1 j hj, q1 j hj], ?_, fun a ha => ?_⟩
    · exact ⟨fun a o e _ => by rw [upd_ne (ne_of_none e hA0)]; exact al.keep a o e (fun z => z), al.g, al.b, al.gn, al.bn, fun _ z => z.elim⟩
    · rcases List.mem_append.1 ha with z | z
      · exact q3 a z
      · rcases p.ext.pn a (.inr z) with w | w
        · exact absurd (by rw [e2]; exact w) (np a z)
        · cases e0 : H0 a with
          | none => rfl
          | some o => rw [(q2.trans r2).keep a o e0 (fun z => z)] at w; cases w
end
/-- a comprehension, by the layer's rule -/
theorem comp_cs {own : List Nat} {t : Tg} {kk : ItK} {es co : List E} {elt : E} {g : TG} {σ : L2.St} {H : Hp} {Q : VK} (hp : isPl elt = false) (hco : co.length ≤ 1)
    (hg : ∀ {s s2 : List D} {d : D} {v : V} {G B H : Hp} {F : Fp} {σ : L2.St} {Q : L2.St → Hp → Prop}, Good C G B H F s σ → Own C G B H d v [] → tgSet t d s = some s2 →
      (∀ σ2 F2, Good C G B H F2 s2 σ2 → (∀ a, TT.inF F2 a → TT.inF F a) → wipe σ2 own = wipe σ own → (∀ j, j ∉ own → s2.getD j .dead = s.getD j .dead) → Q σ2 H) → g v σ H Q)
    (h : tE C W (.comp own t kk es co elt) σ H Q) : tLc (tI C W ⟨kk, es⟩) g (tTs C co) (tE C never elt) own σ H Q := by
  obtain ⟨s, G, B, F, g0, z⟩ := h
  replace z : outE C W σ (.comp own t kk es co elt) G B H F s ((evEs es s).bind fun ds s1 => match itD kk ds with
    | some xs => if chk own s1 then compE own s1 (loopC own (stepC t co elt) xs (TT.clr own s1)) else .bad
    | none => .bad) Q := by unfold evE at z; exact z
  refine ⟨s, G, B, F, g0, ?_⟩
  show outI C W σ es G B H F s ((evEs es s).bind fun ds s1 => R.of (itD kk ds) s1) _
  cases e1 : evEs es s with
  | bad => rw [e1] at z; exact z
  | exc c fs xs s' => rw [e1] at z; exact z
  | ok ds s1 =>
    rw [e1] at z
    replace z : outE C W σ (.comp own t kk es co elt) G B H F s (match itD kk ds with
      | some xs => if chk own s1 then compE own s1 (loopC own (stepC t co elt) xs (TT.clr own s1)) else .bad
      | none => .bad) Q := z
    show outI C W σ es G B H F s (R.of (itD kk ds) s1) _
    cases e2 : itD kk ds with
    | none => rw [e2] at z; exact z.elim
    | some xs =>
      rw [e2] at z
      intro J G' B' H' F' g1 x1 pu w Ad hA
      replace z : outE C W σ (.comp own t kk es co elt) G B H F s (if chk own s1 then compE own s1 (loopC own (stepC t co elt) xs (TT.clr own s1)) else .bad) Q := z
      split at z
      case isFalse => exact z.elim
      rename_i hown
      cases er : loopC own (stepC t co elt) xs (TT.clr own s1) with
      | exc c fs xs s' => rw [er] at z; exact z.elim
      | bad => rw [er] at z; exact z.elim
      | ok all s2 =>
      rw [er] at z
      replace z : outE C W σ (.comp own t kk es co elt) G B H F s (if goodKids all && decide (all.length ≤ sizeLine) then .ok (.lst .own all) (TT.rst s1 own s2) else .bad) Q := z
      split at z
      case isFalse => exact z.elim
      rename_i hk
      rw [Bool.and_eq_true, decide_eq_true_eq] at hk
      replace z : ∀ v G2 B2 H2 F2 fd, PostE C σ (.comp own t kk es co elt) G B H F s (.lst .own all) (TT.rst s1 own s2) v G2 B2 H2 F2 fd → Q v H2 := z
      have nF : ¬ inF F' Ad := fun q => (g1.inF q).1 hA
      obtain ⟨xa, ba, bA⟩ := alloc_own (G := G') (o := .lst []) g1.bh hA
      refine lc_it w (PvC C own σ (!(effs co || eff elt)) s1 all s2 (stepC t co elt) xs G' B' H' F' Ad) ?_ ?_ ?_ ?_
      · refine ⟨TT.clr own s1, G', B', F', [], [], [], all, ⟨(g1.alloc xa g1.gb ba).clr hown, xa.to fun a q => ?_, upd_same, bA, ⟨rfl, rfl⟩, List.nodup_nil, List.not_mem_nil, nF, (fun _ q => nomatch q), er, rfl, fun _ => ⟨fun j hj => by rw [clr_get, if_neg hj], xa, (fun _ q => nomatch q)⟩⟩⟩
        rcases q with q | q | q
        · exact .inl q
        · rw [q]; exact .inr hA
        · cases q
      · rintro i H2 _ ⟨sI, G2, B2, F2, ys, acc, U, zs, A⟩
        exact fun a o e => A.good.bh a o (A.ext.b a o e)
      · rintro i x H2 H3 hi ⟨sI, G2, B2, F2, ys, acc, U, zs, A⟩ y
        obtain ⟨d, G3, B3, ed, x3, gb3, bh3, o3⟩ := y G2 B2 A.ext.g A.ext.b A.good.gb A.good.bh
        have hd : xs.drop i = d :: xs.drop (i + 1) := by
          obtain ⟨hlt, e⟩ := List.getElem?_eq_some_iff.1 ed
          rw [← e]
          exact (List.getElem_cons_drop (h := hlt)).symm
        have run := A.run
        rw [hd, loopC_cons] at run
        have g3 := A.good.alloc x3 gb3 bh3
        cases e3 : tgSet t d sI with
        | none =>
          have : stepC t co elt d sI = .bad := by show (match tgSet t d sI with | some s2 => _ | none => _) = _; rw [e3]
          rw [this] at run; cases run
        | some s4 =>
          have st : stepC t co elt d sI = (evTs co s4).bind fun b s3 => if b then (evE elt s3).bind fun y s4 => .ok (some y) s4 else .ok none s3 := by
            show (match tgSet t d sI with | some s2 => _ | none => _) = _; rw [e3]
          rw [st] at run
          refine hg g3 o3 e3 fun σ4 F4 g4 k4 w4 out4 => ⟨by rw [w4, wipe_wipe], ?_⟩
          rw [wipe_wipe] at w4
          have x4 : Ext G2 B2 H2 (inF F2) G3 B3 H3 (inF F4) := (x3.ext (P := inF F2)).imp (fun _ q => q) fun a q => .inl (k4 a q)
          have cont : ∀ (b : Bool) (s5 : List D) (G5 B5 H5 : Hp) (F5 : Fp), Good C G5 B5 H5 F5 s5 σ4 → Ext G3 B3 H3 (inF F4) G5 B5 H5 (inF F5) → (effs co = false → s5 = s4 ∧ Alloc G3 B3 H3 G5 B5 H5) →
              aftC own (stepC t co elt) (xs.drop (i + 1)) (if b then (evE elt s5).bind fun y s4 => .ok (some y) s4 else .ok none s5) = .ok zs s2 →
              if b = true then tE C never elt σ4 H5 (fun y H6 => ∃ acc', H6 Ad = some (.lst acc') ∧ acc'.length < sizeLine ∧ PvC C own σ (!(effs co || eff elt)) s1 all s2 (stepC t co elt) xs G' B' H' F' Ad (i + 1) (upd H6 Ad (.lst (acc' ++ [y])))) else PvC C own σ (!(effs co || eff elt)) s1 all s2 (stepC t co elt) xs G' B' H' F' Ad (i + 1) H5 := by
            intro b s5 G5 B5 H5 F5 g5 x5 p5 r5
            have x25 := x4.trans x5
            cases b with
            | false =>
              simp only [Bool.false_eq_true, if_false] at r5 ⊢
              replace r5 : (if chk own s5 then loopC own (stepC t co elt) (xs.drop (i + 1)) (TT.clr own s5) else .bad) = .ok zs s2 := r5
              split at r5
              · rename_i hc
                refine acc_skip A g5 w4 x25 hc r5 fun q => ?_
                simp only [Bool.not_eq_true', Bool.or_eq_false_iff] at q
                obtain ⟨q1, q2⟩ := p5 q.1
                exact ⟨fun j hj => by rw [q1, out4 j hj], x3.trans q2⟩
              · cases r5
            | true =>
              simp only [if_true] at r5 ⊢
              refine ⟨s5, G5, B5, F5, g5, ?_⟩
              cases e5 : evE elt s5 with
              | bad => rw [e5] at r5; cases r5
              | exc c fs xs s' => rw [e5] at r5; cases r5
              | ok y s6 =>
                rw [e5] at r5
                replace r5 : (if chk own s6 then (loopC own (stepC t co elt) (xs.drop (i + 1)) (TT.clr own s6)).bind fun ys s2 => .ok (y :: ys) s2 else .bad) = R.ok zs s2 := r5
                split at r5
                · rename_i hc
                  cases e6 : loopC own (stepC t co elt) (xs.drop (i + 1)) (TT.clr own s6) with
                  | bad => rw [e6] at r5; cases r5
                  | exc c fs xs s' => rw [e6] at r5; cases r5
                  | ok zs' s2' =>
                    rw [e6] at r5
                    cases r5
                    intro v G6 B6 H6 F6 fd p
                    obtain ⟨q1, q2, q3⟩ := acc_put hp hA A g5 w4 x25 (fun q => by
                      simp only [Bool.not_eq_true', Bool.or_eq_false_iff] at q
                      obtain ⟨r1, r2⟩ := p5 q.1
                      exact ⟨q.2, fun j hj => by rw [r1, out4 j hj], x3.trans r2⟩) p hc e6
                    exact ⟨acc, q1, by omega, q3⟩
                · cases r5
          rcases co with _ | ⟨c, _ | ⟨c2, cr⟩⟩
          · have hts : evTs [] s4 = .ok true s4 := by unfold evTs; rfl
            rw [hts] at run
            exact cont true s4 G3 B3 H3 F4 g4 Ext.refl (fun _ => ⟨rfl, Ext.refl⟩) run
          · have hts : evTs [c] s4 = (evE c s4).bind fun d s1 => match truth d with | some b => .ok b s1 | none => .bad := by unfold evTs; rfl
            rw [hts] at run
            refine ⟨s4, G3, B3, F4, g4, ?_⟩
            cases ec : evE c s4 with
            | bad => rw [ec] at run; cases run
            | exc cc fs xs s' => rw [ec] at run; cases run
            | ok dt s5 =>
              rw [ec] at run
              replace run : aftC own (stepC t [c] elt) (xs.drop (i + 1)) ((match truth dt with | some b => R.ok b s5 | none => .bad).bind fun b s3 => if b then (evE elt s3).bind fun y s4 => .ok (some y) s4 else .ok none s3) = .ok zs s2 := run
              cases et : truth dt with
              | none => rw [et] at run; cases run
              | some b =>
                rw [et] at run
                exact ⟨b, et, fun v G5 B5 H5 F5 fd p => cont b s5 G5 B5 H5 F5 p.good p.xI (fun q => by
                  have q : eff c = false := by simpa [effs] using q
                  exact ⟨(p.pure q).1, p.alloc q⟩) run⟩
          · simp at hco
      · rintro H2 ⟨sI, G2, B2, F2, ys, acc, U, zs, A⟩
        have run := A.run
        rw [List.drop_of_length_le (Nat.le_refl _)] at run
        cases run
        have hall : all = ys := by rw [A.all_, List.append_nil]
        have x2 : Ext G B H (inF F) G2 B2 H2 (fun a => inF F2 a ∨ a = Ad ∨ a ∈ U) := x1.trans A.ext
        have ow : Own C G2 B2 H2 (.lst .own all) (.ref Ad) (Ad :: U) := ⟨Ad, acc, U, rfl, ⟨A.at_, A.bn⟩, by rw [hall]; exact A.owns, rfl, trivial⟩
        have nd : (Ad :: U).Nodup := List.nodup_cons.2 ⟨A.nD, A.nd⟩
        have l2 : s2.length = s1.length := by rw [A.good.len, wipe_length, g1.len]
        cases pe : eff (.comp own t kk es co elt) with
        | false =>
          have pe' := pe
          simp only [eff, Bool.or_eq_false_iff] at pe'
          obtain ⟨rfl, rfl, k1⟩ := pu pe'.1
          obtain ⟨q1, q2, q3⟩ := A.pure (by simp [pe'.2.1, pe'.2.2])
          have es' : TT.rst s1 own s2 = s1 := by
            apply List.ext_getElem (by rw [rst_len, l2])
            intro n h1 h2
            have e : (TT.rst s1 own s2).getD n .dead = s1.getD n .dead := by
              rw [rst_get s1 s2 l2]
              split
              · rfl
              · exact q1 n ‹_›
            simpa [List.getD_eq_getElem?_getD, List.getElem?_eq_getElem, h1, h2] using e
          refine z _ G2 B2 H2 F' (Ad :: U) { good := by rw [es']; exact g1.alloc q2 A.good.gb A.good.bh, ext := x2.imp (fun _ q => q) fun a q => ?_, own := ow, nd := nd, pl := fun q => by simp [isPl] at q, np := fun _ a ha q => ?_, pure := fun _ => ⟨es', rfl, fun a o e => q2.keep a o (k1 a o e) fun z => z⟩ }
          · rcases q with q | q
            · exact .inr (.inl q)
            · exact .inl (.inr (List.mem_cons.1 q))
          · rcases List.mem_cons.1 ha with e | e
            · rw [e] at q; exact nF q
            · exact (g1.inF q).1 (q3 a e)
        | true =>
          have hin : ∀ a, inF (fun j => if j ∈ own then [] else F2 j) a → inF F2 a := fun a ⟨j, q⟩ => by
            by_cases w : j ∈ own <;> simp [w] at q
            exact ⟨j, q⟩
          refine z _ G2 B2 H2 _ (Ad :: U) { good := g1.rst hown A.good A.ext.g A.ext.b, ext := x2.imp (fun _ q => q) fun a q => .inl ?_, own := ow, nd := nd, pl := fun q => by simp [isPl] at q, np := fun _ a ha q => ?_, pure := fun q => by rw [pe] at q; cases q }
          · rcases q with q | q
            · exact .inl (hin a q)
            · exact .inr (List.mem_cons.1 q)
          · rcases List.mem_cons.1 ha with e | e
            · rw [e] at q; exact A.fD (hin _ q)
            · exact A.fU a e (hin _ q)
end
end TT
namespace TT
open PySem PySem.Spec PyProof.Rows L2
section
variable {X : Cx} {C : Gl0} {W : WX} {Γ : Gam}
/-- a walk, by its operands -/
theorem i_ok (k : CxOk C Γ X) {tg a : Expr} {kk : ItK} {es : List E} {as : List Expr} (h : itShape Γ tg kk a = some as) (b : PEL X C W es as) : PI X tg a (tI C W ⟨kk, es⟩) := by
  have l := pel_len b
  unfold itShape at h
  cases kk with
  | seq =>
    simp only at h
    split at h <;> cases h
    obtain ⟨e, rfl⟩ := List.length_eq_one_iff.1 l.symm
    obtain ⟨_, _, q, _, _, p, _⟩ := b
    obtain ⟨rfl, _⟩ := List.cons.inj q
    exact i_seq k p
  | rng1 =>
    simp only at h
    split at h <;> cases h
    obtain ⟨e, rfl⟩ := List.length_eq_one_iff.1 l.symm
    exact i_rng1 k ‹_› b
  | rng2 =>
    simp only at h
    split at h <;> cases h
    obtain ⟨e, f, rfl⟩ := len2 l.symm
    exact i_rng2 k ‹_› b
  | rng3 =>
    simp only at h
    split at h <;> cases h
    obtain ⟨e, f, g, rfl⟩ := len3 l.symm
    exact i_rng3 k ‹_› b
  | enum =>
    simp only at h
    split at h
    · split at h <;> cases h
      obtain ⟨e, rfl⟩ := List.length_eq_one_iff.1 l.symm
      exact i_enum k ‹_› b ‹_›
    · cases h
  | zip =>
    simp only at h
    split at h
    · split at h <;> cases h
      obtain ⟨e, f, rfl⟩ := len2 l.symm
      exact i_zip k ‹_› b ‹_›
    · cases h
theorem set_folded {e : Expr} (h : notSet e = true) (env : Env) (x : Value) : foldedSetIterable e env x = pure x := by
  cases e <;> first | rfl | exact (Bool.false_ne_true h).elim
theorem ownOf_snd {own : List Nat} : (ownOf Γ own).map (·.2) = own := by
  unfold ownOf
  rw [List.map_map]
  exact List.map_id _
/-- a comprehension's parts -/
structure LcP (X : Cx) (C : Gl0) (W : WX) (e : E) (a : Expr) : Prop where
  ex : ∃ el tg iter ifs scope pos own g tt te wi, a = .ListComp el [⟨tg, iter, ifs, 0⟩] scope pos ∧ PI X tg iter wi ∧ BlkOk X.N X.env.scope scope own ∧
    (∀ (s : Shared) (H : Hp) (b : Addr) (cl : List (Str × Addr)) (fp : List Addr), PG (X.blk s H scope (compEnvC scope cl b X.env) fp) tg g) ∧
    (∀ (s : Shared) (H : Hp) (b : Addr) (cl : List (Str × Addr)) (fp : List Addr), PTs (X.blk s H scope (compEnvC scope cl b X.env) fp) ifs tt) ∧
    (∀ (s : Shared) (H : Hp) (b : Addr) (cl : List (Str × Addr)) (fp : List Addr), PE (X.blk s H scope (compEnvC scope cl b X.env) fp) el te) ∧
    (∀ x, foldedSetIterable iter X.env x = pure x) ∧ ∀ σ H Q, tE C W e σ H Q → tLc wi g tt te (own.map (·.2)) σ H Q
theorem LcP.both {e : E} {a : Expr} (L : LcP X C W e a) (k : CxOk C Γ X) : Both X C W e a := by
  obtain ⟨el, tg, iter, ifs, scope, pos, own, g, tt, te, wi, rfl, hi, ok, hg, ht, he, hs, h⟩ := L.ex
  exact .of k (pe_imp (pe_lc k.calm (nd_of k) hi ok hg ht he hs) h) rfl
theorem lcp_mk (k : CxOk C Γ X) {own : List Nat} {t : Tg} {kk : ItK} {es co : List E} {elt : E} {a : Expr} (h : mE Γ (.comp own t kk es co elt) a = true) (hes : ∀ as, mEs Γ es as = true → BL X C W es as)
    (hco : ∀ (scope : Scope) (ifs : List Expr) (s : Shared) (H : Hp) (b : Addr) (cl : List (Str × Addr)) (fp : List Addr), mEs (Γ.blk scope) co ifs = true → BL (X.blk s H scope (compEnvC scope cl b X.env) fp) C never co ifs)
    (helt : ∀ (scope : Scope) (el : Expr) (s : Shared) (H : Hp) (b : Addr) (cl : List (Str × Addr)) (fp : List Addr), mE (Γ.blk scope) elt el = true → PE (X.blk s H scope (compEnvC scope cl b X.env) fp) el (tE C never elt)) : LcP X C W (.comp own t kk es co elt) a := by
  unfold mE at h
  split at h
  · rename_i el tg iter ifs scope pos
    simp only [Bool.and_eq_true, Bool.not_eq_true', decide_eq_true_eq] at h
    obtain ⟨⟨⟨⟨⟨⟨⟨⟨⟨⟨⟨⟨h1, h2⟩, h3⟩, h4⟩, h5⟩, h6⟩, h7⟩, h8⟩, h9⟩, h10⟩, h11⟩, h12⟩, h13⟩ := h
    split at h1
    · rename_i as hs
      simp only [Bool.and_eq_true] at h1
      have lco : co.length = ifs.length := by
        have q : ∀ {l : List E} {m : List Expr}, mEs (Γ.blk scope) l m = true → l.length = m.length := by
          intro l
          induction l with
          | nil => intro m h; cases m with
            | nil => rfl
            | cons _ _ => simp [mEs] at h
          | cons e l ih => intro m h; cases m with
            | nil => simp [mEs] at h
            | cons a m =>
              unfold mEs at h
              simp only [Bool.and_eq_true] at h
              simp [ih h.2]
        exact q h6
      refine ⟨el, tg, iter, ifs, scope, pos, ownOf Γ own, gOf C t, tTs C co, tE C never elt, tI C W ⟨kk, es⟩, rfl, i_ok k hs (hes as h1.1).pel, by rw [k.N, k.sc]; exact blkOk_by h3, fun s H b cl fp => tg_okP (cx_blk k) h4, fun s H b cl fp => ?_, fun s H b cl fp => helt scope el s H b cl fp h9, fun x => set_folded h2 _ _, fun σ H Q z => ?_⟩
      · have bl := hco scope ifs s H b cl fp h6
        rcases ifs with _ | ⟨i, _ | ⟨i2, ir⟩⟩
        · obtain rfl := List.length_eq_zero_iff.1 lco
          exact pts_nil
        · obtain ⟨c, rfl⟩ := List.length_eq_one_iff.1 lco
          obtain ⟨_, _, q, _, _, bo, _⟩ := bl
          obtain ⟨rfl, _⟩ := List.cons.inj q
          exact pts_one (bo.2 (by simpa using h7))
        · simp at h8
      · rw [ownOf_snd]
        exact comp_cs h10 (by omega) (fun g o e q => tg_okW h5 g o e q) z
    · cases h1
  · cases h
end
mutual
theorem sE {C : Gl0} : ∀ (e : E) (a : Expr) (Γ : Gam) (X : Cx) (W : WX), CxOk C Γ X → Takes X W → mE Γ e a = true → AllNd C X (nE e) → Both X C W e a
  | .c d, a, Γ, X, W, k, tk, h, _ => by
    unfold mE at h
    split at h
    · exact .of k (cst_ok h) rfl
    · cases h
  | .nm i, a, Γ, X, W, k, tk, h, _ => by
    unfold mE at h
    exact .of k (pe_imp (nm_pv k h) fun _ _ _ z => tE_nm z) (nm_plain h)
  | .mv i, a, Γ, X, W, k, tk, h, _ => by
    unfold mE at h
    exact .of k (pe_imp (nm_pv k h) fun _ _ _ z => tE_mv z) (nm_plain h)
  | .fz i, a, Γ, X, W, k, tk, h, _ => by
    unfold mE at h
    exact .of k (pe_imp (nm_pv k h) fun _ _ _ z => tE_fz z) (nm_plain h)
  | .cp e, a, Γ, X, W, k, tk, h, n => by
    unfold mE at h
    simp only [Bool.and_eq_true] at h
    exact .of k (pe_imp (sE e a Γ X W k tk h.1 n).1 fun _ _ _ z => tE_cp z) h.2
  | .tf e, a, Γ, X, W, k, tk, h, n => by
    unfold mE at h
    simp only [Bool.and_eq_true, Bool.not_eq_true'] at h
    exact .of k (pe_imp (sE e a Γ X W k tk h.1.1 n).1 fun _ _ _ z => tE_tf h.2 z) h.1.2
  | .pu e, a, Γ, X, W, k, tk, h, n => by
    unfold mE at h
    simp only [Bool.and_eq_true, Bool.not_eq_true'] at h
    exact .of k (pe_imp (sE e a Γ X W k tk h.1.1.1 n).1 fun _ _ _ z => tE_pu h.1.2 h.2 z) h.1.1.2
  | .comp own t kk es co elt, a, Γ, X, W, k, tk, h, n => by
    have n0 : AllNd C X (nEs es ++ (nEs co ++ nE elt)) := n
    have n1 := n0.app
    have n2 := n1.2.app
    have L := lcp_mk k h (fun as q => sEs es as Γ X W k tk q n1.1) (fun scope ifs s H b cl fp q => sEs co ifs (Γ.blk scope) _ never (cx_blk k) takes_blk q (all_blk n2.1)) (fun scope el s H b cl fp q => (sE elt el (Γ.blk scope) _ never (cx_blk k) takes_blk q (all_blk n2.2)).1)
    exact L.both k
  | .gl x d, a, Γ, X, W, k, tk, h, n => by
    unfold mE at h
    split at h
    · simp only [Bool.and_eq_true, decide_eq_true_eq] at h
      obtain ⟨rfl, h⟩ := h
      exact .of k (gl_ok k n.1 h) rfl
    · cases h
  | .op o es, a, Γ, X, W, k, tk, h, n => by
    unfold mE at h
    split at h
    · rename_i as hs
      simp only [Bool.and_eq_true] at h
      have hb : AllNd C X (nEs es) := by
        unfold nE at n
        cases o <;> first | exact n | exact n.2
      have bl := sEs es as Γ X W k tk h.1 hb
      by_cases ho : o = .not
      · subst ho
        unfold shape at hs
        simp only at hs
        split at hs <;> cases hs
        rename_i a' pos'
        cases es with
        | nil => cases bl
        | cons e es =>
          obtain ⟨_, _, q, _, _, b, bl⟩ := bl
          obtain ⟨rfl, rfl⟩ := List.cons.inj q
          cases es with
          | cons _ _ => obtain ⟨_, _, q, _⟩ := bl; cases q
          | nil =>
            refine ⟨not_pe b.1, fun _ => ?_⟩
            exact pt_imp (pt_not (b.2 (by simpa [opSt'] using h.2))) fun _ _ _ z => not_cs z
      · have r := op_all k (fun t x tab tabI e => by subst e; exact n.1) (fun f cs e => by subst e; exact n.1) hs (by cases o <;> first | rfl | exact h.2) bl.pel ho
        exact ⟨r.1, fun _ => r.2⟩
    · cases h
  | .mth o e es, a, Γ, X, W, k, tk, h, n => by
    unfold mE at h
    split at h
    · simp only [Bool.and_eq_true, Bool.or_eq_true, Bool.not_eq_true', decide_eq_true_eq] at h
      have n0 : AllNd C X (nE e ++ nEs es) := n
      have m := mth_ok k ‹_› h.2 (sE e _ Γ X W k tk h.1.1.1 n0.app.1).1 (fun q => h.1.1.2.resolve_left (by rw [q]; decide)) (sEs es _ Γ X W k tk h.1.2 n0.app.2).pel
      exact .of k m.1 m.2
    · cases h
  | .chain o1 o2 e1 e2 e3, a, Γ, X, W, k, tk, h, n => by
    unfold mE at h
    split at h
    · simp only [Bool.and_eq_true, Bool.not_eq_true', decide_eq_true_eq] at h
      obtain ⟨⟨⟨⟨⟨⟨⟨⟨⟨h1, h2⟩, h3⟩, h4⟩, h5⟩, h6⟩, h7⟩, h8⟩, h9⟩, h10⟩ := h
      have n0 : AllNd C X (nE e1 ++ (nE e2 ++ nE e3)) := n
      have m := chain_ok (X := X) (C := C) (W := W) (pos := ‹Pos›) h1 h2 h3 h4 (sE e1 _ Γ X W k tk h5 n0.app.1).1 (sE e2 _ Γ X W k tk h6 n0.app.2.app.1).1 (sE e3 _ Γ X W k tk h7 n0.app.2.app.2).1 h8 h9 h10
      exact ⟨m.1, fun _ => m.2⟩
    · cases h
  | .band es, a, Γ, X, W, k, tk, h, n => by
    unfold mE at h
    split at h
    · simp only [Bool.and_eq_true, List.all_eq_true, Bool.not_eq_true'] at h
      have bl := sEs es _ Γ X W k tk h.1.1 n
      cases es with
      | nil =>
        obtain rfl := bl
        refine ⟨⟨fun pins s σ H Q I z => ?_⟩, fun _ => ⟨fun pins s σ H Q I z => ?_⟩⟩
        · obtain ⟨s0, G, B, F, g, z⟩ := z; exact False.elim z
        · obtain ⟨s0, G, B, F, g, z⟩ := z; exact False.elim z
      | cons e es =>
        exact ⟨(and_ok (by simp) h.2 h.1.2 bl).1, fun _ => (and_ok (by simp) h.2 h.1.2 bl).2.pt⟩
    · cases h
  | .bor es, a, Γ, X, W, k, tk, h, n => by
    unfold mE at h
    split at h
    · simp only [Bool.and_eq_true, List.all_eq_true, Bool.not_eq_true'] at h
      have bl := sEs es _ Γ X W k tk h.1.1 n
      cases es with
      | nil =>
        obtain rfl := bl
        refine ⟨⟨fun pins s σ H Q I z => ?_⟩, fun _ => ⟨fun pins s σ H Q I z => ?_⟩⟩
        · obtain ⟨s0, G, B, F, g, z⟩ := z; exact False.elim z
        · obtain ⟨s0, G, B, F, g, z⟩ := z; exact False.elim z
      | cons e es =>
        exact ⟨(or_ok (by simp) h.2 h.1.2 bl).1, fun _ => (or_ok (by simp) h.2 h.1.2 bl).2.pt⟩
    · cases h
  | .ite c x y, a, Γ, X, W, k, tk, h, n => by
    unfold mE at h
    split at h
    · simp only [Bool.and_eq_true, Bool.not_eq_true'] at h
      obtain ⟨⟨⟨⟨⟨h1, h2⟩, h3⟩, h4⟩, h5⟩, h6⟩ := h
      obtain ⟨n1, n2⟩ := AllNd.app n
      obtain ⟨n2, n3⟩ := AllNd.app n2
      refine ⟨pe_imp (pe_ifExp ((sE c _ Γ X W k tk h1 n1).2 h2) (sE x _ Γ X W k tk h3 n2).1 (sE y _ Γ X W k tk h4 n3).1) fun _ _ _ z => ite_cs h5 h6 z, fun q => by simp [tstB] at q⟩
    · cases h
  | .call f es, a, Γ, X, W, k, tk, h, n => by
    unfold mE at h
    split at h
    · simp only [Bool.and_eq_true, decide_eq_true_eq, Bool.not_eq_true'] at h
      obtain ⟨⟨⟨⟨⟨⟨h1, h2⟩, h3⟩, h4⟩, h5⟩, h6⟩, h7⟩ := h
      exact .of k (call_ok k tk n.1 h1 h2 h3 h4 h5 h6 (sEs es _ Γ X W k tk h7 n.2).pel) rfl
    · cases h
  | .meth x tab o es, a, Γ, X, W, k, tk, h, n => by
    unfold mE at h
    split at h
    · simp only [Bool.and_eq_true, Bool.or_eq_true, Bool.not_eq_true', decide_eq_true_eq] at h
      obtain ⟨⟨⟨⟨⟨⟨⟨rfl, h2⟩, h3⟩, h4⟩, h5⟩, h6⟩, h7⟩, h8⟩ := h
      have n0 := nd_map n
      have n1 := n0.2.app
      exact .of k (meth_ok k tk n0.1 h2 h3 h4 (sE o _ Γ X W k tk h5 n1.1).1 (fun q => h6.resolve_left (by rw [q]; decide)) (sEs es _ Γ X W k tk h7 n1.2).pel h8) rfl
    · cases h
  | .make c x f es, a, Γ, X, W, k, tk, h, n => by
    unfold mE at h
    split at h
    · unfold arB at h
      simp only [Bool.and_eq_true, decide_eq_true_eq] at h
      obtain ⟨⟨⟨⟨⟨rfl, h2⟩, h3⟩, h4⟩, h5⟩, h6⟩ := h
      exact .of k (make_ok k tk n.1 h2 h3 h4 h5.1 h5.2 (sEs es _ Γ X W k tk h6 n.2).pel) rfl
    · cases h
  | .callM f i es, a, Γ, X, W, k, tk, h, n => by
    unfold mE at h
    split at h
    · unfold arB at h
      simp only [Bool.and_eq_true, decide_eq_true_eq, List.all_eq_true, Bool.not_eq_true'] at h
      obtain ⟨⟨⟨⟨⟨⟨⟨h1, h2⟩, h3⟩, h4⟩, h5⟩, h6⟩, h7⟩, h8⟩ := h
      exact .of k (callM_ok k tk n.1 h1 h2 h3 h4 h5.1 h5.2 h6 h8 (sEs es _ Γ X W k tk h7 n.2).pel) rfl
    · cases h
  | .methM x tab i es, a, Γ, X, W, k, tk, h, n => by
    unfold mE at h
    split at h
    · simp only [Bool.and_eq_true, decide_eq_true_eq, List.all_eq_true, Bool.not_eq_true'] at h
      obtain ⟨⟨⟨⟨⟨⟨rfl, h2⟩, h3⟩, h4⟩, h5⟩, h6⟩, h7⟩ := h
      have n0 := nd_map n
      exact .of k (methM_ok k tk n0.1 h2 h3 h4 h6 (sEs es _ Γ X W k tk h5 n0.2).pel h7) rfl
    · cases h
  | .callV i tab es, a, Γ, X, W, k, tk, h, n => by
    unfold mE at h
    split at h
    · simp only [Bool.and_eq_true] at h
      have n0 := nd_map n
      exact .of k (callV_ok k tk n0.1 h.1.1 (sEs es _ Γ X W k tk h.1.2 n0.2).pel h.2) rfl
    · cases h
theorem sEs {C : Gl0} : ∀ (es : List E) (as : List Expr) (Γ : Gam) (X : Cx) (W : WX), CxOk C Γ X → Takes X W → mEs Γ es as = true → AllNd C X (nEs es) → BL X C W es as
  | [], [], _, _, _, _, _, _, _ => rfl
  | [], _ :: _, _, _, _, _, _, h, _ => by simp [mEs] at h
  | _ :: _, [], _, _, _, _, _, h, _ => by simp [mEs] at h
  | e :: es, a :: as, Γ, X, W, k, tk, h, n => by
    unfold mEs at h
    simp only [Bool.and_eq_true, Bool.or_eq_true, Bool.not_eq_true'] at h
    obtain ⟨⟨⟨h1, h2⟩, h3⟩, h4⟩ := h
    obtain ⟨n1, n2⟩ := AllNd.app n
    exact ⟨a, as, rfl, h1, fun q => h3.resolve_left (by rw [q]; decide), sE e a Γ X W k tk h2 n1, sEs es as Γ X W k tk h4 n2⟩
end
theorem sI {C : Gl0} {Γ : Gam} {X : Cx} {W : WX} (k : CxOk C Γ X) (tk : Takes X W) {tg a : Expr} {it : It} (h : mI Γ tg it a = true) (n : AllNd C X (nI it)) : PI X tg a (tI C W it) := by
  unfold mI at h
  split at h
  · simp only [Bool.and_eq_true] at h
    exact i_ok k ‹_› (sEs _ _ _ _ _ k tk h.1 n).pel
  · cases h
/-- a comprehension's parts, of a text that has its shape -/
theorem lcp_of {C : Gl0} {Γ : Gam} {X : Cx} {W : WX} (k : CxOk C Γ X) (tk : Takes X W) {own : List Nat} {t : Tg} {kk : ItK} {es co : List E} {elt : E} {a : Expr} (h : mE Γ (.comp own t kk es co elt) a = true) (n : AllNd C X (nE (.comp own t kk es co elt))) : LcP X C W (.comp own t kk es co elt) a := by
  have n0 : AllNd C X (nEs es ++ (nEs co ++ nE elt)) := n
  have n1 := n0.app
  have n2 := n1.2.app
  exact lcp_mk k h (fun as q => sEs es as Γ X W k tk q n1.1) (fun scope ifs s H b cl fp q => sEs co ifs (Γ.blk scope) _ never (cx_blk k) takes_blk q (all_blk n2.1)) (fun scope el s H b cl fp q => (sE elt el (Γ.blk scope) _ never (cx_blk k) takes_blk q (all_blk n2.2)).1)
end TT
namespace TT
open PySem PySem.Spec PyProof.Rows L2
section
variable {X : Cx} {C : Gl0} {W : WX} {Γ : Gam}
theorem s_for {t : Tg} {it : It} {b : List S} {tg i : Expr} {bd : List Stmt} {pos : Pos} (k : CxS C Γ X) (h1 : tgB Γ t tg = true) (h2 : PI X tg i (tI C W it)) (h3 : notSet i = true) (h4 : PSs X bd (tSs C W Γ.m b)) : PS X (.For tg i bd [] pos) (tS C W Γ.m (.for_ t it b)) := by
  obtain ⟨gg, hg, hgg⟩ := tg_ok k.toCxOk h1
  refine ps_imp (ps_for k.po k.calm h2 hg h4 (set_folded h3 _)) fun De σ H z => ?_
  obtain ⟨s, G, B, F, g, z⟩ := z
  unfold exS at z
  refine ⟨s, G, B, F, g, ?_⟩
  cases e1 : evIt it s with
  | bad => rw [e1] at z; exact z
  | exc c fs xs s' => rw [e1] at z; exact outS.x z
  | ok xs s1 =>
    rw [e1] at z
    replace z : outS C W Γ.m σ G B H F (loopF (fun d s => match tgSet t d s with | some s' => exSs b s' | none => .bad) xs s1) De := z
    intro J G' B' H' F' g' x' _ w
    refine for_it w (fun i σ' H' => ∃ s' G1 B1 F1, Good C G1 B1 H' F1 s' σ' ∧ (∀ a o, G' a = some o → G1 a = some o) ∧ (∀ a o, B' a = some o → B1 a = some o) ∧
      outS C W Γ.m σ' G1 B1 H' F1 (loopF (fun d s => match tgSet t d s with | some s' => exSs b s' | none => .bad) (xs.drop i) s') De) ?_ ?_ ?_ ?_
    · exact ⟨s1, G', B', F', g', fun _ _ z => z, fun _ _ z => z, outS.from ⟨g', x', .refl⟩ z⟩
    · rintro i σ' H1 _ ⟨s', G1, B1, F1, g1, _, hb, _⟩
      exact fun a o e => g1.bh a o (hb a o e)
    · rintro i x σ' H1 H2 hi ⟨s', G1, B1, F1, g1, hgs, hbs, z⟩ y
      obtain ⟨d, G2, B2, ed, x2, gb2, bh2, o2⟩ := y G1 B1 hgs hbs g1.gb g1.bh
      have hd : xs.drop i = d :: xs.drop (i + 1) := by
        obtain ⟨hlt, e⟩ := List.getElem?_eq_some_iff.1 ed
        rw [← e]
        exact (List.getElem_cons_drop (h := hlt)).symm
      rw [hd] at z
      have g2 := g1.alloc x2 gb2 bh2
      replace z := outS.from (σ1 := σ') (PostS.mk g2 x2.ext .refl) z
      unfold loopF at z
      cases e3 : tgSet t d s' with
      | none => rw [e3] at z; exact z.elim
      | some s2 =>
        rw [e3] at z
        refine hgg g2 o2 e3 fun σ3 F3 g3 k3 pr => ?_
        have p3 : PostS C Γ.m σ' G2 B2 H2 F1 s2 σ3 G2 B2 H2 F3 := ⟨g3, Ext.refl.imp (fun _ z => z) fun a z => .inl (k3 a z), pr⟩
        refine ⟨s2, G2, B2, F3, g3, ?_⟩
        replace z := outS.from (De := De) p3 z
        have next : ∀ s4, outS C W Γ.m σ3 G2 B2 H2 F3 (loopF (fun d s => match tgSet t d s with | some s' => exSs b s' | none => .bad) (xs.drop (i + 1)) s4) De → ∀ σ4 G4 B4 H4 F4, PostS C Γ.m σ3 G2 B2 H2 F3 s4 σ4 G4 B4 H4 F4 →
            ∃ s' G1 B1 F1, Good C G1 B1 H4 F1 s' σ4 ∧ (∀ a o, G' a = some o → G1 a = some o) ∧ (∀ a o, B' a = some o → B1 a = some o) ∧ outS C W Γ.m σ4 G1 B1 H4 F1 (loopF (fun d s => match tgSet t d s with | some s' => exSs b s' | none => .bad) (xs.drop (i + 1)) s') De := fun s4 z4 σ4 G4 B4 H4 F4 p4 =>
          ⟨s4, G4, B4, F4, p4.good, fun a o e => p4.ext.g a o (x2.g a o (hgs a o e)), fun a o e => p4.ext.b a o (x2.b a o (hbs a o e)), outS.from p4 z4⟩
        revert z
        show outS C W Γ.m σ3 G2 B2 H2 F3 (match exSs b s2 with
          | .nx s1 => loopF _ (xs.drop (i + 1)) s1
          | .ct s1 => loopF _ (xs.drop (i + 1)) s1
          | .bk s1 => .nx s1
          | o => o) De → _
        cases exSs b s2 with
        | nx s4 => exact fun z => next s4 z
        | ct s4 => exact fun z => next s4 z
        | bk s4 => exact fun z => z
        | rt d s4 => exact fun z => z
        | exc c fs xs s4 => exact fun z => z
        | bad => exact fun z => z
    · rintro σ' H1 ⟨s', G1, B1, F1, g1, _, _, z⟩
      rw [List.drop_of_length_le (Nat.le_refl _)] at z
      exact z σ' G1 B1 H1 F1 ⟨g1, Ext.refl, .refl⟩
theorem lcp_any {C : Gl0} {Γ : Gam} {X : Cx} {W : WX} (k : CxOk C Γ X) (tk : Takes X W) : ∀ (e : E) {el : Expr} {tg it : Expr} {ifs : List Expr} {scope : Scope} {pos : Pos}, mE Γ e (.ListComp el [⟨tg, it, ifs, 0⟩] scope pos) = true → AllNd C X (nE e) → LcP X C W e (.ListComp el [⟨tg, it, ifs, 0⟩] scope pos)
  | .c _, _, _, _, _, _, _, h, _ => by simp [mE] at h
  | .nm _, _, _, _, _, _, _, h, _ => by simp [mE, nmB] at h
  | .mv _, _, _, _, _, _, _, h, _ => by simp [mE, nmB] at h
  | .fz _, _, _, _, _, _, _, h, _ => by simp [mE, nmB] at h
  | .gl _ _, _, _, _, _, _, _, h, _ => by simp [mE] at h
  | .band _, _, _, _, _, _, _, h, _ => by simp [mE] at h
  | .bor _, _, _, _, _, _, _, h, _ => by simp [mE] at h
  | .ite _ _ _, _, _, _, _, _, _, h, _ => by simp [mE] at h
  | .call _ _, _, _, _, _, _, _, h, _ => by simp [mE] at h
  | .chain _ _ _ _ _, _, _, _, _, _, _, h, _ => by simp [mE] at h
  | .mth _ _ _, _, _, _, _, _, _, h, _ => by simp [mE, mthB] at h
  | .op o es, _, _, _, _, _, _, h, _ => by
    unfold mE at h
    have : ∀ {el : Expr} {gs : List Comprehension} {scope : Scope} {pos : Pos}, shape Γ o (.ListComp el gs scope pos) = none := fun {_ _ _ _} => by cases o <;> rfl
    rw [this] at h
    cases h
  | .cp e, _, _, _, _, _, _, h, n => by
    unfold mE at h
    simp only [Bool.and_eq_true] at h
    obtain ⟨el, tg, iter, ifs, scope, pos, own, g, tt, te, wi, e1, hi, ok, hg, ht, he, hs, hh⟩ := (lcp_any k tk e h.1 n).ex
    exact ⟨el, tg, iter, ifs, scope, pos, own, g, tt, te, wi, e1, hi, ok, hg, ht, he, hs, fun σ H Q z => hh σ H Q (tE_cp z)⟩
  | .tf e, _, _, _, _, _, _, h, n => by
    unfold mE at h
    simp only [Bool.and_eq_true, Bool.not_eq_true'] at h
    obtain ⟨el, tg, iter, ifs, scope, pos, own, g, tt, te, wi, e1, hi, ok, hg, ht, he, hs, hh⟩ := (lcp_any k tk e h.1.1 n).ex
    exact ⟨el, tg, iter, ifs, scope, pos, own, g, tt, te, wi, e1, hi, ok, hg, ht, he, hs, fun σ H Q z => hh σ H Q (tE_tf h.2 z)⟩
  | .pu e, _, _, _, _, _, _, h, n => by
    unfold mE at h
    simp only [Bool.and_eq_true, Bool.not_eq_true'] at h
    obtain ⟨el, tg, iter, ifs, scope, pos, own, g, tt, te, wi, e1, hi, ok, hg, ht, he, hs, hh⟩ := (lcp_any k tk e h.1.1.1 n).ex
    exact ⟨el, tg, iter, ifs, scope, pos, own, g, tt, te, wi, e1, hi, ok, hg, ht, he, hs, fun σ H Q z => hh σ H Q (tE_pu h.1.2 h.2 z)⟩
  | .comp own t kk es co elt, _, _, _, _, _, _, h, n => lcp_of k tk h n
theorem swaps_lc {el : Expr} {gs : List Comprehension} {scope : Scope} {pos py : Pos} {y : Str} {l : Nat} {env : Env} : ∃ b : Bool, swapsWith (.ListComp el gs scope pos) (some (.Name y py)) l env = pure b ∧ (b = true → env.scope.names.lookup y = some .local) := by
  refine ⟨env.blockKind == .function && env.kindOf y == some .local && py.line == pos.line && !(scope.names.any fun (n, k) => n == y && (k == .local || k == .cell)), rfl, fun h => ?_⟩
  simp only [Bool.and_eq_true, beq_iff_eq] at h
  exact h.1.1.2
theorem s_asgC {i : Nat} {e : E} {t v : Expr} {pos : Pos} (k : CxOk C Γ X) (h1 : stB Γ i t = true) (L : LcP X C W e v) (h3 : isPl e = false) : PS X (.Assign [t] v pos) (tS C W Γ.m (.asg i e)) := by
  obtain ⟨x, p, rfl, hN, hL, hF, hm⟩ := st_ok k h1
  obtain ⟨el, tg, iter, ifs, scope, cpos, own, g, tt, te, wi, rfl, hi, ok, hg, ht, he, hs, hh⟩ := L.ex
  obtain ⟨b, hb, hloc⟩ := swaps_lc (el := el) (gs := [⟨tg, iter, ifs, 0⟩]) (scope := scope) (pos := cpos) (py := p) (y := x) (l := pos.line) (env := X.env)
  have key : PS X (.Assign [.Name x p] (.ListComp el [⟨tg, iter, ifs, 0⟩] scope cpos) pos) (tAsg (tLc wi g tt te (own.map (·.2))) (gName i)) := by
    cases b with
    | true => exact ps_setLc k.calm (nd_of k) hN (hloc rfl) hb hi ok hg ht he hs
    | false => exact ps_set (nd_of k) hN hL (pe_lc k.calm (nd_of k) hi ok hg ht he hs) hb hF
  refine ps_imp key fun De σ H z => ?_
  obtain ⟨s, G, B, F, g, z⟩ := z
  unfold exS at z
  refine hh σ H _ (then_te g z fun d s1 v G1 B1 H1 F1 fd p z => ?_)
  obtain ⟨F2, q⟩ := p.set (m := Γ.m) (i := i) h3 hm
  exact z _ G1 B1 H1 F2 q
theorem append_own {G B H : Hp} {F : Fp} {s : List D} {σ : L2.St} {i : Nat} {xs : List D} {d : D} {v : V} {fd : List Addr} {a : Addr} (g : Good C G B H F s σ) (hs : s.getD i .dead = .lst .own xs) (he : σ[i]? = some (some (.ref a))) (o : Own C G B H d v fd) (n : fd.Nodup) (np : ∀ b ∈ fd, ¬ TT.inF F b) :
    ∃ ws F', H a = some (.lst ws) ∧ ws.length = xs.length ∧ Good C G B (upd H a (.lst (ws ++ [v]))) F' (s.set i (.lst .own (xs ++ [d]))) σ ∧ Ext G B H (fun b => TT.inF F b ∨ b ∈ fd) G B (upd H a (.lst (ws ++ [v]))) (TT.inF F') := by
  obtain ⟨v0, e0, ow⟩ := g.sl i (by rw [hs]; simp)
  rw [he] at e0; cases e0
  rw [hs] at ow
  obtain ⟨a', ws, U, e1, ⟨ha, hb⟩, oo, hF, _⟩ := ow
  cases e1
  have hi : i < s.length := by
    have := getD_some (s := s) (i := i) (by rw [hs]; simp)
    exact this
  have hFi : F i = a :: U := hF
  have nd : (a :: U).Nodup := by rw [← hFi]; exact g.nd i
  have inA : TT.inF F a := ⟨i, by rw [hFi]; exact List.mem_cons_self⟩
  have aU : a ∉ U := (List.nodup_cons.1 nd).1
  have aF : a ∉ fd := fun z => np a z inA
  have x : Ext G B H (fun b => TT.inF F b ∨ b ∈ fd) G B (upd H a (.lst (ws ++ [v]))) (fun b => TT.inF F b ∨ b ∈ fd) := Ext.updAt (.inl inA)
  have bh : Sb B (upd H a (.lst (ws ++ [v]))) := fun b u e => by rw [upd_ne (fun z => by rw [z, hb] at e; cases e)]; exact g.bh b u e
  have mv : ∀ {d' : D} {v' : V} {f' : List Addr}, Own C G B H d' v' f' → a ∉ f' → Own C G B (upd H a (.lst (ws ++ [v]))) d' v' f' := fun o' h => o'.mono (fun _ _ z => z) (fun _ _ z => z) fun b hb' => ⟨upd_ne fun z => h (by rw [← z]; exact hb'), (o'.fp b hb').2⟩
  refine ⟨ws, fun j => if j = i then a :: (U ++ fd) else F j, ha, oo.length.symm, ⟨g.gb, bh, by rw [List.length_set]; exact g.len, fun j hj => ?_, fun j hj => ?_, fun j => ?_, fun j k b h1 h2 => ?_⟩, x.imp (fun _ z => z) fun b ⟨j, z⟩ => ?_⟩
  · rw [getD_set] at hj ⊢
    by_cases q : j = i
    · rw [if_pos ⟨q, hi⟩]
      subst q
      refine ⟨_, he, ?_⟩
      show Own C G B _ _ _ (if j = j then a :: (U ++ fd) else F j)
      rw [if_pos rfl]
      refine ⟨a, ws ++ [v], U ++ fd, rfl, ⟨upd_same, hb⟩, ?_, rfl, trivial⟩
      exact (owns_snoc o oo).mono (fun _ _ z => z) (fun _ _ z => z) fun b hb' => ⟨upd_ne fun z => by
        rw [z] at hb'
        rcases List.mem_append.1 hb' with w | w
        · exact aU w
        · exact aF w, by
        rcases List.mem_append.1 hb' with w | w
        · exact (oo.fp b w).2
        · exact (o.fp b w).2⟩
    · have q' : ¬ (j = i ∧ i < s.length) := fun z => q z.1
      rw [if_neg q'] at hj ⊢
      obtain ⟨w, ew, ow⟩ := g.sl j hj
      refine ⟨w, ew, ?_⟩
      show Own C G B _ _ _ (if j = i then a :: (U ++ fd) else F j)
      rw [if_neg q]
      exact mv ow fun z => q (g.dj j i a z (by rw [hFi]; exact List.mem_cons_self))
  · by_cases q : j = i
    · rw [getD_set, if_pos ⟨q, hi⟩] at hj; cases hj
    · rw [getD_set, if_neg fun z => q z.1] at hj
      show (if j = i then a :: (U ++ fd) else F j) = []
      rw [if_neg q]; exact g.nf j hj
  · show (if j = i then a :: (U ++ fd) else F j).Nodup
    by_cases q : j = i
    · rw [if_pos q]
      refine List.nodup_cons.2 ⟨fun z => ?_, List.nodup_append.2 ⟨(List.nodup_cons.1 nd).2, n, fun b hb' c hc e => ?_⟩⟩
      · rcases List.mem_append.1 z with w | w
        · exact aU w
        · exact aF w
      · subst e
        exact np b hc ⟨i, by rw [hFi]; exact List.mem_cons_of_mem _ hb'⟩
    · rw [if_neg q]; exact g.nd j
  · have sub : ∀ b, b ∈ a :: (U ++ fd) → b ∈ F i ∨ b ∈ fd := fun b hb' => by
      rw [hFi]
      rcases List.mem_cons.1 hb' with w | w
      · exact .inl (by rw [w]; exact List.mem_cons_self)
      · rcases List.mem_append.1 w with w | w
        · exact .inl (List.mem_cons_of_mem _ w)
        · exact .inr w
    by_cases q : j = i <;> by_cases q2 : k = i <;> simp only [q, q2, if_true, if_false] at h1 h2
    · rw [q, q2]
    · rcases sub b h1 with w | w
      · exact absurd (g.dj k i b h2 w) q2
      · exact absurd ⟨k, h2⟩ (np b w)
    · rcases sub b h2 with w | w
      · exact absurd (g.dj j i b h1 w) q
      · exact absurd ⟨j, h1⟩ (np b w)
    · exact g.dj j k b h1 h2
  · by_cases q : j = i <;> simp only [q, if_true, if_false] at z
    · rcases List.mem_cons.1 z with w | w
      · exact .inl (.inl (by rw [w]; exact inA))
      · rcases List.mem_append.1 w with w | w
        · exact .inl (.inl ⟨i, by rw [hFi]; exact List.mem_cons_of_mem _ w⟩)
        · exact .inl (.inr w)
    · exact .inl (.inl ⟨j, z⟩)
theorem s_app {i : Nat} {e : E} {o x : Expr} {apos cpos pos : Pos} (k : CxOk C Γ X) (h1 : nmB Γ i o = true) (h2 : PE X x (tE C W e)) (h3 : isPl e = false) (h4 : notStar x = true) (hl : (apos.endLine == cpos.line) = true) : PS X (.Expr (.Call (.Attribute o "append" apos) [x] [] cpos) pos) (tS C W Γ.m (.app i e)) := by
  have hn : ∃ y p, o = .Name y p := by
    unfold nmB at h1
    split at h1
    · exact ⟨_, _, rfl⟩
    · cases h1
  obtain ⟨y, p, rfl⟩ := hn
  refine ps_imp (ps_expr (pe_bm PySem.F.plainAttrs_list PySem.F.slot_list_append PySem.F.type_list_append mt_append (nm_pv k h1) (pa_cons h2 pa_nil (star_ok h4)) (by rfl) (by rw [star_ok h4]; rfl) hl (star_ok h4) (by rfl)) (swaps_no rfl)) fun De σ H z => ?_
  obtain ⟨s, G, B, F, g, z⟩ := z
  unfold exS at z
  split at z
  · rename_i hl
    obtain ⟨fl, xs0, e0⟩ : ∃ fl xs0, s.getD i .dead = .lst fl xs0 := by
      revert hl
      cases s.getD i .dead <;> first | exact fun _ => ⟨_, _, rfl⟩ | exact fun z => Bool.noConfusion z
    obtain ⟨v0, ev, ow⟩ := g.sl i (by rw [e0]; simp)
    rw [e0] at ow
    obtain ⟨a, ws, U, rfl, ha, _, _, _⟩ := ow.lstAt g.gb g.bh
    refine ⟨.ref a, ev, .inl ⟨rfl, ws, .inl (.inl ha)⟩, then_te g z fun d s1 v G1 B1 H1 F1 fd p z => ?_⟩
    replace z : outS C W Γ.m σ G B H F (match appD (s1.getD i .dead) d with | some r => .nx (s1.set i r) | none => .bad) De := z
    cases e2 : appD (s1.getD i .dead) d with
    | none => rw [e2] at z; exact z.elim
    | some r =>
      rw [e2] at z
      unfold appD at e2
      split at e2
      · rename_i xs d' hs
        split at e2 <;> cases e2
        rename_i hk
        simp only [Bool.and_eq_true, decide_eq_true_eq] at hk
        obtain ⟨ws2, F2, h5, h6, g2, x2⟩ := append_own p.good hs ev p.own p.nd (p.np h3)
        exact ⟨a, ws2, v, rfl, rfl, h5, by rw [h6]; exact hk.2, z σ G1 B1 _ F2 ⟨g2, p.ext.trans x2, .refl⟩⟩
      · cases e2
  · exact z.elim
theorem s_whl {fuel : List D → Nat} {c : E} {b : List S} {t : Expr} {bd : List Stmt} {pos : Pos} (k : CxS C Γ X) (h1 : PT X t (tTst C W c)) (h4 : PSs X bd (tSs C W Γ.m b)) : PS X (.While t bd [] pos) (tS C W Γ.m (.whl fuel c b)) := by
  refine ps_imp (ps_while k.po h1 h4) fun De σ H z => ?_
  obtain ⟨s, G, B, F, g, z⟩ := z
  unfold exS at z
  refine ⟨fun n σ' H' => ∃ s' G1 B1 F1, Good C G1 B1 H' F1 s' σ' ∧ outS C W Γ.m σ' G1 B1 H' F1 (loopW (evE c) (exSs b) n s') De, ⟨_, s, G, B, F, g, z⟩, ?_⟩
  rintro n σ1 H1 ⟨s1, G1, B1, F1, g1, z⟩
  cases n with
  | zero => exact z.elim
  | succ n =>
    unfold loopW at z
    refine ⟨s1, G1, B1, F1, g1, ?_⟩
    revert z
    cases e1 : evE c s1 with
    | bad => exact fun z => z
    | exc cc fs xs s' => exact fun z => outS.x z
    | ok d s2 =>
      cases e2 : truth d with
      | none => simp only [e2]; exact fun z => z.elim
      | some tv =>
        simp only [e2]
        cases tv with
        | true =>
          intro z
          refine ⟨true, e2, fun v G3 B3 H3 F3 fd p => ?_⟩
          refine iteT ?_
          refine ⟨_, fun σ' H' w => ⟨n, Nat.lt_succ_self n, w⟩, s2, G3, B3, F3, p.good, ?_⟩
          replace z := outS.from p.toS z
          revert z
          have next : ∀ s4, outS C W Γ.m σ1 G3 B3 H3 F3 (loopW (evE c) (exSs b) n s4) De → ∀ σ4 G4 B4 H4 F4, PostS C Γ.m σ1 G3 B3 H3 F3 s4 σ4 G4 B4 H4 F4 →
              ∃ s' G1 B1 F1, Good C G1 B1 H4 F1 s' σ4 ∧ outS C W Γ.m σ4 G1 B1 H4 F1 (loopW (evE c) (exSs b) n s') De := fun s4 z4 σ4 G4 B4 H4 F4 p4 => ⟨s4, G4, B4, F4, p4.good, outS.from p4 z4⟩
          cases exSs b s2 with
          | nx s4 => exact fun z => next s4 z
          | ct s4 => exact fun z => next s4 z
          | bk s4 => exact fun z => z
          | rt d s4 => exact fun z => z
          | exc c fs xs s4 => exact fun z => z
          | bad => exact fun z => z
        | false =>
          intro z
          refine ⟨false, e2, fun v G3 B3 H3 F3 fd p => ?_⟩
          refine iteF ?_
          exact z σ1 G3 B3 H3 F3 p.toS
end
end TT
namespace TT
open PySem PySem.Spec PyProof.Rows L2
/-! ### a caught exception is kept in sight -/
theorem exH_ok {P : Program} {w : World} {H : Hp} {h : Heap} {a : Addr} {cls : Value} {d : Option Addr} {oe : Obj} {vs : Array Value} (e : h.get? a = some oe) (z : Zc cls d oe) (hd : oe.data = .fields vs) : ObjOk P w H h a (exH cls d a) :=
  ⟨⟨oe, vs, e, z, hd⟩, ⟨oe, e⟩, fun _ _ ⟨o, v, q, r⟩ k => ⟨o, v, k o q, r⟩⟩
section
variable {X : Cx} {pins : List (Addr × Obj)} {σ : L2.St} {H : Hp} {s : Shared}
theorem inv_seen {a : Addr} {oe : Obj} {cls : Value} {d : Option Addr} {vs : Array Value} (I : Inv X ((a, oe) :: pins) σ H s) (n0 : X.s_0.heap.get? a = none) (np : ∀ p ∈ X.pn ++ pins, p.1 ≠ a) (z : Zc cls d oe) (hd : oe.data = .fields vs) : Inv X pins σ (upd H a (exH cls d a)) s := by
  obtain ⟨ha, hn, hL, hF, hc⟩ := I.pin (a, oe) (List.mem_append_right _ List.mem_cons_self)
  have ne0 : ∀ b o, X.s_0.heap.get? b = some o → b ≠ a := fun b o e q => by rw [q, n0] at e; cases e
  have neN : ∀ {b : Addr} {o : HO}, H b = some o → b ≠ a := fun {b o} e q => by rw [q] at e; rw [hn] at e; cases e
  refine ⟨I.ok, I.os, I.bare, ⟨I.base.keep, I.base.slot, fun b o e n hx => ?_, I.base.there, fun b xs e => ?_, fun b o u e => ?_, fun b ps e => ?_⟩, I.loc, I.cell, ?_, fun x c e => ?_, fun p hp => ?_, fun b u e => ?_, I.len⟩
  · rw [upd_ne (ne0 b o e)]
    exact I.base.free b o e n hx
  · have q := I.base.tups b xs e
    rw [upd_ne (neN q)]
    exact q
  · have q := I.base.frzs b o u e
    rw [upd_ne (neN q)]
    exact q
  · obtain ⟨m, q⟩ := I.base.tbls b ps e
    exact ⟨m, by rw [upd_ne (neN q)]; exact q⟩
  · rw [upd_ne (Ne.symm hL)]
    exact I.free
  · have : c ≠ a := fun q => by
      obtain ⟨v, o, ho, hdd⟩ := I.cell x c e
      rw [q, ha] at ho
      cases ho
      exact hc v hdd
    rw [upd_ne this]
    exact I.freeC x c e
  · have hp' : p ∈ X.pn ++ ((a, oe) :: pins) := by
      rcases List.mem_append.1 hp with q | q
      · exact List.mem_append_left _ q
      · exact List.mem_append_right _ (List.mem_cons_of_mem _ q)
    obtain ⟨e1, e2, e3, e4, e5⟩ := I.pin p hp'
    exact ⟨e1, by rw [upd_ne (np p hp)]; exact e2, e3, e4, e5⟩
  · by_cases hb : b = a
    · subst hb
      rw [upd_same] at e
      cases e
      exact exH_ok ha z hd
    · rw [upd_ne hb] at e
      refine (I.hok b u e).stay (fun c v _ q => q) (fun c q => by rw [upd_ne (neN q)]; exact q) fun c xs q => by rw [upd_ne (neN q)]; exact q
/-- what the clause 'except x as n' wishes: behind it the exception is tracked -/
def wAsT (K : PySem.W.Frag) (L : Nat) (c : Value) (i : Nat) (ts : Addr → TS) (Wout : WX) (D : Ends) : WX := fun cls d σ H =>
  ∃ b, PySem.W.exmOne K cls c = some b ∧ (b = true → ∀ a, H a = none → σ.length = L → ts a { nx := fun σ' H' => H' a = none → D.nx (σ'.set i none) (upd H' a (exH cls d a)), rt := fun _ _ => False, bk := fun _ _ => False, ct := fun _ _ => False } (σ.set i (some (.ref a))) H) ∧
    (b = false → Wout cls d σ H)
variable {x n : Str} {c : Value} {i : Nat} {body suite : List Stmt} {b₀ : Stmt} {np pos pos' : Pos} {tb : WX → TS} {ts : Addr → TS} {Wout : WX}
theorem ps_try_asT (hs : X.stack = X.env :: X.outer) (hf : X.env.frame = some X.env.locals) (hx : X.ex = []) (hN : X.N.Nodup) (hi : X.N[i]? = some n) (hln : X.env.kindOf n = some .local) (hc : Names X x c) (tk : Takes X Wout)
    (hb : ∀ (W : WX) (pn : List (Addr × Obj)) (xe : Value → Shared → Prop), Takes (X.tr pn xe) W → PassesOwn (model X.prog X.w) X.A X.env xe → PSs (X.tr pn xe) body (tb W))
    (hsu : ∀ (a : Addr) (pn : List (Addr × Obj)), PSs (X.suite a pn) (b₀ :: suite) (ts a)) :
    PS X (.Try body [.ExceptHandler (some (.Name x np)) (some n) (b₀ :: suite) pos'] [] [] pos) (fun D σ H => tb (wAsT X.K X.N.length c i ts Wout D) D σ H) := by
  refine ⟨fun pins s σ H D I h => ?_⟩
  have ok := I.ok
  have hfr : X.A.frames = some (X.env :: X.outer) := by rw [ok.frames, hs]
  have hloc : L2.Loc X.env.scope n := .inl hln
  refine wpAny_Try_except ?_
  refine wpAny_mono ((hb (wAsT X.K X.N.length c i ts Wout D) (X.pn ++ pins) (fun e s₁ => wpAny (model X.prog X.w) X.A (noteFrame e X.env) (fun _ s₂ => wpAny (model X.prog X.w) X.A (setFlight e none) (fun _ s₃ =>
    wpAny (model X.prog X.w) X.A (handleBy e X.env [.ExceptHandler (some (.Name x np)) (some n) (b₀ :: suite) pos']) (SP X pins D) X.xe s₃) X.xe s₂) X.xe s₁) (fun u s' xx => ?_) PassesOwn.looking).run [] s σ H D (I.toTry _) h) (fun f s1 hsp => ?_) (fun e s1 he => he)
  · obtain ⟨a, B, sI, pins', σ', H', cls, d, rfl, J', nb, up, sky, na, os, ag, b, hb1, hyes, hno⟩ := xx
    have J : Inv X pins σ' H' sI := J'.ofTry ok
    have sky' : Sky B (X.env :: X.outer) a (Zc cls d) X.env.locals s'.heap := by rw [← hs]; exact sky
    show wpAny (model X.prog X.w) X.A (noteFrame (.ref a) X.env) _ _ _
    refine Sky.land Zc.steady hfr hf sky' fun h3 fl3 up3 => ?_
    have J3 : Inv X pins σ' H' { s' with heap := h3 } := J.landed nb fl3.1 (up.trans up3) os ag
    obtain ⟨oe3, vs3, he3, hz3, hd3⟩ := fl3.there
    have notFr : ∀ {h : Heap} {o : Obj} {vs : Array Value}, h.FunFrames B (X.env :: X.outer) → h.get? a = some o → o.data = .fields vs → a ∉ frs (X.env :: X.outer) := fun {h o vs} ff e dd hm => by
      obtain ⟨_, o', e', hnf⟩ := ff.mem hm
      rw [e] at e'; cases e'
      exact hnf _ dd
    have nfr := notFr fl3.2.2.1 he3 hd3
    have nL : a ≠ X.env.locals := fun z => nfr (List.mem_filterMap.mpr ⟨X.env, List.mem_cons_self, by rw [hf, z]⟩)
    have nF : a ∉ X.fs := fun hm => by
      obtain ⟨e, he, q⟩ := List.mem_filterMap.mp hm
      exact nfr (List.mem_filterMap.mpr ⟨e, List.mem_cons_of_mem _ he, q⟩)
    have nI : sI.heap.get? a = none := by
      cases e : sI.heap.get? a with
      | none => rfl
      | some o =>
        have := nb a o e (by rw [hs]; exact nfr)
        rw [fl3.2.1] at this
        cases this
    have n0 : X.s_0.heap.get? a = none := by
      cases e : X.s_0.heap.get? a with
      | none => rfl
      | some o =>
        obtain ⟨o', e'⟩ := J.base.there a o e (by rw [hx]; exact fun z => nomatch z)
        rw [nI] at e'
        cases e'
    have npn : ∀ p ∈ X.pn ++ pins, p.1 ≠ a := fun p hp z => by
      have := (J.pin p hp).1
      rw [z, nI] at this
      cases this
    have S3 := J3.suite he3 hd3 na nL nF
    refine wpAny_handleBy_cons (codeAny_handlers_test ?_) (by intro q; cases q)
    have LT : PySem.W.Looks (model X.prog X.w) h3 (typeOf (.ref a)) cls := fun A Q E s k q => wpAny_typeOf_ref (k _ _ he3) (by rw [hz3.1]; exact q)
    have LM := PySem.W.exm_one (M := model X.prog X.w) (J3.kIn) LT hb1
    have test : ∀ {Q : Value → Shared → Prop} {E : Value → Shared → Prop}, Q c { s' with heap := h3 } → wpAny (model X.prog X.w) (X.A.mark (some (.ref a))) (eval (.Name x np) X.env) Q E { s' with heap := h3 } := fun {Q E} q => by
      obtain ⟨hg, hdbg, hm | ⟨hm, hv, hnn⟩⟩ := hc
      · exact ld_glob (X := X.suite a ((a, oe3) :: (X.pn ++ pins))) S3 hg hm q hdbg
      · exact ld_blt (X := X.suite a ((a, oe3) :: (X.pn ++ pins))) S3 hg hm hv q hnn hdbg
    refine test (LM.here ?_)
    cases b with
    | true =>
      refine codeAny_handlers_suite_as ?_
      refine HandSPX.lands_againZ fl3 fun h4 fl4 up4 => ?_
      have J4 : Inv X pins σ' H' { s' with heap := h4 } := J.landed nb fl4.1 ((up.trans up3).trans up4) os ag
      obtain ⟨oe4, vs4, he4, hz4, hd4⟩ := fl4.there
      have S4 := J4.suite he4 hd4 na nL nF
      refine store_ok (X := X.suite a ((a, oe4) :: (X.pn ++ pins))) (v := .ref a) S4 hN hi hloc rfl (fun s5 S5 => ?_) (.inr hln)
      refine wpAny_mono ((hsu a ((a, oe4) :: (X.pn ++ pins))).run [] s5 _ H' _ S5 (hyes rfl a na J.len)) (fun f s6 hsp => ?_) (fun _ _ z => False.elim z)
      cases f with
      | next =>
        obtain ⟨σ6, H6, S6, q6⟩ := hsp
        have S7 : Inv X ((a, oe4) :: pins) σ6 H6 s6 := (S6.unsuite ok).pins_of fun p hp => by
          have : p ∈ (a, oe4) :: (X.pn ++ pins) := by
            rcases List.mem_cons.1 hp with q | q
            · rw [q]; exact List.mem_cons_self
            · exact List.mem_cons_of_mem _ (List.mem_append_right _ q)
          exact S6.pin p (List.mem_append_left _ this)
        have n6 : H6 a = none := (S7.pin (a, oe4) (List.mem_append_right _ List.mem_cons_self)).2.1
        exact gone_ok S7 hN hi hln fun s7 J7 => ⟨_, _, inv_seen J7 n0 npn hz4 hd4, q6 n6⟩
      | brk =>
        obtain ⟨σ6, H6, S6, q6⟩ := hsp
        exact q6.elim
      | cont =>
        obtain ⟨σ6, H6, S6, q6⟩ := hsp
        exact q6.elim
      | ret u =>
        obtain ⟨v6, σ6, H6, S6, r6, q6⟩ := hsp
        exact q6.elim
    | false =>
      show wpAny _ X.A (handleBy (.ref a) X.env []) _ _ _
      refine wpAny_handleBy_nil ?_
      obtain ⟨k1, k2, k3, oe, vs, T, oT, ts', he, hz, hd, h1, hr⟩ := id fl3
      unfold PySem.passOn
      refine wpAny_bind (wpAny_field he hd h1 ?_)
      rw [if_neg (show ¬ ((Value.ref T == Value.none) = true) from by simp)]
      have fin : wpAny (model X.prog X.w) X.A (setFlight (.ref a) X.env.frame) (fun _ s4 => wpAny (model X.prog X.w) X.A (throw (.ref a) : Sem Flow) (SP X pins D) X.xe s4) X.xe { s' with heap := h3 } := by
        rw [hf]
        refine HandSPX.setFlight_upZ fl3 fun h4 hh4 up4 => wpAny_throw (tk _ _ ?_)
        exact ⟨a, B, sI, pins, σ', H', cls, d, rfl, J, nb, (up.trans up3).trans up4, .inr (.inr (by rw [hs]; exact hh4)), na, os, ag, hno rfl⟩
      first
        | exact wpAny_bind (wpAny_pure (wpAny_bind fin))
        | exact wpAny_bind fin
  · cases f with
    | next =>
      obtain ⟨σ', H', J', q⟩ := hsp
      exact wpAny_execs_nil ⟨σ', H', J'.ofTry ok, q⟩
    | brk =>
      obtain ⟨σ', H', J', q⟩ := hsp
      exact ⟨σ', H', J'.ofTry ok, q⟩
    | cont =>
      obtain ⟨σ', H', J', q⟩ := hsp
      exact ⟨σ', H', J'.ofTry ok, q⟩
    | ret u =>
      obtain ⟨v, σ', H', J', r, q⟩ := hsp
      exact ⟨v, σ', H', J'.ofTry ok, r, q⟩
end
end TT
namespace TT
open PySem PySem.Spec PyProof.Rows L2
section
variable {X Y : Cx} {C : Gl0} {W : WX} {Γ : Gam}
theorem st_okY (hN : Y.N = Γ.N) (hsc : Y.env.scope = Γ.sc) {i : Nat} {t : Expr} (h : stB Γ i t = true) : ∃ x p, t = .Name x p ∧ Y.N[i]? = some x ∧ L2.Loc Y.env.scope x ∧ (Γ.m && decide (i = 0)) = false := by
  unfold stB at h
  split at h
  · simp only [Bool.and_eq_true, decide_eq_true_eq, Bool.not_eq_true'] at h
    obtain ⟨⟨⟨h1, h2⟩, h4⟩, h3⟩ := h
    refine ⟨_, _, rfl, by rw [hN]; exact h1, ?_, by simpa using h3⟩
    unfold L2.Loc
    rw [hsc]
    unfold locB at h2
    split at h2
    · exact .inl ‹_›
    · exact .inr ‹_›
    · cases h2
  · cases h
/-- an except suite -/
def tSu (C : Gl0) (nmi : Option Nat) : Su → TS
  | .exn i => fun De σ H => ∃ n v, nmi = some n ∧ σ[n]? = some (some v) ∧ De.nx (σ.set i (some v)) H
  | .c i d => fun De σ H => ∀ v, (∀ G B H, Own C G B H d v []) → De.nx (σ.set i (some v)) H
  | .nil i => fun De σ H => ∀ p, H p = none → De.nx (σ.set i (some (.ref p))) (upd H p (.lst []))
theorem one_st {a : Stmt} {t : TS} (h : PS Y a t) : PSs Y [a] t := pss_imp (pss_cons h pss_nil) fun De σ H z => z
theorem cst_pv {d : D} {c : Const} {j : Nat} {pos : Pos} (h : cstB d c = true) : ∃ v, (∀ G B H, Own C G B H d v []) ∧ PE Y (.Constant c j pos) (tC v) := by
  unfold cstB at h
  split at h
  · simp only [decide_eq_true_eq] at h; subst h
    exact ⟨.int _, fun _ _ _ => ⟨rfl, rfl⟩, pe_int⟩
  · simp only [decide_eq_true_eq] at h; subst h
    exact ⟨.str _, fun _ _ _ => ⟨rfl, rfl⟩, pe_str⟩
  · have h := eq_of_beq h; subst h
    exact ⟨.bl _, fun _ _ _ => ⟨rfl, rfl⟩, pe_bl⟩
  · exact ⟨.non, fun _ _ _ => ⟨rfl, rfl⟩, pe_non⟩
  · cases h
theorem visY (hsc : Y.env.scope = Γ.sc) {y : Str} (h4 : visB Γ.sc y = true) : L2.Vis Y.env.scope y := by
  rw [hsc]
  unfold visB at h4
  unfold L2.Vis
  split at h4
  · exact .inl ‹_›
  · exact .inr (.inl ‹_›)
  · exact .inr (.inr ‹_›)
  · cases h4
theorem su_ok {su : Su} {nmi : Option Nat} {st : Stmt} (hN : Y.N = Γ.N) (nd : Γ.N.Nodup) (hsc : Y.env.scope = Γ.sc) (hfn : ∀ x, L2.Loc Y.env.scope x → Y.fn x = true ∨ Y.env.scope.names.lookup x = some .local) (h : suB Γ su nmi st = true) : PSs Y [st] (tSu C nmi su) := by
  have hnd : Y.N.Nodup := by rw [hN]; exact nd
  unfold suB at h
  split at h
  · split at h
    · rename_i n
      simp only [Bool.and_eq_true, decide_eq_true_eq] at h
      obtain ⟨⟨⟨⟨h1, h2⟩, h3⟩, h4⟩, h5⟩ := h
      obtain ⟨x, p, e, hi, hL, hm⟩ := st_okY hN hsc h1
      cases e
      have hd := h3
      simp only [dbgB, Bool.and_eq_true, Bool.not_eq_true'] at hd
      have hv := visY hsc h4
      refine one_st (ps_imp (ps_set hnd hi hL (pe_var (by rw [hN]; exact h2) hv hd.1 hd.2) rfl (hfn _ hL)) fun De σ H z => ?_)
      obtain ⟨n', v, e, ev, z⟩ := z
      cases e
      exact ⟨v, ev, z⟩
    · cases h
  · simp only [Bool.and_eq_true, decide_eq_true_eq] at h
    obtain ⟨⟨h1, h2⟩, h3⟩ := h
    obtain ⟨x, p, e, hi, hL, hm⟩ := st_okY hN hsc h1
    cases e
    obtain ⟨v, hv, pv⟩ := cst_pv (C := C) (Y := Y) h2
    exact one_st (ps_imp (ps_set hnd hi hL pv rfl (hfn _ hL)) fun De σ H z => z v hv)
  · simp only [Bool.and_eq_true, decide_eq_true_eq] at h
    obtain ⟨h1, h3⟩ := h
    obtain ⟨x, p, e, hi, hL, hm⟩ := st_okY hN hsc h1
    cases e
    exact one_st (ps_imp (ps_set hnd hi hL (pe_lst pa_nil) rfl (hfn _ hL)) fun De σ H z => ⟨Nat.zero_le _, z⟩)
  · cases h
theorem stB_m {i : Nat} {t : Expr} (q : stB Γ i t = true) : (Γ.m && decide (i = 0)) = false := by
  unfold stB at q
  split at q
  · simp only [Bool.and_eq_true, Bool.not_eq_true'] at q
    exact q.2
  · cases q
theorem su_exn {i : Nat} {nmi : Option Nat} {st : Stmt} (h : suB Γ (.exn i) nmi st = true) : (Γ.m && decide (i = 0)) = false ∧ ∃ n, nmi = some n ∧ i ≠ n := by
  unfold suB at h
  split at h
  · rename_i i' x p y q pos e
    cases e
    split at h
    · rename_i n
      simp only [Bool.and_eq_true, decide_eq_true_eq] at h
      exact ⟨stB_m h.1.1.1.1, n, rfl, h.2⟩
    · cases h
  · rename_i e; cases e
  · rename_i e; cases e
  · cases h
theorem su_c {i : Nat} {d : D} {nmi : Option Nat} {st : Stmt} (h : suB Γ (.c i d) nmi st = true) : (Γ.m && decide (i = 0)) = false ∧ nmi ≠ some i := by
  unfold suB at h
  split at h
  · rename_i e; cases e
  · rename_i e
    cases e
    simp only [Bool.and_eq_true, decide_eq_true_eq] at h
    exact ⟨stB_m h.1.1, h.2⟩
  · rename_i e; cases e
  · cases h
theorem su_nil {i : Nat} {nmi : Option Nat} {st : Stmt} (h : suB Γ (.nil i) nmi st = true) : (Γ.m && decide (i = 0)) = false ∧ nmi ≠ some i := by
  unfold suB at h
  split at h
  · rename_i e; cases e
  · rename_i e; cases e
  · rename_i e
    cases e
    simp only [Bool.and_eq_true, decide_eq_true_eq] at h
    exact ⟨stB_m h.1, h.2⟩
  · cases h
end
end TT
namespace TT
open PySem PySem.Spec PyProof.Rows L2
section
variable {X : Cx} {C : Gl0} {W : WX} {Γ : Gam}
theorem glB_ok (k : CxOk C Γ X) {y : Str} (h : glB Γ.sc y = true) : Gl X y ∧ (y == ("__debug__" : Str)) = false := by
  unfold glB at h
  simp only [Bool.and_eq_true] at h
  obtain ⟨h1, h2⟩ := h
  refine ⟨?_, ?_⟩
  · show X.env.scope.names.lookup y = some .globalImplicit
    rw [k.sc]
    split at h1
    · assumption
    · cases h1
  · simp only [dbgB, Bool.and_eq_true, Bool.not_eq_true'] at h2
    exact h2.1
theorem s_raise0 {c : Nat} {x m : Str} {p p2 p3 pos : Pos} {j : Nat} (k : CxOk C Γ X) (tk : Takes X W) (n : ExC C X c x) (hg : glB Γ.sc x = true) : PS X (.Raise (some (.Call (.Name x p) [.Constant (.str m) j p2] [] p3)) none pos) (tS C W Γ.m (.raise0 c x)) := by
  obtain ⟨g1, g2⟩ := glB_ok k hg
  refine ps_imp (ps_raise k.calm tk (pmk_own PySem.F.excBase_ValueError n.x n.g n.k (raises_own n.b n.t) g1 g2)) fun De σ H z => ?_
  obtain ⟨s, G, B, F, g, z⟩ := z
  unfold exS at z
  exact z _ _ σ G B H F ⟨g, Ext.refl, .refl⟩ ⟨rfl, ⟨rfl, rfl⟩, [], fun _ _ => ⟨rfl, rfl⟩, rfl, .inl ⟨rfl, rfl⟩⟩
theorem nd_tr {nd : Nd} {pn : List (Addr × Obj)} {xe : Value → Shared → Prop} (h : NdOk C X nd) : NdOk C (X.tr pn xe) nd := by
  cases nd with
  | fe f =>
    obtain ⟨a, fd, ps, dV, dv, h1, h2, h3⟩ := h
    exact ⟨a, fd, ps, dV, dv, h1, h2, ⟨h3.ln, h3.dl, h3.dr, h3.do_, h3.bd, h3.ok⟩⟩
  | gl x d => exact h
  | isi t x tab tabI => exact h
  | me c x f =>
    obtain ⟨a, fd, ps, dV, dv, h1, h2, h3⟩ := h
    exact ⟨a, fd, ps, dV, dv, h1, h2, ⟨h3.ln, h3.dl, h3.dr, h3.do_, h3.bd, h3.ok⟩⟩
  | mk c x f =>
    obtain ⟨a, fd, ps, dV, dv, h1, h2, h3⟩ := h
    exact ⟨a, fd, ps, dV, dv, h1, h2, ⟨h3.ln, h3.dl, h3.dr, h3.do_, h3.bd, h3.ok⟩⟩
  | fv k f =>
    obtain ⟨fd, ps, dV, dv, h1, h3⟩ := h
    exact ⟨fd, ps, dV, dv, h1, ⟨h3.ln, h3.dl, h3.dr, h3.do_, h3.bd, h3.ok⟩⟩
  | fl f cs => exact h
  | exc c x => exact ⟨h.g, h.x, h.k, h.b, h.t⟩
  | tr c x tab => exact h
theorem all_tr {pn : List (Addr × Obj)} {xe : Value → Shared → Prop} : ∀ {l : List Nd}, AllNd C X l → AllNd C (X.tr pn xe) l
  | [], _ => trivial
  | _ :: _, h => ⟨nd_tr h.1, all_tr h.2⟩
theorem cx_tr {pn : List (Addr × Obj)} {xe : Value → Shared → Prop} (k : CxS C Γ X) (po : PassesOwn (model X.prog X.w) X.A X.env xe) : CxS C Γ (X.tr pn xe) :=
  ⟨⟨k.K, k.N, k.nd, k.sc, k.calm, k.room, k.bn, k.fn⟩, k.fa, po, k.st, k.fr, k.ex⟩
/-- the exception, tracked -/
theorem own_exn {c : Nat} {fs : List Str} {xs : List D} {cls : Value} {d : Option Addr} {a : Addr} {G B H : Hp} (r : ExR C G c fs xs cls d) (ga : G a = none) :
    Own C (upd G a (exH cls d a)) (upd B a (exH cls d a)) (upd H a (exH cls d a)) (.exn c fs xs) (.ref a) [] := by
  obtain ⟨rfl, ok, vs, o, hl, q⟩ := r
  have up : ∀ b o, G b = some o → upd G a (exH (.ref (C.ca c)) d a) b = some o := fun b o e => by rw [upd_ne (ne_of_none e ga)]; exact e
  refine ⟨a, vs, rfl, rfl, ok, ?_, hl, ?_⟩
  · refine (o (fun _ => none) H).mono up (fun b o e => by cases e) (fun _ z => nomatch z)
  · rcases q with ⟨e, rfl⟩ | ⟨e, dd, rfl, hd⟩
    · exact .inl ⟨e, upd_same⟩
    · exact .inr ⟨e, dd, upd_same, up _ _ hd⟩
theorem set_drop_comm {s : List D} {i n : Nat} {d : D} (h : i ≠ n) : ((s.set n .dead).set i d).set n .dead = (s.set i d).set n .dead := by
  rw [List.set_comm _ _ (Ne.symm h), List.set_set]
/-- behind the suite -/
theorem su_done {m : Bool} {G B H : Hp} {F : Fp} {s : List D} {σ : L2.St} {n i : Nat} {v v' : V} {d : D} {G1 B1 H1 : Hp} (g : Good C G B H F s σ) (x : Alloc G B H G1 B1 H1) (gb : Sb G1 B1) (bh : Sb B1 H1) (hn : i ≠ n) (hm : (m && decide (i = 0)) = false) (hm2 : (m && decide (n = 0)) = false)
    {fd : List Addr} (o : Own C G1 B1 H1 d v fd) (nd : fd.Nodup) (np : ∀ b ∈ fd, H b = none) : ∃ F', PostS C m σ G B H F ((s.set i d).set n .dead) (((σ.set n (some v')).set i (some v)).set n none) G1 B1 H1 F' := by
  have g1 := g.alloc x gb bh
  obtain ⟨F2, g2, k2⟩ := g1.drop (i := n) (v := some v')
  obtain ⟨F3, g3, k3⟩ := g2.set (i := i) o nd fun b hb z => (g.inF (k2 b z)).1 (np b hb)
  obtain ⟨F4, g4, k4⟩ := g3.drop (i := n) (v := none)
  rw [set_drop_comm hn] at g4
  refine ⟨F4, g4, ⟨fun b o e _ => x.keep b o e fun z => z, x.g, x.b, fun b e => (x.gn b e).imp id (Or.imp False.elim id), fun b e => (x.bn b e).imp id (Or.imp False.elim id), fun b z => ?_⟩, (Prot.set hm2).trans ((Prot.set hm).trans (Prot.set hm2))⟩
  rcases k3 b (k4 b z) with z | z
  · exact .inl (k2 b z)
  · exact .inr (np b z)
/-- .. without a name -/
theorem su_done0 {m : Bool} {G B H : Hp} {F : Fp} {s : List D} {σ : L2.St} {i : Nat} {v : V} {d : D} {G1 B1 H1 : Hp} (g : Good C G B H F s σ) (x : Alloc G B H G1 B1 H1) (gb : Sb G1 B1) (bh : Sb B1 H1) (hm : (m && decide (i = 0)) = false)
    {fd : List Addr} (o : Own C G1 B1 H1 d v fd) (nd : fd.Nodup) (np : ∀ b ∈ fd, H b = none) : ∃ F', PostS C m σ G B H F (s.set i d) (σ.set i (some v)) G1 B1 H1 F' := by
  have g1 := g.alloc x gb bh
  obtain ⟨F3, g3, k3⟩ := g1.set (i := i) o nd fun b hb z => (g.inF z).1 (np b hb)
  refine ⟨F3, g3, ⟨fun b o e _ => x.keep b o e fun z => z, x.g, x.b, fun b e => (x.gn b e).imp id (Or.imp False.elim id), fun b e => (x.bn b e).imp id (Or.imp False.elim id), fun b z => ?_⟩, Prot.set hm⟩
  rcases k3 b z with z | z
  · exact .inl z
  · exact .inr (np b z)
theorem upd_comm {H : Hp} {a b : Addr} {o u : HO} (h : a ≠ b) : upd (upd H a o) b u = upd (upd H b u) a o := by
  funext c
  by_cases e : c = b
  · subst e
    rw [upd_same, upd_ne (Ne.symm h), upd_same]
  · rw [upd_ne e]
    by_cases e2 : c = a
    · subst e2
      rw [upd_same, upd_same]
    · rw [upd_ne e2, upd_ne e2, upd_ne e]
theorem nmi_some {n : Nat} {o : Option Str} (h : nmiB Γ (some n) o = true) : ∃ y, o = some y ∧ Γ.N[n]? = some y ∧ Γ.sc.names.lookup y = some .local ∧ (Γ.m && decide (n = 0)) = false := by
  unfold nmiB at h
  split at h
  · rename_i q
    cases q
    simp only [Bool.and_eq_true, decide_eq_true_eq, Bool.not_eq_true'] at h
    exact ⟨_, rfl, h.1.1, h.1.2, h.2⟩
  · simp_all
  · cases h
theorem nmi_none {o : Option Str} (h : nmiB Γ none o = true) : o = none := by
  unfold nmiB at h
  split at h
  · simp_all
  · rfl
  · cases h
/-- what the body's end means, by the table -/
theorem try_cs {b : List S} {c : Nat} {x : Str} {tab : List (Nat × Bool)} {nmi : Option Nat} {su : Su} {s : List D} {σ : L2.St} {G B H : Hp} {F : Fp} {De : Ends} {W' : WX} (z : outS C W Γ.m σ G B H F (exS (.try1 b c x tab nmi su) s) De)
    (h : ∀ c' fs xs s1 t, (c', t) ∈ tab → outS C W Γ.m σ G B H F (if t = true then .nx (match nmi with | some i => (suD su c' fs xs s1).set i .dead | none => suD su c' fs xs s1) else .exc c' fs xs s1) De →
      ∀ cls dd σ' G' B' H' F', PostS C Γ.m σ G B H F s1 σ' G' B' H' F' → ExR C G' c' fs xs cls dd → W' cls dd σ' H') : outS C W' Γ.m σ G B H F (exSs b s) De := by
  unfold exS at z
  revert z
  cases exSs b s with
  | nx s4 => exact fun z => z
  | ct s4 => exact fun z => z
  | bk s4 => exact fun z => z
  | rt d s4 => exact fun z => z
  | bad => exact fun z => z
  | exc c' fs xs s1 =>
    intro z
    cases e : tab.lookup c' with
    | none => simp only [e] at z; exact z.elim
    | some t =>
      simp only [e] at z
      intro cls dd σ' G' B' H' F' p r
      refine h c' fs xs s1 t (lookup_mem e) ?_ cls dd σ' G' B' H' F' p r
      cases t <;> exact z
theorem s_try {b : List S} {c : Nat} {x : Str} {tab : List (Nat × Bool)} {nmi : Option Nat} {su : Su} {bd : List Stmt} {np pos pos' : Pos} {on : Option Str} {st : Stmt} (k : CxS C Γ X) (tk : Takes X W) (hg : glB Γ.sc x = true) (h1 : nmiB Γ nmi on = true) (h2 : suB Γ su nmi st = true)
    (hn : NdOk C X (.tr c x tab)) (hb : ∀ (W' : WX) (pn : List (Addr × Obj)) (xe : Value → Shared → Prop), Takes (X.tr pn xe) W' → PassesOwn (model X.prog X.w) X.A X.env xe → PSs (X.tr pn xe) bd (tSs C W' Γ.m b)) :
    PS X (.Try bd [.ExceptHandler (some (.Name x np)) on [st] pos'] [] [] pos) (tS C W Γ.m (.try1 b c x tab nmi su)) := by
  obtain ⟨g1, g2⟩ := glB_ok k.toCxOk hg
  have nm : Names X x (.ref (C.ca c)) := ⟨g1, g2, .inl hn.1⟩
  cases nmi with
  | some n =>
    obtain ⟨y, rfl, hi, hl, hm2⟩ := nmi_some h1
    refine ps_imp (ps_try_asT k.st k.fr k.ex (nd_of k.toCxOk) (by rw [k.N]; exact hi) (show X.env.scope.names.lookup y = some .local by rw [k.sc]; exact hl) nm tk hb fun a pn => su_ok (Y := X.suite a pn) (C := C) (nmi := some n) k.N k.nd k.sc k.fa h2) fun De σ H z => ?_
    obtain ⟨s, G, B, F, g, z⟩ := z
    refine ⟨s, G, B, F, g, try_cs z fun c' fs xs s1 t ht z cls dd σ' G' B' H' F' p r => ⟨t, ?_, fun ht a na hL => ?_, fun ht => ?_⟩⟩
    · rw [r.1]; exact hn.2 _ ht
    · subst ht
      rw [if_pos rfl] at z
      replace z : ∀ σ' G' B' H' F', PostS C Γ.m σ G B H F ((suD su c' fs xs s1).set n .dead) σ' G' B' H' F' → De.nx σ' H' := z
      have gb := p.good.gb
      have bh := p.good.bh
      have nb : B' a = none := none_of_ne fun q => bh.ne q na
      have ng : G' a = none := none_of_ne fun q => gb.ne q nb
      cases su with
      | exn i =>
        obtain ⟨hm, n', e, hne⟩ := su_exn h2
        cases e
        obtain ⟨x1, gb1, bh1⟩ := alloc_shr (o := exH cls dd a) gb bh na
        have hlen : n < σ'.length := by
          rw [hL, k.N]
          exact (List.getElem?_eq_some_iff.1 hi).1
        refine ⟨n, .ref a, rfl, by rw [List.getElem?_set_self hlen], fun _ => ?_⟩
        obtain ⟨F9, q⟩ := su_done (v' := .ref a) p.good x1 gb1 bh1 hne hm hm2 (own_exn r ng) List.nodup_nil (fun _ z => nomatch z)
        exact z _ _ _ _ _ (p.trans q)
      | c i d =>
        obtain ⟨hm, hne⟩ := su_c h2
        intro v ov _
        obtain ⟨x1, gb1, bh1⟩ := alloc_shr (o := exH cls dd a) gb bh na
        obtain ⟨F9, q⟩ := su_done (v' := .ref a) p.good x1 gb1 bh1 (fun q => hne (by rw [q])) hm hm2 (ov _ _ _) List.nodup_nil (fun _ z => nomatch z)
        exact z _ _ _ _ _ (p.trans q)
      | nil i =>
        obtain ⟨hm, hne⟩ := su_nil h2
        intro q hq ha
        have hqa : q ≠ a := fun e => by rw [e, upd_same] at ha; cases ha
        obtain ⟨x1, b1, bq⟩ := alloc_own (G := G') (o := .lst []) bh hq
        obtain ⟨x2, gb2, bh2⟩ := alloc_shr (o := exH cls dd a) gb b1 ha
        obtain ⟨F9, w⟩ := su_done (v' := .ref a) (v := .ref q) (d := .lst .own []) (fd := [q]) p.good (x1.trans x2) gb2 bh2 (fun q => hne (by rw [q])) hm hm2 ⟨q, [], [], rfl, ⟨by rw [upd_ne hqa, upd_same], by rw [upd_ne hqa]; exact bq⟩, ⟨rfl, rfl⟩, rfl, trivial⟩ (by simp) (fun b hb => by rw [List.mem_singleton.1 hb]; exact hq)
        exact z _ _ _ _ _ (p.trans w)
    · subst ht
      rw [if_neg Bool.false_ne_true] at z
      exact z cls dd σ' G' B' H' F' p r
  | none =>
    obtain rfl := nmi_none h1
    refine ps_imp (ps_try_only k.st k.fr nm tk hb fun a oe cls d pn _ _ => su_ok (Y := X.suite a ((a, oe) :: pn)) (C := C) (nmi := none) k.N k.nd k.sc k.fa h2) fun De σ H z => ?_
    obtain ⟨s, G, B, F, g, z⟩ := z
    refine ⟨s, G, B, F, g, try_cs z fun c' fs xs s1 t ht z cls dd σ' G' B' H' F' p r => ⟨t, ?_, fun ht a na => ?_, fun ht => ?_⟩⟩
    · rw [r.1]; exact hn.2 _ ht
    · subst ht
      rw [if_pos rfl] at z
      replace z : ∀ σ' G' B' H' F', PostS C Γ.m σ G B H F (suD su c' fs xs s1) σ' G' B' H' F' → De.nx σ' H' := z
      have gb := p.good.gb
      have bh := p.good.bh
      cases su with
      | exn i =>
        obtain ⟨hm, n', e, hne⟩ := su_exn h2
        cases e
      | c i d =>
        obtain ⟨hm, hne⟩ := su_c h2
        intro v ov
        obtain ⟨F9, q⟩ := su_done0 p.good Ext.refl gb bh hm (ov G' B' H') List.nodup_nil (fun _ z => nomatch z)
        exact z _ _ _ _ _ (p.trans q)
      | nil i =>
        obtain ⟨hm, hne⟩ := su_nil h2
        intro q hq
        obtain ⟨x1, b1, bq⟩ := alloc_own (G := G') (o := .lst []) bh hq
        obtain ⟨F9, w⟩ := su_done0 (v := .ref q) (d := .lst .own []) (fd := [q]) p.good x1 gb b1 hm ⟨q, [], [], rfl, ⟨upd_same, bq⟩, ⟨rfl, rfl⟩, rfl, trivial⟩ (by simp) (fun b hb => by rw [List.mem_singleton.1 hb]; exact hq)
        exact z _ _ _ _ _ (p.trans w)
    · subst ht
      rw [if_neg Bool.false_ne_true] at z
      exact z cls dd σ' G' B' H' F' p r
end
end TT
namespace TT
open PySem PySem.Spec PyProof.Rows L2
/-! ### places -/
def setP : List Stp → D → D → D
  | [], y, _ => y
  | st :: ps, y, d => match stepG st d with
    | some j => match (kidsD d)[j]? with
      | some x => setKids d ((kidsD d).set j (setP ps y x))
      | none => d
    | none => d
theorem modP_eq (g : D → Option D) : ∀ (ps : List Stp) (d : D), modP ps g d = (getP ps d).bind fun x => (g x).map fun y => setP ps y d
  | [], d => by
    show g d = (some d).bind _
    simp only [Option.bind_some, setP]
    cases g d <;> rfl
  | st :: ps, d => by
    unfold modP getP setP
    cases stepG st d with
    | none => rfl
    | some j =>
      simp only [Option.bind_some]
      cases (kidsD d)[j]? with
      | none => rfl
      | some x =>
        simp only [Option.bind_some]
        rw [modP_eq g ps x]
        cases getP ps x with
        | none => rfl
        | some z =>
          simp only [Option.bind_some]
          cases g z <;> rfl
theorem getP_app (st : Stp) : ∀ (ps : List Stp) (d : D), getP (ps ++ [st]) d = (getP ps d).bind fun x => (stepG st x).bind fun j => (kidsD x)[j]?
  | [], d => by
    show (stepG st d).bind (fun j => ((kidsD d)[j]?).bind (getP [])) = (some d).bind _
    simp only [Option.bind_some]
    cases stepG st d with
    | none => rfl
    | some j => 
      simp only [Option.bind_some]
      cases (kidsD d)[j]? <;> rfl
  | s0 :: ps, d => by
    show (stepG s0 d).bind (fun j => ((kidsD d)[j]?).bind (getP (ps ++ [st]))) = ((stepG s0 d).bind fun j => ((kidsD d)[j]?).bind (getP ps)).bind _
    cases stepG s0 d with
    | none => rfl
    | some j =>
      simp only [Option.bind_some]
      cases (kidsD d)[j]? with
      | none => rfl
      | some x =>
        simp only [Option.bind_some]
        exact getP_app st ps x
theorem setP_app {st : Stp} {y z : D} {x : D} {j : Nat} : ∀ (ps : List Stp) (d : D), getP ps d = some x → stepG st x = some j → (kidsD x)[j]? = some z → setP (ps ++ [st]) y d = setP ps (setKids x ((kidsD x).set j y)) d
  | [], d, h, h1, h2 => by
    cases h
    show setP [st] y x = setKids x ((kidsD x).set j y)
    unfold setP
    rw [h1]
    simp only [h2]
    rfl
  | s0 :: ps, d, h, h1, h2 => by
    unfold getP at h
    cases e1 : stepG s0 d with
    | none => rw [e1] at h; cases h
    | some i =>
      rw [e1] at h
      simp only [Option.bind_some] at h
      cases e2 : (kidsD d)[i]? with
      | none => rw [e2] at h; cases h
      | some w =>
        rw [e2] at h
        simp only [Option.bind_some] at h
        show setP (s0 :: (ps ++ [st])) y d = _
        unfold setP
        rw [e1]
        simp only [e2]
        rw [setP_app ps w h h1 h2]
/-- a node within a tree: what it owns, and the tree around it -/
structure Foc (C : Gl0) (G B H : Hp) (x : D) (v : V) (Fx Fr : List Addr) (wrap : D → D) (v0 : V) (F0 : List Addr) : Prop where
  own : Own C G B H x v Fx
  mem : ∀ a, a ∈ F0 ↔ a ∈ Fx ∨ a ∈ Fr
  nd : F0.Nodup → Fx.Nodup ∧ ∀ a ∈ Fx, a ∉ Fr
  back : ∀ G' B' H' x' Fx', (∀ a o, G a = some o → G' a = some o) → (∀ a o, B a = some o → B' a = some o) → (∀ a ∈ Fr, H' a = H a ∧ B' a = none) → Own C G' B' H' x' v Fx' →
    ∃ F', Own C G' B' H' (wrap x') v0 F' ∧ (∀ a, a ∈ F' ↔ a ∈ Fx' ∨ a ∈ Fr) ∧ (F0.Nodup → Fx'.Nodup → (∀ a ∈ Fx', a ∉ Fr) → F'.Nodup)
section
variable {C : Gl0} {G B H : Hp}
theorem Owns.kid : ∀ {xs : List D} {vs : List V} {U : List Addr} {j : Nat} {k : D}, Owns C G B H xs vs U → xs[j]? = some k → ∃ (w : V) (Fk Fr : List Addr), vs[j]? = some w ∧ Own C G B H k w Fk ∧ (∀ a, a ∈ U ↔ a ∈ Fk ∨ a ∈ Fr) ∧ (U.Nodup → Fk.Nodup ∧ ∀ a ∈ Fk, a ∉ Fr) ∧
    ∀ G' B' H' k' Fk', (∀ a o, G a = some o → G' a = some o) → (∀ a o, B a = some o → B' a = some o) → (∀ a ∈ Fr, H' a = H a ∧ B' a = none) → Own C G' B' H' k' w Fk' →
      ∃ U', Owns C G' B' H' (xs.set j k') vs U' ∧ (∀ a, a ∈ U' ↔ a ∈ Fk' ∨ a ∈ Fr) ∧ (U.Nodup → Fk'.Nodup → (∀ a ∈ Fk', a ∉ Fr) → U'.Nodup)
  | [], _, _, _, _, _, h => by simp at h
  | x :: xs, _, _, 0, k, o, h => by
    obtain ⟨v, vr, F1, F2, rfl, rfl, o1, o2⟩ := o
    simp at h
    subst h
    refine ⟨v, F1, F2, rfl, o1, fun a => List.mem_append, fun n => ?_, fun G' B' H' k' Fk' g b hr ok => ⟨Fk' ++ F2, ⟨v, vr, Fk', F2, rfl, rfl, ok, o2.mono g b hr⟩, fun a => List.mem_append, fun n nk dj => ?_⟩⟩
    · obtain ⟨n1, n2, n3⟩ := List.nodup_append.1 n
      exact ⟨n1, fun a ha hb => n3 a ha a hb rfl⟩
    · obtain ⟨n1, n2, n3⟩ := List.nodup_append.1 n
      exact List.nodup_append.2 ⟨nk, n2, fun a ha b hb e => dj a ha (e ▸ hb)⟩
  | x :: xs, _, _, j + 1, k, o, h => by
    obtain ⟨v, vr, F1, F2, rfl, rfl, o1, o2⟩ := o
    obtain ⟨w, Fk, Fr, e1, ok, m, n, bk⟩ := o2.kid (j := j) (by simpa using h)
    refine ⟨w, Fk, F1 ++ Fr, by simpa using e1, ok, fun a => ?_, fun nu => ?_, fun G' B' H' k' Fk' g b hr ok' => ?_⟩
    · rw [List.mem_append, m a, List.mem_append]
      constructor
      · rintro (z | z | z)
        · exact .inr (.inl z)
        · exact .inl z
        · exact .inr (.inr z)
      · rintro (z | z | z)
        · exact .inr (.inl z)
        · exact .inl z
        · exact .inr (.inr z)
    · obtain ⟨n1, n2, n3⟩ := List.nodup_append.1 nu
      obtain ⟨q1, q2⟩ := n n2
      refine ⟨q1, fun a ha z => ?_⟩
      rcases List.mem_append.1 z with z | z
      · exact n3 a z a ((m a).2 (.inl ha)) rfl
      · exact q2 a ha z
    · obtain ⟨U', o3, m3, n3⟩ := bk G' B' H' k' Fk' g b (fun a ha => hr a (List.mem_append_right _ ha)) ok'
      refine ⟨F1 ++ U', ⟨v, vr, F1, U', rfl, rfl, o1.mono g b (fun a ha => hr a (List.mem_append_left _ ha)), o3⟩, fun a => ?_, fun nu nk dj => ?_⟩
      · rw [List.mem_append, m3 a, List.mem_append]
        constructor
        · rintro (z | z | z)
          · exact .inr (.inl z)
          · exact .inl z
          · exact .inr (.inr z)
        · rintro (z | z | z)
          · exact .inr (.inl z)
          · exact .inl z
          · exact .inr (.inr z)
      · obtain ⟨u1, u2, u3⟩ := List.nodup_append.1 nu
        refine List.nodup_append.2 ⟨u1, n3 u2 nk fun a ha z => dj a ha (List.mem_append_right _ z), fun a ha b hb e => ?_⟩
        subst e
        rcases (m3 a).1 hb with z | z
        · exact dj a z (List.mem_append_left _ ha)
        · exact u3 a ha a ((m a).2 (.inr z)) rfl
theorem Foc.refl {d : D} {v : V} {F : List Addr} (o : Own C G B H d v F) : Foc C G B H d v F [] (fun x => x) v F :=
  ⟨o, fun a => by simp, fun n => ⟨n, fun _ _ z => nomatch z⟩, fun G' B' H' x' Fx' _ _ _ o' => ⟨Fx', o', fun a => by simp, fun _ n _ => n⟩⟩
/-- an owned node's kids, put back -/
structure Nod (C : Gl0) (G B H : Hp) (x : D) (a : Addr) (ws : List V) (F' : List Addr) : Prop where
  kids : Owns C G B H (kidsD x) ws F'
  back : ∀ G' B' H' ys F2, H' a = H a → B' a = none → ys.length = (kidsD x).length → Owns C G' B' H' ys ws F2 → Own C G' B' H' (setKids x ys) (.ref a) (a :: F2)
theorem nod_lst {xs : List D} {v : V} {F : List Addr} (o : Own C G B H (.lst .own xs) v F) : ∃ a ws F', v = .ref a ∧ F = a :: F' ∧ H a = some (.lst ws) ∧ Nod C G B H (.lst .own xs) a ws F' := by
  obtain ⟨a, ws, F', rfl, h1, h2, rfl, h3⟩ := o
  exact ⟨a, ws, F', rfl, rfl, h1.1, h2, fun G' B' H' ys F2 e eb _ o2 => ⟨a, ws, F2, rfl, ⟨by rw [e]; exact h1.1, eb⟩, o2, rfl, trivial⟩⟩
theorem nod_dk {ks : List Key} {xs : List D} {v : V} {F : List Addr} (o : Own C G B H (.dk .own ks xs) v F) : ∃ a ws F', v = .ref a ∧ F = a :: F' ∧ H a = some (.dK (ks.zip ws)) ∧ ks.length = xs.length ∧ ks.Nodup ∧ Nod C G B H (.dk .own ks xs) a ws F' := by
  obtain ⟨a, ws, F', rfl, h1, h2, rfl, h3, h4, h5⟩ := o
  exact ⟨a, ws, F', rfl, rfl, h1.1, h4, h5, h2, fun G' B' H' ys F2 e eb hl o2 => ⟨a, ws, F2, rfl, ⟨by rw [e]; exact h1.1, eb⟩, o2, rfl, trivial, by rw [hl]; exact h4, h5⟩⟩
theorem nod_dt {ks : List (List Key)} {xs : List D} {v : V} {F : List Addr} (o : Own C G B H (.dt .own ks xs) v F) : ∃ a ws F', v = .ref a ∧ F = a :: F' ∧ H a = some (.dT (ks.zip ws)) ∧ ks.length = xs.length ∧ ks.Nodup ∧ Nod C G B H (.dt .own ks xs) a ws F' := by
  obtain ⟨a, ws, F', rfl, h1, h2, rfl, h3, h4, h5⟩ := o
  exact ⟨a, ws, F', rfl, rfl, h1.1, h4, h5, h2, fun G' B' H' ys F2 e eb hl o2 => ⟨a, ws, F2, rfl, ⟨by rw [e]; exact h1.1, eb⟩, o2, rfl, trivial, by rw [hl]; exact h4, h5⟩⟩
theorem nod_ins {c : Nat} {fs : List Str} {xs : List D} {v : V} {F : List Addr} (o : Own C G B H (.ins .own c fs xs) v F) : ∃ a dx ws F', v = .ref a ∧ F = a :: F' ∧ H a = some (.ins (C.ca c) dx (fs.zip ws)) ∧ fs.length = xs.length ∧ fs.Nodup ∧ Nod C G B H (.ins .own c fs xs) a ws F' := by
  obtain ⟨a, dx, ws, F', rfl, h1, h2, rfl, h3, h4, h5⟩ := o
  exact ⟨a, dx, ws, F', rfl, rfl, h1.1, h4, h5, h2, fun G' B' H' ys F2 e eb hl o2 => ⟨a, dx, ws, F2, rfl, ⟨by rw [e]; exact h1.1, eb⟩, o2, rfl, trivial, by rw [hl]; exact h4, h5⟩⟩
/-- one step down -/
theorem Foc.down {x k : D} {v0 : V} {Fx Fr F0 : List Addr} {wrap : D → D} {a : Addr} {ws : List V} {F' : List Addr} {j : Nat} (f : Foc C G B H x (.ref a) Fx Fr wrap v0 F0) (eF : Fx = a :: F') (ha : H a ≠ none ∧ B a = none) (n : Nod C G B H x a ws F') (hj : (kidsD x)[j]? = some k) :
    ∃ w Fk Fr', ws[j]? = some w ∧ a ∈ Fr' ∧ Foc C G B H k w Fk Fr' (fun y => wrap (setKids x ((kidsD x).set j y))) v0 F0 := by
  subst eF
  obtain ⟨w, Fk, Fs, e1, ok, m, nn, bk⟩ := n.kids.kid hj
  refine ⟨w, Fk, a :: (Fs ++ Fr), e1, List.mem_cons_self, ok, fun b => ?_, fun n0 => ?_, fun G' B' H' x' Fx' g b hr o' => ?_⟩
  · rw [f.mem b, List.mem_cons, m b, List.mem_cons, List.mem_append]
    constructor
    · rintro ((z | z | z) | z)
      · exact .inr (.inl z)
      · exact .inl z
      · exact .inr (.inr (.inl z))
      · exact .inr (.inr (.inr z))
    · rintro (z | z | z | z)
      · exact .inl (.inr (.inl z))
      · exact .inl (.inl z)
      · exact .inl (.inr (.inr z))
      · exact .inr z
  · obtain ⟨q1, q2⟩ := f.nd n0
    obtain ⟨q3, q4⟩ := List.nodup_cons.1 q1
    obtain ⟨q5, q6⟩ := nn q4
    refine ⟨q5, fun b hb z => ?_⟩
    rcases List.mem_cons.1 z with z | z
    · rw [z] at hb; exact q3 ((m a).2 (.inl hb))
    · rcases List.mem_append.1 z with z | z
      · exact q6 b hb z
      · exact q2 b (List.mem_cons_of_mem _ ((m b).2 (.inl hb))) z
  · obtain ⟨U', o3, m3, n3⟩ := bk G' B' H' x' Fx' g b (fun c hc => hr c (List.mem_cons_of_mem _ (List.mem_append_left _ hc))) o'
    have o4 := n.back G' B' H' _ U' (hr a List.mem_cons_self).1 (hr a List.mem_cons_self).2 (by rw [List.length_set]) o3
    obtain ⟨F2, o5, m5, n5⟩ := f.back G' B' H' _ _ g b (fun c hc => hr c (List.mem_cons_of_mem _ (List.mem_append_right _ hc))) o4
    refine ⟨F2, o5, fun c => ?_, fun n0 nk dj => ?_⟩
    · rw [m5 c, List.mem_cons, m3 c, List.mem_cons, List.mem_append]
      constructor
      · rintro ((z | z | z) | z)
        · exact .inr (.inl z)
        · exact .inl z
        · exact .inr (.inr (.inl z))
        · exact .inr (.inr (.inr z))
      · rintro (z | z | z | z)
        · exact .inl (.inr (.inl z))
        · exact .inl (.inl z)
        · exact .inl (.inr (.inr z))
        · exact .inr z
    · obtain ⟨q1, q2⟩ := f.nd n0
      obtain ⟨q3, q4⟩ := List.nodup_cons.1 q1
      refine n5 n0 (List.nodup_cons.2 ⟨fun z => ?_, n3 q4 nk fun c hc z => dj c hc (List.mem_cons_of_mem _ (List.mem_append_left _ z))⟩) fun c hc z => ?_
      · rcases (m3 a).1 z with z | z
        · exact dj a z List.mem_cons_self
        · exact q3 ((m a).2 (.inr z))
      · rcases List.mem_cons.1 hc with e | e
        · exact q2 c (by rw [e]; exact List.mem_cons_self) z
        · rcases (m3 c).1 e with y | y
          · exact dj c y (List.mem_cons_of_mem _ (List.mem_append_right _ z))
          · exact q2 c (List.mem_cons_of_mem _ ((m c).2 (.inr y))) z
end
/-- a place's value -/
def tPl (C : Gl0) (p : Pl) : TE := fun σ H Q => ∃ s G B F, Good C G B H F s σ ∧ ∃ x, getP (plS p s) (s.getD (plI p) .dead) = some x ∧ isDead x = false ∧
  ∀ v0 v Fx Fr, σ[plI p]? = some (some v0) → Foc C G B H x v Fx Fr (fun y => setP (plS p s) y (s.getD (plI p) .dead)) v0 (F (plI p)) → Q v H
theorem find_lookup {fs : List Str} {f : Str} : ∀ {ws : List V} {j : Nat} {w : V}, fs.findIdx? (fun y => decide (y = f)) = some j → ws[j]? = some w → (fs.zip ws).lookup f = some w := by
  induction fs with
  | nil => intro ws j w h; simp at h
  | cons g fs ih =>
    intro ws j w h e
    rw [List.findIdx?_cons] at h
    by_cases hg : g = f
    · subst hg
      simp at h
      subst h
      cases ws with
      | nil => simp at e
      | cons w' ws => simp at e; subst e; simp [List.lookup]
    · simp only [hg, decide_false, Bool.false_eq_true, if_false] at h
      rw [Option.map_eq_some_iff] at h
      obtain ⟨i, h, rfl⟩ := h
      cases ws with
      | nil => simp at e
      | cons w' ws =>
        rw [List.zip_cons_cons, List.lookup_cons]
        have : (f == g) = false := by simpa using fun z => hg z.symm
        rw [this]
        exact ih h (by simpa using e)
theorem find_val {κ : Type} [DecidableEq κ] {ks : List κ} {k : κ} : ∀ {ws : List V} {j : Nat} {w : V}, ks.findIdx? (fun y => decide (y = k)) = some j → ws[j]? = some w → valV (ks.zip ws) k = some w := by
  induction ks with
  | nil => intro ws j w h; simp at h
  | cons g ks ih =>
    intro ws j w h e
    rw [List.findIdx?_cons] at h
    by_cases hg : g = k
    · subst hg
      simp at h
      subst h
      cases ws with
      | nil => simp at e
      | cons w' ws => simp at e; subst e; exact valV_pos rfl
    · simp only [hg, decide_false, Bool.false_eq_true, if_false] at h
      rw [Option.map_eq_some_iff] at h
      obtain ⟨i, h, rfl⟩ := h
      cases ws with
      | nil => simp at e
      | cons w' ws =>
        rw [List.zip_cons_cons, valV_neg (p := (g, w')) hg]
        exact ih h (by simpa using e)
theorem stepK_inv {d y : D} {j : Nat} (h : stepG (.k d) y = some j) : (∃ i xs, d = .int i ∧ y = .lst .own xs ∧ ixN xs.length i = some j) ∨ (∃ i ks xs, d = .int i ∧ y = .dk .own ks xs ∧ ks.findIdx? (fun z => decide (z = .inl i)) = some j) ∨
    (∃ i ks xs, d = .str i ∧ y = .dk .own ks xs ∧ ks.findIdx? (fun z => decide (z = .inr i)) = some j) ∨ ∃ i ks xs, d = .ktup i ∧ y = .dt .own ks xs ∧ ks.findIdx? (fun z => decide (z = i)) = some j := by
  cases d <;> first | (cases y <;> (try (rename Fl => fl; cases fl)) <;> simp [stepG] at h <;> done) | skip
  all_goals (cases y <;> (try (rename Fl => fl; cases fl)) <;> simp only [stepG] at h <;> first | (cases h; done) | skip)
  · exact .inl ⟨_, _, rfl, rfl, h⟩
  · exact .inr (.inl ⟨_, _, _, rfl, rfl, h⟩)
  · exact .inr (.inr (.inl ⟨_, _, _, rfl, rfl, h⟩))
  · exact .inr (.inr (.inr ⟨_, _, _, rfl, rfl, h⟩))
section
variable {X : Cx} {C : Gl0} {W : WX} {Γ : Gam}
theorem foc_here {G B H : Hp} {x : D} {v v0 : V} {Fx Fr F0 : List Addr} {wrap : D → D} {a : Addr} (f : Foc C G B H x v Fx Fr wrap v0 F0) (h : a ∈ Fx) : H a ≠ none ∧ B a = none := f.own.fp a h
theorem plB_base {p : Pl} {a : Expr} (h : plB Γ p a = true) : baseOk a = true := by
  cases a <;> first | rfl | (cases p <;> simp [plB, nmB] at h)
theorem pkB_plain {p : PK} {a : Expr} (h : pkB Γ p a = true) : notSlice a = true := by
  cases a <;> first | rfl | (cases p <;> simp [pkB, nmB] at h)
theorem pl_ok (k : CxOk C Γ X) : ∀ (p : Pl) (e : Expr), plB Γ p e = true → AllNd C X (nP p) → PE X e (tPl C p)
  | .nm i, e, h, _ => by
    unfold plB at h
    refine pe_imp (nm_pv k h) fun σ H Q z => ?_
    obtain ⟨s, G, B, F, g, x, hx, hd, z⟩ := z
    obtain rfl : s.getD i .dead = x := Option.some.inj hx
    obtain ⟨v, ev, o⟩ := g.sl i (not_dead hd)
    exact ⟨v, ev, z v v _ _ ev (Foc.refl o)⟩
  | .fld p f cs, e, h, n => by
    unfold plB at h
    split at h
    all_goals first | (rename_i q; cases q; done) | skip
    all_goals try cases h
    rename_i p' f0 cs' a f' pos q
    cases q
    simp only [Bool.and_eq_true, decide_eq_true_eq] at h
    obtain ⟨rfl, h⟩ := h
    have hb : ∀ env, attributeBase a f' env (eval a env) = eval a env := fun env => base_ok (plB_base h) _ _ _
    refine pe_imp (pe_fld (pl_ok k p a h n.2) (hb _)) fun σ H Q z => ?_
    obtain ⟨s, G, B, F, g, x, hx, hd, z⟩ := z
    have hx2 : getP (plS p s ++ [.f f' cs]) (s.getD (plI p) .dead) = some x := hx
    rw [getP_app] at hx2
    cases e1 : getP (plS p s) (s.getD (plI p) .dead) with
    | none => rw [e1] at hx2; cases hx2
    | some y =>
      rw [e1] at hx2
      simp only [Option.bind_some] at hx2
      cases e2 : stepG (.f f' cs) y with
      | none => rw [e2] at hx2; cases hx2
      | some j =>
        rw [e2] at hx2
        simp only [Option.bind_some] at hx2
        have e20 := e2
        unfold stepG at e2
        split at e2 <;> try cases e2
        all_goals first | (rename_i q; cases q; done) | skip
        rename_i f1 cs1 c fs xs q
        cases q
        split at e2 <;> try cases e2
        rename_i hc
        refine ⟨s, G, B, F, g, _, e1, rfl, fun v0 v Fx Fr hv foc => ?_⟩
        obtain ⟨a, dx, ws, F', rfl, eF, ea, hl, nd, nod⟩ := nod_ins foc.own
        obtain ⟨w, Fk, Fr', ew, _, foc2⟩ := foc.down eF (foc_here foc (by rw [eF]; exact List.mem_cons_self)) nod hx2
        have hc : c ∈ cs := by simpa using hc
        refine ⟨a, _, dx, _, w, rfl, ea, (n.1 c hc).1, (n.1 c hc).2, find_lookup e2 ew, z v0 w Fk Fr' hv ?_⟩
        have : (fun y => setP (plS (.fld p f' cs) s) y (s.getD (plI (.fld p f' cs)) .dead)) = fun y => setP (plS p s) (setKids (.ins .own c fs xs) ((kidsD (.ins .own c fs xs)).set j y)) (s.getD (plI p) .dead) := by
          funext y
          exact setP_app _ _ e1 e20 hx2
        rw [this]
        exact foc2
  | .ix p pk, e, h, n => by
    unfold plB at h
    split at h
    all_goals first | (rename_i q; cases q; done) | skip
    all_goals try cases h
    rename_i p' k' a b pos q
    cases q
    simp only [Bool.and_eq_true] at h
    obtain ⟨h, hk⟩ := h
    have hu : X.A.units + 1 < cLine := hu_of k.room
    have hb : notSlice b = true := pkB_plain hk
    -- the key's value
    obtain ⟨tk, ptk, htk⟩ : ∃ tk : TE, PE X b tk ∧ ∀ (s : List D) (G B H : Hp) (F : Fp) (σ : L2.St) (Q : VK), Good C G B H F s σ → (∃ i, pkD pk s = .int i ∧ Q (.int i) H) ∨ (∃ x, pkD pk s = .str x ∧ Q (.str x) H) ∨ (∃ ks, pkD pk s = .ktup ks ∧ ∀ c, H c = some (.tup (ks.map kV)) → Q (.ref c) H) → tk σ H Q := by
      cases pk with
      | nm j =>
        replace hk : nmB Γ j b = true := hk
        refine ⟨tVar j, nm_pv k hk, fun s G B H F σ Q g z => ?_⟩
        rcases z with ⟨i, e, q⟩ | ⟨i, e, q⟩ | ⟨i, e, q⟩
        · obtain ⟨v, ev, o⟩ := g.sl j (by rw [show s.getD j .dead = _ from e]; exact fun z => nomatch z)
          rw [show s.getD j .dead = _ from e] at o
          obtain ⟨rfl, _⟩ := o
          exact ⟨_, ev, q⟩
        · obtain ⟨v, ev, o⟩ := g.sl j (by rw [show s.getD j .dead = _ from e]; exact fun z => nomatch z)
          rw [show s.getD j .dead = _ from e] at o
          obtain ⟨rfl, _⟩ := o
          exact ⟨_, ev, q⟩
        · obtain ⟨v, ev, o⟩ := g.sl j (by rw [show s.getD j .dead = _ from e]; exact fun z => nomatch z)
          rw [show s.getD j .dead = _ from e] at o
          obtain ⟨c, rfl, ec, _⟩ := kup_at g.gb g.bh o
          exact ⟨_, ev, q c ec⟩
      | c d =>
        unfold pkB at hk
        split at hk
        · rename_i q; cases q
        · rename_i d' c j p q
          cases q
          unfold cstB at hk
          split at hk
          · simp only [decide_eq_true_eq] at hk; subst hk
            refine ⟨_, pe_int, fun s G B H F σ Q g z => ?_⟩
            rcases z with ⟨i, e, q⟩ | ⟨i, e, q⟩ | ⟨i, e, q⟩ <;> cases e
            exact q
          · simp only [decide_eq_true_eq] at hk; subst hk
            refine ⟨_, pe_str, fun s G B H F σ Q g z => ?_⟩
            rcases z with ⟨i, e, q⟩ | ⟨i, e, q⟩ | ⟨i, e, q⟩ <;> cases e
            exact q
          · refine ⟨_, pe_bl, fun s G B H F σ Q g z => ?_⟩
            rcases z with ⟨i, e, q⟩ | ⟨i, e, q⟩ | ⟨i, e, q⟩ <;> cases e
          · refine ⟨_, pe_non, fun s G B H F σ Q g z => ?_⟩
            rcases z with ⟨i, e, q⟩ | ⟨i, e, q⟩ | ⟨i, e, q⟩ <;> cases e
          · cases hk
        · cases hk
    refine pe_imp (pe_ix (ix_seq.or (ix_dict hu)) (pl_ok k p a h n) ptk (plainIx hb)) fun σ H Q z => ?_
    obtain ⟨s, G, B, F, g, x, hx, hd, z⟩ := z
    have hx2 : getP (plS p s ++ [.k (pkD pk s)]) (s.getD (plI p) .dead) = some x := hx
    rw [getP_app] at hx2
    cases e1 : getP (plS p s) (s.getD (plI p) .dead) with
    | none => rw [e1] at hx2; cases hx2
    | some y =>
      rw [e1] at hx2
      simp only [Option.bind_some] at hx2
      cases e2 : stepG (.k (pkD pk s)) y with
      | none => rw [e2] at hx2; cases hx2
      | some j =>
        rw [e2] at hx2
        simp only [Option.bind_some] at hx2
        have fin : ∀ (a : Addr) (ws : List V) (F' : List Addr) (v0 v : V) (Fx Fr : List Addr), v = .ref a → Fx = a :: F' → Nod C G B H y a ws F' → σ[plI p]? = some (some v0) → Foc C G B H y v Fx Fr (fun y => setP (plS p s) y (s.getD (plI p) .dead)) v0 (F (plI p)) → ∃ w, ws[j]? = some w ∧ Q w H := fun a ws F' v0 v Fx Fr ev eF nod hv foc => by
          subst ev
          obtain ⟨w, Fk, Fr', ew, _, foc2⟩ := foc.down eF (foc_here foc (by rw [eF]; exact List.mem_cons_self)) nod hx2
          refine ⟨w, ew, z v0 w Fk Fr' hv ?_⟩
          have : (fun y => setP (plS (.ix p pk) s) y (s.getD (plI (.ix p pk)) .dead)) = fun w => setP (plS p s) (setKids y ((kidsD y).set j w)) (s.getD (plI p) .dead) := by
            funext w
            exact setP_app _ _ e1 e2 hx2
          rw [this]
          exact foc2
        have nd : isDead y = false := by
          rcases stepK_inv e2 with ⟨i, xs, _, rfl, _⟩ | ⟨i, ks, xs, _, rfl, _⟩ | ⟨i, ks, xs, _, rfl, _⟩ | ⟨i, ks, xs, _, rfl, _⟩ <;> rfl
        refine ⟨s, G, B, F, g, _, e1, nd, fun v0 v Fx Fr hv foc => htk s G B H F σ _ g ?_⟩
        rcases stepK_inv e2 with ⟨i, xs, ek, rfl, e3⟩ | ⟨i, ks, xs, ek, rfl, e3⟩ | ⟨i, ks, xs, ek, rfl, e3⟩ | ⟨i, ks, xs, ek, rfl, e3⟩
        · obtain ⟨a, ws, F', rfl, eF, ea, nod⟩ := nod_lst foc.own
          obtain ⟨w, ew, qq⟩ := fin a ws F' v0 _ Fx Fr rfl eF nod hv foc
          refine .inl ⟨i, ek, .inl (.inl ⟨a, ws, i, w, rfl, rfl, SqL.of ea, ix_atI (by rw [← nod.kids.length]; exact e3) ew, qq⟩)⟩
        · obtain ⟨a, ws, F', rfl, eF, ea, hl, nd, nod⟩ := nod_dk foc.own
          obtain ⟨w, ew, qq⟩ := fin a ws F' v0 _ Fx Fr rfl eF nod hv foc
          exact .inl ⟨i, ek, .inr ⟨a, w, rfl, .inl ⟨_, .inl i, .inl ea, rfl, (find_val e3 ew).symm⟩, qq⟩⟩
        · obtain ⟨a, ws, F', rfl, eF, ea, hl, nd, nod⟩ := nod_dk foc.own
          obtain ⟨w, ew, qq⟩ := fin a ws F' v0 _ Fx Fr rfl eF nod hv foc
          exact .inr (.inl ⟨i, ek, .inr ⟨a, w, rfl, .inl ⟨_, .inr i, .inl ea, rfl, (find_val e3 ew).symm⟩, qq⟩⟩)
        · obtain ⟨a, ws, F', rfl, eF, ea, hl, nd, nod⟩ := nod_dt foc.own
          obtain ⟨w, ew, qq⟩ := fin a ws F' v0 _ Fx Fr rfl eF nod hv foc
          exact .inr (.inr ⟨i, ek, fun c hc => .inr ⟨a, w, rfl, .inr ⟨_, i, c, .inl ea, rfl, hc, (find_val e3 ew).symm⟩, qq⟩⟩)
end
end TT
namespace TT
open PySem PySem.Spec PyProof.Rows L2
/-! ### in-place changes -/
section
variable {C : Gl0} {G B H G1 B1 H1 : Hp} {F : Fp} {s : List D} {σ : L2.St}
theorem foc_upd {i : Nat} {x x' : D} {v v0 : V} {Fx Fx' Fr U : List Addr} {wrap : D → D} {a : Addr} {o' : HO} (g : Good C G B H F s σ) (g1 : Good C G1 B1 H1 F s σ) (f : Foc C G B H x v Fx Fr wrap v0 (F i)) (kg : ∀ a o, G a = some o → G1 a = some o) (kb : ∀ a o, B a = some o → B1 a = some o) (kh : ∀ a o, H a = some o → H1 a = some o)
    (hv : σ[i]? = some (some v0)) (hl : i < s.length) (ha : a ∈ Fx) (o2 : Own C G1 B1 (upd H1 a o') x' v Fx') (n2 : Fx'.Nodup) (s2 : ∀ b ∈ Fx', b ∈ Fx ∨ b ∈ U) (dU : ∀ b ∈ U, ¬ inF F b) (hd : isDead (wrap x') = false) :
    ∃ F2, Good C G1 B1 (upd H1 a o') F2 (s.set i (wrap x')) σ ∧ Ext G1 B1 H1 (fun b => inF F b ∨ b ∈ U) G1 B1 (upd H1 a o') (inF F2) := by
  obtain ⟨q1, q2⟩ := f.nd (g.nd i)
  have ai : a ∈ F i := (f.mem a).2 (.inl ha)
  have aB : B1 a = none := (g1.nb ai).2
  have keep : ∀ b, b ≠ a → upd H1 a o' b = H1 b := fun b z => upd_ne z
  obtain ⟨F', o3, m3, n3⟩ := f.back G1 B1 (upd H1 a o') x' Fx' kg kb (fun b hb => by
    have bi : b ∈ F i := (f.mem b).2 (.inr hb)
    have ne : b ≠ a := fun z => q2 a ha (z ▸ hb)
    refine ⟨?_, (g1.nb bi).2⟩
    rw [keep b ne]
    cases e : H b with
    | none => exact absurd e (g.nb bi).1
    | some o => exact kh b o e) o2
  have nU : ∀ b ∈ Fx', b ∉ Fr := fun b hb z => by
    rcases s2 b hb with y | y
    · exact q2 b y z
    · exact dU b y ⟨i, (f.mem b).2 (.inr z)⟩
  have src : ∀ b ∈ F', b ∈ F i ∨ b ∈ U := fun b hb => by
    rcases (m3 b).1 hb with z | z
    · exact (s2 b z).imp (fun z => (f.mem b).2 (.inl z)) id
    · exact .inl ((f.mem b).2 (.inr z))
  have off : ∀ j, j ≠ i → ∀ b ∈ F j, b ∉ F' := fun j hj b h1 h2 => by
    rcases src b h2 with q | q
    · exact hj (g1.dj j i b h1 q)
    · exact dU b q ⟨j, h1⟩
  have bh2 : Sb B1 (upd H1 a o') := fun b o e => by
    have : b ≠ a := fun z => by rw [z, aB] at e; cases e
    rw [keep b this]; exact g1.bh b o e
  refine ⟨fun j => if j = i then F' else F j, ⟨g1.gb, bh2, by rw [List.length_set]; exact g1.len, fun j hj => ?_, fun j hj => ?_, fun j => ?_, fun j k b h1 h2 => ?_⟩, ⟨fun b o e z => ?_, fun _ _ z => z, fun _ _ z => z, fun _ z => .inl z, fun _ z => .inl z, fun b z => .inl ?_⟩⟩
  · rw [getD_set] at hj ⊢
    by_cases q : j = i
    · rw [if_pos ⟨q, hl⟩]
      subst q
      exact ⟨v0, hv, by show Own _ _ _ _ _ _ (if j = j then F' else F j); rw [if_pos rfl]; exact o3⟩
    · have q' : ¬ (j = i ∧ i < s.length) := fun z => q z.1
      rw [if_neg q'] at hj ⊢
      obtain ⟨w, ew, ow⟩ := g1.sl j hj
      refine ⟨w, ew, ?_⟩
      show Own _ _ _ _ _ _ (if j = i then F' else F j)
      rw [if_neg q]
      exact ow.mono (fun _ _ z => z) (fun _ _ z => z) fun b hb => ⟨keep b fun z => q (g1.dj j i b hb (z ▸ ai)), (ow.fp b hb).2⟩
  · by_cases q : j = i
    · rw [getD_set, if_pos ⟨q, hl⟩] at hj
      exact absurd hj (not_dead hd)
    · rw [getD_set, if_neg fun z => q z.1] at hj
      show (if j = i then F' else F j) = []
      rw [if_neg q]; exact g1.nf j hj
  · show (if j = i then F' else F j).Nodup
    by_cases q : j = i
    · rw [if_pos q]; exact n3 (g.nd i) n2 nU
    · rw [if_neg q]; exact g1.nd j
  · by_cases q : j = i <;> by_cases q2 : k = i <;> simp only [q, q2, if_true, if_false] at h1 h2
    · rw [q, q2]
    · exact absurd h1 (off k q2 b h2)
    · exact absurd h2 (off j q b h1)
    · exact g1.dj j k b h1 h2
  · rw [keep b fun w => z (.inl ⟨i, w ▸ ai⟩)]; exact e
  · obtain ⟨j, hj⟩ := z
    by_cases q : j = i
    · simp only [q, if_true] at hj
      exact (src b hj).imp (fun z => ⟨i, z⟩) id
    · simp only [q, if_false] at hj; exact .inl ⟨j, hj⟩
theorem setP_dead : ∀ {ps : List Stp} {y x d : D}, getP ps d = some x → isDead y = false → isDead (setP ps y d) = false
  | [], y, x, d, _, h => h
  | st :: ps, y, x, d, hg, h => by
    unfold getP at hg
    cases e1 : stepG st d with
    | none => rw [e1] at hg; cases hg
    | some j =>
      rw [e1] at hg
      simp only [Option.bind_some] at hg
      cases e2 : (kidsD d)[j]? with
      | none => rw [e2] at hg; cases hg
      | some w =>
        unfold setP
        rw [e1]
        simp only [e2]
        cases d <;> first | rfl | (simp [kidsD] at e2)
/-- what a method of a list, of a dict wants -/
def uoR (K : PySem.W.Frag) : UO → V → List V → Hp → VK → Prop
  | .app => rAppend
  | .ext => fun x vs H Q => rExtend x vs H Q
  | .clr => rClear
  | .rem => fun x vs H Q => ∃ (l : Addr) (xs : List Str) (z : Str) (j : Nat), x = .ref l ∧ vs = [.str z] ∧ H l = some (.lst (xs.map V.str)) ∧ xs[j]? = some z ∧ (∀ m : Nat, m < j → xs[m]? ≠ some z) ∧ Q .non (upd H l (.lst ((xs.eraseIdx j).map V.str)))
  | .pop => rPopAt
  | .upd => fun x vs H Q => ∃ (d e : Addr) (kvs more : List (Key × V)), x = .ref d ∧ vs = [.ref e] ∧ H d = some (.dK kvs) ∧ Rd H e (.dK more) ∧ d ≠ e ∧ kvs.length + more.length ≤ sizeLine ∧ Q .non (upd H d (.dK (mergeK kvs more)))
  | .clrD => rDClear
  | .popD => fun x vs H Q => ∃ a kvs k v, x = V.ref a ∧ vs = [kV k] ∧ H a = some (.dK kvs) ∧ valV kvs k = some v ∧ Q v (upd H a (.dK (dropK kvs k)))
theorem dropK_zip {κ : Type} [DecidableEq κ] {k : κ} : ∀ {ks : List κ} {ws : List V}, ks.length = ws.length → ks.Nodup → ∀ {vs : List D}, ks.length = vs.length → ∀ {U : List Addr}, Owns C G B H vs ws U →
    ∃ ws' U', dropK (ks.zip ws) k = (dropD ks vs k).1.zip ws' ∧ Owns C G B H (dropD ks vs k).2 ws' U' ∧ (∀ a ∈ U', a ∈ U) ∧ (U.Nodup → U'.Nodup) ∧ (dropD ks vs k).1.Nodup ∧ (dropD ks vs k).1.length = (dropD ks vs k).2.length ∧ ∀ q ∈ (dropD ks vs k).1, q ∈ ks
  | [], ws, hw, n, vs, hv, U, o => by
    cases vs with
    | cons _ _ => simp at hv
    | nil =>
      obtain ⟨rfl, rfl⟩ := o
      exact ⟨[], [], rfl, ⟨rfl, rfl⟩, fun _ z => z, fun _ => List.nodup_nil, List.nodup_nil, rfl, fun _ z => z⟩
  | q :: ks, ws, hw, n, vs, hv, U, o => by
    cases vs with
    | nil => simp at hv
    | cons x vs =>
      obtain ⟨w, wr, F1, F2, rfl, rfl, o1, o2⟩ := o
      obtain ⟨n1, n2⟩ := List.nodup_cons.1 n
      have dk : dropK ((q :: ks).zip (w :: wr)) k = if q = k then dropK (ks.zip wr) k else (q, w) :: dropK (ks.zip wr) k := by
        unfold dropK
        rw [List.zip_cons_cons, List.filter_cons]
        by_cases e : q = k <;> simp [e]
      rw [dk]
      unfold dropD
      by_cases e : q = k
      · rw [if_pos e, if_pos e]
        subst e
        have same : dropK (ks.zip wr) q = ks.zip wr := by
          unfold dropK
          rw [List.filter_eq_self]
          intro p hp
          have := (List.of_mem_zip (a := p.1) (b := p.2) hp).1
          simp only [decide_eq_true_eq]
          exact fun z => n1 (z ▸ this)
        exact ⟨wr, F2, same, o2, fun a ha => List.mem_append_right _ ha, fun n => (List.nodup_append.1 n).2.1, n2, by simpa using hv, fun _ z => List.mem_cons_of_mem _ z⟩
      · rw [if_neg e, if_neg e]
        obtain ⟨ws', U', e1, o3, s3, d3, n3, l3, m3⟩ := dropK_zip (k := k) (by simpa using hw) n2 (vs := vs) (by simpa using hv) o2
        refine ⟨w :: ws', F1 ++ U', by rw [e1]; rfl, ⟨w, ws', F1, U', rfl, rfl, o1, o3⟩, fun a ha => ?_, fun nu => ?_, List.nodup_cons.2 ⟨fun z => n1 (m3 q z), n3⟩, by simpa using l3, fun z hz => ?_⟩
        · rcases List.mem_append.1 ha with z | z
          · exact List.mem_append_left _ z
          · exact List.mem_append_right _ (s3 a z)
        · obtain ⟨u1, u2, u3⟩ := List.nodup_append.1 nu
          exact List.nodup_append.2 ⟨u1, d3 u2, fun a ha b hb e => u3 a ha b (s3 b hb) e⟩
        · rcases List.mem_cons.1 hz with z | z
          · rw [z]; exact List.mem_cons_self
          · exact List.mem_cons_of_mem _ (m3 _ z)
theorem owns_erase : ∀ {xs : List D} {vs : List V} {U : List Addr} (j : Nat), Owns C G B H xs vs U → ∃ U', Owns C G B H (xs.eraseIdx j) (vs.eraseIdx j) U' ∧ (∀ a ∈ U', a ∈ U) ∧ (U.Nodup → U'.Nodup)
  | [], _, _, j, o => by obtain ⟨rfl, rfl⟩ := o; exact ⟨[], by simp [Owns], fun _ z => z, fun n => n⟩
  | x :: xs, _, _, 0, o => by
    obtain ⟨v, vr, F1, F2, rfl, rfl, o1, o2⟩ := o
    exact ⟨F2, o2, fun a ha => List.mem_append_right _ ha, fun n => (List.nodup_append.1 n).2.1⟩
  | x :: xs, _, _, j + 1, o => by
    obtain ⟨v, vr, F1, F2, rfl, rfl, o1, o2⟩ := o
    obtain ⟨U', o3, s3, n3⟩ := owns_erase j o2
    refine ⟨F1 ++ U', ⟨v, _, F1, U', rfl, rfl, o1, o3⟩, fun a ha => ?_, fun n => ?_⟩
    · rcases List.mem_append.1 ha with z | z
      · exact List.mem_append_left _ z
      · exact List.mem_append_right _ (s3 a z)
    · obtain ⟨u1, u2, u3⟩ := List.nodup_append.1 n
      exact List.nodup_append.2 ⟨u1, n3 u2, fun a ha b hb e => u3 a ha b (s3 b hb) e⟩
theorem ixN_seqX : True := trivial
/-- kids at a changed node -/
theorem owns_at_upd {xs : List D} {ws : List V} {U : List Addr} {a : Addr} {o' : HO} (o : Owns C G B H xs ws U) (h : a ∉ U) : Owns C G B (upd H a o') xs ws U :=
  o.mono (fun _ _ z => z) (fun _ _ z => z) fun b hb => ⟨upd_ne (fun z => h (z ▸ hb)), (o.fp b hb).2⟩
theorem erase_map {α β : Type} (f : α → β) : ∀ (l : List α) (j : Nat), (l.map f).eraseIdx j = (l.eraseIdx j).map f
  | [], j => by simp
  | x :: l, 0 => rfl
  | x :: l, j + 1 => by
    show f x :: (l.map f).eraseIdx j = f x :: (l.eraseIdx j).map f
    rw [erase_map f l j]
theorem str_of_eqv {y : D} {x : Str} (h : eqv y (.str x) = true) : y = .str x := by
  cases y <;> simp [eqv] at h
  rw [h]
theorem uo_ok {K : PySem.W.Frag} {o : UO} {x x' : D} {v : V} {Fx U : List Addr} {ds : List D} {vs : List V} (gb : Sb G B) (bh : Sb B H) (ox : Own C G B H x v Fx) (nx : Fx.Nodup) (od : Owns C G B H ds vs U) (nu : U.Nodup) (dj : ∀ b ∈ U, b ∉ Fx) (h : uoD o ds x = some x') :
    ∃ a o' Fx', v = .ref a ∧ a ∈ Fx ∧ Own C G B (upd H a o') x' v Fx' ∧ Fx'.Nodup ∧ (∀ b ∈ Fx', b ∈ Fx ∨ b ∈ U) ∧ isDead x' = false ∧ ∀ Q : VK, (∀ y, Q y (upd H a o')) → uoR K o v vs H Q := by
  unfold uoD at h
  split at h
  · -- append
    rename_i xs y
    split at h <;> cases h
    rename_i hh
    simp only [Bool.and_eq_true, decide_eq_true_eq] at hh
    obtain ⟨a, ws, F', rfl, rfl, ea, nod⟩ := nod_lst ox
    obtain ⟨w, wr, F1, F2, rfl, rfl, oy, rfl, rfl⟩ := od
    obtain ⟨n1, n2⟩ := List.nodup_cons.1 nx
    rw [List.append_nil] at *
    have ab : B a = none := (ox.fp a List.mem_cons_self).2
    refine ⟨a, .lst (ws ++ [w]), a :: (F' ++ F1), rfl, List.mem_cons_self, ⟨a, ws ++ [w], F' ++ F1, rfl, ⟨upd_same, ab⟩, ?_, rfl, trivial⟩, ?_, fun b hb => ?_, rfl, fun Q q => ⟨a, ws, w, rfl, rfl, ea, by rw [← nod.kids.length]; exact hh.2, q _⟩⟩
    · have o1 := owns_at_upd (o' := .lst (ws ++ [w])) nod.kids n1
      have o2 : Owns C G B (upd H a (.lst (ws ++ [w]))) [y] [w] F1 := owns_at_upd (U := F1) ⟨w, [], F1, [], rfl, by simp, oy, rfl, rfl⟩ fun z => dj a z List.mem_cons_self
      exact o1.app o2
    · refine List.nodup_cons.2 ⟨fun z => ?_, List.nodup_append.2 ⟨n2, nu, fun b hb c hc e => dj c hc (List.mem_cons_of_mem _ (e ▸ hb))⟩⟩
      rcases List.mem_append.1 z with z | z
      · exact n1 z
      · exact dj a z List.mem_cons_self
    · rcases List.mem_cons.1 hb with e | e
      · exact .inl (by rw [e]; exact List.mem_cons_self)
      · rcases List.mem_append.1 e with e | e
        · exact .inl (List.mem_cons_of_mem _ e)
        · exact .inr e
  · -- extend
    rename_i xs fl ys
    split at h <;> cases h
    rename_i hh
    simp only [Bool.and_eq_true, decide_eq_true_eq] at hh
    obtain ⟨a, ws, F', rfl, rfl, ea, nod⟩ := nod_lst ox
    obtain ⟨w, wr, F1, F2, rfl, rfl, oy, rfl, rfl⟩ := od
    obtain ⟨n1, n2⟩ := List.nodup_cons.1 nx
    have ab : B a = none := (ox.fp a List.mem_cons_self).2
    obtain ⟨b, us, F3, rfl, eb, ob, eF, _⟩ := oy.lstAt gb bh
    obtain rfl := ob.nil hh.1.1
    refine ⟨a, .lst (ws ++ us), a :: (F' ++ []), rfl, List.mem_cons_self, ⟨a, ws ++ us, F' ++ [], rfl, ⟨upd_same, ab⟩, ?_, rfl, trivial⟩, ?_, fun c hc => ?_, rfl, fun Q q => ⟨a, b, ws, us, rfl, rfl, ea, eb, by rw [← nod.kids.length, ← ob.length]; exact hh.2, q _⟩⟩
    · exact (owns_at_upd nod.kids n1).app (owns_at_upd ob (fun z => nomatch z))
    · rw [List.append_nil]; exact nx
    · rw [List.append_nil] at hc; exact .inl hc
  · -- clear
    cases h
    obtain ⟨a, ws, F', rfl, rfl, ea, nod⟩ := nod_lst ox
    obtain ⟨rfl, rfl⟩ := od
    exact ⟨a, .lst [], [a], rfl, List.mem_cons_self, ⟨a, [], [], rfl, ⟨upd_same, (ox.fp a List.mem_cons_self).2⟩, ⟨rfl, rfl⟩, rfl, trivial⟩, by simp, fun b hb => .inl (by rw [List.mem_singleton.1 hb]; exact List.mem_cons_self), rfl, fun Q q => ⟨a, ws, rfl, rfl, ea, q _⟩⟩
  · cases h
    obtain ⟨a, ws, F', rfl, rfl, ea, hl, nd, nod⟩ := nod_dk ox
    obtain ⟨rfl, rfl⟩ := od
    exact ⟨a, .dK [], [a], rfl, List.mem_cons_self, ⟨a, [], [], rfl, ⟨upd_same, (ox.fp a List.mem_cons_self).2⟩, ⟨rfl, rfl⟩, rfl, trivial, rfl, List.nodup_nil⟩, by simp, fun b hb => .inl (by rw [List.mem_singleton.1 hb]; exact List.mem_cons_self), rfl, fun Q q => ⟨a, _, rfl, rfl, ea, q _⟩⟩
  · -- remove
    rename_i xs z
    split at h
    · rename_i hs
      rw [Option.map_eq_some_iff] at h
      obtain ⟨j, hj, rfl⟩ := h
      obtain ⟨ys, hy⟩ := Option.isSome_iff_exists.1 hs
      obtain ⟨a, ws, F', rfl, rfl, ea, nod⟩ := nod_lst ox
      obtain ⟨w, wr, F1, F2, rfl, rfl, oy, rfl, rfl⟩ := od
      obtain ⟨rfl, _⟩ := oy
      have kids : Owns C G B H xs ws F' := nod.kids
      obtain rfl := strs_own hy kids
      obtain ⟨n1, n2⟩ := List.nodup_cons.1 nx
      obtain ⟨U', o3, s3, n3⟩ := owns_erase j kids
      have ga : ∀ (xs : List D) (ys : List Str), strsOf xs = some ys → xs = ys.map D.str := fun xs => by
        induction xs with
        | nil => intro ys h; cases h; rfl
        | cons x xs ih =>
          intro ys h
          unfold strsOf at h
          split at h
          · rename_i q; cases q
          · rename_i b xs' q
            cases q
            cases e : strsOf xs with
            | none => rw [e] at h; cases h
            | some zs => rw [e] at h; cases h; rw [ih zs e]; rfl
          · cases h
      have exs := ga xs ys hy
      subst exs
      rw [List.findIdx?_eq_some_iff_getElem] at hj
      obtain ⟨hjl, h1, h2⟩ := hj
      have hjy : j < ys.length := by simpa using hjl
      refine ⟨a, .lst ((ys.eraseIdx j).map V.str), a :: U', rfl, List.mem_cons_self, ⟨a, (ys.eraseIdx j).map V.str, U', rfl, ⟨upd_same, (ox.fp a List.mem_cons_self).2⟩, ?_, rfl, trivial⟩, List.nodup_cons.2 ⟨fun z => n1 (s3 a z), n3 n2⟩, fun b hb => .inl ?_, rfl, fun Q q => ⟨a, ys, z, j, rfl, rfl, ea, ?_, fun m hm e => ?_, q _⟩⟩
      · have e : (ys.map V.str).eraseIdx j = (ys.eraseIdx j).map V.str := erase_map V.str ys j
        rw [e] at o3
        exact owns_at_upd o3 fun z => n1 (s3 a z)
      · rcases List.mem_cons.1 hb with e | e
        · rw [e]; exact List.mem_cons_self
        · exact List.mem_cons_of_mem _ (s3 b e)
      · simp only [List.getElem_map] at h1
        have := str_of_eqv h1
        injection this with this
        rw [List.getElem?_eq_getElem hjy, this]
      · have hmy : m < ys.length := by omega
        rw [List.getElem?_eq_getElem hmy] at e
        have e := Option.some.inj e
        have q := h2 m hm
        simp only [List.getElem_map, e] at q
        simp [eqv] at q
    · cases h
  · -- pop of a list
    rename_i xs i
    split at h
    · rename_i hh
      simp only [Bool.and_eq_true, decide_eq_true_eq] at hh
      rw [Option.map_eq_some_iff] at h
      obtain ⟨j, hj, rfl⟩ := h
      obtain ⟨a, ws, F', rfl, rfl, ea, nod⟩ := nod_lst ox
      obtain ⟨w, wr, F1, F2, rfl, rfl, oy, rfl, rfl⟩ := od
      obtain ⟨rfl, _⟩ := oy
      have kids : Owns C G B H xs ws F' := nod.kids
      have hl := kids.length
      obtain ⟨n1, n2⟩ := List.nodup_cons.1 nx
      obtain ⟨U', o3, s3, n3⟩ := owns_erase j kids
      rw [hl] at hj
      obtain ⟨z1, z2, z3, z4⟩ := ixN_seq hj
      refine ⟨a, .lst (ws.eraseIdx j), a :: U', rfl, List.mem_cons_self, ⟨a, ws.eraseIdx j, U', rfl, ⟨upd_same, (ox.fp a List.mem_cons_self).2⟩, owns_at_upd o3 fun z => n1 (s3 a z), rfl, trivial⟩, List.nodup_cons.2 ⟨fun z => n1 (s3 a z), n3 n2⟩, fun b hb => .inl ?_, rfl, fun Q q => ?_⟩
      · rcases List.mem_cons.1 hb with e | e
        · rw [e]; exact List.mem_cons_self
        · exact List.mem_cons_of_mem _ (s3 b e)
      · exact ⟨a, ws, i, j, ws[j], rfl, rfl, ea, hh.1, hh.2, z1, by simp [z2], q _⟩
    · cases h
  · -- pop of a dict
    rename_i ks xs k0
    cases e2 : keyOf k0 with
    | none => rw [e2] at h; cases h
    | some kk =>
      rw [e2] at h
      replace h : (if ks.any (fun q => decide (q = kk)) = true then some (D.dk .own (dropD ks xs kk).1 (dropD ks xs kk).2) else none) = some x' := h
      split at h <;> cases h
      rename_i hh
      obtain ⟨a, ws, F', rfl, rfl, ea, hl, nd, nod⟩ := nod_dk ox
      obtain ⟨w, wr, F1, F2, rfl, rfl, oy, rfl, rfl⟩ := od
      have := keyOf_v e2 oy
      subst this
      obtain ⟨n1, n2⟩ := List.nodup_cons.1 nx
      have kids : Owns C G B H xs ws F' := nod.kids
      obtain ⟨ws', U', e1, o3, s3, d3, n3, l3, m3⟩ := dropK_zip (k := kk) (by rw [← kids.length]; exact hl) nd hl kids
      have hv : (valV (ks.zip ws) kk).isSome = true := by
        rw [← valV_any, zip_any kk (by rw [hl, kids.length])]
        exact hh
      obtain ⟨y, hy⟩ := Option.isSome_iff_exists.1 hv
      refine ⟨a, .dK ((dropD ks xs kk).1.zip ws'), a :: U', rfl, List.mem_cons_self, ⟨a, ws', U', rfl, ⟨upd_same, (ox.fp a List.mem_cons_self).2⟩, owns_at_upd o3 fun z => n1 (s3 a z), rfl, trivial, l3, n3⟩, List.nodup_cons.2 ⟨fun z => n1 (s3 a z), d3 n2⟩, fun b hb => .inl ?_, rfl, fun Q q => ⟨a, _, kk, y, rfl, rfl, ea, hy, by rw [e1]; exact q _⟩⟩
      rcases List.mem_cons.1 hb with e | e
      · rw [e]; exact List.mem_cons_self
      · exact List.mem_cons_of_mem _ (s3 b e)
  · -- update
    rename_i ks xs fl ls ys
    split at h <;> cases h
    rename_i hh
    simp only [Bool.and_eq_true, decide_eq_true_eq] at hh
    obtain ⟨a, ws, F', rfl, rfl, ea, hl, nd, nod⟩ := nod_dk ox
    obtain ⟨w, wr, F1, F2, rfl, rfl, oy, rfl, rfl⟩ := od
    obtain ⟨n1, n2⟩ := List.nodup_cons.1 nx
    have kids : Owns C G B H xs ws F' := nod.kids
    obtain ⟨b, us, F3, rfl, hb1, ob, eF, _, hl2, nd2⟩ := id oy
    obtain rfl := ob.nil hh.1.1
    have lz : (ls.zip us).length = ls.length := by simp [← ob.length, hl2]
    have ob2 : Owns C G B H ((ls.zip ys).map (·.2)) us [] := by
      rw [List.map_snd_zip (by omega)]; exact ob
    obtain ⟨ws', U', e1, o3, s3, d3, n3, l3⟩ := puts_own hl nd kids ob2
    have e1 : mergeK (ks.zip ws) (ls.zip us) = (putsD ks xs (ls.zip ys)).1.zip ws' := by
      rw [List.map_fst_zip (by omega)] at e1
      exact e1
    have s3 : ∀ c ∈ U', c ∈ F' := fun c hc => (s3 c hc).resolve_right (fun z => nomatch z)
    have hb2 : Rd H b (.dK (ls.zip us)) := hb1.viewD gb bh
    have ne : a ≠ b := fun z => by
      subst z
      cases fl with
      | own =>
        rw [eF] at dj
        exact dj a (List.mem_append_left _ (mem_fcons.2 (.inl ⟨rfl, rfl⟩))) List.mem_cons_self
      | bor =>
        have z := (ox.fp a List.mem_cons_self).2
        rcases hb1 with q | ⟨_, q⟩ <;> rw [z] at q <;> cases q
      | shr =>
        have z := (ox.fp a List.mem_cons_self).2
        have z2 : G a = none := none_of_ne fun y => gb.ne y z
        rcases hb1 with q | ⟨_, q⟩ <;> rw [z2] at q <;> cases q
    refine ⟨a, .dK ((putsD ks xs (ls.zip ys)).1.zip ws'), a :: U', rfl, List.mem_cons_self, ⟨a, ws', U', rfl, ⟨upd_same, (ox.fp a List.mem_cons_self).2⟩, owns_at_upd o3 fun z => n1 (s3 a z), rfl, trivial, l3, n3⟩, List.nodup_cons.2 ⟨fun z => n1 (s3 a z), d3 n2 List.nodup_nil fun _ z => nomatch z⟩, fun c hc => .inl ?_, rfl, fun Q q => ⟨a, b, _, _, rfl, rfl, ea, hb2, ne, ?_, by rw [e1]; exact q _⟩⟩
    · rcases List.mem_cons.1 hc with e | e
      · rw [e]; exact List.mem_cons_self
      · exact List.mem_cons_of_mem _ (s3 c e)
    · rw [lz, List.length_zip, ← kids.length, hl]
      simp
      omega
  · cases h
/-- d.pop(k), there -/
theorem mtd_pop {X : Cx} : MtR X "dict.pop" (fun x vs H Q => ∃ a kvs k v, x = V.ref a ∧ vs = [kV k] ∧ H a = some (.dK kvs) ∧ valV kvs k = some v ∧ Q v (upd H a (.dK (dropK kvs k)))) := by
  intro pins s σ H x vs v us Q I rx rv h
  obtain ⟨a, kvs, k, y, rfl, rfl, e, hv, q⟩ := h
  cases rx
  obtain ⟨u, rfl, ru⟩ := vals1 rv
  exact d_pop I e ru hv (.inl rfl) fun w' s' I' r' => ⟨y, _, I', r', q⟩
end
section
variable {X : Cx} {C : Gl0} {W : WX} {Γ : Gam}
def uoT : UO → String
  | .upd => "dict"
  | .clrD => "dict"
  | .popD => "dict"
  | _ => "list"
theorem uo_ty {K : PySem.W.Frag} {o : UO} {x : D} {v : V} {Fx : List Addr} {G B H : Hp} (ox : Own C G B H x v Fx) (h : uoOk o x = true) : tyV K (uoT o) v H := by
  unfold uoOk at h
  split at h
  case h_9 => cases h
  all_goals first
    | (obtain ⟨a, ws, F', rfl, rfl, ea, nod⟩ := nod_lst ox; exact .inl ⟨rfl, _, SqL.of ea⟩)
    | (obtain ⟨a, ws, F', rfl, rfl, ea, _⟩ := nod_dk ox; exact .inr (.inr (.inl ⟨rfl, .inl ⟨_, ea⟩⟩)))
/-- PLACE.m(..) -/
theorem s_up {o : UO} {p : Pl} {es : List E} {pe : Expr} {as : List Expr} {m : Str} {ap cp pos : Pos} (k : CxOk C Γ X) (hm : m = uoN o) (h1 : plB Γ p pe = true) (hline : (ap.endLine == cp.line) = true) (he : effs es = false) (hpl : ∀ e ∈ es, isPl e = false) (hlen : as.length = uoA o)
    (n : AllNd C X (nP p)) (hp : PEL X C W es as) : PS X (.Expr (.Call (.Attribute pe m ap) as [] cp) pos) (tS C W Γ.m (.up o p es)) := by
  have base : attributeBase pe m X.env (eval pe X.env) = eval pe X.env := base_ok (plB_base h1) _ _ _
  have ppl := pl_ok k p pe h1 n
  -- from the statement's wish to the rule's
  have key : ∀ De σ H, tS C W Γ.m (.up o p es) De σ H → tPl C p σ H fun x H1 => tyV X.K (uoT o) x H1 ∧ tL C W es σ H1 fun xs H2 => uoR X.K o x xs H2 fun _ H3 => De.nx σ H3 := fun De σ H z => by
    obtain ⟨s, G, B, F, g, z⟩ := z
    unfold exS at z
    cases e1 : getP (plS p s) (s.getD (plI p) .dead) with
    | none => rw [e1] at z; exact z.elim
    | some d =>
      rw [e1] at z
      replace z : outS C W Γ.m σ G B H F (if uoOk o d = true then (evEs es s).then fun ds s1 => upO p (uoD o ds) s1 else .bad) De := z
      split at z
      case isFalse => exact z.elim
      rename_i hok
      have nd : isDead d = false := by cases d <;> first | rfl | (cases o <;> simp [uoOk] at hok)
      refine ⟨s, G, B, F, g, d, e1, nd, fun v0 v Fx Fr hv foc => ⟨uo_ty foc.own hok, s, G, B, F, g, ?_⟩⟩
      cases e2 : evEs es s with
      | bad => rw [e2] at z; exact z
      | exc c fs xs s' => rw [e2] at z; exact outS.x z
      | ok ds s1 =>
        rw [e2] at z
        intro vs G1 B1 H1 F1 U q
        obtain ⟨rfl, rfl, kh⟩ := q.pure he
        replace z : outS C W Γ.m σ G B H F1 (upO p (uoD o ds) s1) De := z
        unfold upO at z
        rw [modP_eq, e1] at z
        simp only [Option.bind_some] at z
        cases e3 : uoD o ds d with
        | none => rw [e3] at z; exact z.elim
        | some x' =>
          rw [e3] at z
          replace z : outS C W Γ.m σ G B H F1 (.nx (s1.set (plI p) (setP (plS p s1) x' (s1.getD (plI p) .dead)))) De := z
          obtain ⟨nx, _⟩ := foc.nd (g.nd (plI p))
          have fin : ∀ a ∈ Fx, a ∈ F1 (plI p) := fun a ha => (foc.mem a).2 (.inl ha)
          have ox : Own C G1 B1 H1 d v Fx := foc.own.mono q.ext.g q.ext.b fun a ha => by
            refine ⟨?_, (q.good.nb (fin a ha)).2⟩
            cases e : H a with
            | none => exact absurd e (g.nb (fin a ha)).1
            | some o => exact kh a o e
          obtain ⟨a, o', Fx', rfl, ai, o2, n2, s2, hd, hr⟩ := uo_ok (K := X.K) q.good.gb q.good.bh ox nx (q.vl.all hpl) q.nd (fun b hb z => q.np b hb ⟨_, fin b z⟩) e3
          have hl := getD_some (i := plI p) (s := s1) (fun z => by
            rw [z] at e1
            cases hps : plS p s1 with
            | nil => rw [hps] at e1; cases e1; cases nd
            | cons st r =>
              rw [hps] at e1
              unfold getP at e1
              cases hst : stepG st .dead with
              | none => rw [hst] at e1; cases e1
              | some j => cases st <;> simp [stepG] at hst)
          obtain ⟨F2, g2, x2⟩ := foc_upd g q.good foc q.ext.g q.ext.b kh hv hl ai o2 n2 s2 q.np (setP_dead e1 hd)
          exact hr _ fun _ => z σ G1 B1 _ F2 ⟨g2, q.ext.trans x2, .refl⟩
  have fin1 : ∀ {T id : String} {r : V → List V → Hp → VK → Prop}, T = uoT o → PlainAttrs T → Slot T m id → typeOf (.builtin id) = pure (.type "method_descriptor") → MtR X id r → (∀ x xs H Q, uoR X.K o x xs H Q → r x xs H Q) → uoA o = 1 → PS X (.Expr (.Call (.Attribute pe m ap) as [] cp) pos) (tS C W Γ.m (.up o p es)) := fun {T id r} hT pa sl ty mt hr ha => by
    subst hT
    obtain ⟨y, f, rfl, rfl, ns, _⟩ := hd_of hp (by rw [hlen, ha])
    refine ps_imp (ps_expr (pe_bm pa sl ty mt ppl (pa_of hp) base (few_ok hp (by show 1 < 29; decide) _ _) hline (star_ok ns) (by rfl)) (swaps_no rfl)) fun De σ H z => ?_
    obtain ⟨s, G, B, F, g, x, hx, hd, z⟩ := key De σ H z
    refine ⟨s, G, B, F, g, x, hx, hd, fun v0 v Fx Fr hv foc => ?_⟩
    obtain ⟨z1, z2⟩ := z v0 v Fx Fr hv foc
    exact ⟨z1, z2.mono fun xs H2 q => hr _ _ _ _ q⟩
  have fin0 : ∀ {T id : String} {r : V → List V → Hp → VK → Prop}, T = uoT o → PlainAttrs T → Slot T m id → typeOf (.builtin id) = pure (.type "method_descriptor") → MtR X id r → (∀ x H Q, uoR X.K o x [] H Q → r x [] H Q) → uoA o = 0 → PS X (.Expr (.Call (.Attribute pe m ap) as [] cp) pos) (tS C W Γ.m (.up o p es)) := fun {T id r} hT pa sl ty mt hr ha => by
    subst hT
    obtain rfl : as = [] := List.eq_nil_of_length_eq_zero (by rw [hlen, ha])
    obtain rfl := nil_of hp
    refine ps_imp (ps_expr (pe_bm0 pa sl ty mt ppl base hline) (swaps_no rfl)) fun De σ H z => ?_
    obtain ⟨s, G, B, F, g, x, hx, hd, z⟩ := key De σ H z
    refine ⟨s, G, B, F, g, x, hx, hd, fun v0 v Fx Fr hv foc => ?_⟩
    obtain ⟨z1, z2⟩ := z v0 v Fx Fr hv foc
    exact ⟨z1, hr _ _ _ z2.nil⟩
  subst hm
  cases o with
  | app => exact fin1 rfl PySem.F.plainAttrs_list PySem.F.slot_list_append PySem.F.type_list_append mt_append (fun _ _ _ _ z => z) rfl
  | ext => exact fin1 rfl PySem.F.plainAttrs_list PySem.F.slot_list_extend PySem.F.type_list_extend mt_extend (fun _ _ _ _ z => z) rfl
  | clr => exact fin0 rfl PySem.F.plainAttrs_list PySem.F.slot_list_clear PySem.F.type_list_clear mt_clear (fun _ _ _ z => z) rfl
  | rem => exact fin1 rfl PySem.F.plainAttrs_list PySem.F.slot_list_remove PySem.F.type_list_remove mt_remT (fun _ _ _ _ z => z) rfl
  | pop => exact fin1 rfl PySem.F.plainAttrs_list PySem.F.slot_list_pop PySem.F.type_list_pop mt_popAt (fun _ _ _ _ z => z) rfl
  | upd => exact fin1 rfl PySem.F.plainAttrs_dict PySem.F.slot_dict_update PySem.F.type_dict_update (mt_dupd k.calm) (fun _ _ _ _ z => z) rfl
  | clrD => exact fin0 rfl PySem.F.plainAttrs_dict PySem.F.slot_dict_clear PySem.F.type_dict_clear mtd_clear (fun _ _ _ z => z) rfl
  | popD => exact fin1 rfl PySem.F.plainAttrs_dict PySem.F.slot_dict_pop PySem.F.type_dict_pop mtd_pop (fun _ _ _ _ z => z) rfl
end
end TT
namespace TT
open PySem PySem.Spec PyProof.Rows L2
section
variable {C : Gl0} {G B H : Hp}
theorem owns_set {d : D} {v : V} {fd : List Addr} (od : Own C G B H d v fd) : ∀ {xs : List D} {vs : List V} {U : List Addr} (j : Nat), Owns C G B H xs vs U → j < xs.length → ∃ U', Owns C G B H (xs.set j d) (vs.set j v) U' ∧ (∀ a ∈ U', a ∈ U ∨ a ∈ fd) ∧ (U.Nodup → fd.Nodup → (∀ a ∈ fd, a ∉ U) → U'.Nodup)
  | [], _, _, j, o, h => by simp at h
  | x :: xs, _, _, 0, o, h => by
    obtain ⟨w, vr, F1, F2, rfl, rfl, o1, o2⟩ := o
    refine ⟨fd ++ F2, ⟨v, vr, fd, F2, rfl, rfl, od, o2⟩, fun a ha => ?_, fun n nf dj => ?_⟩
    · rcases List.mem_append.1 ha with z | z
      · exact .inr z
      · exact .inl (List.mem_append_right _ z)
    · exact List.nodup_append.2 ⟨nf, (List.nodup_append.1 n).2.1, fun a ha b hb e => dj a ha (List.mem_append_right _ (e ▸ hb))⟩
  | x :: xs, _, _, j + 1, o, h => by
    obtain ⟨w, vr, F1, F2, rfl, rfl, o1, o2⟩ := o
    obtain ⟨U', o3, s3, n3⟩ := owns_set od j o2 (by simpa using h)
    refine ⟨F1 ++ U', ⟨w, _, F1, U', rfl, rfl, o1, o3⟩, fun a ha => ?_, fun n nf dj => ?_⟩
    · rcases List.mem_append.1 ha with z | z
      · exact .inl (List.mem_append_left _ z)
      · exact (s3 a z).imp (List.mem_append_right _) id
    · obtain ⟨u1, u2, u3⟩ := List.nodup_append.1 n
      refine List.nodup_append.2 ⟨u1, n3 u2 nf fun a ha z => dj a ha (List.mem_append_right _ z), fun a ha b hb e => ?_⟩
      subst e
      rcases s3 a hb with z | z
      · exact u3 a ha a z rfl
      · exact dj a z (List.mem_append_left _ ha)
theorem put_kids {xs' : List D} {ws' : List V} {F' U' fd : List Addr} {a : Addr} {o' : HO} (o3 : Owns C G B H xs' ws' U') (n1 : a ∉ F') (df : ∀ b ∈ fd, b ∉ a :: F') (s3 : ∀ b ∈ U', b ∈ F' ∨ b ∈ fd) (n3 : U'.Nodup) :
    Owns C G B (upd H a o') xs' ws' U' ∧ (a :: U').Nodup ∧ ∀ b ∈ a :: U', b ∈ a :: F' ∨ b ∈ fd := by
  have na : a ∉ U' := fun z => by
    rcases s3 a z with q | q
    · exact n1 q
    · exact df a q List.mem_cons_self
  refine ⟨owns_at_upd o3 na, List.nodup_cons.2 ⟨na, n3⟩, fun b hb => ?_⟩
  rcases List.mem_cons.1 hb with e | e
  · exact .inl (by rw [e]; exact List.mem_cons_self)
  · exact (s3 b e).imp (List.mem_cons_of_mem _) id
/-- x.f = d -/
theorem setF_ok {f : Str} {cs : List Nat} {x x' d : D} {v y : V} {Fx fd : List Addr} (ox : Own C G B H x v Fx) (nx : Fx.Nodup) (od : Own C G B H d y fd) (nd : fd.Nodup) (dj : ∀ b ∈ fd, b ∉ Fx) (h : setFD f cs d x = some x') :
    ∃ a c dx fs Fx', v = .ref a ∧ a ∈ Fx ∧ H a = some (.ins (C.ca c) dx fs) ∧ c ∈ cs ∧ fs.length < 1000 ∧ Own C G B (upd H a (.ins (C.ca c) dx (putF f y fs))) x' v Fx' ∧ Fx'.Nodup ∧ (∀ b ∈ Fx', b ∈ Fx ∨ b ∈ fd) ∧ isDead x' = false := by
  unfold setFD at h
  split at h
  · rename_i c fs xs
    split at h <;> cases h
    rename_i hh
    simp only [Bool.and_eq_true, decide_eq_true_eq] at hh
    obtain ⟨a, dx, ws, F', rfl, rfl, ea, hl, nf, nod⟩ := nod_ins ox
    obtain ⟨n1, n2⟩ := List.nodup_cons.1 nx
    have kids : Owns C G B H xs ws F' := nod.kids
    obtain ⟨ws', U', e1, o3, s3, d3⟩ := putF_own (k := f) od hl kids
    have dF : ∀ b ∈ fd, b ∉ F' := fun b hb z => dj b hb (List.mem_cons_of_mem _ z)
    obtain ⟨p1, p2, p3⟩ := put_kids (o' := .ins (C.ca c) dx (putF f y (fs.zip ws))) o3 n1 dj s3 (d3 n2 nd dF)
    have kk := putD_keys (k := f) (d := d) hl nf
    refine ⟨a, c, dx, fs.zip ws, a :: U', rfl, List.mem_cons_self, ea, by simpa using hh.1.1.1, ?_, ⟨a, dx, ws', U', rfl, ⟨by rw [upd_same, e1], (ox.fp a List.mem_cons_self).2⟩, p1, rfl, trivial, kk.2, kk.1⟩, p2, p3, rfl⟩
    have := hh.2
    simp
    omega
  · cases h
/-- x[k] = d -/
def rSetI : V → V → V → Hp → (Hp → Prop) → Prop := fun o i v H Q => rSetL o i v H Q ∨ ∃ a H', o = .ref a ∧ DPut H a i v H' ∧ Q H'
theorem setI_ok {kd x x' d : D} {v y w : V} {Fx fd fk : List Addr} (gb : Sb G B) (bh : Sb B H) (ox : Own C G B H x v Fx) (nx : Fx.Nodup) (ok : Own C G B H kd w fk) (od : Own C G B H d y fd) (nd : fd.Nodup) (dj : ∀ b ∈ fd, b ∉ Fx) (h : setID kd d x = some x') :
    ∃ a o' Fx', v = .ref a ∧ a ∈ Fx ∧ Own C G B (upd H a o') x' v Fx' ∧ Fx'.Nodup ∧ (∀ b ∈ Fx', b ∈ Fx ∨ b ∈ fd) ∧ isDead x' = false ∧ ∀ Q : Hp → Prop, Q (upd H a o') → rSetI v w y H Q := by
  unfold setID at h
  split at h
  case isFalse => cases h
  split at h
  · rename_i xs i
    rw [Option.map_eq_some_iff] at h
    obtain ⟨j, hj, rfl⟩ := h
    obtain ⟨rfl, _⟩ := ok
    obtain ⟨a, ws, F', rfl, rfl, ea, nod⟩ := nod_lst ox
    obtain ⟨n1, n2⟩ := List.nodup_cons.1 nx
    have kids : Owns C G B H xs ws F' := nod.kids
    obtain ⟨z1, z2, z3, z4⟩ := ixN_seq hj
    obtain ⟨U', o3, s3, d3⟩ := owns_set od j kids z2
    have dF : ∀ b ∈ fd, b ∉ F' := fun b hb z => dj b hb (List.mem_cons_of_mem _ z)
    obtain ⟨p1, p2, p3⟩ := put_kids (o' := .lst (ws.set j y)) o3 n1 dj s3 (d3 n2 nd dF)
    exact ⟨a, .lst (ws.set j y), a :: U', rfl, List.mem_cons_self, ⟨a, _, U', rfl, ⟨upd_same, (ox.fp a List.mem_cons_self).2⟩, p1, rfl, trivial⟩, p2, p3, rfl, fun Q q => .inl ⟨a, ws, i, j, rfl, rfl, ea, by rw [← kids.length]; exact hj, q⟩⟩
  · rename_i ks xs i
    split at h <;> cases h
    rename_i hh
    simp only [decide_eq_true_eq] at hh
    obtain ⟨rfl, _⟩ := ok
    obtain ⟨a, ws, F', rfl, rfl, ea, hl, nk, nod⟩ := nod_dk ox
    obtain ⟨n1, n2⟩ := List.nodup_cons.1 nx
    have kids : Owns C G B H xs ws F' := nod.kids
    obtain ⟨ws', U', e1, o3, s3, d3⟩ := put_own (k := (Sum.inl i : Key)) od hl nk kids
    have dF : ∀ b ∈ fd, b ∉ F' := fun b hb z => dj b hb (List.mem_cons_of_mem _ z)
    obtain ⟨p1, p2, p3⟩ := put_kids (o' := .dK (putK (ks.zip ws) (.inl i) y)) o3 n1 dj s3 (d3 n2 nd dF)
    have kk := putD_keys (k := (Sum.inl i : Key)) (d := d) hl nk
    exact ⟨a, _, a :: U', rfl, List.mem_cons_self, ⟨a, ws', U', rfl, ⟨by rw [upd_same, e1], (ox.fp a List.mem_cons_self).2⟩, p1, rfl, trivial, kk.2, kk.1⟩, p2, p3, rfl, fun Q q => .inr ⟨a, _, rfl, DPut.k (k := .inl i) ea (by simp; omega), q⟩⟩
  · rename_i ks xs i
    split at h <;> cases h
    rename_i hh
    simp only [decide_eq_true_eq] at hh
    obtain ⟨rfl, _⟩ := ok
    obtain ⟨a, ws, F', rfl, rfl, ea, hl, nk, nod⟩ := nod_dk ox
    obtain ⟨n1, n2⟩ := List.nodup_cons.1 nx
    have kids : Owns C G B H xs ws F' := nod.kids
    obtain ⟨ws', U', e1, o3, s3, d3⟩ := put_own (k := (Sum.inr i : Key)) od hl nk kids
    have dF : ∀ b ∈ fd, b ∉ F' := fun b hb z => dj b hb (List.mem_cons_of_mem _ z)
    obtain ⟨p1, p2, p3⟩ := put_kids (o' := .dK (putK (ks.zip ws) (.inr i) y)) o3 n1 dj s3 (d3 n2 nd dF)
    have kk := putD_keys (k := (Sum.inr i : Key)) (d := d) hl nk
    exact ⟨a, _, a :: U', rfl, List.mem_cons_self, ⟨a, ws', U', rfl, ⟨by rw [upd_same, e1], (ox.fp a List.mem_cons_self).2⟩, p1, rfl, trivial, kk.2, kk.1⟩, p2, p3, rfl, fun Q q => .inr ⟨a, _, rfl, DPut.k (k := .inr i) ea (by simp; omega), q⟩⟩
  · rename_i ks xs i
    split at h <;> cases h
    rename_i hh
    simp only [decide_eq_true_eq] at hh
    obtain ⟨b, rfl, eb, _⟩ := kup_at gb bh ok
    obtain ⟨a, ws, F', rfl, rfl, ea, hl, nk, nod⟩ := nod_dt ox
    obtain ⟨n1, n2⟩ := List.nodup_cons.1 nx
    have kids : Owns C G B H xs ws F' := nod.kids
    obtain ⟨ws', U', e1, o3, s3, d3⟩ := put_own (k := i) od hl nk kids
    have dF : ∀ b ∈ fd, b ∉ F' := fun b hb z => dj b hb (List.mem_cons_of_mem _ z)
    obtain ⟨p1, p2, p3⟩ := put_kids (o' := .dT (putK (ks.zip ws) i y)) o3 n1 dj s3 (d3 n2 nd dF)
    have kk := putD_keys (k := i) (d := d) hl nk
    exact ⟨a, _, a :: U', rfl, List.mem_cons_self, ⟨a, ws', U', rfl, ⟨by rw [upd_same, e1], (ox.fp a List.mem_cons_self).2⟩, p1, rfl, trivial, kk.2, kk.1⟩, p2, p3, rfl, fun Q q => .inr ⟨a, _, rfl, DPut.t ea eb (by simp; omega), q⟩⟩
  · cases h
end
theorem getP_alive {ps : List Stp} {d x : D} (h : getP ps d = some x) (hx : isDead x = false) : isDead d = false := by
  cases ps with
  | nil => cases h; exact hx
  | cons st r =>
    cases d <;> first | rfl | skip
    unfold getP at h
    cases hst : stepG st .dead with
    | none => rw [hst] at h; cases h
    | some j => cases st <;> simp [stepG] at hst
section
variable {X : Cx} {C : Gl0} {W : WX} {Γ : Gam}
theorem swaps_attr {v o : Expr} {f : Str} {p : Pos} {l : Nat} {env : Env} : swapsWith v (some (.Attribute o f p)) l env = pure false := by
  cases v <;> rfl
theorem swaps_sub {v o i : Expr} {p : Pos} {l : Nat} {env : Env} : swapsWith v (some (.Subscript o i p)) l env = pure false := by
  cases v <;> rfl
/-- PLACE.f = e -/
theorem s_setF {p : Pl} {f : Str} {cs : List Nat} {e : E} {pe v : Expr} {p' pos : Pos} (k : CxOk C Γ X) (nf : NdOk C X (.fl f cs)) (n : AllNd C X (nP p)) (h1 : plB Γ p pe = true) (h2 : PE X v (tE C W e)) (h3 : isPl e = false) : PS X (.Assign [.Attribute pe f p'] v pos) (tS C W Γ.m (.setF p f cs e)) := by
  refine ps_imp (ps_fld (pl_ok k p pe h1 n) h2 swaps_attr) fun De σ H z => ?_
  obtain ⟨s, G, B, F, g, z⟩ := z
  unfold exS at z
  refine then_te g z fun d s1 y G1 B1 H1 F1 fd q z => ?_
  unfold upO at z
  rw [modP_eq] at z
  cases e1 : getP (plS p s1) (s1.getD (plI p) .dead) with
  | none => rw [e1] at z; exact z.elim
  | some x =>
    rw [e1] at z
    simp only [Option.bind_some] at z
    cases e2 : setFD f cs d x with
    | none => rw [e2] at z; exact z.elim
    | some x' =>
      rw [e2] at z
      replace z : outS C W Γ.m σ G B H F (.nx (s1.set (plI p) (setP (plS p s1) x' (s1.getD (plI p) .dead)))) De := z
      have nd : isDead x = false := by cases x <;> first | rfl | (simp [setFD] at e2)
      refine ⟨s1, G1, B1, F1, q.good, x, e1, nd, fun v0 v Fx Fr hv foc => ?_⟩
      obtain ⟨nx, _⟩ := foc.nd (q.good.nd (plI p))
      have fin : ∀ a ∈ Fx, a ∈ F1 (plI p) := fun a ha => (foc.mem a).2 (.inl ha)
      obtain ⟨a, c, dx, fs, Fx', rfl, ai, ea, hc, hl, o2, n2, s2, hd⟩ := setF_ok foc.own nx q.own q.nd (fun b hb z => q.np h3 b hb ⟨_, fin b z⟩) e2
      obtain ⟨F2, g2, x2⟩ := foc_upd q.good q.good foc (fun _ _ z => z) (fun _ _ z => z) (fun _ _ z => z) hv (getD_some (not_dead (getP_alive e1 nd))) ai o2 n2 s2 (q.np h3) (setP_dead e1 hd)
      exact ⟨a, _, dx, fs, rfl, ea, (nf c hc).1, (nf c hc).2, hl, z σ G1 B1 _ F2 ⟨g2, q.ext.trans x2, .refl⟩⟩
theorem pset_any (hu : X.A.units + 1 < cLine) : PSet X rSetI := by
  intro pins s σ H o i v ov iv u Q I ro ri rv h
  rcases h with h | ⟨a, H', rfl, hp, q⟩
  · exact set_list pins s σ H o i v ov iv u Q I ro ri rv h
  · obtain rfl : ov = Value.ref a := ro
    exact d_setItem hu I hp ri rv fun s' I' => ⟨H', I', q⟩
theorem ps_setI {o i value : Expr} {pos pos' : Pos} {to ti tv : TE} {t : TSet} (ho : PE X o to) (hi : PE X i ti) (hv : PE X value tv) (hs : PSet X t) : PS X (.Assign [.Subscript o i pos'] value pos) (fun D σ H => tv σ H fun v H1 => to σ H1 fun x H2 => ti σ H2 fun y H3 => t x y v H3 fun H4 => D.nx σ H4) := by
  refine ⟨fun pins s σ H D I h => wpAny_Assign_Subscript (thn (hv.run pins s σ H _ I h) fun r s1 z1 => ?_) swaps_sub⟩
  obtain ⟨v, H1, I1, rv, q1⟩ := z1
  refine thn (ho.run pins s1 σ H1 _ I1 q1) fun u s2 z2 => ?_
  obtain ⟨x, H2, I2, rx, q2⟩ := z2
  refine thn (hi.run pins s2 σ H2 _ I2 q2) fun w s3 z3 => ?_
  obtain ⟨y, H3, I3, ry, q3⟩ := z3
  refine thn (hs pins s3 σ H3 x y v u w r _ I3 rx ry rv q3) fun _ s4 z4 => ?_
  obtain ⟨H4, I4, q4⟩ := z4
  exact ⟨σ, H4, I4, q4⟩
/-- PLACE[k] = e -/
theorem s_setI {p : Pl} {ke e : E} {pe kx v : Expr} {p' pos : Pos} (k : CxOk C Γ X) (n : AllNd C X (nP p)) (h1 : plB Γ p pe = true) (h2 : PE X v (tE C W e)) (h3 : isPl e = false) (h4 : PE X kx (tE C W ke)) (h5 : eff ke = false) : PS X (.Assign [.Subscript pe kx p'] v pos) (tS C W Γ.m (.setI p ke e)) := by
  refine ps_imp (ps_setI (pl_ok k p pe h1 n) h4 h2 (pset_any (hu_of k.room))) fun De σ H z => ?_
  obtain ⟨s, G, B, F, g, z⟩ := z
  unfold exS at z
  refine then_te g z fun d s1 y G1 B1 H1 F1 fd q z => ?_
  cases e1 : getP (plS p s1) (s1.getD (plI p) .dead) with
  | none => rw [e1] at z; exact z.elim
  | some x =>
    rw [e1] at z
    replace z : outS C W Γ.m σ G B H F (if isDead x then .bad else (evE ke s1).then fun kd s2 => upO p (setID kd d) s2) De := z
    split at z
    · exact z.elim
    · rename_i nd0
      have nd : isDead x = false := by simpa using nd0
      refine ⟨s1, G1, B1, F1, q.good, x, e1, nd, fun v0 v Fx Fr hv foc => ⟨s1, G1, B1, F1, q.good, ?_⟩⟩
      cases e2 : evE ke s1 with
      | bad => rw [e2] at z; exact z
      | exc c fs xs s' => rw [e2] at z; exact outX.from q.ext (fun a z => .inl z) (outS.x z)
      | ok kd s2 =>
        rw [e2] at z
        intro w G2 B2 H2 F2 fk r
        obtain ⟨rfl, rfl, kh⟩ := r.pure h5
        replace z : outS C W Γ.m σ G B H F (upO p (setID kd d) s2) De := z
        unfold upO at z
        rw [modP_eq, e1] at z
        simp only [Option.bind_some] at z
        cases e3 : setID kd d x with
        | none => rw [e3] at z; exact z.elim
        | some x' =>
          rw [e3] at z
          replace z : outS C W Γ.m σ G B H F (.nx (s2.set (plI p) (setP (plS p s2) x' (s2.getD (plI p) .dead)))) De := z
          obtain ⟨nx, _⟩ := foc.nd (q.good.nd (plI p))
          have fin : ∀ a ∈ Fx, a ∈ F2 (plI p) := fun a ha => (foc.mem a).2 (.inl ha)
          have ox : Own C G2 B2 H2 x v Fx := foc.own.mono r.ext.g r.ext.b fun a ha => by
            refine ⟨?_, (r.good.nb (fin a ha)).2⟩
            cases e : H1 a with
            | none => exact absurd e (q.good.nb (fin a ha)).1
            | some o => exact kh a o e
          have od := r.ext.own q.own (q.np h3)
          obtain ⟨a, o', Fx', rfl, ai, o2, n2, s2', hd, hr⟩ := setI_ok r.good.gb r.good.bh ox nx r.own od q.nd (fun b hb z => q.np h3 b hb ⟨_, fin b z⟩) e3
          obtain ⟨F3, g3, x3⟩ := foc_upd q.good r.good foc r.ext.g r.ext.b kh hv (getD_some (not_dead (getP_alive e1 nd))) ai o2 n2 s2' (q.np h3) (setP_dead e1 hd)
          refine hr _ (z σ G2 B2 _ F3 ⟨g3, ?_, .refl⟩)
          refine (q.ext.trans ((r.ext.frame (R := fun a => a ∈ fd)).imp (fun _ z => z) fun a z => .inl ?_)).trans x3
          rcases z with z | z
          · exact .inl (.inl z)
          · exact .inr z
theorem app_own {d x y : D} (h : uoD .app [d] x = some y) : uoOk .app x = true := by
  cases x <;> (try (rename Fl => fl; cases fl)) <;> first | rfl | (simp [uoD] at h)
theorem app_get {d : D} : ∀ {xs ys : List D}, appAll d xs = some ys → ys.length = xs.length ∧ ∀ (j : Nat) (x : D), xs[j]? = some x → ∃ y, ys[j]? = some y ∧ uoD .app [d] x = some y
  | [], ys, h => by cases h; exact ⟨rfl, fun j x h => by simp at h⟩
  | x :: xs, ys, h => by
    unfold appAll at h
    cases e1 : uoD .app [d] x with
    | none => rw [e1] at h; cases h
    | some y =>
      rw [e1] at h
      simp only [Option.bind_some] at h
      rw [Option.map_eq_some_iff] at h
      obtain ⟨zs, e2, rfl⟩ := h
      obtain ⟨l, m⟩ := app_get e2
      refine ⟨by simp [l], fun j w hw => ?_⟩
      cases j with
      | zero => simp at hw; subst hw; exact ⟨y, rfl, e1⟩
      | succ j => simpa using m j w (by simpa using hw)
theorem mix_set {xs ys : List D} {j : Nat} {y : D} (hl : ys.length = xs.length) (hy : ys[j]? = some y) : (ys.take j ++ xs.drop j).set j y = ys.take (j + 1) ++ xs.drop (j + 1) := by
  have hj : j < ys.length := (List.getElem?_eq_some_iff.1 hy).1
  apply List.ext_getElem?
  intro n
  rw [List.getElem?_set]
  by_cases e : j = n
  · subst e
    rw [if_pos rfl, if_pos (by simp; omega), List.getElem?_append_left (by simp; omega), List.getElem?_take, if_pos (by omega), hy]
  · rw [if_neg e]
    by_cases q : n < j
    · rw [List.getElem?_append_left (by simp; omega), List.getElem?_append_left (by simp; omega), List.getElem?_take, List.getElem?_take, if_pos q, if_pos (by omega)]
    · rw [List.getElem?_append_right (by simp; omega), List.getElem?_append_right (by simp; omega), List.getElem?_drop, List.getElem?_drop]
      congr 1
      simp
      omega
theorem mix_get {xs ys : List D} {j : Nat} (hl : ys.length = xs.length) (hj : j < xs.length) : (ys.take j ++ xs.drop j)[j]? = xs[j]? := by
  rw [List.getElem?_append_right (by simp; omega), List.getElem?_drop]
  congr 1
  simp
  omega
/-- for x in xs: x.append(d) -/
theorem s_forApp {x i : Nat} {d : D} {tx ix ty m : Str} {tp ip tq ap cp p0 ep pos : Pos} {c : Const} {jn : Nat} (k : CxS C Γ X) (h1 : stB Γ x (.Name tx tp) = true) (h2 : nmB Γ i (.Name ix ip) = true) (h3 : nmB Γ x (.Name ty tq) = true) (hm : m = "append") (h5 : cstB d c = true) (hline : (ap.endLine == cp.line) = true) (hne : x ≠ i) :
    PS X (.For (.Name tx tp) (.Name ix ip) [.Expr (.Call (.Attribute (.Name ty tq) m ap) [.Constant c jn p0] [] cp) ep] [] pos) (tS C W Γ.m (.forApp x i d)) := by
  subst hm
  obtain ⟨x0, p, e0, hN, hL, hF, hmx⟩ := st_ok k.toCxOk h1
  cases e0
  obtain ⟨vd, pc, oc⟩ : ∃ vd : V, PE X (.Constant c jn p0) (tC vd) ∧ ∀ G B H, Own C G B H d vd [] := by
    unfold cstB at h5
    split at h5
    · simp only [decide_eq_true_eq] at h5; subst h5
      exact ⟨_, pe_int, fun _ _ _ => ⟨rfl, rfl⟩⟩
    · simp only [decide_eq_true_eq] at h5; subst h5
      exact ⟨_, pe_str, fun _ _ _ => ⟨rfl, rfl⟩⟩
    · have h5 := eq_of_beq h5; subst h5
      exact ⟨_, pe_bl, fun _ _ _ => ⟨rfl, rfl⟩⟩
    · exact ⟨_, pe_non, fun _ _ _ => ⟨rfl, rfl⟩⟩
    · cases h5
  refine ps_imp (ps_for k.po k.calm (pi_list (nm_pv k.toCxOk h2)) (pg_name (nd_of k.toCxOk) hN hL hF) (pss_cons (ps_expr (pe_bm PySem.F.plainAttrs_list PySem.F.slot_list_append PySem.F.type_list_append mt_append (nm_pv k.toCxOk h3) (pa_cons pc pa_nil (by rfl)) (by rfl) (by rfl) hline (by rfl) (by rfl)) (swaps_no rfl)) pss_nil) (set_folded rfl _)) fun De σ H z => ?_
  obtain ⟨s, G, B, F, g, z⟩ := z
  unfold exS at z
  cases e1 : ownLst (s.getD i .dead) with
  | none => rw [e1] at z; exact z.elim
  | some xs =>
    rw [e1] at z
    simp only [Option.bind_some] at z
    cases e2 : appAll d xs with
    | none => rw [e2] at z; exact z.elim
    | some ys =>
      rw [e2] at z
      replace z : outS C W Γ.m σ G B H F (if x < s.length then .nx ((s.set i (.lst .own ys)).set x .dead) else .bad) De := z
      split at z
      case isFalse => exact z.elim
      rename_i hxl
      have es : s.getD i .dead = .lst .own xs := by
        unfold ownLst at e1
        split at e1
        · rename_i q; rw [q]; cases e1; rfl
        · cases e1
      obtain ⟨hl, hget⟩ := app_get e2
      have nd0 : s.getD i .dead ≠ .dead := by rw [es]; exact fun z => nomatch z
      obtain ⟨v0, ev, o0⟩ := g.sl i nd0
      have hli := getD_some nd0
      rw [es] at o0
      obtain ⟨a, ws, F', rfl, eF, ea, nod⟩ := nod_lst o0
      have wl : xs.length = ws.length := Owns.length (xs := xs) nod.kids
      refine ⟨_, ev, a, rfl, ⟨ws, SqL.of ea⟩, for_list (xs := ws) (fun j σ' H' => ∃ F1, Good C G B H' F1 ((s.set i (.lst .own (ys.take j ++ xs.drop j))).set x .dead) σ' ∧ Ext G B H (inF F) G B H' (inF F1) ∧ Prot Γ.m σ σ' ∧ σ'[i]? = some (some (.ref a)) ∧ H' a = some (.lst ws)) ?_ ?_ ?_ ?_⟩
      · obtain ⟨F1, g1, k1⟩ := g.drop (i := x) (v := none)
        have e3 : s.set i (.lst .own (ys.take 0 ++ xs.drop 0)) = s := by
          rw [List.take_zero, List.drop_zero, List.nil_append, ← es, List.getD_eq_getElem?_getD, List.getElem?_eq_getElem hli]
          simp
        refine ⟨F1, ?_, (Ext.refl (P := inF F)).imp (fun _ z => z) fun a z => .inl (k1 a z), .refl, ev, ea⟩
        rw [e3]
        -- slot x is dead: what stands there is of no matter
        refine ⟨g1.gb, g1.bh, by rw [List.length_set]; exact g.len, fun j hj => ?_, g1.nf, g1.nd, g1.dj⟩
        obtain ⟨v, e, o⟩ := g1.sl j hj
        refine ⟨v, ?_, o⟩
        by_cases q : j = x
        · subst q
          rw [getD_set] at hj
          by_cases hx : j < s.length
          · rw [if_pos ⟨rfl, hx⟩] at hj; exact absurd rfl hj
          · rw [List.set_eq_of_length_le (by rw [← g.len]; omega)] at e
            exact e
        · rw [List.getElem?_set_ne (Ne.symm q)] at e
          exact e
      · rintro j σ' H' _ ⟨F1, g1, _, _, _, e⟩
        exact SqL.of e
      · rintro j w σ' H' hw ⟨F1, g1, x1, pr, ei, eh⟩
        have hj : j < xs.length := by rw [wl]; exact (List.getElem?_eq_some_iff.1 hw).1
        have hxj : xs[j]? = some xs[j] := List.getElem?_eq_getElem hj
        obtain ⟨y, hy, hu⟩ := hget j _ hxj
        have si : ((s.set i (.lst .own (ys.take j ++ xs.drop j))).set x .dead).getD i .dead = .lst .own (ys.take j ++ xs.drop j) := by
          rw [getD_set, if_neg fun z => hne z.1.symm, getD_set, if_pos ⟨rfl, hli⟩]
        obtain ⟨v1, ev1, o1⟩ := g1.sl i (by rw [si]; exact fun z => nomatch z)
        rw [ei] at ev1
        cases ev1
        rw [si] at o1
        obtain ⟨a1, ws1, F1', e4, eF1, ea1, nod1⟩ := nod_lst o1
        cases e4
        rw [eh] at ea1
        cases ea1
        have foc0 := Foc.refl o1
        obtain ⟨w2, Fk, Fr, ew2, aFr, foc⟩ := foc0.down eF1 (o1.fp a (by rw [eF1]; exact List.mem_cons_self)) nod1 (j := j) (k := xs[j]) (by show (ys.take j ++ xs.drop j)[j]? = _; rw [mix_get hl hj]; exact hxj)
        rw [hw] at ew2
        cases ew2
        obtain ⟨nx, nxr⟩ := foc.nd (g1.nd i)
        have od : Owns C G B H' [d] [vd] [] := ⟨vd, [], [], [], rfl, rfl, oc _ _ _, rfl, rfl⟩
        obtain ⟨b, o', Fx', rfl, bi, o2, n2, s2, hd, hr⟩ := uo_ok (K := X.K) g1.gb g1.bh foc.own nx od List.nodup_nil (fun _ z => nomatch z) hu
        have hl1 : i < ((s.set i (.lst .own (ys.take j ++ xs.drop j))).set x .dead).length := by simp; exact hli
        obtain ⟨F2, g2, x2⟩ := foc_upd g1 g1 foc (fun _ _ z => z) (fun _ _ z => z) (fun _ _ z => z) ei hl1 bi o2 n2 s2 (fun _ z => nomatch z) rfl
        have xl : x < σ'.length := by
          have := g1.len
          simp at this
          omega
        have ba : b ≠ a := fun z => nxr b bi (z ▸ aFr)
        have tyb : tyV X.K "list" (.ref b) H' := by
          have hu' : uoOk .app xs[j] = true := app_own hu
          exact uo_ty (o := .app) foc.own hu'
        refine ⟨.ref b, List.getElem?_set_self xl, tyb, ?_⟩
        unfold tCons tC tNil
        dsimp only
        have hr2 : ∀ Q : VK, (∀ y, Q y (upd H' b o')) → rAppend (.ref b) [vd] H' Q := hr
        refine hr2 _ fun _ => ?_
        obtain ⟨F3, g3, k3⟩ := g2.drop (i := x) (v := some (.ref b))
        refine ⟨F3, ?_, (x1.trans (x2.imp (fun _ z => z.elim id fun z => nomatch z) fun _ z => .inl z)).imp (fun _ z => z) fun a z => .inl (k3 a z), pr.trans (Prot.set hmx), by rw [List.getElem?_set_ne hne]; exact ei, by rw [upd_ne (Ne.symm ba)]; exact eh⟩
        have e5 : (((s.set i (.lst .own (ys.take j ++ xs.drop j))).set x .dead).set i (.lst .own ((ys.take j ++ xs.drop j).set j y))).set x .dead = (s.set i (.lst .own (ys.take (j + 1) ++ xs.drop (j + 1)))).set x .dead := by
          rw [mix_set hl hy, List.set_comm _ _ hne, List.set_set, List.set_set]
        rw [← e5]
        exact g3
      · rintro σ' H' ⟨F1, g1, x1, pr, _, _⟩
        refine z σ' G B H' F1 ⟨?_, x1, pr⟩
        rw [← wl, List.drop_length, List.append_nil, ← hl, List.take_length] at g1
        exact g1
end
end TT
namespace TT
open PySem PySem.Spec PyProof.Rows L2
mutual
theorem sS {C : Gl0} {Γ : Gam} : ∀ (x : S) (a : Stmt) (X : Cx) (W : WX), CxS C Γ X → Takes X W → mS Γ x a = true → AllNd C X (nS x) → PS X a (tS C W Γ.m x)
  | .asg i e, a, X, W, k, tk, h, n => by
    unfold mS at h
    split at h
    · simp only [Bool.and_eq_true, Bool.not_eq_true', Bool.or_eq_true] at h
      rcases h.2 with q | q
      · exact s_asg k.toCxOk h.1.1.1 (sE e _ Γ X W k.toCxOk tk h.1.1.2 n).1 h.1.2 q
      · unfold isLC at q
        split at q
        · exact s_asgC k.toCxOk h.1.1.1 (lcp_any k.toCxOk tk e h.1.1.2 n) h.1.2
        · cases q
    · cases h
  | .app i e, a, X, W, k, tk, h, n => by
    unfold mS at h
    split at h
    · simp only [Bool.and_eq_true, Bool.not_eq_true', decide_eq_true_eq] at h
      obtain ⟨⟨⟨⟨⟨rfl, h2⟩, h3⟩, h4⟩, h5⟩, h6⟩ := h
      exact s_app k.toCxOk h2 (sE e _ Γ X W k.toCxOk tk h3 n).1 h4 h5 h6
    · cases h
  | .par i j e f, a, X, W, k, tk, h, n => by
    unfold mS at h
    split at h
    · simp only [Bool.and_eq_true] at h
      obtain ⟨h1, h2⟩ := h
      split at h2
      · simp only [Bool.and_eq_true, Bool.not_eq_true'] at h2
        exact s_par k.toCxOk rfl h1 (sEs _ _ Γ X W k.toCxOk tk h2.1.1 n).pel h2.1.2 h2.2
      · cases h2
    · cases h
  | .asgT is e, a, X, W, k, tk, h, n => by
    unfold mS at h
    split at h
    · simp only [Bool.and_eq_true, Bool.not_eq_true'] at h
      exact s_asgT k.toCxOk h.1.1.1.1 (sE e _ Γ X W k.toCxOk tk h.1.1.1.2 n).1 h.1.1.2 h.1.2 h.2
    · cases h
  | .aug i o e, a, X, W, k, tk, h, n => by
    unfold mS at h
    split at h
    · simp only [Bool.and_eq_true, Bool.not_eq_true'] at h
      exact s_aug k.toCxOk h.1.1.1 (sE e _ Γ X W k.toCxOk tk h.1.1.2 n).1 h.1.2 h.2
    · cases h
  | .ex e, a, X, W, k, tk, h, n => by
    unfold mS at h
    split at h
    · simp only [Bool.and_eq_true] at h
      exact s_ex (sE e _ Γ X W k.toCxOk tk h.1 n).1 h.2
    · cases h
  | .ret e, a, X, W, k, tk, h, n => by
    unfold mS at h
    split at h
    · simp only [Bool.and_eq_true, Bool.not_eq_true'] at h
      exact s_ret (sE e _ Γ X W k.toCxOk tk h.1 n).1 h.2
    · cases h
  | .ift c x y, a, X, W, k, tk, h, n => by
    unfold mS at h
    split at h
    · simp only [Bool.and_eq_true] at h
      unfold nS at n
      have n1 := n.app
      have n2 := n1.2.app
      exact s_ift ((sE c _ Γ X W k.toCxOk tk h.1.1.1 n1.1).2 h.1.1.2) (sSs x _ X W k tk h.1.2 n2.1) (sSs y _ X W k tk h.2 n2.2)
    · cases h
  | .for_ t it b, a, X, W, k, tk, h, n => by
    unfold mS at h
    split at h
    · simp only [Bool.and_eq_true] at h
      unfold nS at n
      have n1 := n.app
      exact s_for k h.1.1.1 (sI k.toCxOk tk h.1.1.2 n1.1) h.1.2 (sSs b _ X W k tk h.2 n1.2)
    · cases h
  | .whl f c b, a, X, W, k, tk, h, n => by
    unfold mS at h
    split at h
    · simp only [Bool.and_eq_true] at h
      unfold nS at n
      have n1 := n.app
      exact s_whl k ((sE c _ Γ X W k.toCxOk tk h.1.1 n1.1).2 h.1.2) (sSs b _ X W k tk h.2 n1.2)
    · cases h
  | .raise0 c x, a, X, W, k, tk, h, n => by
    unfold mS at h
    split at h
    · simp only [Bool.and_eq_true, decide_eq_true_eq] at h
      obtain ⟨rfl, h2⟩ := h
      exact s_raise0 k.toCxOk tk n.1 h2
    · cases h
  | .try1 b c x tab nmi su, a, X, W, k, tk, h, n => by
    unfold mS at h
    split at h
    · simp only [Bool.and_eq_true, decide_eq_true_eq] at h
      obtain ⟨⟨⟨⟨rfl, h2⟩, h3⟩, h4⟩, h5⟩ := h
      unfold nS at n
      exact s_try k tk h2 h3 h4 n.1 fun W' pn xe tk' po' => sSs b _ (X.tr pn xe) W' (cx_tr k po') tk' h5 (all_tr n.2)
    · cases h
  | .up o p es, a, X, W, k, tk, h, n => by
    unfold mS at h
    split at h
    · simp only [Bool.and_eq_true, decide_eq_true_eq, Bool.not_eq_true', List.all_eq_true] at h
      obtain ⟨⟨⟨⟨⟨⟨rfl, h2⟩, h3⟩, h4⟩, h5⟩, h6⟩, h7⟩ := h
      unfold nS at n
      have n1 := n.app
      exact s_up k.toCxOk rfl h2 h3 h5 h6 h7 n1.1 (sEs es _ Γ X W k.toCxOk tk h4 n1.2).pel
    · cases h
  | .setF p f cs e, a, X, W, k, tk, h, n => by
    unfold mS at h
    split at h
    · simp only [Bool.and_eq_true, decide_eq_true_eq, Bool.not_eq_true'] at h
      obtain ⟨⟨⟨rfl, h2⟩, h3⟩, h4⟩ := h
      unfold nS at n
      have n1 := n.2.app
      exact s_setF k.toCxOk n.1 n1.1 h2 (sE e _ Γ X W k.toCxOk tk h3 n1.2).1 h4
    · cases h
  | .setI p ke e, a, X, W, k, tk, h, n => by
    unfold mS at h
    split at h
    · simp only [Bool.and_eq_true, Bool.not_eq_true'] at h
      obtain ⟨⟨⟨⟨⟨h1, h2⟩, h3⟩, h4⟩, h5⟩, h6⟩ := h
      unfold nS at n
      have n1 := n.app
      have n2 := n1.2.app
      exact s_setI k.toCxOk n1.1 h1 (sE e _ Γ X W k.toCxOk tk h2 n2.2).1 h3 (sE ke _ Γ X W k.toCxOk tk h4 n2.1).1 h5
    · cases h
  | .forApp x i d, a, X, W, k, tk, h, n => by
    unfold mS at h
    split at h
    · simp only [Bool.and_eq_true, decide_eq_true_eq, Bool.not_eq_true'] at h
      obtain ⟨⟨⟨⟨⟨⟨⟨h1, h2⟩, h3⟩, h4⟩, h5⟩, h6⟩, h7⟩, h8⟩ := h
      exact s_forApp k h1 h2 h3 h4 h5 h6 h7
    · cases h
  | .pass, a, X, W, k, tk, h, n => by
    unfold mS at h
    split at h
    · exact s_pass
    · cases h
  | .cont, a, X, W, k, tk, h, n => by
    unfold mS at h
    split at h
    · exact s_cont
    · cases h
theorem sSs {C : Gl0} {Γ : Gam} : ∀ (x : List S) (a : List Stmt) (X : Cx) (W : WX), CxS C Γ X → Takes X W → mSs Γ x a = true → AllNd C X (nSs x) → PSs X a (tSs C W Γ.m x)
  | [], [], X, W, k, tk, h, n => ss_nil
  | [], _ :: _, X, W, k, tk, h, n => by simp [mSs] at h
  | _ :: _, [], X, W, k, tk, h, n => by simp [mSs] at h
  | x :: xs, a :: as, X, W, k, tk, h, n => by
    simp only [mSs, Bool.and_eq_true] at h
    unfold nSs at n
    have n1 := n.app
    exact ss_cons (sS x a X W k tk h.1 n1.1) (sSs xs as X W k tk h.2 n1.2)
end
end TT
namespace TT
open PySem PySem.Spec PyProof.Rows L2
/-! ### a def of the text -/
theorem owns_at {C : Gl0} {G B H : Hp} : ∀ {ds : List D} {vs : List V} {i : Nat}, Owns C G B H ds vs [] → ∀ d, ds[i]? = some d → ∃ v, vs[i]? = some v ∧ Own C G B H d v []
  | [], _, i, _, d, h => by simp at h
  | x :: xs, vs, i, o, d, h => by
    obtain ⟨v, vr, F1, F2, rfl, e, o1, o2⟩ := o
    obtain ⟨rfl, rfl⟩ := List.append_eq_nil_iff.1 e.symm
    cases i with
    | zero => simp at h; subst h; exact ⟨v, rfl, o1⟩
    | succ i =>
      obtain ⟨w, e2, o3⟩ := owns_at (i := i) o2 d (by simpa using h)
      exact ⟨w, by simpa using e2, o3⟩
def fp1 (fs : List Addr) : Fp := fun i => if i = 0 then fs else []
theorem inF_fp1 {fs : List Addr} {a : Addr} : inF (fp1 fs) a ↔ a ∈ fs := by
  constructor
  · rintro ⟨i, h⟩
    unfold fp1 at h
    split at h
    · exact h
    · cases h
  · intro h
    exact ⟨0, h⟩
theorem getD_start {ds : List D} {n i : Nat} : (ds ++ List.replicate n D.dead).getD i .dead = ds.getD i .dead := by
  rw [List.getD_eq_getElem?_getD, List.getD_eq_getElem?_getD]
  by_cases h : i < ds.length
  · rw [List.getElem?_append_left h]
  · rw [List.getElem?_append_right (by omega), List.getElem?_eq_none (l := ds) (by omega), List.getElem?_replicate]
    split <;> rfl
/-- a def of the text as it stands behind the top; dV: its defaults -/
structure DFun (K : PySem.W.Frag) (x qual : Str) (st : Stmt) (f : Addr) (dV : Value) (fd : FuncData) : Prop where
  ex : ∃ (oc : Value) (od : Option Addr) (kV doc pm : Value) (an : Option Addr) (cdv ct : Value) (osl : Array (Option Value)),
    fd = PySem.W.fnOf x qual (defArgs st) (defBody st) (defScope st) dV kV doc pm an cdv ct ∧ K.lookup f = some ⟨oc, od, .func fd, osl⟩ ∧ PySem.W.codeIn K cdv qual = true
def scB (N P : List Str) (sc : Scope) : Bool :=
  decide (sc.kind = .function) && !sc.isCoroutine && !sc.isGenerator && decide N.Nodup && decide (N.take P.length = P) && P.all (fun x => decide (sc.names.lookup x = some .local) || decide (sc.names.lookup x = some .cell)) && sc.names.all (fun y => !decide (y.2 = .free))
theorem sc_by {N P : List Str} {sc : Scope} (h : scB N P sc = true) : FnScope N P sc := by
  unfold scB at h
  simp only [Bool.and_eq_true, Bool.not_eq_true', decide_eq_true_eq, List.all_eq_true, Bool.or_eq_true, decide_eq_false_iff_not] at h
  obtain ⟨⟨⟨⟨⟨⟨h1, h2⟩, h3⟩, h4⟩, h5⟩, h6⟩, h7⟩ := h
  exact ⟨h1, h2, h3, h4, h5, h6, h7⟩
theorem dfun_mk {K : PySem.W.Frag} {x qual : Str} {st : Stmt} {f : Addr} {oc : Value} {od an : Option Addr} {osl : Array (Option Value)} {dV kV doc pm cdv ct : Value} (l : K.lookup f = some ⟨oc, od, .func (PySem.W.fnOf x qual (defArgs st) (defBody st) (defScope st) dV kV doc pm an cdv ct), osl⟩)
    (c : PySem.W.codeIn K cdv qual = true) : DFun K x qual st f dV (PySem.W.fnOf x qual (defArgs st) (defBody st) (defScope st) dV kV doc pm an cdv ct) := ⟨⟨oc, od, kV, doc, pm, an, cdv, ct, osl, rfl, l, c⟩⟩
/-- how its arguments bind, no default -/
theorem DFun.binds {K : PySem.W.Frag} {x qual : Str} {st : Stmt} {f : Addr} {fd : FuncData} {ps : List Str} (F : DFun K x qual st f .none fd)
    (h : ∀ (kV doc pm : Value) (an : Option Addr) (cdv ct : Value) (us : List Value), us.length = ps.length → bindArgs (PySem.W.fnOf x qual (defArgs st) (defBody st) (defScope st) .none kV doc pm an cdv ct) ⟨us, []⟩ = pure (ps.zip us)) : ∀ j, Binds K fd ps (([] : List Value).drop j) := fun j => by
  obtain ⟨oc, od, kV, doc, pm, an, cdv, ct, osl, rfl, lk, hcd⟩ := F.ex
  rw [List.drop_nil]
  exact .all (h kV doc pm an cdv ct)
theorem good_start {C : Gl0} {G B H : Hp} {m : Bool} {ds : List D} {vs : List V} {fs : List Addr} {N : List Str} (gb : Sb G B) (bh : Sb B H) (h : ArgsOk C G B H m ds vs fs) (hl : vs.length ≤ N.length) : Good C G B H (fp1 fs) (ds ++ List.replicate (N.length - ds.length) .dead) (L2.start N vs) := by
  have hlen : ds.length = vs.length := by
    unfold ArgsOk at h
    split at h
    · obtain ⟨d0, dr, v0, vr, rfl, rfl, _, _, o⟩ := h
      simp [o.length]
    · exact h.1.length
  have st : ∀ {i : Nat} {v : V}, vs[i]? = some v → (L2.start N vs)[i]? = some (some v) := fun {i v} e => by
    have hi : i < vs.length := (List.getElem?_eq_some_iff.1 e).1
    unfold L2.start
    rw [List.getElem?_append_left (by simpa using hi), List.getElem?_map, e]
    rfl
  have key : ∀ i, ds.getD i .dead ≠ .dead → ∃ d, ds[i]? = some d ∧ ds.getD i .dead = d := fun i q => by
    rw [List.getD_eq_getElem?_getD] at q ⊢
    cases e : ds[i]? with
    | none => rw [e] at q; exact absurd rfl q
    | some d => exact ⟨d, rfl, rfl⟩
  refine ⟨gb, bh, ?_, fun i q => ?_, fun i q => ?_, fun i => ?_, fun i j a h1 h2 => ?_⟩
  · unfold L2.start
    simp
    omega
  · rw [getD_start] at q ⊢
    obtain ⟨d, e, e2⟩ := key i q
    rw [e2]
    unfold ArgsOk at h
    split at h
    · obtain ⟨d0, dr, v0, vr, rfl, rfl, o0, nd, o⟩ := h
      cases i with
      | zero =>
        simp at e
        subst e
        exact ⟨v0, st rfl, o0⟩
      | succ i =>
        obtain ⟨w, e3, o3⟩ := owns_at (i := i) o d (by simpa using e)
        exact ⟨w, st (by simpa using e3), o3⟩
    · obtain ⟨o, rfl⟩ := h
      obtain ⟨w, e3, o3⟩ := owns_at o d e
      refine ⟨w, st e3, ?_⟩
      have : fp1 [] i = [] := by unfold fp1; split <;> rfl
      rw [this]; exact o3
  · unfold fp1
    split
    · rename_i h0
      subst h0
      rw [getD_start] at q
      unfold ArgsOk at h
      split at h
      · obtain ⟨d0, dr, v0, vr, rfl, rfl, o0, nd, o⟩ := h
        have q : d0 = .dead := q
        subst q
        exact o0
      · exact h.2
    · rfl
  · unfold fp1
    split
    · unfold ArgsOk at h
      split at h
      · obtain ⟨d0, dr, v0, vr, rfl, rfl, o0, nd, o⟩ := h
        exact nd
      · rw [h.2]; exact List.nodup_nil
    · exact List.nodup_nil
  · unfold fp1 at h1 h2
    split at h1
    · split at h2
      · rw [‹i = 0›, ‹j = 0›]
      · cases h2
    · cases h1
/-- behind the body: the first argument -/
theorem self_ok {C : Gl0} {G B H : Hp} {m : Bool} {ds : List D} {vs : List V} {fs fr : List Addr} {N : List Str} {s' : List D} {σ' : L2.St} {G' B' H' : Hp} {F' : Fp} (h : ArgsOk C G B H m ds vs fs) (g : Good C G' B' H' F' s' σ') (p : Prot m (L2.start N vs) σ') (np : ∀ a ∈ fr, ¬ inF F' a) :
    Self C G' B' H' m (if m then s'.getD 0 .dead else .dead) vs (if m then F' 0 else []) fr := by
  unfold ArgsOk at h
  unfold Self
  cases m with
  | false => rfl
  | true =>
    simp only [if_true] at h ⊢
    obtain ⟨d0, dr, v0, vr, rfl, rfl, o0, nd, o⟩ := h
    refine ⟨⟨v0, vr, rfl, ?_⟩, g.nd 0, fun a ha z => np a z ⟨0, ha⟩⟩
    by_cases hd : s'.getD 0 .dead = .dead
    · rw [hd]; exact g.nf 0 hd
    · obtain ⟨v, e, ov⟩ := g.sl 0 hd
      have := p rfl
      rw [e] at this
      have q : (L2.start N (v0 :: vr))[0]? = some (some v0) := rfl
      rw [q] at this
      cases this
      exact ov
theorem fs_in {m : Bool} {F' : Fp} {a : Addr} (h : a ∈ (if m then F' 0 else [])) : inF F' a := by
  cases m with
  | false => cases h
  | true => exact ⟨0, h⟩
theorem def_ok {P : Program} {w : World} {K : PySem.W.Frag} {mg : Str → Option Value} {base : Heap} {C : Gl0} {f : FE} {k : Nat} {x qual : Str} {st : Stmt} {fa : Addr} {dV : Value} {fd : FuncData} {N ps bn : List Str} {b : List S} (hK : C.K = K) (F : DFun K x qual st fa dV fd)
    (hS : scB N ps (defScope st) = true) (hn : ps.length = f.np) (hm : mSs ⟨N, defScope st, bn, k, f.m, none⟩ b (defBody st) = true) (hbn : ∀ x ∈ bn, mg x = none) (hnd : ∀ Y : Cx, Y.prog = P → Y.w = w → Y.K = K → Y.mg = mg → Y.base = base → AllNd C Y (nSs b))
    (hg : ∀ ds, ds.length = f.np → f.g ds = runF N.length f.m b ds ∨ f.g ds = .bad) : FnOk P w K mg base (L2.CX P w) (k + 1) fa fd ps (spec C f) := by
  obtain ⟨oc, od, kV, doc, pm, an, cdv, ct, osl, rfl, lk, hcd⟩ := F.ex
  have S := sc_by hS
  refine fn_of lk hcd S (fun vs H Q E h => by rw [h.1, hn]) fun A outer s H vs Q E hr hsp => ?_
  have tk : Takes (cxOf (L2.CX P w) P w K mg base N qual (defScope st) fa cdv A outer s H E) (fun cls d _ H => E cls d H) := takes_of rfl rfl rfl rfl
  have ck : CxS C ⟨N, defScope st, bn, k, f.m, none⟩ (cxOf (L2.CX P w) P w K mg base N qual (defScope st) fa cdv A outer s H E) :=
    ⟨⟨hK.symm, rfl, S.nd, rfl, rfl, hr, hbn, fun _ _ _ => .inl rfl⟩, fun _ _ => .inl rfl, passes_of rfl, rfl, rfl, rfl⟩
  refine ⟨_, sSs b _ _ _ ck tk hm (hnd _ rfl rfl rfl rfl rfl), ?_⟩
  obtain ⟨hl, ds, G, B, fs, gb, bh, ha, z⟩ := hsp
  have hpl : ps.length ≤ N.length := by
    have := congrArg List.length S.pre
    rw [List.length_take] at this
    omega
  have hvl : vs.length ≤ N.length := by rw [hl, ← hn]; exact hpl
  have hdl : ds.length = f.np := by
    rw [← hl]
    unfold ArgsOk at ha
    split at ha
    · obtain ⟨d0, dr, v0, vr, rfl, rfl, _, _, o⟩ := ha
      simp [o.length]
    · exact ha.1.length
  have g := good_start (N := N) gb bh ha hvl
  refine ⟨_, G, B, _, g, ?_⟩
  rcases hg ds hdl with e | e
  · rw [e] at z
    unfold runF at z
    revert z
    cases exSs b (ds ++ List.replicate (N.length - ds.length) .dead) with
    | nx s' =>
      intro z σ' G' B' H' F' p
      refine z.2.2 .non G' B' H' [] _ (p.ext.imp (fun a q => inF_fp1.1 q) fun a q => .inl ?_) p.good.gb p.good.bh ⟨rfl, rfl⟩ List.nodup_nil (self_ok ha p.good p.pr fun _ q => nomatch q)
      rcases q with q | q
      · exact fs_in q
      · cases q
    | rt d s' =>
      intro z v σ' G' B' H' F' fd p
      replace z : outF C f.m G B H vs fs (if noBor d && !isDead d then .ok d (if f.m then s'.getD 0 .dead else .dead) else .bad) Q E := z
      split at z
      · refine z.2.2 v G' B' H' fd _ (p.ext.imp (fun a q => inF_fp1.1 q) fun a q => .inl ?_) p.good.gb p.good.bh p.own p.nd (self_ok ha p.good p.pr p.np)
        rcases q with q | q
        · exact .inl (fs_in q)
        · exact .inr q
      · exact z.elim
    | exc c xf xs s' =>
      intro z cls dd σ' G' B' H' F' p r
      exact z cls dd G' B' H' _ (p.ext.imp (fun a q => inF_fp1.1 q) fun a q => .inl (fs_in q)) p.good.gb p.good.bh r (self_ok ha p.good p.pr fun _ q => nomatch q)
    | bk s' => exact fun z => z.elim
    | ct s' => exact fun z => z.elim
    | bad => exact fun z => z.elim
  · rw [e] at z
    exact z.elim
end TT
namespace TT
open PySem PySem.Spec PyProof.Rows L2
/-! ### the end -/
theorem all_cons {α : Type} {P : α → Prop} {a : α} {l : List α} (h : P a) (t : ∀ x ∈ l, P x) : ∀ x ∈ a :: l, P x := fun x hx => by
  rcases List.mem_cons.1 hx with e | e
  · rw [e]; exact h
  · exact t x e
/-- how its arguments bind: n are written, the defaults behind the first j fill up -/
theorem DFun.bindsD {K : PySem.W.Frag} {x qual : Str} {st : Stmt} {f T : Addr} {fd : FuncData} {ps : List Str} {o : Obj} {its : List Value} {m : Nat} (F : DFun K x qual st f (.ref T) fd) (lT : K.lookup T = some o) (oT : o.data = .seq its.toArray m) (n j : Nat) (hn : n + (its.drop j).length = ps.length)
    (h : ∀ (kV doc pm : Value) (an : Option Addr) (cdv ct : Value) (us : List Value), us.length = n → ∃ k, bindArgs (PySem.W.fnOf x qual (defArgs st) (defBody st) (defScope st) (.ref T) kV doc pm an cdv ct) ⟨us, []⟩ = seqItems? (.ref T) >>= k ∧ k (some its.toArray) = pure (ps.zip (us ++ its.drop j))) : Binds K fd ps (its.drop j) := by
  obtain ⟨oc, od, kV, doc, pm, an, cdv, ct, osl, rfl, lk, hcd⟩ := F.ex
  intro s us X hlen
  have hl : us.length = n := by
    rw [List.length_append] at hlen
    omega
  obtain ⟨k, e1, e2⟩ := h kV doc pm an cdv ct us hl
  refine BindsTo.of_looks fun M => ?_
  rw [e1]
  exact looks_items X lT oT (PySem.W.Looks.of_pure e2)
/-- the law's promise -/
def spL (K : PySem.W.Frag) : Sp := fun vs H Q _ => ∃ (a : Addr) (ns : List Int), vs = [.ref a] ∧ SqL K H a (ns.map V.int) ∧ ns.length ≤ 63 ∧ ∀ H', Q (.bl true) H'
theorem spL_imp {K : PySem.W.Frag} {C : Gl0} {f : FE} (hK : C.K = K) (law : ∀ ns : List Int, ns.length ≤ 63 → f.np = 1 ∧ f.m = false ∧ f.g [.scr ns] = .ok (.bl true) .dead) : ∀ vs H Q E, spL K vs H Q E → spec C f vs H Q E := by
  rintro vs H Q E ⟨a, ns, rfl, hS, hl, q⟩
  obtain ⟨h1, h2, h3⟩ := law ns hl
  refine ⟨by rw [h1]; rfl, [.scr ns], H, H, [], Sb.refl H, Sb.refl H, ?_, ?_⟩
  · rw [h2]
    exact ⟨⟨.ref a, [], [], [], rfl, rfl, ⟨⟨a, rfl, by rw [hK]; exact hS⟩, rfl⟩, rfl, rfl⟩, rfl⟩
  · rw [h3, h2]
    refine ⟨rfl, rfl, fun v G' B' H' fr fs' _ _ _ o _ _ => ?_⟩
    obtain ⟨rfl, _⟩ := o
    exact q H'
theorem walk {l : PySem.W.OpenLaw} {q : Program} {loose : List Str} {XP : (Str → Option Value) → Heap → Prop} {YP : World → Heap → Prop} {d : DefRec} {K : Params → PySem.W.Frag} {x : Str} (hn : l.most = some 63) (hdf : d.params.defaults = [])
    (hY : ∀ (w : World) (h : Heap), YP w h → (K w.params).In h) {k : Nat} (hr : Room k callerA)
    (F : ∀ (w : World) (mg : Str → Option Value) (fa : Addr) (h : Heap), (K w.params).In h → h.Ns mainGlobals mg → mg d.name = some (.ref fa) →
      ∃ fd : FuncData, (∀ (s : Shared) (u : Value), BindsTo s fd ⟨[u], []⟩ [(x, u)]) ∧ ∀ base : Heap, (K w.params).In base → base.Ns mainGlobals mg → FnOk l.prog w (K w.params) mg base (L2.CX l.prog w) k fa fd [x] (spL (K w.params))) :
    PySem.W.WalkO q loose XP YP l.row.toRowW d [] (fun f vs => PySem.call f vs) :=
  L2.walk_of (n := 63) (k := k) (x := x) (CX := fun w => L2.CX l.prog w) (sp := fun w => spL (K w.params)) hn (by decide) hdf hr hY F (fun _ _ a ns hl _ hS => ⟨a, ns, rfl, hS, hl, fun _ => rfl⟩) fun w _ _ _ _ z => by
    obtain ⟨_, _, _, _, _, _, _, _, _, _, _, _, e⟩ := z
    exact e
theorem room_by {k : Nat} (h : callerA.handled = none ∧ callerA.depth + 3 * k + 5 < recursionLimit ∧ callerA.units + 16 * k + 200 < cLine) : Room k callerA := ⟨h.1, h.2.1, h.2.2⟩
theorem binds_d1 {K : PySem.W.Frag} {fd : FuncData} {ps : List Str} {a : Value} (b0 : Binds K fd ps [a]) (b1 : Binds K fd ps []) : ∀ j, Binds K fd ps ([a].drop j)
  | 0 => b0
  | 1 => b1
  | j + 2 => by rw [List.drop_eq_nil_of_le (by simp)]; exact b1
theorem binds_d2 {K : PySem.W.Frag} {fd : FuncData} {ps : List Str} {a b : Value} (b0 : Binds K fd ps [a, b]) (b1 : Binds K fd ps [b]) (b2 : Binds K fd ps []) : ∀ j, Binds K fd ps ([a, b].drop j)
  | 0 => b0
  | 1 => b1
  | 2 => b2
  | j + 3 => by rw [List.drop_eq_nil_of_le (by simp)]; exact b2
/-! ### fuel -/
def fuelI (i : Nat) (s : List D) : Nat := match s.getD i .dead with
  | .int n => n.toNat + 1
  | _ => 0
end TT
/-! running the tree semantics by simp -/
namespace TT
open PySem L2
@[simp] theorem kit_NoneType_bool : kitB "NoneType" "bool" = some false := by decide +kernel
@[simp] theorem kit_NoneType_int : kitB "NoneType" "int" = some false := by decide +kernel
@[simp] theorem kit_NoneType_str : kitB "NoneType" "str" = some false := by decide +kernel
@[simp] theorem kit_NoneType_tuple : kitB "NoneType" "tuple" = some false := by decide +kernel
@[simp] theorem kit_NoneType_list : kitB "NoneType" "list" = some false := by decide +kernel
@[simp] theorem kit_NoneType_dict : kitB "NoneType" "dict" = some false := by decide +kernel
@[simp] theorem kit_NoneType_ValueError : kitB "NoneType" "ValueError" = some false := by decide +kernel
@[simp] theorem kit_bool_bool : kitB "bool" "bool" = some true := by decide +kernel
@[simp] theorem kit_bool_int : kitB "bool" "int" = some true := by decide +kernel
@[simp] theorem kit_bool_str : kitB "bool" "str" = some false := by decide +kernel
@[simp] theorem kit_bool_tuple : kitB "bool" "tuple" = some false := by decide +kernel
@[simp] theorem kit_bool_list : kitB "bool" "list" = some false := by decide +kernel
@[simp] theorem kit_bool_dict : kitB "bool" "dict" = some false := by decide +kernel
@[simp] theorem kit_bool_ValueError : kitB "bool" "ValueError" = some false := by decide +kernel
@[simp] theorem kit_int_bool : kitB "int" "bool" = some false := by decide +kernel
@[simp] theorem kit_int_int : kitB "int" "int" = some true := by decide +kernel
@[simp] theorem kit_int_str : kitB "int" "str" = some false := by decide +kernel
@[simp] theorem kit_int_tuple : kitB "int" "tuple" = some false := by decide +kernel
@[simp] theorem kit_int_list : kitB "int" "list" = some false := by decide +kernel
@[simp] theorem kit_int_dict : kitB "int" "dict" = some false := by decide +kernel
@[simp] theorem kit_int_ValueError : kitB "int" "ValueError" = some false := by decide +kernel
@[simp] theorem kit_str_bool : kitB "str" "bool" = some false := by decide +kernel
@[simp] theorem kit_str_int : kitB "str" "int" = some false := by decide +kernel
@[simp] theorem kit_str_str : kitB "str" "str" = some true := by decide +kernel
@[simp] theorem kit_str_tuple : kitB "str" "tuple" = some false := by decide +kernel
@[simp] theorem kit_str_list : kitB "str" "list" = some false := by decide +kernel
@[simp] theorem kit_str_dict : kitB "str" "dict" = some false := by decide +kernel
@[simp] theorem kit_str_ValueError : kitB "str" "ValueError" = some false := by decide +kernel
@[simp] theorem kit_tuple_bool : kitB "tuple" "bool" = some false := by decide +kernel
@[simp] theorem kit_tuple_int : kitB "tuple" "int" = some false := by decide +kernel
@[simp] theorem kit_tuple_str : kitB "tuple" "str" = some false := by decide +kernel
@[simp] theorem kit_tuple_tuple : kitB "tuple" "tuple" = some true := by decide +kernel
@[simp] theorem kit_tuple_list : kitB "tuple" "list" = some false := by decide +kernel
@[simp] theorem kit_tuple_dict : kitB "tuple" "dict" = some false := by decide +kernel
@[simp] theorem kit_tuple_ValueError : kitB "tuple" "ValueError" = some false := by decide +kernel
@[simp] theorem kit_list_bool : kitB "list" "bool" = some false := by decide +kernel
@[simp] theorem kit_list_int : kitB "list" "int" = some false := by decide +kernel
@[simp] theorem kit_list_str : kitB "list" "str" = some false := by decide +kernel
@[simp] theorem kit_list_tuple : kitB "list" "tuple" = some false := by decide +kernel
@[simp] theorem kit_list_list : kitB "list" "list" = some true := by decide +kernel
@[simp] theorem kit_list_dict : kitB "list" "dict" = some false := by decide +kernel
@[simp] theorem kit_list_ValueError : kitB "list" "ValueError" = some false := by decide +kernel
@[simp] theorem kit_dict_bool : kitB "dict" "bool" = some false := by decide +kernel
@[simp] theorem kit_dict_int : kitB "dict" "int" = some false := by decide +kernel
@[simp] theorem kit_dict_str : kitB "dict" "str" = some false := by decide +kernel
@[simp] theorem kit_dict_tuple : kitB "dict" "tuple" = some false := by decide +kernel
@[simp] theorem kit_dict_list : kitB "dict" "list" = some false := by decide +kernel
@[simp] theorem kit_dict_dict : kitB "dict" "dict" = some true := by decide +kernel
@[simp] theorem kit_dict_ValueError : kitB "dict" "ValueError" = some false := by decide +kernel
@[simp] theorem lend_dead : lend .dead = .dead := id rfl
@[simp] theorem lend_non : lend .non = .non := id rfl
@[simp] theorem lend_bl {b : Bool} : lend (.bl b) = .bl b := id rfl
@[simp] theorem lend_int {b : Int} : lend (.int b) = .int b := id rfl
@[simp] theorem lend_str {b : Str} : lend (.str b) = .str b := id rfl
@[simp] theorem lend_scr {b : List Int} : lend (.scr b) = .scr b := id rfl
@[simp] theorem lend_fn {b : Nat} : lend (.fn b) = .fn b := id rfl
@[simp] theorem lend_tup {fl : Fl} {xs : List D} : lend (.tup fl xs) = .tup fl.lend (refls Fl.lend xs) := id rfl
@[simp] theorem lend_lst {fl : Fl} {xs : List D} : lend (.lst fl xs) = .lst fl.lend (refls Fl.lend xs) := id rfl
@[simp] theorem lend_dk {fl : Fl} {ks : List Key} {xs : List D} : lend (.dk fl ks xs) = .dk fl.lend ks (refls Fl.lend xs) := id rfl
@[simp] theorem lend_exn {c : Nat} {fs : List Str} {xs : List D} : lend (.exn c fs xs) = .exn c fs (refls Fl.lend xs) := id rfl
@[simp] theorem rf_dead {g : Fl → Fl} : refl g .dead = .dead := id rfl
@[simp] theorem rf_non {g : Fl → Fl} : refl g .non = .non := id rfl
@[simp] theorem rf_bl {g : Fl → Fl} {b : Bool} : refl g (.bl b) = .bl b := id rfl
@[simp] theorem rf_int {g : Fl → Fl} {b : Int} : refl g (.int b) = .int b := id rfl
@[simp] theorem rf_str {g : Fl → Fl} {b : Str} : refl g (.str b) = .str b := id rfl
@[simp] theorem rf_scr {g : Fl → Fl} {b : List Int} : refl g (.scr b) = .scr b := id rfl
@[simp] theorem rf_fn {g : Fl → Fl} {b : Nat} : refl g (.fn b) = .fn b := id rfl
@[simp] theorem rf_tup {g : Fl → Fl} {fl : Fl} {xs : List D} : refl g (.tup fl xs) = .tup (g fl) (refls g xs) := id rfl
@[simp] theorem rf_lst {g : Fl → Fl} {fl : Fl} {xs : List D} : refl g (.lst fl xs) = .lst (g fl) (refls g xs) := id rfl
@[simp] theorem rf_dk {g : Fl → Fl} {fl : Fl} {ks : List Key} {xs : List D} : refl g (.dk fl ks xs) = .dk (g fl) ks (refls g xs) := id rfl
@[simp] theorem rf_dt {g : Fl → Fl} {fl : Fl} {ks : List (List Key)} {xs : List D} : refl g (.dt fl ks xs) = .dt (g fl) ks (refls g xs) := id rfl
@[simp] theorem rf_ins {g : Fl → Fl} {fl : Fl} {c : Nat} {fs : List Str} {xs : List D} : refl g (.ins fl c fs xs) = .ins (g fl) c fs (refls g xs) := id rfl
@[simp] theorem rf_exn {g : Fl → Fl} {c : Nat} {fs : List Str} {xs : List D} : refl g (.exn c fs xs) = .exn c fs (refls g xs) := id rfl
theorem frz_of {d : D} (h : noOwn d = true) : refl Fl.frz d = d := refl_id rfl rfl h
theorem lend_of {d : D} (h : noOwn d = true) : refl Fl.lend d = d := refl_id rfl rfl h
theorem frzs_of {d : List D} (h : noOwns d = true) : refls Fl.frz d = d := refls_id rfl rfl h
theorem lends_of {d : List D} (h : noOwns d = true) : refls Fl.lend d = d := refls_id rfl rfl h
@[simp] theorem dead_refl {g : Fl → Fl} {d : D} : isDead (refl g d) = isDead d := by cases d <;> exact id rfl
@[simp] theorem own_lend' {d : D} : noOwn (refl Fl.lend d) = true := noOwn_refl lend_ne d
@[simp] theorem own_frz' {d : D} : noOwn (refl Fl.frz d) = true := noOwn_refl frz_ne d
@[simp] theorem owns_lend' {d : List D} : noOwns (refls Fl.lend d) = true := noOwns_refls lend_ne d
@[simp] theorem owns_frz' {d : List D} : noOwns (refls Fl.frz d) = true := noOwns_refls frz_ne d
@[simp] theorem bor_frz' {d : D} : noBor (refl Fl.frz d) = noBor d := noBor_frz d
@[simp] theorem bors_frz' {d : List D} : noBors (refls Fl.frz d) = noBors d := noBors_frz d
@[simp] theorem lend_lend {d : D} : refl Fl.lend (refl Fl.lend d) = refl Fl.lend d := lend_of own_lend'
@[simp] theorem lends_lends {d : List D} : refls Fl.lend (refls Fl.lend d) = refls Fl.lend d := lends_of owns_lend'
@[simp] theorem lend_frz {d : D} : refl Fl.lend (refl Fl.frz d) = refl Fl.frz d := lend_of own_frz'
@[simp] theorem lends_frzs {d : List D} : refls Fl.lend (refls Fl.frz d) = refls Fl.frz d := lends_of owns_frz'
@[simp] theorem refls_nil {g : Fl → Fl} : refls g [] = [] := id rfl
@[simp] theorem refls_cons {g : Fl → Fl} {x : D} {xs : List D} : refls g (x :: xs) = refl g x :: refls g xs := id rfl
@[simp] theorem lend_own : Fl.own.lend = .bor := id rfl
@[simp] theorem lend_bor : Fl.bor.lend = .bor := id rfl
@[simp] theorem lend_shr : Fl.shr.lend = .shr := id rfl
@[simp] theorem frz_own : Fl.own.frz = .shr := id rfl
@[simp] theorem frz_bor : Fl.bor.frz = .bor := id rfl
@[simp] theorem frz_shr : Fl.shr.frz = .shr := id rfl
@[simp] theorem Rok_bind {α β : Type} {a : α} {s : List D} {f : α → List D → R β} : (R.ok a s).bind f = f a s := id rfl
@[simp] theorem Rexc_bind {α β : Type} {c : Nat} {fs : List Str} {xs s : List D} {f : α → List D → R β} : (R.exc c fs xs s : R α).bind f = .exc c fs xs s := id rfl
@[simp] theorem Rbad_bind {α β : Type} {f : α → List D → R β} : (R.bad : R α).bind f = .bad := id rfl
@[simp] theorem Rok_then {α : Type} {a : α} {s : List D} {f : α → List D → O} : (R.ok a s).then f = f a s := id rfl
@[simp] theorem Rexc_then {α : Type} {c : Nat} {fs : List Str} {xs s : List D} {f : α → List D → O} : (R.exc c fs xs s : R α).then f = .exc c fs xs s := id rfl
@[simp] theorem Rbad_then {α : Type} {f : α → List D → O} : (R.bad : R α).then f = .bad := id rfl
@[simp] theorem Rof_some {α : Type} {a : α} {s : List D} : R.of (some a) s = .ok a s := id rfl
@[simp] theorem Onx_bind {s : List D} {f : List D → O} : (O.nx s).bind f = f s := id rfl
@[simp] theorem Oct_bind {s : List D} {f : List D → O} : (O.ct s).bind f = .ct s := id rfl
@[simp] theorem Obk_bind {s : List D} {f : List D → O} : (O.bk s).bind f = .bk s := id rfl
@[simp] theorem Ort_bind {d : D} {s : List D} {f : List D → O} : (O.rt d s).bind f = .rt d s := id rfl
@[simp] theorem Oexc_bind {c : Nat} {fs : List Str} {xs s : List D} {f : List D → O} : (O.exc c fs xs s).bind f = .exc c fs xs s := id rfl
@[simp] theorem nil_run {s : List D} : exSs [] s = .nx s := id rfl
@[simp] theorem dead_non : isDead .non = false := id rfl
@[simp] theorem dead_bl {b : Bool} : isDead (.bl b) = false := id rfl
@[simp] theorem dead_int {b : Int} : isDead (.int b) = false := id rfl
@[simp] theorem dead_str {b : Str} : isDead (.str b) = false := id rfl
@[simp] theorem dead_scr {b : List Int} : isDead (.scr b) = false := id rfl
@[simp] theorem dead_tup {fl : Fl} {xs : List D} : isDead (.tup fl xs) = false := id rfl
@[simp] theorem dead_lst {fl : Fl} {xs : List D} : isDead (.lst fl xs) = false := id rfl
@[simp] theorem dead_dk {fl : Fl} {ks : List Key} {xs : List D} : isDead (.dk fl ks xs) = false := id rfl
@[simp] theorem dead_exn {c : Nat} {fs : List Str} {xs : List D} : isDead (.exn c fs xs) = false := id rfl
@[simp] theorem dead_dead : isDead .dead = true := id rfl
@[simp] theorem own_non : noOwn .non = true := id rfl
@[simp] theorem own_bl {b : Bool} : noOwn (.bl b) = true := id rfl
@[simp] theorem own_int {b : Int} : noOwn (.int b) = true := id rfl
@[simp] theorem own_str {b : Str} : noOwn (.str b) = true := id rfl
@[simp] theorem own_scr {b : List Int} : noOwn (.scr b) = true := id rfl
@[simp] theorem own_tup {fl : Fl} {xs : List D} : noOwn (.tup fl xs) = ((fl != .own) && noOwns xs) := id rfl
@[simp] theorem own_lst {fl : Fl} {xs : List D} : noOwn (.lst fl xs) = ((fl != .own) && noOwns xs) := id rfl
@[simp] theorem owns_nil : noOwns [] = true := id rfl
@[simp] theorem owns_cons {x : D} {xs : List D} : noOwns (x :: xs) = (noOwn x && noOwns xs) := id rfl
@[simp] theorem own_dk {fl : Fl} {ks : List Key} {xs : List D} : noOwn (.dk fl ks xs) = ((fl != .own) && noOwns xs) := id rfl
@[simp] theorem own_exn_ {c : Nat} {fs : List Str} {xs : List D} : noOwn (.exn c fs xs) = noOwns xs := id rfl
@[simp] theorem bor_non : noBor .non = true := id rfl
@[simp] theorem bor_bl {b : Bool} : noBor (.bl b) = true := id rfl
@[simp] theorem bor_int {b : Int} : noBor (.int b) = true := id rfl
@[simp] theorem bor_str {b : Str} : noBor (.str b) = true := id rfl
@[simp] theorem bor_scr {b : List Int} : noBor (.scr b) = true := id rfl
@[simp] theorem bor_tup {fl : Fl} {xs : List D} : noBor (.tup fl xs) = ((fl != .bor) && noBors xs) := id rfl
@[simp] theorem bor_lst {fl : Fl} {xs : List D} : noBor (.lst fl xs) = ((fl != .bor) && noBors xs) := id rfl
@[simp] theorem bors_nil : noBors [] = true := id rfl
@[simp] theorem bors_cons {x : D} {xs : List D} : noBors (x :: xs) = (noBor x && noBors xs) := id rfl
@[simp] theorem bor_dk {fl : Fl} {ks : List Key} {xs : List D} : noBor (.dk fl ks xs) = ((fl != .bor) && noBors xs) := id rfl
@[simp] theorem bor_exn {c : Nat} {fs : List Str} {xs : List D} : noBor (.exn c fs xs) = noBors xs := id rfl
@[simp] theorem ne_ob : (Fl.own != Fl.bor) = true := id rfl
@[simp] theorem ne_sb : (Fl.shr != Fl.bor) = true := id rfl
@[simp] theorem ne_bb : (Fl.bor != Fl.bor) = false := id rfl
@[simp] theorem ne_oo : (Fl.own != Fl.own) = false := id rfl
@[simp] theorem ne_so : (Fl.shr != Fl.own) = true := id rfl
@[simp] theorem ne_bo : (Fl.bor != Fl.own) = true := id rfl
@[simp] theorem ite_ok {α : Type} {c : Prop} [Decidable c] {x y : α} {s : List D} : (if c then R.ok x s else R.ok y s) = R.ok (if c then x else y) s := by split <;> rfl
@[simp] theorem ite_blD {c : Prop} [Decidable c] {x y : Bool} : (if c then D.bl x else D.bl y) = D.bl (if c then x else y) := by split <;> rfl
/-! the equations, as rules of simp; what comes behind is a name that waits for its value -/
def kCp (d : D) (s : List D) : R D := if noOwn d then .ok d s else .bad
@[simp] theorem kCp_eq {d : D} {s : List D} : kCp d s = if noOwn d then .ok d s else .bad := id rfl
def kOp (o : Op) (ds : List D) (s : List D) : R D := R.of (opD o ds) s
@[simp] theorem kOp_eq {o : Op} {ds s : List D} : kOp o ds s = R.of (opD o ds) s := id rfl
def pickR (b : Option Bool) (x y : E) (s : List D) : R D := match b with
  | some true => evE x s
  | some false => evE y s
  | none => .bad
def kIte (a b : E) (d : D) (s : List D) : R D := pickR (truth d) a b s
@[simp] theorem kIte_eq {a b : E} {d : D} {s : List D} : kIte a b d s = pickR (truth d) a b s := id rfl
@[simp] theorem pickR_t {x y : E} {s : List D} : pickR (some true) x y s = evE x s := id rfl
@[simp] theorem pickR_f {x y : E} {s : List D} : pickR (some false) x y s = evE y s := id rfl
theorem pickR_bl {b : Bool} {x y : E} {s : List D} : pickR (some b) x y s = if b = true then evE x s else evE y s := by cases b <;> exact id rfl
def kCall (f : FE) (ds s : List D) : R D := retR s (f.g (fillD f ds))
@[simp] theorem kCall_eq {f : FE} {ds s : List D} : kCall f ds s = retR s (f.g (fillD f ds)) := id rfl
def kMk (d : D) (ds s : List D) : R (List D) := .ok (d :: ds) s
@[simp] theorem kMk_eq {d : D} {ds s : List D} : kMk d ds s = .ok (d :: ds) s := id rfl
def kCons (es : List E) (d : D) (s : List D) : R (List D) := (evEs es s).bind (kMk d)
@[simp] theorem kCons_eq {es : List E} {d : D} {s : List D} : kCons es d s = (evEs es s).bind (kMk d) := id rfl
def kAnd (es : List E) (d : D) (s : List D) : R D := match d with
  | .bl true => evAnd es s
  | .bl false => .ok (.bl false) s
  | _ => .bad
def kOr (es : List E) (d : D) (s : List D) : R D := match d with
  | .bl false => evOr es s
  | .bl true => .ok (.bl true) s
  | _ => .bad
@[simp] theorem kAnd_bl {es : List E} {s : List D} {b : Bool} : kAnd es (.bl b) s = if b = true then evAnd es s else .ok (.bl false) s := by cases b <;> exact id rfl
@[simp] theorem kOr_bl {es : List E} {s : List D} {b : Bool} : kOr es (.bl b) s = if b = true then .ok (.bl true) s else evOr es s := by cases b <;> exact id rfl
section
variable {s : List D} {e : E} {es : List E}
@[simp] theorem ev_c {d : D} : evE (.c d) s = .ok d s := by unfold evE; exact id rfl
@[simp] theorem ev_nm {i : Nat} : evE (.nm i) s = if isDead (s.getD i .dead) then .bad else .ok (s.getD i .dead) s := by unfold evE; exact id rfl
@[simp] theorem ev_mv {i : Nat} : evE (.mv i) s = if isDead (s.getD i .dead) then .bad else .ok (s.getD i .dead) (s.set i .dead) := by unfold evE; exact id rfl
@[simp] theorem ev_fz {i : Nat} : evE (.fz i) s = if isDead (s.getD i .dead) || !noBor (s.getD i .dead) then .bad else .ok (frz (s.getD i .dead)) (s.set i (frz (s.getD i .dead))) := by unfold evE; exact id rfl
@[simp] theorem ev_cp : evE (.cp e) s = (evE e s).bind kCp := by rw [evE]; exact id rfl
def kPu (s : List D) : R D → R D
  | .ok d _ => if noBor d then .ok d s else .bad
  | _ => .bad
@[simp] theorem kPu_ok {d : D} {s s1 : List D} : kPu s (.ok d s1) = if noBor d then .ok d s else .bad := id rfl
@[simp] theorem ev_pu : evE (.pu e) s = kPu s (evE e (refls Fl.lend s)) := by rw [evE]; cases evE e (refls Fl.lend s) <;> exact id rfl
def kTf (d : D) (s : List D) : R D := if noBor d then .ok (frz d) s else .bad
@[simp] theorem kTf_eq {d : D} {s : List D} : kTf d s = if noBor d then .ok (frz d) s else .bad := id rfl
@[simp] theorem ev_tf : evE (.tf e) s = (evE e s).bind kTf := by rw [evE]; exact id rfl
@[simp] theorem ev_gl {x : Str} {d : D} : evE (.gl x d) s = .ok d s := by unfold evE; exact id rfl
@[simp] theorem ev_op {o : Op} : evE (.op o es) s = (evEs es s).bind (kOp o) := by rw [evE]; exact id rfl
def kMth2 (o : Op) (d0 : D) (ds s : List D) : R D := R.of (opD o (d0 :: ds)) s
@[simp] theorem kMth2_eq {o : Op} {d0 : D} {ds s : List D} : kMth2 o d0 ds s = R.of (opD o (d0 :: ds)) s := id rfl
def kMth (o : Op) (es : List E) (d0 : D) (s : List D) : R D := if rcvOk o d0 then (evEs es s).bind (kMth2 o d0) else .bad
@[simp] theorem kMth_eq {o : Op} {es : List E} {d0 : D} {s : List D} : kMth o es d0 s = if rcvOk o d0 then (evEs es s).bind (kMth2 o d0) else .bad := id rfl
@[simp] theorem ev_mth {o : Op} {a : E} : evE (.mth o a es) s = (evE a s).bind (kMth o es) := by rw [evE]; exact id rfl
def kCh3 (o2 : Op) (y z : D) (s : List D) : R D := R.of ((ordD o2 y z).map .bl) s
@[simp] theorem kCh3_eq {o2 : Op} {y z : D} {s : List D} : kCh3 o2 y z s = R.of ((ordD o2 y z).map .bl) s := id rfl
def chO (o2 : Op) (c : E) (y : D) (s : List D) : Option Bool → R D
  | some true => (evE c s).bind (kCh3 o2 y)
  | some false => .ok (.bl false) s
  | none => .bad
@[simp] theorem chO_some {o2 : Op} {c : E} {y : D} {s : List D} {b : Bool} : chO o2 c y s (some b) = if b = true then (evE c s).bind (kCh3 o2 y) else .ok (.bl false) s := by cases b <;> exact id rfl
def kCh2 (o1 o2 : Op) (c : E) (x y : D) (s : List D) : R D := chO o2 c y s (ordD o1 x y)
@[simp] theorem kCh2_eq {o1 o2 : Op} {c : E} {x y : D} {s : List D} : kCh2 o1 o2 c x y s = chO o2 c y s (ordD o1 x y) := id rfl
def kCh1 (o1 o2 : Op) (b c : E) (x : D) (s : List D) : R D := (evE b s).bind (kCh2 o1 o2 c x)
@[simp] theorem kCh1_eq {o1 o2 : Op} {b c : E} {x : D} {s : List D} : kCh1 o1 o2 b c x s = (evE b s).bind (kCh2 o1 o2 c x) := id rfl
@[simp] theorem ev_chain {o1 o2 : Op} {a b c : E} : evE (.chain o1 o2 a b c) s = (evE a s).bind (kCh1 o1 o2 b c) := by
  rw [evE]
  congr 1
@[simp] theorem ord_lt {i j : Int} : ordD .lt (.int i) (.int j) = some (decide (i < j)) := id rfl
@[simp] theorem ord_le {i j : Int} : ordD .le (.int i) (.int j) = some (decide (i ≤ j)) := id rfl
@[simp] theorem ord_gt {i j : Int} : ordD .gt (.int i) (.int j) = some (decide (j < i)) := id rfl
@[simp] theorem ord_ge {i j : Int} : ordD .ge (.int i) (.int j) = some (decide (j ≤ i)) := id rfl
@[simp] theorem rcv_part {a : Str} : rcvOk .part (.str a) = true := id rfl
@[simp] theorem rcv_find {a : Str} : rcvOk .find (.str a) = true := id rfl
@[simp] theorem rcv_join {a : Str} : rcvOk .join (.str a) = true := id rfl
@[simp] theorem ev_band : evE (.band es) s = evAnd es s := by rw [evE]
@[simp] theorem ev_bor : evE (.bor es) s = evOr es s := by rw [evE]
@[simp] theorem ev_ite {c a b : E} : evE (.ite c a b) s = (evE c s).bind (kIte a b) := by rw [evE]; exact id rfl
@[simp] theorem retR_ok {r d : D} : retR s (.ok r d) = if noBor r && !isDead r then .ok r s else .bad := id rfl
@[simp] theorem retR_exc {c : Nat} {fs : List Str} {xs : List D} {d : D} : retR s (.exc c fs xs d) = .exc c fs xs s := id rfl
@[simp] theorem ev_call {f : FE} : evE (.call f es) s = (evEs es s).bind (kCall f) := by rw [evE]; exact id rfl
@[simp] theorem evs_nil : evEs [] s = .ok [] s := by unfold evEs; exact id rfl
@[simp] theorem evs_cons : evEs (e :: es) s = (evE e s).bind (kCons es) := by rw [evEs]; exact id rfl
@[simp] theorem and_one : evAnd [e] s = evE e s := by rw [evAnd]
@[simp] theorem and_cons {f : E} : evAnd (e :: f :: es) s = (evE e s).bind (kAnd (f :: es)) := by rw [evAnd]; rfl; simp
@[simp] theorem or_one : evOr [e] s = evE e s := by rw [evOr]
@[simp] theorem or_cons {f : E} : evOr (e :: f :: es) s = (evE e s).bind (kOr (f :: es)) := by rw [evOr]; rfl; simp
end
/-! statements -/
def kAsg (i : Nat) (d : D) (s : List D) : O := .nx (s.set i d)
@[simp] theorem kAsg_eq {i : Nat} {d : D} {s : List D} : kAsg i d s = .nx (s.set i d) := id rfl
def kPar (i j : Nat) (ds s : List D) : O := match ds with
  | [x, y] => .nx ((s.set i x).set j y)
  | _ => .bad
@[simp] theorem kPar_two {i j : Nat} {x y : D} {s : List D} : kPar i j [x, y] s = .nx ((s.set i x).set j y) := id rfl
def kApp (i : Nat) (d : D) (s : List D) : O := match appD (s.getD i .dead) d with
  | some r => .nx (s.set i r)
  | none => .bad
@[simp] theorem appD_own {xs : List D} {d : D} : appD (.lst .own xs) d = if noBor d && !isDead d && decide (xs.length < sizeLine) then some (.lst .own (xs ++ [d])) else none := id rfl
@[simp] theorem isLst_l {fl : Fl} {xs : List D} : isLst (.lst fl xs) = true := id rfl
def optO (o : Option (List D)) : O := match o with
  | some s => .nx s
  | none => .bad
@[simp] theorem optO_some {s : List D} : optO (some s) = .nx s := id rfl
def kAsgT (is : List Nat) (d : D) (s : List D) : O := optO (tgSet (.tup is) d s)
@[simp] theorem kApp_eq {i : Nat} {d : D} {s : List D} : kApp i d s = optO ((appD (s.getD i .dead) d).map (s.set i)) := by
  unfold kApp
  cases appD (s.getD i .dead) d <;> exact id rfl
@[simp] theorem kAsgT_eq {is : List Nat} {d : D} {s : List D} : kAsgT is d s = optO (tgSet (.tup is) d s) := id rfl
def kAug (i : Nat) (o : Op) (d : D) (s : List D) : O := optO ((augD o (s.getD i .dead) d).map fun r => s.set i r)
@[simp] theorem kAug_eq {i : Nat} {o : Op} {d : D} {s : List D} : kAug i o d s = optO ((augD o (s.getD i .dead) d).map fun r => s.set i r) := id rfl
def kEx (d : D) (s : List D) : O := .nx s
@[simp] theorem kEx_eq {d : D} {s : List D} : kEx d s = .nx s := id rfl
def kRet (d : D) (s : List D) : O := .rt d s
@[simp] theorem kRet_eq {d : D} {s : List D} : kRet d s = .rt d s := id rfl
def pickO (b : Option Bool) (x y : List S) (s : List D) : O := match b with
  | some true => exSs x s
  | some false => exSs y s
  | none => .bad
@[simp] theorem pickO_t {x y : List S} {s : List D} : pickO (some true) x y s = exSs x s := id rfl
@[simp] theorem pickO_f {x y : List S} {s : List D} : pickO (some false) x y s = exSs y s := id rfl
theorem pickO_bl {b : Bool} {x y : List S} {s : List D} : pickO (some b) x y s = if b = true then exSs x s else exSs y s := by cases b <;> exact id rfl
def kIf (a b : List S) (d : D) (s : List D) : O := pickO (truth d) a b s
@[simp] theorem kIf_eq {a b : List S} {d : D} {s : List D} : kIf a b d s = pickO (truth d) a b s := id rfl
def bodyO (t : Tg) (b : List S) (d : D) (s : List D) : O := match tgSet t d s with
  | some s' => exSs b s'
  | none => .bad
@[simp] theorem bodyO_nm {i : Nat} {b : List S} {d : D} {s : List D} : bodyO (.nm i) b d s = exSs b (s.set i d) := id rfl
def kFor (t : Tg) (b : List S) (xs s : List D) : O := loopF (bodyO t b) xs s
@[simp] theorem kFor_eq {t : Tg} {b : List S} {xs s : List D} : kFor t b xs s = loopF (bodyO t b) xs s := id rfl
def tryO (tab : List (Nat × Bool)) (nmi : Option Nat) (su : Su) : O → O
  | .exc c fs xs s1 => match tab.lookup c with
      | some true => .nx (match nmi with | some i => (suD su c fs xs s1).set i .dead | none => suD su c fs xs s1)
      | some false => .exc c fs xs s1
      | none => .bad
  | o => o
section
variable {s : List D} {e : E} {es : List E} {x : S} {xs : List S}
@[simp] theorem run_cons : exSs (x :: xs) s = (exS x s).bind (exSs xs) := by rw [exSs]
@[simp] theorem run_asg {i : Nat} : exS (.asg i e) s = (evE e s).then (kAsg i) := by rw [exS]; exact id rfl
@[simp] theorem run_par {i j : Nat} {a b : E} : exS (.par i j a b) s = (evEs [a, b] s).then (kPar i j) := by rw [exS]; exact id rfl
@[simp] theorem run_asgT {is : List Nat} : exS (.asgT is e) s = (evE e s).then (kAsgT is) := by rw [exS]; exact id rfl
@[simp] theorem run_aug {i : Nat} {o : Op} : exS (.aug i o e) s = if isDead (s.getD i .dead) then .bad else (evE e s).then (kAug i o) := by
  rw [exS]
  split
  · rfl
  · congr 1
    funext d s1
    unfold kAug
    cases augD o (s1.getD i .dead) d <;> rfl
@[simp] theorem run_app {i : Nat} : exS (.app i e) s = if isLst (s.getD i .dead) then (evE e s).then (kApp i) else .bad := by rw [exS]; exact id rfl
@[simp] theorem run_ex : exS (.ex e) s = (evE e s).then kEx := by rw [exS]; exact id rfl
@[simp] theorem run_ret : exS (.ret e) s = (evE e s).then kRet := by rw [exS]; exact id rfl
@[simp] theorem run_ift {c : E} {a b : List S} : exS (.ift c a b) s = (evE c s).then (kIf a b) := by rw [exS]; exact id rfl
@[simp] theorem run_for {t : Tg} {it : It} {b : List S} : exS (.for_ t it b) s = (evIt it s).then (kFor t b) := by rw [exS]; exact id rfl
@[simp] theorem run_whl {fuel : List D → Nat} {c : E} {b : List S} : exS (.whl fuel c b) s = loopW (evE c) (exSs b) (fuel s) s := by rw [exS]
@[simp] theorem run_raise {c : Nat} {x : Str} : exS (.raise0 c x) s = .exc c [] [] s := by rw [exS]
@[simp] theorem run_pass : exS .pass s = .nx s := by rw [exS]
@[simp] theorem run_cont : exS .cont s = .ct s := by rw [exS]
@[simp] theorem run_try {b : List S} {c : Nat} {x : Str} {tab : List (Nat × Bool)} {nmi : Option Nat} {su : Su} : exS (.try1 b c x tab nmi su) s = tryO tab nmi su (exSs b s) := by rw [exS]; exact id rfl
@[simp] theorem tryO_nx {tab : List (Nat × Bool)} {nmi : Option Nat} {su : Su} : tryO tab nmi su (.nx s) = .nx s := id rfl
@[simp] theorem tryO_rt {d : D} {tab : List (Nat × Bool)} {nmi : Option Nat} {su : Su} : tryO tab nmi su (.rt d s) = .rt d s := id rfl
@[simp] theorem tryO_exc {c : Nat} {fs : List Str} {xs : List D} {tab : List (Nat × Bool)} {nmi : Option Nat} {su : Su} : tryO tab nmi su (.exc c fs xs s) = match tab.lookup c with
      | some true => .nx (match nmi with | some i => (suD su c fs xs s).set i .dead | none => suD su c fs xs s)
      | some false => .exc c fs xs s
      | none => .bad := rfl
end
@[simp] theorem truth_bl {b : Bool} : truth (.bl b) = some b := id rfl
section
variable {s : List D}
theorem fill_eq {f : FE} {ds l : List D} (h : fillD f ds = l) : fillD f ds = l := h
/-! a def's end -/
def endF (m : Bool) : O → FR
  | .nx s => .ok .non (if m then s.getD 0 .dead else .dead)
  | .rt d s => if noBor d && !isDead d then .ok d (if m then s.getD 0 .dead else .dead) else .bad
  | .exc c fs xs s => .exc c fs xs (if m then s.getD 0 .dead else .dead)
  | _ => .bad
theorem runF_eq {n : Nat} {m : Bool} {b : List S} {ds : List D} : runF n m b ds = endF m (exSs b (ds ++ List.replicate (n - ds.length) .dead)) := by unfold runF; exact id rfl
@[simp] theorem endF_nx {m : Bool} : endF m (.nx s) = .ok .non (if m then s.getD 0 .dead else .dead) := id rfl
@[simp] theorem endF_rt {m : Bool} {d : D} : endF m (.rt d s) = if noBor d && !isDead d then .ok d (if m then s.getD 0 .dead else .dead) else .bad := id rfl
@[simp] theorem endF_exc {m : Bool} {c : Nat} {fs : List Str} {xs : List D} : endF m (.exc c fs xs s) = .exc c fs xs (if m then s.getD 0 .dead else .dead) := id rfl
end
/-! operations -/
@[simp] theorem opD_isi {t : Ty} {x : Str} {tab tabI : List (Nat × Bool)} {d : D} : opD (.isi t x tab tabI) [d] = (isiD t tab tabI d).map .bl := id rfl
@[simp] theorem isi_b_non {n : String} {tab tabI : List (Nat × Bool)} : isiD (.b n) tab tabI .non = kitB "NoneType" n := id rfl
@[simp] theorem isi_b_bl {n : String} {tab tabI : List (Nat × Bool)} {b : Bool} : isiD (.b n) tab tabI (.bl b) = kitB "bool" n := id rfl
@[simp] theorem isi_b_int {n : String} {tab tabI : List (Nat × Bool)} {b : Int} : isiD (.b n) tab tabI (.int b) = kitB "int" n := id rfl
@[simp] theorem isi_b_str {n : String} {tab tabI : List (Nat × Bool)} {b : Str} : isiD (.b n) tab tabI (.str b) = kitB "str" n := id rfl
@[simp] theorem isi_b_tup {n : String} {tab tabI : List (Nat × Bool)} {fl : Fl} {xs : List D} : isiD (.b n) tab tabI (.tup fl xs) = kitB "tuple" n := id rfl
@[simp] theorem isi_b_lst {n : String} {tab tabI : List (Nat × Bool)} {fl : Fl} {xs : List D} : isiD (.b n) tab tabI (.lst fl xs) = kitB "list" n := id rfl
@[simp] theorem isi_b_dk {n : String} {tab tabI : List (Nat × Bool)} {fl : Fl} {ks : List Key} {xs : List D} : isiD (.b n) tab tabI (.dk fl ks xs) = kitB "dict" n := id rfl
@[simp] theorem isi_exn {t : Ty} {tab tabI : List (Nat × Bool)} {c : Nat} : isiD t tab tabI (.exn c [] []) = tab.lookup c := id rfl
@[simp] theorem isi_c_non {n : Nat} {tab tabI : List (Nat × Bool)} : isiD (.c n) tab tabI .non = some false := id rfl
@[simp] theorem isi_c_bl {n : Nat} {tab tabI : List (Nat × Bool)} {b : Bool} : isiD (.c n) tab tabI (.bl b) = some false := id rfl
@[simp] theorem isi_c_int {n : Nat} {tab tabI : List (Nat × Bool)} {b : Int} : isiD (.c n) tab tabI (.int b) = some false := id rfl
@[simp] theorem isi_c_str {n : Nat} {tab tabI : List (Nat × Bool)} {b : Str} : isiD (.c n) tab tabI (.str b) = some false := id rfl
@[simp] theorem isi_c_tup {n : Nat} {tab tabI : List (Nat × Bool)} {fl : Fl} {xs : List D} : isiD (.c n) tab tabI (.tup fl xs) = some false := id rfl
@[simp] theorem isi_c_lst {n : Nat} {tab tabI : List (Nat × Bool)} {fl : Fl} {xs : List D} : isiD (.c n) tab tabI (.lst fl xs) = some false := id rfl
@[simp] theorem opD_not {b : Bool} : opD .not [.bl b] = some (.bl (!b)) := id rfl
@[simp] theorem opD_add {i j : Int} : opD .add [.int i, .int j] = some (.int (i + j)) := id rfl
@[simp] theorem opD_sub {i j : Int} : opD .sub [.int i, .int j] = some (.int (i - j)) := id rfl
@[simp] theorem opD_mul {i j : Int} : opD .mul [.int i, .int j] = if mulOk i j = true then some (.int (i * j)) else none := id rfl
@[simp] theorem opD_fdiv {i j : Int} : opD .fdiv [.int i, .int j] = if 0 < j ∧ j.natAbs.log2 < 9000 then some (.int (i / j)) else none := id rfl
@[simp] theorem opD_mod {i j : Int} : opD .mod [.int i, .int j] = if 0 < j then some (.int (i % j)) else none := id rfl
@[simp] theorem opD_neg {i : Int} : opD .neg [.int i] = some (.int (-i)) := id rfl
@[simp] theorem opD_lt {i j : Int} : opD .lt [.int i, .int j] = some (.bl (decide (i < j))) := id rfl
@[simp] theorem opD_le {i j : Int} : opD .le [.int i, .int j] = some (.bl (decide (i ≤ j))) := id rfl
@[simp] theorem opD_gt {i j : Int} : opD .gt [.int i, .int j] = some (.bl (decide (j < i))) := id rfl
@[simp] theorem opD_ge {i j : Int} : opD .ge [.int i, .int j] = some (.bl (decide (j ≤ i))) := id rfl
theorem datOk_int {i : Int} : datOk (.int i) = true := rfl
theorem datOk_bl {i : Bool} : datOk (.bl i) = true := rfl
@[simp] theorem opD_eqII {i j : Int} : opD .eq [.int i, .int j] = some (.bl (i == j)) := id rfl
@[simp] theorem opD_neII {i j : Int} : opD .ne [.int i, .int j] = some (.bl (!(i == j))) := id rfl
@[simp] theorem opD_tup {xs : List D} : opD .tup xs = newTup xs := id rfl
@[simp] theorem opD_lst {xs : List D} : opD .lst xs = newLst xs := id rfl
@[simp] theorem opD_dnk : opD .dnk [] = some (.dk .own [] []) := id rfl
@[simp] theorem opD_ix {x y : D} : opD .ix [x, y] = (ixD x y).bind live := id rfl
@[simp] theorem opD_len {x : D} : opD .len [x] = lenD x := id rfl
@[simp] theorem opD_max {i j : Int} : opD .max2 [.int i, .int j] = some (.int (if j > i then j else i)) := id rfl
@[simp] theorem opD_min {i j : Int} : opD .min2 [.int i, .int j] = some (.int (if j < i then j else i)) := id rfl
@[simp] theorem opD_intI {i : Int} : opD .int [.int i] = some (.int i) := id rfl
@[simp] theorem opD_intB {b : Bool} : opD .int [.bl b] = some (.int (if b then 1 else 0)) := id rfl
@[simp] theorem opD_isN {x : D} : opD .isN [x] = noneD false x := id rfl
@[simp] theorem opD_notN {x : D} : opD .notN [x] = noneD true x := id rfl
@[simp] theorem opD_eqD {x y : D} : opD .eq [x, y] = eqD x y := id rfl
@[simp] theorem opD_neD {x y : D} : opD .ne [x, y] = neD x y := id rfl
@[simp] theorem opD_addD {x y : D} : opD .add [x, y] = addD x y := id rfl
@[simp] theorem eqD_ii {i j : Int} : eqD (.int i) (.int j) = some (.bl (i == j)) := id rfl
@[simp] theorem neD_ii {i j : Int} : neD (.int i) (.int j) = some (.bl (!(i == j))) := id rfl
@[simp] theorem addD_ii {i j : Int} : addD (.int i) (.int j) = some (.int (i + j)) := id rfl
theorem atI_nn {α : Type} {xs : List α} {i : Int} (h0 : 0 ≤ i) (h : i < xs.length) : atI xs i = xs[i.toNat]? := by
  unfold atI ixN
  rw [if_pos h0, if_pos h]
  rfl
theorem atI_nat {α : Type} {xs : List α} {n : Nat} (h : n < xs.length) : atI xs (n : Int) = some xs[n] := by
  rw [atI_nn (by omega) (by omega)]
  simp [h]
@[simp] theorem atI_0 {α : Type} {x : α} {xs : List α} : atI (x :: xs) 0 = some x := by
  rw [atI_nn (by omega) (by simp <;> omega)]; rfl
@[simp] theorem atI_1 {α : Type} {x y : α} {xs : List α} : atI (x :: y :: xs) 1 = some y := by
  rw [atI_nn (by omega) (by simp <;> omega)]; rfl
@[simp] theorem atI_2 {α : Type} {x y z : α} {xs : List α} : atI (x :: y :: z :: xs) 2 = some z := by
  rw [atI_nn (by omega) (by simp <;> omega)]; rfl
@[simp] theorem ixD_tup {fl : Fl} {xs : List D} {i : Int} : ixD (.tup fl xs) (.int i) = atI xs i := id rfl
@[simp] theorem ixD_lst {fl : Fl} {xs : List D} {i : Int} : ixD (.lst fl xs) (.int i) = atI xs i := id rfl
@[simp] theorem ixD_scr {xs : List Int} {i : Int} : ixD (.scr xs) (.int i) = (atI xs i).map .int := id rfl
@[simp] theorem lenD_tup {fl : Fl} {xs : List D} : lenD (.tup fl xs) = some (.int xs.length) := id rfl
@[simp] theorem lenD_lst {fl : Fl} {xs : List D} : lenD (.lst fl xs) = some (.int xs.length) := id rfl
@[simp] theorem lenD_scr {xs : List Int} : lenD (.scr xs) = some (.int xs.length) := id rfl
/-! walks -/
def kIt (k : ItK) (ds s : List D) : R (List D) := R.of (itD k ds) s
@[simp] theorem kIt_eq {k : ItK} {ds s : List D} : kIt k ds s = R.of (itD k ds) s := id rfl
@[simp] theorem it_run {k : ItK} {es : List E} {s : List D} : evIt ⟨k, es⟩ s = (evEs es s).bind (kIt k) := id rfl
@[simp] theorem it_seq {x : D} : itD .seq [x] = seqD x := id rfl
@[simp] theorem it_rng1 {i : Int} : itD .rng1 [.int i] = if small62 i then some (rngD 0 i.toNat 1) else none := id rfl
@[simp] theorem it_rng2 {i j : Int} : itD .rng2 [.int i, .int j] = if small62 i && small62 j then some (rngD i (j - i).toNat 1) else none := id rfl
@[simp] theorem it_rng3 {i j k : Int} : itD .rng3 [.int i, .int j, .int k] = if small62 i && small62 j && decide (0 < k) && decide (k < 1073741824) then some (rngD i ((j - i + (k - 1)) / k).toNat k) else none := id rfl
@[simp] theorem it_enum {x : D} : itD .enum [x] = enumD x := id rfl
@[simp] theorem it_zip {x y : D} : itD .zip [x, y] = zipD x y := id rfl
@[simp] theorem zsD_lst {fl : Fl} {xs : List D} : zsD (.lst fl xs) = lstD (.lst fl xs) := id rfl
@[simp] theorem zsD_tup {fl : Fl} {xs : List D} : zsD (.tup fl xs) = if fl != .own && noOwns xs && xs.all (fun x => !isDead x) then some xs else none := id rfl
@[simp] theorem zsD_ktup {ks : List Key} : zsD (.ktup ks) = some (ks.map keyD) := id rfl
/-! comprehensions -/
def compO (own : List Nat) (t : Tg) (co : List E) (elt : E) (s : List D) : Option (List D) → R D
  | some xs => if chk own s then compE own s (loopC own (stepC t co elt) xs (clr own s)) else .bad
  | none => .bad
def kComp (own : List Nat) (t : Tg) (k : ItK) (co : List E) (elt : E) (ds s : List D) : R D := compO own t co elt s (itD k ds)
@[simp] theorem kComp_eq {own : List Nat} {t : Tg} {k : ItK} {co : List E} {elt : E} {ds s : List D} : kComp own t k co elt ds s = compO own t co elt s (itD k ds) := id rfl
@[simp] theorem ev_comp {own : List Nat} {t : Tg} {k : ItK} {es co : List E} {elt : E} {s : List D} : evE (.comp own t k es co elt) s = (evEs es s).bind (kComp own t k co elt) := by
  rw [evE]
  congr 1
theorem rst_clr {own : List Nat} {s : List D} : rst s own (clr own s) = s := by
  apply List.ext_getElem (by rw [rst_len, clr_len])
  intro n h1 h2
  have e : (rst s own (clr own s)).getD n .dead = s.getD n .dead := by
    rw [rst_get s _ (clr_len s own)]
    split
    · rfl
    · rw [clr_get, if_neg ‹_›]
  simpa [List.getD_eq_getElem?_getD, List.getElem?_eq_getElem, h1, h2] using e
/-- a comprehension whose turns change nothing -/
theorem loopC_run {own : List Nat} {f : D → List D → R (Option D)} {s : List D} (g : D → Option D) : ∀ {xs : List D}, (∀ d ∈ xs, ∃ s', f d s = .ok (g d) s' ∧ chk own s' = true ∧ clr own s' = s) → loopC own f xs s = .ok (xs.filterMap g) s
  | [], _ => rfl
  | d :: xs, h => by
    obtain ⟨s', e, c, q⟩ := h d List.mem_cons_self
    have ih := loopC_run g fun d hd => h d (List.mem_cons_of_mem _ hd)
    rw [loopC_cons, e]
    cases e2 : g d with
    | none =>
      show (if chk own s' then loopC own f xs (clr own s') else .bad) = _
      rw [c, q, ih, List.filterMap_cons, e2]; rfl
    | some y =>
      show (if chk own s' then (loopC own f xs (clr own s')).bind fun ys s2 => .ok (y :: ys) s2 else .bad) = _
      rw [c, q, ih, List.filterMap_cons, e2]; rfl
theorem comp_run {own : List Nat} {t : Tg} {co : List E} {elt : E} {s xs : List D} (g : D → Option D) (hc : chk own s = true) (h : ∀ d ∈ xs, ∃ s', stepC t co elt d (clr own s) = .ok (g d) s' ∧ chk own s' = true ∧ clr own s' = clr own s)
    (hk : goodKids (xs.filterMap g) = true) (hl : (xs.filterMap g).length ≤ sizeLine) : compO own t co elt s (some xs) = .ok (.lst .own (xs.filterMap g)) s := by
  show (if chk own s then compE own s (loopC own (stepC t co elt) xs (clr own s)) else .bad) = _
  rw [hc, loopC_run g h]
  show (if goodKids (xs.filterMap g) && decide ((xs.filterMap g).length ≤ sizeLine) then R.ok (D.lst .own (xs.filterMap g)) (rst s own (clr own s)) else R.bad) = _
  rw [hk, rst_clr]
  simp only [Bool.true_and, decide_eq_true_eq, if_pos hl]
/-- .. all kept -/
theorem comp_map {own : List Nat} {t : Tg} {co : List E} {elt : E} {s xs : List D} (g : D → D) (hc : chk own s = true) (h : ∀ d ∈ xs, ∃ s', stepC t co elt d (clr own s) = .ok (some (g d)) s' ∧ chk own s' = true ∧ clr own s' = clr own s)
    (hk : goodKids (xs.map g) = true) (hl : xs.length ≤ sizeLine) : compO own t co elt s (some xs) = .ok (.lst .own (xs.map g)) s := by
  have e : xs.filterMap (fun d => some (g d)) = xs.map g := by rw [List.filterMap_eq_map']
  have := comp_run (own := own) (t := t) (co := co) (elt := elt) (s := s) (xs := xs) (fun d => some (g d)) hc h (by rw [e]; exact hk) (by rw [e, List.length_map]; exact hl)
  rw [e] at this
  exact this
@[simp] theorem clr_nil {s : List D} : clr [] s = s := id rfl
@[simp] theorem clr_cons {i : Nat} {is : List Nat} {s : List D} : clr (i :: is) s = (clr is s).set i .dead := id rfl
@[simp] theorem chk_nil {s : List D} : chk [] s = true := id rfl
@[simp] theorem chk_cons {i : Nat} {is : List Nat} {s : List D} : chk (i :: is) s = (noOwn (s.getD i .dead) && chk is s) := id rfl
def kSt (elt : E) (b : Bool) (s : List D) : R (Option D) := if b then (evE elt s).bind fun y s4 => .ok (some y) s4 else .ok none s
def stepO (co : List E) (elt : E) : Option (List D) → R (Option D)
  | some s => (evTs co s).bind (kSt elt)
  | none => .bad
theorem step_eq {t : Tg} {co : List E} {elt : E} {d : D} {s : List D} : stepC t co elt d s = stepO co elt (tgSet t d s) := by
  unfold stepC
  cases tgSet t d s <;> rfl
@[simp] theorem stepO_some {co : List E} {elt : E} {s : List D} : stepO co elt (some s) = (evTs co s).bind (kSt elt) := id rfl
@[simp] theorem tgSet_nm {i : Nat} {d : D} {s : List D} : tgSet (.nm i) d s = some (s.set i d) := id rfl
@[simp] theorem tgSet_tup {is : List Nat} {fl : Fl} {xs s : List D} : tgSet (.tup is) (.tup fl xs) s = setAll is xs s := id rfl
@[simp] theorem setAll_nil {s : List D} : setAll [] [] s = some s := id rfl
@[simp] theorem setAll_cons {i : Nat} {is : List Nat} {x : D} {xs s : List D} : setAll (i :: is) (x :: xs) s = setAll is xs (s.set i x) := id rfl
def kSome (y : D) (s : List D) : R (Option D) := .ok (some y) s
@[simp] theorem kSome_eq {y : D} {s : List D} : kSome y s = .ok (some y) s := id rfl
@[simp] theorem kSt_t {elt : E} {s : List D} : kSt elt true s = (evE elt s).bind kSome := id rfl
@[simp] theorem kSt_f {elt : E} {s : List D} : kSt elt false s = .ok none s := id rfl
@[simp] theorem ts_nil {s : List D} : evTs [] s = .ok true s := by unfold evTs; exact id rfl
def kTst (d : D) (s : List D) : R Bool := match truth d with
  | some b => .ok b s
  | none => .bad
@[simp] theorem kTst_bl {b : Bool} {s : List D} : kTst (.bl b) s = .ok b s := id rfl
@[simp] theorem ts_one {e : E} {s : List D} : evTs [e] s = (evE e s).bind kTst := by unfold evTs; exact id rfl
theorem rngD_mem {d : D} {lo c : Int} {n : Nat} (h : d ∈ rngD lo n c) : ∃ j : Nat, j < n ∧ d = .int (lo + j * c) := by
  unfold rngD at h
  obtain ⟨j, hj, rfl⟩ := List.mem_map.1 h
  exact ⟨j, List.mem_range.1 hj, rfl⟩
/-- what a walk's body keeps holds behind the walk -/
theorem loopF_inv {f : D → List D → O} (P : List D → Prop) : ∀ {xs : List D} {s : List D}, (∀ d ∈ xs, ∀ s, P s → ∃ s', f d s = .nx s' ∧ P s') → P s → ∃ s', loopF f xs s = .nx s' ∧ P s'
  | [], s, _, p => ⟨s, rfl, p⟩
  | d :: xs, s, h, p => by
    obtain ⟨s1, e1, p1⟩ := h d List.mem_cons_self s p
    obtain ⟨s2, e2, p2⟩ := loopF_inv P (fun d hd => h d (List.mem_cons_of_mem _ hd)) p1
    exact ⟨s2, by rw [loopF, e1]; exact e2, p2⟩
/-- .. by the turn -/
theorem loopF_ix {f : D → List D → O} (P : Nat → List D → Prop) : ∀ {xs : List D} {s : List D} {k : Nat}, (∀ i d, xs[i]? = some d → ∀ s, P (k + i) s → ∃ s', f d s = .nx s' ∧ P (k + i + 1) s') → P k s → ∃ s', loopF f xs s = .nx s' ∧ P (k + xs.length) s'
  | [], s, k, _, p => ⟨s, rfl, p⟩
  | d :: xs, s, k, h, p => by
    obtain ⟨s1, e1, p1⟩ := h 0 d rfl s p
    obtain ⟨s2, e2, p2⟩ := loopF_ix P (k := k + 1) (xs := xs) (s := s1) (fun i d hd s q => by
      have := h (i + 1) d (by simpa using hd) s (by rw [show k + (i + 1) = k + 1 + i by omega]; exact q)
      rw [show k + (i + 1) + 1 = k + 1 + i + 1 by omega] at this
      exact this) p1
    exact ⟨s2, by rw [loopF, e1]; exact e2, by rw [show k + (d :: xs).length = k + 1 + xs.length by simp; omega]; exact p2⟩
/-! sizes -/
@[simp] theorem szl : sizeLine = 16777216 := PySem.sizeLine_eq
theorem mulOk_r {i j : Int} (h : j.natAbs < 2 ^ 64) : mulOk i j = true := by unfold mulOk; simp; right; exact h
theorem mulOk_l {i j : Int} (h : i.natAbs < 2 ^ 64) : mulOk i j = true := by unfold mulOk; simp; left; right; exact h
theorem log2_lt {n k : Nat} (h : n < 2 ^ k) (hk : 0 < k) : n.log2 < k := by
  by_cases h0 : n = 0
  · subst h0
    rw [show Nat.log2 0 = 0 by decide]
    exact hk
  · exact (Nat.log2_lt h0).2 h
theorem mulOk_w {i j : Int} {a b : Nat} (ha : i.natAbs < 2 ^ a) (hb : j.natAbs < 2 ^ b) (h1 : 0 < a) (h2 : 0 < b) (h : a + b < 1000000) : mulOk i j = true := by
  have := log2_lt ha h1
  have := log2_lt hb h2
  unfold mulOk
  simp
  left; left
  omega
@[simp] theorem small62_nat {n : Nat} : small62 (n : Int) = decide (n < 4611686018427387904) := by
  unfold small62
  have : (-(2 ^ 62) : Int) ≤ n := by omega
  simp [this]
  omega
@[simp low] theorem small62_low {i : Int} : small62 i = (decide (-4611686018427387904 ≤ i) && decide (i < 4611686018427387904)) := id rfl
@[simp] theorem log2_few {n : Nat} (h : n < 18446744073709551616) : (n.log2 < 9000) = True := by
  have := log2_lt (n := n) (k := 64) h (by omega)
  simp; omega
/-! loops -/
theorem loopW_step {c : List D → R D} {f : List D → O} {n : Nat} {s s1 s2 : List D} (h1 : c s = .ok (.bl true) s1) (h2 : f s1 = .nx s2) : loopW c f (n + 1) s = loopW c f n s2 := by
  rw [loopW, h1]
  simp only [truth_bl, h2]
theorem loopW_done {c : List D → R D} {f : List D → O} {n : Nat} {s s1 : List D} (h1 : c s = .ok (.bl false) s1) : loopW c f (n + 1) s = .nx s1 := by
  rw [loopW, h1]
  simp only [truth_bl]
/-- Euclid's loop -/
theorem gcd_loop {c : List D → R D} {f : List D → O} (st : Nat → Nat → D → List D) (hc : ∀ a b x, c (st a b x) = .ok (.bl (decide (0 < b))) (st a b x)) (hf : ∀ a b x, 0 < b → ∃ y, f (st a b x) = .nx (st b (a % b) y)) :
    ∀ (n a b : Nat) (x : D), b < n → ∃ y, loopW c f n (st a b x) = .nx (st (Nat.gcd a b) 0 y)
  | 0, _, _, _, h => absurd h (Nat.not_lt_zero _)
  | n + 1, a, b, x, h => by
    by_cases hb : 0 < b
    · have hlt : a % b < n := by have := Nat.mod_lt a hb; omega
      obtain ⟨y, e⟩ := hf a b x hb
      obtain ⟨z, e2⟩ := gcd_loop st hc hf n b (a % b) y hlt
      refine ⟨z, ?_⟩
      rw [loopW_step (s1 := st a b x) (s2 := st b (a % b) y) (by rw [hc]; simp [hb]) e, e2]
      have : Nat.gcd b (a % b) = Nat.gcd a b := by
        rw [Nat.gcd_comm b, ← Nat.gcd_rec, Nat.gcd_comm]
      rw [this]
    · obtain rfl : b = 0 := by omega
      refine ⟨x, ?_⟩
      rw [loopW_done (s1 := st a 0 x) (by rw [hc]; simp)]
      simp
end TT
namespace TT
open PySem L2
section
variable {fl fl2 : Fl} {x y : D} {xs ys : List D} {i j : Int} {b c : Bool} {s t : Str}
@[simp] theorem isDat_non : isDat .non = true := id rfl
@[simp] theorem isDat_bl : isDat (.bl b) = true := id rfl
@[simp] theorem isDat_int : isDat (.int i) = true := id rfl
@[simp] theorem isDat_str : isDat (.str s) = PyData.strOk s := id rfl
@[simp] theorem isDat_lst : isDat (.lst fl xs) = isDats xs := id rfl
@[simp] theorem isDat_tup : isDat (.tup fl xs) = isDats xs := id rfl
@[simp] theorem isDats_nil : isDats [] = true := id rfl
@[simp] theorem isDats_cons : isDats (x :: xs) = (isDat x && isDats xs) := id rfl
@[simp] theorem depthD_non : depthD .non = 0 := id rfl
@[simp] theorem depthD_bl : depthD (.bl b) = 0 := id rfl
@[simp] theorem depthD_int : depthD (.int i) = 0 := id rfl
@[simp] theorem depthD_str : depthD (.str s) = 0 := id rfl
@[simp] theorem depthD_lst : depthD (.lst fl xs) = depthDs xs + 1 := id rfl
@[simp] theorem depthD_tup : depthD (.tup fl xs) = depthDs xs + 1 := id rfl
@[simp] theorem depthDs_nil : depthDs [] = 0 := id rfl
@[simp] theorem depthDs_cons : depthDs (x :: xs) = max (depthD x) (depthDs xs) := id rfl
@[simp] theorem eqv_non : eqv .non .non = true := by unfold eqv; exact id rfl
@[simp] theorem eqv_bl : eqv (.bl b) (.bl c) = (b == c) := by unfold eqv; exact id rfl
@[simp] theorem eqv_int : eqv (.int i) (.int j) = (i == j) := by unfold eqv; exact id rfl
@[simp] theorem eqv_str : eqv (.str s) (.str t) = (s == t) := by unfold eqv; exact id rfl
@[simp] theorem eqv_lst : eqv (.lst fl xs) (.lst fl2 ys) = eqvs xs ys := by rw [eqv]
@[simp] theorem eqv_tup : eqv (.tup fl xs) (.tup fl2 ys) = eqvs xs ys := by rw [eqv]
@[simp] theorem eqvs_nil : eqvs [] [] = true := by unfold eqvs; exact id rfl
@[simp] theorem eqvs_cons : eqvs (x :: xs) (y :: ys) = (eqv x y && eqvs xs ys) := by rw [eqvs]
end
theorem ix_lit {α : Type} {xs : List α} {n : Nat} : atI xs (OfNat.ofNat n : Int) = xs[n]? := by
  show atI xs ((n : Nat) : Int) = _
  by_cases h : n < xs.length
  · rw [atI_nat h]; simp [h]
  · have : ¬ ((n : Int) < xs.length) := by omega
    unfold atI ixN
    rw [if_pos (by omega), if_neg this]
    simp; omega
@[simp] theorem ix_l3 {α : Type} {xs : List α} : atI xs 3 = xs[3]? := ix_lit
@[simp] theorem ix_l4 {α : Type} {xs : List α} : atI xs 4 = xs[4]? := ix_lit
@[simp] theorem ix_l5 {α : Type} {xs : List α} : atI xs 5 = xs[5]? := ix_lit
@[simp] theorem ix_l6 {α : Type} {xs : List α} : atI xs 6 = xs[6]? := ix_lit
@[simp] theorem ix_l7 {α : Type} {xs : List α} : atI xs 7 = xs[7]? := ix_lit
@[simp] theorem ix_l8 {α : Type} {xs : List α} : atI xs 8 = xs[8]? := ix_lit
@[simp] theorem ix_l9 {α : Type} {xs : List α} : atI xs 9 = xs[9]? := ix_lit
@[simp] theorem ix_l10 {α : Type} {xs : List α} : atI xs 10 = xs[10]? := ix_lit
@[simp] theorem ix_l11 {α : Type} {xs : List α} : atI xs 11 = xs[11]? := ix_lit
section
variable {fl : Fl} {x y : D} {xs ys : List D} {i j : Int} {s : Str} {lo hi : Bool} {ns : List Int} {ol oh : Option Int}
@[simp] theorem opD_sl {ds : List D} : opD (.sl lo hi) ds = slices lo hi ds := id rfl
@[simp] theorem slices_00 : slices false false [x] = slD x none none := id rfl
@[simp] theorem slices_10 : slices true false [x, .int i] = slD x (some i) none := id rfl
@[simp] theorem slices_01 : slices false true [x, .int j] = slD x none (some j) := id rfl
@[simp] theorem slices_11 : slices true true [x, .int i, .int j] = slD x (some i) (some j) := id rfl
@[simp] theorem slD_scr : slD (.scr ns) ol oh = some (.lst .own ((cut ns ol oh).map .int)) := id rfl
@[simp] theorem slD_lst : slD (.lst fl xs) ol oh = if noOwns xs = true ∧ noBors xs = true then some (.lst .own (cut xs ol oh)) else none := id rfl
@[simp] theorem slD_tup : slD (.tup .shr xs) ol oh = some (.tup .shr (cut xs ol oh)) := id rfl
@[simp] theorem slD_str : slD (.str s) ol oh = if s.length ≤ sizeLine then some (.str (cutS s ol oh)) else none := id rfl
@[simp] theorem opD_rev : opD .rev [x] = revD x := id rfl
@[simp] theorem revD_lst : revD (.lst fl xs) = if noOwns xs = true ∧ noBors xs = true then some (.lst .own xs.reverse) else none := id rfl
@[simp] theorem opD_list : opD .list [x] = listD x := id rfl
@[simp] theorem listD_lst : listD (.lst fl xs) = if noOwns xs = true ∧ noBors xs = true then some (.lst .own xs) else none := id rfl
@[simp] theorem listD_tup : listD (.tup fl xs) = if noOwns xs = true ∧ noBors xs = true then some (.lst .own xs) else none := id rfl
@[simp] theorem opD_tuple : opD .tuple [x] = tupleD x := id rfl
@[simp] theorem tupleD_lst : tupleD (.lst fl xs) = if noOwns xs = true ∧ noBors xs = true then some (.tup .shr xs) else none := id rfl
@[simp] theorem opD_sum : opD .sum [x] = sumD x := id rfl
@[simp] theorem sumD_lst : sumD (.lst fl xs) = (intsOf xs).map fun ns => .int ns.sum := id rfl
@[simp] theorem opD_all : opD .all [x] = allD x := id rfl
@[simp] theorem allD_lst : allD (.lst fl xs) = (blsOf xs).map fun bs => .bl (bs.all id) := id rfl
@[simp] theorem opD_any : opD .any [x] = anyD x := id rfl
@[simp] theorem anyD_lst : anyD (.lst fl xs) = (blsOf xs).map fun bs => .bl (bs.any id) := id rfl
@[simp] theorem opD_in : opD .in_ [x, y] = (inD x y).map .bl := id rfl
@[simp] theorem opD_nin : opD .nin [x, y] = (inD x y).map fun b => .bl (!b) := id rfl
@[simp] theorem opD_strI : opD .strI [x] = strID x := id rfl
@[simp] theorem strID_int : strID (.int i) = if i.natAbs.log2 < 1920 then some (.str (toString i)) else none := id rfl
@[simp] theorem lenD_str : lenD (.str s) = if s.length ≤ sizeLine then some (.int s.length) else none := id rfl
@[simp] theorem seqD_lst : seqD (.lst fl xs) = if fl != .own && noOwns xs && xs.all (fun x => !isDead x) then some xs else none := id rfl
@[simp] theorem seqD_tup : seqD (.tup fl xs) = if fl != .own && noOwns xs && xs.all (fun x => !isDead x) then some xs else none := id rfl
@[simp] theorem seqD_str : seqD (.str s) = some (s.cps.toList.map fun c => .str ⟨#[c]⟩) := id rfl
@[simp] theorem seqD_scr : seqD (.scr ns) = some (ns.map .int) := id rfl
@[simp] theorem lstD_lst : lstD (.lst fl xs) = if fl != .own && noOwns xs && xs.all (fun x => !isDead x) then some xs else none := id rfl
@[simp] theorem lstD_scr : lstD (.scr ns) = some (ns.map .int) := id rfl
@[simp] theorem opD_part {a b : Str} : opD .part [.str a, .str b] = if (b.length == 0) = false ∧ a.length ≤ sizeLine then some (.tup .shr [.str (Txt.partition a b).1, .str (Txt.partition a b).2.1, .str (Txt.partition a b).2.2]) else none := id rfl
@[simp] theorem opD_find {a b : Str} : opD .find [.str a, .str b] = some (.int (Txt.find a b)) := id rfl
@[simp] theorem opD_join {a : Str} : opD .join [.str a, .lst fl xs] = (strsOf xs).bind fun ys => if (ys.map (·.length)).sum + ys.length * a.length ≤ 16777216 then some (.str (Txt.join a ys)) else none := id rfl
@[simp] theorem opD_divmod : opD .divmod [.int i, .int j] = if 0 < j ∧ Builtin.Int.intBits i ≤ Builtin.Int.intBits j + 4000 then some (.tup .shr [.int (i / j), .int (i % j)]) else none := id rfl
@[simp] theorem opD_intT {a : Str} : opD .intT [.str a] = (PySem.intText? a).bind fun n => if a.length ≤ 640 then some (.int n) else none := id rfl
@[simp] theorem opD_rep {a : Str} : opD .rep [.str a, .int i] = if 0 ≤ i ∧ i ≤ 1000000 ∧ a.length * i.toNat ≤ 1000000 then some (.str (repS a i)) else none := id rfl
theorem strsOf_map {α : Type} {f : α → Str} : ∀ {l : List α}, strsOf (l.map fun a => .str (f a)) = some (l.map f)
  | [] => rfl
  | a :: l => by
    rw [List.map_cons, List.map_cons, strsOf, strsOf_map]; rfl
theorem intsOf_map {α : Type} {f : α → Int} : ∀ {l : List α}, intsOf (l.map fun a => .int (f a)) = some (l.map f)
  | [] => rfl
  | a :: l => by
    rw [List.map_cons, List.map_cons, intsOf, intsOf_map]; rfl
theorem blsOf_map {α : Type} {f : α → Bool} : ∀ {l : List α}, blsOf (l.map fun a => .bl (f a)) = some (l.map f)
  | [] => rfl
  | a :: l => by
    rw [List.map_cons, List.map_cons, blsOf, blsOf_map]; rfl
theorem owns_intsD {l : List Int} : noOwns (l.map D.int) = true := by
  rw [noOwns_iff]; intro x hx; obtain ⟨p, _, rfl⟩ := List.mem_map.1 hx; rfl
theorem bors_intsD {l : List Int} : noBors (l.map D.int) = true := by
  rw [noBors_iff]; intro x hx; obtain ⟨p, _, rfl⟩ := List.mem_map.1 hx; rfl
theorem dead_intsD {l : List Int} : (l.map D.int).all (fun x => !isDead x) = true := by
  rw [List.all_eq_true]; intro x hx; obtain ⟨p, _, rfl⟩ := List.mem_map.1 hx; rfl
theorem enum_get {xs zs : List D} {i : Nat} {d : D} (h : enumD (.lst fl xs) = some zs) (e : zs[i]? = some d) : ∃ x, xs[i]? = some x ∧ d = pairD (.int (i : Int)) x := by
  unfold enumD at h
  cases e2 : lstD (.lst fl xs) with
  | none => rw [e2] at h; cases h
  | some ys =>
    rw [e2] at h
    have : ys = xs := by
      rw [lstD_lst] at e2
      split at e2 <;> cases e2
      rfl
    subst this
    cases h
    rw [List.getElem?_map] at e
    cases e3 : ys.zipIdx[i]? with
    | none => rw [e3] at e; cases e
    | some p =>
      rw [e3] at e
      cases e
      rw [List.getElem?_zipIdx] at e3
      cases e4 : ys[i]? with
      | none => rw [e4] at e3; cases e3
      | some x =>
        rw [e4] at e3
        cases e3
        exact ⟨x, rfl, by simp⟩
theorem enum_some {xs : List D} (h1 : fl ≠ .own) (h2 : noOwns xs = true) (h3 : xs.all (fun x => !isDead x) = true) : ∃ zs, enumD (.lst fl xs) = some zs ∧ zs.length = xs.length := by
  unfold enumD
  rw [lstD_lst, if_pos (by simp [h1, h2]; simpa using h3)]
  exact ⟨_, rfl, by simp⟩
theorem pair_shr {x y : D} (h1 : allShr x = true) (h2 : allShr y = true) : pairD x y = .tup .shr [x, y] := by
  unfold pairD; rw [h1, h2]; rfl
theorem body_eq {t : Tg} {b : List S} {d : D} {s s2 : List D} (h : tgSet t d s = some s2) : bodyO t b d s = exSs b s2 := by
  unfold bodyO; rw [h]
theorem cut_length_le {α : Type} {xs : List α} {lo hi : Option Int} : (cut xs lo hi).length ≤ xs.length := by
  unfold cut; simp; omega
end
end TT
/-! running classes, methods, places, dicts by simp -/
namespace TT
open PySem L2
/-! ### look-up by closed facts -/
section
variable {κ : Type} [DecidableEq κ]
theorem dget_at {k : κ} {j : Nat} : ∀ {ks : List κ} {vs : List D}, ks.findIdx? (fun y => decide (y = k)) = some j → ks.length = vs.length → dget ks vs k = vs[j]? := by
  intro ks
  induction ks generalizing j with
  | nil => intro vs h; simp at h
  | cons q ks ih =>
    intro vs h hl
    cases vs with
    | nil => simp at hl
    | cons x vs =>
      rw [List.findIdx?_cons] at h
      unfold dget
      rw [List.zip_cons_cons]
      by_cases e : q = k
      · rw [if_pos (by simpa using e)] at h
        cases h
        rw [List.find?_cons_of_pos (by simpa using e)]
        rfl
      · rw [if_neg (by simpa using e)] at h
        cases h2 : ks.findIdx? (fun y => decide (y = k)) with
        | none => rw [h2] at h; cases h
        | some i =>
          rw [h2] at h
          cases h
          rw [List.find?_cons_of_neg (by simpa using e)]
          have := ih h2 (vs := vs) (by simpa using hl)
          unfold dget at this
          rw [this]
          simp
theorem dget_no {k : κ} : ∀ {ks : List κ} {vs : List D}, ks.findIdx? (fun y => decide (y = k)) = none → dget ks vs k = none := by
  intro ks
  induction ks with
  | nil => intro vs h; rfl
  | cons q ks ih =>
    intro vs h
    rw [List.findIdx?_cons] at h
    by_cases e : q = k
    · rw [if_pos (by simpa using e)] at h; cases h
    · rw [if_neg (by simpa using e)] at h
      cases vs with
      | nil => rfl
      | cons x vs =>
        have h2 : ks.findIdx? (fun y => decide (y = k)) = none := by
          cases h2 : ks.findIdx? (fun y => decide (y = k)) with
          | none => rfl
          | some i => rw [h2] at h; cases h
        unfold dget
        rw [List.zip_cons_cons, List.find?_cons_of_neg (by simpa using e)]
        have := ih h2 (vs := vs)
        unfold dget at this
        exact this
theorem putD_at {k : κ} {x : D} {j : Nat} : ∀ {ks : List κ} {vs : List D}, ks.findIdx? (fun y => decide (y = k)) = some j → ks.length = vs.length → putD ks vs k x = (ks, vs.set j x) := by
  intro ks
  induction ks generalizing j with
  | nil => intro vs h; simp at h
  | cons q ks ih =>
    intro vs h hl
    cases vs with
    | nil => simp at hl
    | cons y vs =>
      rw [List.findIdx?_cons] at h
      unfold putD
      by_cases e : q = k
      · rw [if_pos (by simpa using e)] at h
        cases h
        rw [if_pos e]; rfl
      · rw [if_neg (by simpa using e)] at h
        cases h2 : ks.findIdx? (fun y => decide (y = k)) with
        | none => rw [h2] at h; cases h
        | some i =>
          rw [h2] at h
          cases h
          rw [if_neg e, ih h2 (by simpa using hl)]
          rfl
theorem putD_new {k : κ} {x : D} : ∀ {ks : List κ} {vs : List D}, ks.findIdx? (fun y => decide (y = k)) = none → ks.length = vs.length → putD ks vs k x = (ks ++ [k], vs ++ [x]) := by
  intro ks
  induction ks with
  | nil =>
    intro vs h hl
    cases vs with
    | nil => rfl
    | cons _ _ => simp at hl
  | cons q ks ih =>
    intro vs h hl
    cases vs with
    | nil => simp at hl
    | cons y vs =>
      rw [List.findIdx?_cons] at h
      unfold putD
      by_cases e : q = k
      · rw [if_pos (by simpa using e)] at h; cases h
      · rw [if_neg (by simpa using e)] at h
        have h2 : ks.findIdx? (fun y => decide (y = k)) = none := by
          cases h2 : ks.findIdx? (fun y => decide (y = k)) with
          | none => rfl
          | some i => rw [h2] at h; cases h
        rw [if_neg e, ih h2 (by simpa using hl)]
        rfl
end
/-- a field's new value must be one's own or shared -/
def setIn (x d : D) : Option D := if noBor x && !isDead x then some d else none
@[simp] theorem setIn_eq {x d : D} : setIn x d = if noBor x && !isDead x then some d else none := id rfl
section
variable {f : Str} {cs : List Nat} {fl : Fl} {c : Nat} {ks ks2 : List Str} {vs vs2 : List D} {x d : D} {j : Nat}
theorem fldD_at (h : cs.contains c = true) (h2 : ks.findIdx? (fun y => decide (y = f)) = some j) (h3 : vs[j]? = some d) (hl : ks.length = vs.length := by rfl) : fldD f cs (.ins fl c ks vs) = live d := by
  show (if cs.contains c then (dget ks vs f).bind live else none) = _
  rw [if_pos h, dget_at h2 hl, h3]; rfl
theorem stepG_at (h : cs.contains c = true) (h2 : ks.findIdx? (fun y => decide (y = f)) = some j) : stepG (.f f cs) (.ins .own c ks vs) = some j := by
  show (if cs.contains c then ks.findIdx? (fun y => decide (y = f)) else none) = _
  rw [if_pos h, h2]
theorem setF_at (h : cs.contains c = true) (h2 : ks.findIdx? (fun y => decide (y = f)) = some j) (hl : ks.length = vs.length) (hn : ks.length < 1000) (e : vs.set j x = vs2) : setFD f cs x (.ins .own c ks vs) = setIn x (.ins .own c ks vs2) := by
  show (if cs.contains c && noBor x && !isDead x && decide (ks.length < 1000) then some (D.ins .own c (putD ks vs f x).1 (putD ks vs f x).2) else none) = _
  rw [putD_at h2 hl, e, h, decide_eq_true hn, Bool.and_true, Bool.true_and]; rfl
theorem setF_new (h : cs.contains c = true) (h2 : ks.findIdx? (fun y => decide (y = f)) = none) (hl : ks.length = vs.length) (hn : ks.length < 1000) (e : ks ++ [f] = ks2) : setFD f cs x (.ins .own c ks vs) = setIn x (.ins .own c ks2 (vs ++ [x])) := by
  show (if cs.contains c && noBor x && !isDead x && decide (ks.length < 1000) then some (D.ins .own c (putD ks vs f x).1 (putD ks vs f x).2) else none) = _
  rw [putD_new h2 hl, e, h, decide_eq_true hn, Bool.and_true, Bool.true_and]; rfl
theorem clsI_at (h : ks.contains f = false) : clsI f (.ins fl c ks vs) = some c := by
  show (if ks.contains f then none else some c) = _
  rw [h]; rfl
end
theorem dlit_at {ks : List Str} {vs : List D} {kk : List Key} (hl : ks.length = vs.length) (h2 : ks.Nodup) (h3 : ks.length ≤ 15) (h4 : ks ≠ []) (e : ks.map Sum.inr = kk) : opD (.dlit ks) vs = if goodKids vs = true then some (.dk .own kk vs) else none := by
  show (if ks.length = vs.length ∧ goodKids vs = true ∧ ks.Nodup ∧ ks.length ≤ 15 ∧ ks ≠ [] then some (D.dk .own (ks.map .inr) vs) else none) = _
  rw [← e]
  by_cases g : goodKids vs = true
  · rw [if_pos ⟨hl, g, h2, h3, h4⟩, if_pos g]
  · rw [if_neg fun z => g z.2.1, if_neg g]
theorem dkS_at {fl : Fl} {ks : List Key} {vs : List D} {x : Str} {j : Nat} {d : D} (h : ks.findIdx? (fun y => decide (y = .inr x)) = some j) (h3 : vs[j]? = some d) (hl : ks.length = vs.length := by rfl) : ixD (.dk fl ks vs) (.str x) = some d := by
  show dget ks vs (.inr x) = _
  rw [dget_at h hl, h3]
/-! ### flags of the new kinds of data -/
section
variable {fl : Fl} {c : Nat} {fs : List Str} {xs : List D} {kt : List (List Key)} {k : List Key} {n : Nat}
@[simp] theorem lend_ktup : lend (.ktup k) = .ktup k := id rfl
@[simp] theorem rf_ktup {g : Fl → Fl} : refl g (.ktup k) = .ktup k := id rfl
@[simp] theorem lend_dt : lend (.dt fl kt xs) = .dt fl.lend kt (refls Fl.lend xs) := id rfl
@[simp] theorem lend_ins : lend (.ins fl c fs xs) = .ins fl.lend c fs (refls Fl.lend xs) := id rfl
@[simp] theorem dead_ktup : isDead (.ktup k) = false := id rfl
@[simp] theorem dead_dt : isDead (.dt fl kt xs) = false := id rfl
@[simp] theorem dead_ins : isDead (.ins fl c fs xs) = false := id rfl
@[simp] theorem dead_fn : isDead (.fn n) = false := id rfl
@[simp] theorem own_ktup : noOwn (.ktup k) = true := id rfl
@[simp] theorem own_fn : noOwn (.fn n) = true := id rfl
@[simp] theorem own_dt : noOwn (.dt fl kt xs) = ((fl != .own) && noOwns xs) := id rfl
@[simp] theorem own_ins : noOwn (.ins fl c fs xs) = ((fl != .own) && noOwns xs) := id rfl
@[simp] theorem bor_ktup : noBor (.ktup k) = true := id rfl
@[simp] theorem bor_fn : noBor (.fn n) = true := id rfl
@[simp] theorem bor_dt : noBor (.dt fl kt xs) = ((fl != .bor) && noBors xs) := id rfl
@[simp] theorem bor_ins : noBor (.ins fl c fs xs) = ((fl != .bor) && noBors xs) := id rfl
end
/-! ### calls, methods, making -/
section
variable {s : List D} {e : E} {es : List E}
def kMeth2 (f : FE) (d0 : D) (ds s : List D) : R D := retR s (f.g (fillD f (d0 :: ds)))
@[simp] theorem kMeth2_eq {f : FE} {d0 : D} {ds s : List D} : kMeth2 f d0 ds s = retR s (f.g (fillD f (d0 :: ds))) := id rfl
def methR (es : List E) (d0 : D) (s : List D) : Option FE → R D
  | some f => (evEs es s).bind (kMeth2 f d0)
  | none => .bad
@[simp] theorem methR_some {es : List E} {d0 : D} {s : List D} {f : FE} : methR es d0 s (some f) = (evEs es s).bind (kMeth2 f d0) := id rfl
def kMeth (x : Str) (tab : List (Nat × FE)) (es : List E) (d0 : D) (s : List D) : R D := methR es d0 s (selF tab (clsI x d0))
@[simp] theorem kMeth_eq {x : Str} {tab : List (Nat × FE)} {es : List E} {d0 : D} {s : List D} : kMeth x tab es d0 s = methR es d0 s (selF tab (clsI x d0)) := id rfl
@[simp] theorem ev_meth {x : Str} {tab : List (Nat × FE)} : evE (.meth x tab e es) s = (evE e s).bind (kMeth x tab es) := by
  rw [evE]
  congr 1
@[simp] theorem selF_some {tab : List (Nat × FE)} {c : Nat} : selF tab (some c) = tab.lookup c := id rfl
def kMake (c : Nat) (f : FE) (ds s : List D) : R D := retI s (f.g (fillM f (.ins .own c [] []) ds))
@[simp] theorem kMake_eq {c : Nat} {f : FE} {ds s : List D} : kMake c f ds s = retI s (f.g (fillM f (.ins .own c [] []) ds)) := id rfl
@[simp] theorem ev_make {c : Nat} {x : Str} {f : FE} : evE (.make c x f es) s = (evEs es s).bind (kMake c f) := by rw [evE]; exact id rfl
@[simp] theorem retI_non {d : D} : retI s (.ok .non d) = if noBor d && !isDead d then .ok d s else .bad := id rfl
@[simp] theorem retI_exc {c : Nat} {fs : List Str} {xs : List D} {d : D} : retI s (.exc c fs xs d) = .exc c fs xs s := id rfl
@[simp] theorem retM_ok {i : Nat} {r d : D} : retM i s (.ok r d) = if noBor r && !isDead r && (noBor d && !isDead d) then .ok r (s.set i d) else .bad := id rfl
@[simp] theorem retM_exc {i : Nat} {c : Nat} {fs : List Str} {xs : List D} {d : D} : retM i s (.exc c fs xs d) = if noBor d && !isDead d then .exc c fs xs (s.set i d) else .bad := id rfl
def kCallM (f : FE) (i : Nat) (ds s : List D) : R D := if isDead (s.getD i .dead) then .bad else retM i s (f.g (fillM f (s.getD i .dead) ds))
@[simp] theorem kCallM_eq {f : FE} {i : Nat} {ds s : List D} : kCallM f i ds s = if isDead (s.getD i .dead) then .bad else retM i s (f.g (fillM f (s.getD i .dead) ds)) := id rfl
@[simp] theorem ev_callM {f : FE} {i : Nat} : evE (.callM f i es) s = if isDead (s.getD i .dead) then .bad else (evEs es s).bind (kCallM f i) := by
  rw [evE]
  exact id rfl
def methM (i : Nat) (es : List E) (s : List D) : Option FE → R D
  | some f => (evEs es s).bind (kCallM f i)
  | none => .bad
@[simp] theorem methM_some {i : Nat} {es : List E} {s : List D} {f : FE} : methM i es s (some f) = (evEs es s).bind (kCallM f i) := id rfl
@[simp] theorem ev_methM {x : Str} {tab : List (Nat × FE)} {i : Nat} : evE (.methM x tab i es) s = methM i es s (selF tab (clsI x (s.getD i .dead))) := by
  rw [evE]
  cases selF tab (clsI x (s.getD i .dead)) <;> exact id rfl
def vR (es : List E) (s : List D) : Option FE → R D
  | some f => (evEs es s).bind (kCall f)
  | none => .bad
@[simp] theorem vR_some {es : List E} {s : List D} {f : FE} : vR es s (some f) = (evEs es s).bind (kCall f) := id rfl
@[simp] theorem ev_callV {tab : List (Nat × FE)} {i : Nat} : evE (.callV i tab es) s = vR es s (selF tab (fnI (s.getD i .dead))) := by
  rw [evE]
  cases selF tab (fnI (s.getD i .dead)) <;> exact id rfl
@[simp] theorem fnI_fn {k : Nat} : fnI (.fn k) = some k := id rfl
end
/-! ### places -/
section
variable {s : List D} {e : E} {es : List E} {p : Pl}
@[simp] theorem plI_nm {i : Nat} : plI (.nm i) = i := id rfl
@[simp] theorem plI_fld {f : Str} {cs : List Nat} : plI (.fld p f cs) = plI p := id rfl
@[simp] theorem plI_ix {k : PK} : plI (.ix p k) = plI p := id rfl
@[simp] theorem plS_nm {i : Nat} : plS (.nm i) s = [] := id rfl
@[simp] theorem plS_fld {f : Str} {cs : List Nat} : plS (.fld p f cs) s = plS p s ++ [.f f cs] := id rfl
@[simp] theorem plS_ix {k : PK} : plS (.ix p k) s = plS p s ++ [.k (pkD k s)] := id rfl
@[simp] theorem pkD_nm {j : Nat} : pkD (.nm j) s = s.getD j .dead := id rfl
@[simp] theorem pkD_c {d : D} : pkD (.c d) s = d := id rfl
theorem upO_eq {p : Pl} {g : D → Option D} {s : List D} : upO p g s = optO ((modP (plS p s) g (s.getD (plI p) .dead)).map fun r => s.set (plI p) r) := by
  unfold upO
  cases modP (plS p s) g (s.getD (plI p) .dead) <;> exact id rfl
def kUp (o : UO) (p : Pl) (ds s : List D) : O := upO p (uoD o ds) s
@[simp] theorem kUp_eq {o : UO} {p : Pl} {ds s : List D} : kUp o p ds s = optO ((modP (plS p s) (uoD o ds) (s.getD (plI p) .dead)).map fun r => s.set (plI p) r) := upO_eq
def upG (o : UO) (p : Pl) (es : List E) (s : List D) : Option D → O
  | some d => if uoOk o d then (evEs es s).then (kUp o p) else .bad
  | none => .bad
@[simp] theorem upG_some {o : UO} {d : D} : upG o p es s (some d) = if uoOk o d then (evEs es s).then (kUp o p) else .bad := id rfl
@[simp] theorem run_up {o : UO} : exS (.up o p es) s = upG o p es s (getP (plS p s) (s.getD (plI p) .dead)) := by
  rw [exS]
  cases getP (plS p s) (s.getD (plI p) .dead) <;> exact id rfl
def kSetF (p : Pl) (f : Str) (cs : List Nat) (d : D) (s : List D) : O := upO p (setFD f cs d) s
@[simp] theorem kSetF_eq {f : Str} {cs : List Nat} {d : D} : kSetF p f cs d s = optO ((modP (plS p s) (setFD f cs d) (s.getD (plI p) .dead)).map fun r => s.set (plI p) r) := upO_eq
@[simp] theorem run_setF {f : Str} {cs : List Nat} : exS (.setF p f cs e) s = (evE e s).then (kSetF p f cs) := by
  rw [exS]
  exact id rfl
def kSetK (p : Pl) (d kd : D) (s : List D) : O := upO p (setID kd d) s
@[simp] theorem kSetK_eq {d kd : D} : kSetK p d kd s = optO ((modP (plS p s) (setID kd d) (s.getD (plI p) .dead)).map fun r => s.set (plI p) r) := upO_eq
def setG (p : Pl) (k : E) (d : D) (s : List D) : Option D → O
  | some x => if isDead x then .bad else (evE k s).then (kSetK p d)
  | none => .bad
@[simp] theorem setG_some {k : E} {d x : D} : setG p k d s (some x) = if isDead x then .bad else (evE k s).then (kSetK p d) := id rfl
def kSetI (p : Pl) (k : E) (d : D) (s : List D) : O := setG p k d s (getP (plS p s) (s.getD (plI p) .dead))
@[simp] theorem kSetI_eq {k : E} {d : D} : kSetI p k d s = setG p k d s (getP (plS p s) (s.getD (plI p) .dead)) := id rfl
@[simp] theorem run_setI {k : E} : exS (.setI p k e) s = (evE e s).then (kSetI p k) := by
  rw [exS]
  congr 1
@[simp] theorem run_forApp {x i : Nat} {d : D} : exS (.forApp x i d) s = optO (((ownLst (s.getD i .dead)).bind (appAll d)).bind fun ys => if x < s.length then some ((s.set i (.lst .own ys)).set x .dead) else none) := by
  rw [exS]
  cases (ownLst (s.getD i .dead)).bind (appAll d) with
  | none => exact id rfl
  | some ys =>
    show _ = optO (if x < s.length then some ((s.set i (.lst .own ys)).set x .dead) else none)
    by_cases h : x < s.length
    · rw [if_pos h]
      show (if x < s.length then O.nx ((s.set i (.lst .own ys)).set x .dead) else .bad) = _
      rw [if_pos h]; exact id rfl
    · rw [if_neg h]
      show (if x < s.length then O.nx ((s.set i (.lst .own ys)).set x .dead) else .bad) = _
      rw [if_neg h]; exact id rfl
@[simp] theorem ownLst_own {xs : List D} : ownLst (.lst .own xs) = some xs := id rfl
@[simp] theorem appAll_nil {d : D} : appAll d [] = some [] := id rfl
@[simp] theorem appAll_cons {d x : D} {xs : List D} : appAll d (x :: xs) = (uoD .app [d] x).bind fun y => (appAll d xs).map (y :: ·) := id rfl
@[simp] theorem getP_nil {d : D} : getP [] d = some d := id rfl
@[simp] theorem getP_cons {st : Stp} {ps : List Stp} {d : D} : getP (st :: ps) d = (stepG st d).bind fun j => ((kidsD d)[j]?).bind (getP ps) := id rfl
@[simp] theorem modP_nil {g : D → Option D} {d : D} : modP [] g d = g d := id rfl
@[simp] theorem modP_cons {st : Stp} {ps : List Stp} {g : D → Option D} {d : D} : modP (st :: ps) g d = (stepG st d).bind fun j => ((kidsD d)[j]?).bind fun x => (modP ps g x).map fun y => setKids d ((kidsD d).set j y) := id rfl
section
variable {fl : Fl} {c : Nat} {fs : List Str} {xs ys : List D} {kt : List (List Key)} {ks : List Key} {i : Int}
@[simp] theorem kids_lst : kidsD (.lst fl xs) = xs := id rfl
@[simp] theorem kids_dk : kidsD (.dk fl ks xs) = xs := id rfl
@[simp] theorem kids_dt : kidsD (.dt fl kt xs) = xs := id rfl
@[simp] theorem kids_ins : kidsD (.ins fl c fs xs) = xs := id rfl
@[simp] theorem setk_lst : setKids (.lst fl xs) ys = .lst fl ys := id rfl
@[simp] theorem setk_dk : setKids (.dk fl ks xs) ys = .dk fl ks ys := id rfl
@[simp] theorem setk_dt : setKids (.dt fl kt xs) ys = .dt fl kt ys := id rfl
@[simp] theorem setk_ins : setKids (.ins fl c fs xs) ys = .ins fl c fs ys := id rfl
@[simp] theorem step_lst : stepG (.k (.int i)) (.lst .own xs) = ixN xs.length i := id rfl
@[simp] theorem step_dkS {x : Str} : stepG (.k (.str x)) (.dk .own ks xs) = ks.findIdx? (fun y => decide (y = .inr x)) := id rfl
@[simp] theorem step_dkI : stepG (.k (.int i)) (.dk .own ks xs) = ks.findIdx? (fun y => decide (y = .inl i)) := id rfl
@[simp] theorem step_dt {k : List Key} : stepG (.k (.ktup k)) (.dt .own kt xs) = kt.findIdx? (fun y => decide (y = k)) := id rfl
@[simp] theorem uok_app : uoOk .app (.lst .own xs) = true := id rfl
@[simp] theorem uok_ext : uoOk .ext (.lst .own xs) = true := id rfl
@[simp] theorem uok_clr : uoOk .clr (.lst .own xs) = true := id rfl
@[simp] theorem uok_rem : uoOk .rem (.lst .own xs) = true := id rfl
@[simp] theorem uok_pop : uoOk .pop (.lst .own xs) = true := id rfl
@[simp] theorem uok_clrD : uoOk .clrD (.dk .own ks xs) = true := id rfl
@[simp] theorem uok_popD : uoOk .popD (.dk .own ks xs) = true := id rfl
@[simp] theorem uok_upd : uoOk .upd (.dk .own ks xs) = true := id rfl
@[simp] theorem uo_app {x : D} : uoD .app [x] (.lst .own xs) = if noBor x && !isDead x && decide (xs.length < sizeLine) then some (.lst .own (xs ++ [x])) else none := id rfl
@[simp] theorem uo_ext : uoD .ext [.lst fl ys] (.lst .own xs) = if noOwns ys && goodKids ys && decide (xs.length + ys.length ≤ sizeLine) then some (.lst .own (xs ++ ys)) else none := id rfl
@[simp] theorem uo_clr : uoD .clr [] (.lst .own xs) = some (.lst .own []) := id rfl
@[simp] theorem uo_clrD : uoD .clrD [] (.dk .own ks xs) = some (.dk .own [] []) := id rfl
@[simp] theorem uo_pop : uoD .pop [.int i] (.lst .own xs) = if decide (-(2 ^ 63) ≤ i) && decide (i < 2 ^ 63) then (ixN xs.length i).map fun j => .lst .own (xs.eraseIdx j) else none := id rfl
@[simp] theorem uo_rem {x : Str} : uoD .rem [.str x] (.lst .own xs) = if (strsOf xs).isSome then (xs.findIdx? fun y => eqv y (.str x)).map fun j => .lst .own (xs.eraseIdx j) else none := id rfl
@[simp] theorem setI_lst {x : D} : setID (.int i) x (.lst .own xs) = if noBor x && !isDead x then (ixN xs.length i).map fun j => .lst .own (xs.set j x) else none := id rfl
@[simp] theorem setI_dkI {x : D} : setID (.int i) x (.dk .own ks xs) = if noBor x && !isDead x then (if decide (ks.length < sizeLine) then some (.dk .own (putD ks xs (.inl i) x).1 (putD ks xs (.inl i) x).2) else none) else none := id rfl
@[simp] theorem setI_dkS {x : D} {y : Str} : setID (.str y) x (.dk .own ks xs) = if noBor x && !isDead x then (if decide (ks.length < sizeLine) then some (.dk .own (putD ks xs (.inr y) x).1 (putD ks xs (.inr y) x).2) else none) else none := id rfl
@[simp] theorem setI_dt {x : D} {k : List Key} : setID (.ktup k) x (.dt .own kt xs) = if noBor x && !isDead x then (if decide (kt.length < sizeLine) then some (.dt .own (putD kt xs k x).1 (putD kt xs k x).2) else none) else none := id rfl
end
end
/-! ### operations -/
section
variable {fl : Fl} {x y z : D} {xs ys : List D} {ks ls : List Key} {kt : List (List Key)} {k : List Key} {i : Int} {b : Bool} {s : Str} {c : Nat} {fs : List Str} {ol oh : Option Int}
@[simp] theorem opD_fld {f : Str} {cs : List Nat} : opD (.fld f cs) [x] = fldD f cs x := id rfl
@[simp] theorem live_eq : live x = if isDead x = true then none else some x := id rfl
@[simp] theorem opD_tupK : opD .tupK xs = newTupK xs := id rfl
@[simp] theorem newTupK_eq : newTupK xs = (keysOf xs).bind fun ks => if xs.length ≤ sizeLine then some (.ktup ks) else none := id rfl
@[simp] theorem keysOf_nil : keysOf [] = some [] := id rfl
def keysC : Option Key → Option (List Key) → Option (List Key)
  | some k, some ks => some (k :: ks)
  | _, _ => none
@[simp] theorem keysC_some {k : Key} : keysC (some k) (some ks) = some (k :: ks) := id rfl
@[simp] theorem keysOf_cons : keysOf (x :: xs) = keysC (keyOf x) (keysOf xs) := by
  rw [keysOf]
  cases keyOf x <;> cases keysOf xs <;> exact id rfl
@[simp] theorem keyOf_int : keyOf (.int i) = some (.inl i) := id rfl
@[simp] theorem keyOf_str : keyOf (.str s) = some (.inr s) := id rfl
@[simp] theorem opD_tupleK : opD .tupleK [x] = tupleKD x := id rfl
@[simp] theorem tupleK_lst : tupleKD (.lst fl xs) = (keysOf xs).map .ktup := id rfl
@[simp] theorem tupleK_ktup : tupleKD (.ktup k) = some (.ktup k) := id rfl
@[simp] theorem opD_vals : opD .vals [x] = valsD x := id rfl
@[simp] theorem vals_dk : valsD (.dk fl ks xs) = if noOwns xs = true ∧ noBors xs = true then some (.lst .own xs) else none := id rfl
@[simp] theorem opD_dictP : opD .dictP [x] = dictPD x := id rfl
@[simp] theorem opD_dictZ : opD .dictZ [x, y] = dictZD x y := id rfl
@[simp] theorem opD_dictC : opD .dictC [x] = dictCD x := id rfl
@[simp] theorem dictC_dk : dictCD (.dk fl ks xs) = if noOwns xs = true ∧ noBors xs = true then some (.dk .own ks xs) else none := id rfl
@[simp] theorem opD_lenSet : opD .lenSet [x] = lenSetD x := id rfl
@[simp] theorem lenSet_lst : lenSetD (.lst fl xs) = (strsOf xs).bind fun ys => if ys.length ≤ 4000 then some (.int ((metS ys).length : Nat)) else none := id rfl
@[simp] theorem opD_get2 : opD .get2 [x, y, z] = getD2 x y z := id rfl
@[simp] theorem opD_idx : opD .idx [x, y] = idxD x y := id rfl
@[simp] theorem idx_lst : idxD (.lst fl xs) x = if datOk x = true ∧ datOk (.lst .own xs) = true then (xs.findIdx? fun y => eqv y x).map fun j => .int (j : Nat) else none := id rfl
@[simp] theorem rcv_idx : rcvOk .idx (.lst fl xs) = true := id rfl
@[simp] theorem rcv_get2 : rcvOk .get2 (.dk fl ks xs) = true := id rfl
@[simp] theorem rcv_get2t : rcvOk .get2 (.dt fl kt xs) = true := id rfl
@[simp] theorem ix_dkI : ixD (.dk fl ks xs) (.int i) = dget ks xs (.inl i) := id rfl
@[simp] theorem ix_dt : ixD (.dt fl kt xs) (.ktup k) = dget kt xs k := id rfl
@[simp] theorem ix_ktup : ixD (.ktup k) (.int i) = (atI k i).map keyD := id rfl
@[simp] theorem add_ktup : addD (.ktup ks) (.ktup ls) = if ks.length + ls.length ≤ sizeLine then some (.ktup (ks ++ ls)) else none := id rfl
@[simp] theorem sl_ktup : slD (.ktup k) ol oh = some (.ktup (cut k ol oh)) := id rfl
@[simp] theorem len_ktup : lenD (.ktup k) = some (.int k.length) := id rfl
@[simp] theorem len_dk : lenD (.dk fl ks xs) = some (.int ks.length) := id rfl
@[simp] theorem list_ktup : listD (.ktup k) = some (.lst .own (k.map keyD)) := id rfl
@[simp] theorem list_dk : listD (.dk fl ks xs) = some (.lst .own (ks.map keyD)) := id rfl
@[simp] theorem seq_ktup : seqD (.ktup k) = some (k.map keyD) := id rfl
@[simp] theorem in_dt : inD (.ktup k) (.dt fl kt xs) = some (kt.any fun q => decide (q = k)) := id rfl
@[simp] theorem in_dkI : inD (.int i) (.dk fl ks xs) = some (ks.any fun q => decide (q = .inl i)) := id rfl
@[simp] theorem in_dkS : inD (.str s) (.dk fl ks xs) = some (ks.any fun q => decide (q = .inr s)) := id rfl
@[simp] theorem truth_ktup : truth (.ktup k) = some (!k.isEmpty) := id rfl
@[simp] theorem keyD_int : keyD (.inl i) = .int i := id rfl
@[simp] theorem keyD_str : keyD (.inr s) = .str s := id rfl
@[simp] theorem isi_ins {t : Ty} {tab tabI : List (Nat × Bool)} : isiD t tab tabI (.ins fl c fs xs) = tabI.lookup c := id rfl
@[simp] theorem isi_b_ktup {n : String} {tab tabI : List (Nat × Bool)} : isiD (.b n) tab tabI (.ktup k) = kitB "tuple" n := id rfl
@[simp] theorem isi_c_ktup {n : Nat} {tab tabI : List (Nat × Bool)} : isiD (.c n) tab tabI (.ktup k) = some false := id rfl
@[simp] theorem isi_c_dk {n : Nat} {tab tabI : List (Nat × Bool)} : isiD (.c n) tab tabI (.dk fl ks xs) = some false := id rfl
@[simp] theorem opD_dnt : opD .dnt [] = some (.dt .own [] []) := id rfl
end
end TT
/-! loops and comprehensions over lists that are images -/
namespace TT
open PySem L2
/-- a walk as a fold -/
theorem loopF_fold {α β γ : Type} {f : D → List D → O} (h : α → D) (st : β → γ → List D) (up : β → α → β) : ∀ (l : List α) (b : β) (x : γ),
    (∀ l1 a l2, l = l1 ++ a :: l2 → ∀ x, ∃ x', f (h a) (st (l1.foldl up b) x) = .nx (st (up (l1.foldl up b) a) x')) → ∃ x', loopF f (l.map h) (st b x) = .nx (st (l.foldl up b) x')
  | [], b, x, _ => ⟨x, rfl⟩
  | a :: l, b, x, k => by
    obtain ⟨x1, e1⟩ := k [] a l rfl x
    obtain ⟨x2, e2⟩ := loopF_fold h st up l (up b a) x1 fun l1 c l2 e y => by
      have := k (a :: l1) c l2 (by rw [e]; rfl) y
      exact this
    refine ⟨x2, ?_⟩
    rw [List.map_cons, loopF]
    replace e1 : f (h a) (st b x) = .nx (st (up b a) x1) := e1
    rw [e1]
    exact e2
theorem loopC_img {α : Type} {own : List Nat} {f : D → List D → R (Option D)} {s : List D} (h g : α → D) : ∀ {l : List α}, (∀ a ∈ l, ∃ s', f (h a) s = .ok (some (g a)) s' ∧ chk own s' = true ∧ clr own s' = s) → loopC own f (l.map h) s = .ok (l.map g) s
  | [], _ => rfl
  | a :: l, k => by
    obtain ⟨s', e, c, q⟩ := k a List.mem_cons_self
    have ih := loopC_img h g fun b hb => k b (List.mem_cons_of_mem _ hb)
    rw [List.map_cons, loopC_cons, e]
    show (if chk own s' then (loopC own f (l.map h) (clr own s')).bind fun ys s2 => R.ok (g a :: ys) s2 else R.bad) = _
    rw [c, q, ih]; rfl
end TT
namespace TT
open PySem L2
theorem kids_img {α : Type} {l : List α} {g : α → D} (h : ∀ a ∈ l, noBor (g a) = true ∧ isDead (g a) = false) : goodKids (l.map g) = true := by
  unfold goodKids
  rw [Bool.and_eq_true]
  refine ⟨noBors_iff.2 fun x hx => ?_, List.all_eq_true.2 fun x hx => ?_⟩
  · obtain ⟨a, ha, rfl⟩ := List.mem_map.1 hx
    exact (h a ha).1
  · obtain ⟨a, ha, rfl⟩ := List.mem_map.1 hx
    rw [(h a ha).2]; rfl
theorem comp_img {α : Type} {own : List Nat} {t : Tg} {co : List E} {elt : E} {s : List D} {l : List α} (h g : α → D) (hc : chk own s = true) (k : ∀ a ∈ l, ∃ s', stepO co elt (tgSet t (h a) (clr own s)) = .ok (some (g a)) s' ∧ chk own s' = true ∧ clr own s' = clr own s)
    (hk : ∀ a ∈ l, noBor (g a) = true ∧ isDead (g a) = false) (hl : l.length ≤ 16777216) : compO own t co elt s (some (l.map h)) = .ok (.lst .own (l.map g)) s := by
  show (if chk own s then compE own s (loopC own (stepC t co elt) (l.map h) (clr own s)) else .bad) = _
  rw [hc, loopC_img h g fun a ha => by rw [step_eq]; exact k a ha]
  show (if goodKids (l.map g) && decide ((l.map g).length ≤ sizeLine) then R.ok (D.lst .own (l.map g)) (rst s own (clr own s)) else R.bad) = _
  rw [kids_img hk, rst_clr, List.length_map, szl, decide_eq_true hl]
  rfl
theorem rngD_nat {n : Nat} : rngD 0 n 1 = (List.range n).map fun (j : Nat) => D.int (j : Int) := by
  unfold rngD
  refine List.map_congr_left fun j _ => ?_
  rw [show (0 : Int) + (j : Int) * 1 = j by omega]
theorem owns_img {α : Type} {l : List α} {g : α → D} (h : ∀ a, noOwn (g a) = true) : noOwns (l.map g) = true := noOwns_iff.2 fun x hx => by
  obtain ⟨a, _, rfl⟩ := List.mem_map.1 hx
  exact h a
theorem bors_img {α : Type} {l : List α} {g : α → D} (h : ∀ a, noBor (g a) = true) : noBors (l.map g) = true := noBors_iff.2 fun x hx => by
  obtain ⟨a, _, rfl⟩ := List.mem_map.1 hx
  exact h a
theorem dead_img {α : Type} {l : List α} {g : α → D} (h : ∀ a, isDead (g a) = false) : (l.map g).all (fun x => !isDead x) = true := List.all_eq_true.2 fun x hx => by
  obtain ⟨a, _, rfl⟩ := List.mem_map.1 hx
  rw [h a]; rfl
theorem refls_img {α : Type} {l : List α} {g : α → D} {m : Fl → Fl} (h : ∀ a, refl m (g a) = g a) : refls m (l.map g) = l.map g := by
  rw [refls_map, List.map_map]
  exact List.map_congr_left fun a _ => h a
/-- whole numbers, texts, key tuples in lists -/
abbrev iL (l : List Nat) : List D := l.map fun (n : Nat) => D.int (n : Int)
abbrev sL (l : List Str) : List D := l.map D.str
def kN (p : List Nat) : List Key := p.map fun (n : Nat) => Sum.inl (n : Int)
abbrev kL (l : List (List Nat)) : List D := l.map fun p => D.ktup (kN p)
@[simp] theorem iL_own {l : List Nat} : noOwns (iL l) = true := owns_img fun _ => rfl
@[simp] theorem iL_bor {l : List Nat} : noBors (iL l) = true := bors_img fun _ => rfl
@[simp] theorem iL_dead {l : List Nat} : (iL l).all (fun x => !isDead x) = true := dead_img fun _ => rfl
@[simp] theorem iL_refl {l : List Nat} {m : Fl → Fl} : refls m (iL l) = iL l := refls_img fun _ => rfl
@[simp] theorem sL_own {l : List Str} : noOwns (sL l) = true := owns_img fun _ => rfl
@[simp] theorem sL_bor {l : List Str} : noBors (sL l) = true := bors_img fun _ => rfl
@[simp] theorem sL_dead {l : List Str} : (sL l).all (fun x => !isDead x) = true := dead_img fun _ => rfl
@[simp] theorem sL_refl {l : List Str} {m : Fl → Fl} : refls m (sL l) = sL l := refls_img fun _ => rfl
@[simp] theorem kL_own {l : List (List Nat)} : noOwns (kL l) = true := owns_img fun _ => rfl
@[simp] theorem kL_bor {l : List (List Nat)} : noBors (kL l) = true := bors_img fun _ => rfl
@[simp] theorem kL_dead {l : List (List Nat)} : (kL l).all (fun x => !isDead x) = true := dead_img fun _ => rfl
@[simp] theorem kL_refl {l : List (List Nat)} {m : Fl → Fl} : refls m (kL l) = kL l := refls_img fun _ => rfl
theorem kN_key {p : List Nat} : (kN p).map keyD = iL p := by
  unfold kN
  rw [List.map_map]; rfl
@[simp] theorem kN_len {p : List Nat} : (kN p).length = p.length := by unfold kN; simp
theorem kN_app {p q : List Nat} : kN p ++ kN q = kN (p ++ q) := by unfold kN; simp
theorem kN_inj {p q : List Nat} (h : kN p = kN q) : p = q := by
  unfold kN at h
  refine List.map_inj_right (fun a b e => ?_) |>.1 h
  simp at e
  omega
end TT
namespace TT
open PySem L2
@[simp] theorem addD_ss {a b : Str} : addD (.str a) (.str b) = if a.length + b.length ≤ sizeLine then some (.str (a ++ b)) else none := id rfl
@[simp] theorem addD_ll {fl fl2 : Fl} {xs ys : List D} : addD (.lst fl xs) (.lst fl2 ys) = if noOwns xs = true ∧ noOwns ys = true ∧ noBors xs = true ∧ noBors ys = true ∧ xs.length + ys.length ≤ sizeLine then some (.lst .own (xs ++ ys)) else none := id rfl
@[simp] theorem addD_tt {xs ys : List D} : addD (.tup .shr xs) (.tup .shr ys) = if xs.length + ys.length ≤ sizeLine then some (.tup .shr (xs ++ ys)) else none := id rfl
end TT
namespace TT.Law
open PySem PySem.Spec PyProof.Rows L2 TT
def top (i : Nat) : Stmt := PySem.Challenge.pw_oddsweb_k04_tables_made.main.body.getD i (.Pass ⟨0, 0, 0, 0⟩)
def bnL : List Str := ["ValueError", "all", "bool", "enumerate", "int", "isinstance", "len", "list", "range", "set", "str", "tuple", "zip"]
/-! ### is_whole -/
def b_is_whole : List S := [.ret (.band [.op (.isi (.b "int") "int" [] []) [.nm 0], .op .not [.op (.isi (.b "bool") "bool" [] []) [.nm 0]], .op .ge [.nm 0, .nm 1]])]
abbrev N_is_whole : List Str := ["thing", "least"]
theorem m_is_whole : mSs ⟨N_is_whole, defScope (top 15), bnL, 0, false, none⟩ b_is_whole (defBody (top 15)) = true := by decide +kernel
theorem s_is_whole : scB N_is_whole ["thing", "least"] (defScope (top 15)) = true := by decide +kernel
abbrev r_is_whole : List D → FR := runF 2 false b_is_whole
def f_is_whole : FE := ⟨"is_whole", 2, 1, false, [], r_is_whole⟩
theorem ge_is_whole (ds : List D) : f_is_whole.g ds = runF 2 false b_is_whole ds := id rfl
@[simp] theorem fl_is_whole_2 (x0 x1 : D) : fillD f_is_whole [x0, x1] = [lend x0, lend x1] := fill_eq rfl
theorem h_is_whole : ∀ ds, ds.length = f_is_whole.np → f_is_whole.g ds = runF N_is_whole.length f_is_whole.m b_is_whole ds ∨ f_is_whole.g ds = .bad := fun _ _ => .inl rfl
/-! ### common -/
def l0_common : List S := [.asg 2 (.op .mod [.nm 0, .nm 1]),
  .asg 0 (.cp (.nm 1)),
  .asg 1 (.cp (.nm 2))]
def b_common : List S := [.whl (fuelI 1) (.op .gt [.nm 1, .c (.int 0)]) l0_common,
  .ret (.mv 0)]
abbrev N_common : List Str := ["one", "other", "rest"]
theorem m_common : mSs ⟨N_common, defScope (top 16), bnL, 0, false, none⟩ b_common (defBody (top 16)) = true := by decide +kernel
theorem s_common : scB N_common ["one", "other"] (defScope (top 16)) = true := by decide +kernel
abbrev r_common : List D → FR := runF 3 false b_common
def f_common : FE := ⟨"common", 2, 1, false, [], r_common⟩
theorem ge_common (ds : List D) : f_common.g ds = runF 3 false b_common ds := id rfl
@[simp] theorem fl_common_2 (x0 x1 : D) : fillD f_common [x0, x1] = [lend x0, lend x1] := fill_eq rfl
theorem h_common : ∀ ds, ds.length = f_common.np → f_common.g ds = runF N_common.length f_common.m b_common ds ∨ f_common.g ds = .bad := fun _ _ => .inl rfl
/-! ### is_share -/
def b_is_share : List S := [.ift (.bor [.op .not [.op (.isi (.b "tuple") "tuple" [] []) [.nm 0]], .op .ne [.op .len [.nm 0], .c (.int 2)], .op .not [.call f_is_whole [.op .ix [.nm 0, .c (.int 0)], .c (.int 0)]], .op .not [.call f_is_whole [.op .ix [.nm 0, .c (.int 1)], .c (.int 1)]]])
    [.ret (.c (.bl false))]
    [],
  .ret (.op .eq [.call f_common [.op .ix [.nm 0, .c (.int 0)], .op .ix [.nm 0, .c (.int 1)]], .c (.int 1)])]
abbrev N_is_share : List Str := ["thing"]
theorem m_is_share : mSs ⟨N_is_share, defScope (top 17), bnL, 1, false, none⟩ b_is_share (defBody (top 17)) = true := by decide +kernel
theorem s_is_share : scB N_is_share ["thing"] (defScope (top 17)) = true := by decide +kernel
abbrev r_is_share : List D → FR := runF 1 false b_is_share
def f_is_share : FE := ⟨"is_share", 1, 2, false, [], r_is_share⟩
theorem ge_is_share (ds : List D) : f_is_share.g ds = runF 1 false b_is_share ds := id rfl
@[simp] theorem fl_is_share_1 (x0 : D) : fillD f_is_share [x0] = [lend x0] := fill_eq rfl
theorem h_is_share : ∀ ds, ds.length = f_is_share.np → f_is_share.g ds = runF N_is_share.length f_is_share.m b_is_share ds ∨ f_is_share.g ds = .bad := fun _ _ => .inl rfl
/-! ### is_good_name -/
def c0_is_good_name : List E := []
def e0_is_good_name : E := .op .in_ [.nm 1, .gl "SIGNS" (.str "abcdefghijklmnopqrstuvwxyz")]
def b_is_good_name : List S := [.ret (.band [.op (.isi (.b "str") "str" [] []) [.nm 0], .chain .le .le (.c (.int 1)) (.op .len [.nm 0]) (.gl "LONGEST" (.int 8)), .op .all [.comp [1] (.nm 1) .seq [.nm 0] c0_is_good_name e0_is_good_name]])]
abbrev N_is_good_name : List Str := ["thing", "sign"]
theorem m_is_good_name : mSs ⟨N_is_good_name, defScope (top 26), bnL, 0, false, none⟩ b_is_good_name (defBody (top 26)) = true := by decide +kernel
theorem s_is_good_name : scB N_is_good_name ["thing"] (defScope (top 26)) = true := by decide +kernel
abbrev r_is_good_name : List D → FR := runF 2 false b_is_good_name
def f_is_good_name : FE := ⟨"is_good_name", 1, 1, false, [], r_is_good_name⟩
theorem ge_is_good_name (ds : List D) : f_is_good_name.g ds = runF 2 false b_is_good_name ds := id rfl
@[simp] theorem fl_is_good_name_1 (x0 : D) : fillD f_is_good_name [x0] = [lend x0] := fill_eq rfl
theorem h_is_good_name : ∀ ds, ds.length = f_is_good_name.np → f_is_good_name.g ds = runF N_is_good_name.length f_is_good_name.m b_is_good_name ds ∨ f_is_good_name.g ds = .bad := fun _ _ => .inl rfl
/-! ### is_kind -/
def b_is_kind : List S := [.ret (.band [.op (.isi (.b "int") "int" [] []) [.nm 0], .op .not [.op (.isi (.b "bool") "bool" [] []) [.nm 0]], .chain .le .lt (.c (.int 0)) (.cp (.nm 0)) (.cp (.nm 1))])]
abbrev N_is_kind : List Str := ["thing", "size"]
theorem m_is_kind : mSs ⟨N_is_kind, defScope (top 27), bnL, 0, false, none⟩ b_is_kind (defBody (top 27)) = true := by decide +kernel
theorem s_is_kind : scB N_is_kind ["thing", "size"] (defScope (top 27)) = true := by decide +kernel
abbrev r_is_kind : List D → FR := runF 2 false b_is_kind
def f_is_kind : FE := ⟨"is_kind", 2, 1, false, [], r_is_kind⟩
theorem ge_is_kind (ds : List D) : f_is_kind.g ds = runF 2 false b_is_kind ds := id rfl
@[simp] theorem fl_is_kind_2 (x0 x1 : D) : fillD f_is_kind [x0, x1] = [lend x0, lend x1] := fill_eq rfl
theorem h_is_kind : ∀ ds, ds.length = f_is_kind.np → f_is_kind.g ds = runF N_is_kind.length f_is_kind.m b_is_kind ds ∨ f_is_kind.g ds = .bad := fun _ _ => .inl rfl
/-! ### need -/
def b_need : List S := [.ift (.op .not [.nm 0])
    [.raise0 2 "BadTable"]
    []]
abbrev N_need : List Str := ["good"]
theorem m_need : mSs ⟨N_need, defScope (top 28), bnL, 0, false, none⟩ b_need (defBody (top 28)) = true := by decide +kernel
theorem s_need : scB N_need ["good"] (defScope (top 28)) = true := by decide +kernel
abbrev r_need : List D → FR := runF 1 false b_need
def f_need : FE := ⟨"need", 1, 1, false, [], r_need⟩
theorem ge_need (ds : List D) : f_need.g ds = runF 1 false b_need ds := id rfl
@[simp] theorem fl_need_1 (x0 : D) : fillD f_need [x0] = [lend x0] := fill_eq rfl
theorem h_need : ∀ ds, ds.length = f_need.np → f_need.g ds = runF N_need.length f_need.m b_need ds ∨ f_need.g ds = .bad := fun _ _ => .inl rfl
/-! ### how_many -/
def l0_how_many : List S := [.aug 1 .mul (.cp (.nm 2))]
def b_how_many : List S := [.asg 1 (.c (.int 1)),
  .for_ (.nm 2) ⟨.seq, [.nm 0]⟩ l0_how_many,
  .ret (.mv 1)]
abbrev N_how_many : List Str := ["sizes", "found", "size"]
theorem m_how_many : mSs ⟨N_how_many, defScope (top 29), bnL, 0, false, none⟩ b_how_many (defBody (top 29)) = true := by decide +kernel
theorem s_how_many : scB N_how_many ["sizes"] (defScope (top 29)) = true := by decide +kernel
abbrev r_how_many : List D → FR := runF 3 false b_how_many
def f_how_many : FE := ⟨"how_many", 1, 1, false, [], r_how_many⟩
theorem ge_how_many (ds : List D) : f_how_many.g ds = runF 3 false b_how_many ds := id rfl
@[simp] theorem fl_how_many_1 (x0 : D) : fillD f_how_many [x0] = [lend x0] := fill_eq rfl
theorem h_how_many : ∀ ds, ds.length = f_how_many.np → f_how_many.g ds = runF N_how_many.length f_how_many.m b_how_many ds ∨ f_how_many.g ds = .bad := fun _ _ => .inl rfl
/-! ### need_narrow -/
def b_need_narrow : List S := [.ift (.op .gt [.call f_how_many [.nm 0], .gl "MOST_PLACES" (.int 20000)])
    [.raise0 3 "TooWide"]
    []]
abbrev N_need_narrow : List Str := ["sizes"]
theorem m_need_narrow : mSs ⟨N_need_narrow, defScope (top 30), bnL, 1, false, none⟩ b_need_narrow (defBody (top 30)) = true := by decide +kernel
theorem s_need_narrow : scB N_need_narrow ["sizes"] (defScope (top 30)) = true := by decide +kernel
abbrev r_need_narrow : List D → FR := runF 1 false b_need_narrow
def f_need_narrow : FE := ⟨"need_narrow", 1, 2, false, [], r_need_narrow⟩
theorem ge_need_narrow (ds : List D) : f_need_narrow.g ds = runF 1 false b_need_narrow ds := id rfl
@[simp] theorem fl_need_narrow_1 (x0 : D) : fillD f_need_narrow [x0] = [lend x0] := fill_eq rfl
theorem h_need_narrow : ∀ ds, ds.length = f_need_narrow.np → f_need_narrow.g ds = runF N_need_narrow.length f_need_narrow.m b_need_narrow ds ∨ f_need_narrow.g ds = .bad := fun _ _ => .inl rfl
/-! ### places_by -/
def c0_places_by : List E := []
def e0_places_by : E := .op .add [.nm 4, .op .tupK [.nm 5]]
def l0_places_by : List S := [.up .ext (.nm 3) [.comp [5] (.nm 5) .rng1 [.nm 2] c0_places_by e0_places_by]]
def l1_places_by : List S := [.asg 3 (.op .lst []),
  .for_ (.nm 4) ⟨.seq, [.fz 1]⟩ l0_places_by,
  .asg 1 (.mv 3)]
def b_places_by : List S := [.asg 1 (.op .lst [.op .tupK []]),
  .for_ (.nm 2) ⟨.seq, [.nm 0]⟩ l1_places_by,
  .ret (.mv 1)]
abbrev N_places_by : List Str := ["sizes", "found", "size", "more", "place", "kind"]
theorem m_places_by : mSs ⟨N_places_by, defScope (top 31), bnL, 0, false, none⟩ b_places_by (defBody (top 31)) = true := by decide +kernel
theorem s_places_by : scB N_places_by ["sizes"] (defScope (top 31)) = true := by decide +kernel
abbrev r_places_by : List D → FR := runF 6 false b_places_by
def f_places_by : FE := ⟨"places_by", 1, 1, false, [], r_places_by⟩
theorem ge_places_by (ds : List D) : f_places_by.g ds = runF 6 false b_places_by ds := id rfl
@[simp] theorem fl_places_by_1 (x0 : D) : fillD f_places_by [x0] = [lend x0] := fill_eq rfl
theorem h_places_by : ∀ ds, ds.length = f_places_by.np → f_places_by.g ds = runF N_places_by.length f_places_by.m b_places_by ds ∨ f_places_by.g ds = .bad := fun _ _ => .inl rfl
/-! ### spot_of -/
def l0_spot_of : List S := [.asg 2 (.op .add [.op .mul [.nm 2, .nm 3], .nm 4])]
def b_spot_of : List S := [.asg 2 (.c (.int 0)),
  .for_ (.tup [3, 4]) ⟨.zip, [.cp (.nm 0), .cp (.nm 1)]⟩ l0_spot_of,
  .ret (.mv 2)]
abbrev N_spot_of : List Str := ["sizes", "place", "found", "size", "kind"]
theorem m_spot_of : mSs ⟨N_spot_of, defScope (top 32), bnL, 0, false, none⟩ b_spot_of (defBody (top 32)) = true := by decide +kernel
theorem s_spot_of : scB N_spot_of ["sizes", "place"] (defScope (top 32)) = true := by decide +kernel
abbrev r_spot_of : List D → FR := runF 5 false b_spot_of
def f_spot_of : FE := ⟨"spot_of", 2, 1, false, [], r_spot_of⟩
theorem ge_spot_of (ds : List D) : f_spot_of.g ds = runF 5 false b_spot_of ds := id rfl
@[simp] theorem fl_spot_of_2 (x0 x1 : D) : fillD f_spot_of [x0, x1] = [lend x0, lend x1] := fill_eq rfl
theorem h_spot_of : ∀ ds, ds.length = f_spot_of.np → f_spot_of.g ds = runF N_spot_of.length f_spot_of.m b_spot_of ds ∨ f_spot_of.g ds = .bad := fun _ _ => .inl rfl
/-! ### _law_cell_at -/
def b__law_cell_at : List S := [.ift (.op .lt [.nm 1, .op .len [.nm 0]])
    [.ret (.cp (.op .ix [.nm 0, .nm 1]))]
    [],
  .ret (.c (.int 0))]
abbrev N__law_cell_at : List Str := ["_law_script", "_law_k"]
theorem m__law_cell_at : mSs ⟨N__law_cell_at, defScope (top 37), bnL, 0, false, none⟩ b__law_cell_at (defBody (top 37)) = true := by decide +kernel
theorem s__law_cell_at : scB N__law_cell_at ["_law_script", "_law_k"] (defScope (top 37)) = true := by decide +kernel
abbrev r__law_cell_at : List D → FR := runF 2 false b__law_cell_at
def f__law_cell_at : FE := ⟨"_law_cell_at", 2, 1, false, [], r__law_cell_at⟩
theorem ge__law_cell_at (ds : List D) : f__law_cell_at.g ds = runF 2 false b__law_cell_at ds := id rfl
@[simp] theorem fl__law_cell_at_2 (x0 x1 : D) : fillD f__law_cell_at [x0, x1] = [lend x0, lend x1] := fill_eq rfl
theorem h__law_cell_at : ∀ ds, ds.length = f__law_cell_at.np → f__law_cell_at.g ds = runF N__law_cell_at.length f__law_cell_at.m b__law_cell_at ds ∨ f__law_cell_at.g ds = .bad := fun _ _ => .inl rfl
/-! ### _law_mixed -/
def b__law_mixed : List S := [.ret (.op .mod [.op .mul [.op .mod [.op .add [.op .add [.op .mul [.nm 0, .op .add [.c (.int 48271), .op .mul [.op .mul [.c (.int 2), .nm 1], .nm 1]]], .op .mul [.c (.int 69621), .nm 1]], .c (.int 11)], .c (.int 2147483647)], .c (.int 69621)], .c (.int 2147483629)])]
abbrev N__law_mixed : List Str := ["_law_cell", "_law_k"]
theorem m__law_mixed : mSs ⟨N__law_mixed, defScope (top 38), bnL, 0, false, none⟩ b__law_mixed (defBody (top 38)) = true := by decide +kernel
theorem s__law_mixed : scB N__law_mixed ["_law_cell", "_law_k"] (defScope (top 38)) = true := by decide +kernel
abbrev r__law_mixed : List D → FR := runF 2 false b__law_mixed
def f__law_mixed : FE := ⟨"_law_mixed", 2, 1, false, [], r__law_mixed⟩
theorem ge__law_mixed (ds : List D) : f__law_mixed.g ds = runF 2 false b__law_mixed ds := id rfl
@[simp] theorem fl__law_mixed_2 (x0 x1 : D) : fillD f__law_mixed [x0, x1] = [lend x0, lend x1] := fill_eq rfl
theorem h__law_mixed : ∀ ds, ds.length = f__law_mixed.np → f__law_mixed.g ds = runF N__law_mixed.length f__law_mixed.m b__law_mixed ds ∨ f__law_mixed.g ds = .bad := fun _ _ => .inl rfl
/-! ### _law_names -/
def c3__law_names : List E := []
def e3__law_names : E := .op .add [.op .add [.op (.sl false true) [.nm 6, .nm 7], .nm 9], .op (.sl true false) [.nm 6, .nm 7]]
def c2__law_names : List E := []
def e2__law_names : E := .cp (.op .ix [.nm 1, .op .mod [.op .add [.op .fdiv [.nm 0, .c (.int 28080)], .op .mul [.c (.int 5), .nm 5]], .c (.int 26)]])
def c1__law_names : List E := []
def e1__law_names : E := .op (.sl false true) [.nm 3, .op .add [.nm 5, .c (.int 1)]]
def c0__law_names : List E := []
def e0__law_names : E := .cp (.op .ix [.nm 1, .op .mod [.op .add [.op .fdiv [.nm 0, .c (.int 5)], .op .mul [.nm 2, .nm 4]], .c (.int 26)]])
def b__law_names : List S := [.asg 1 (.c (.str "abcdefghijklmnopqrstuvwxyz")),
  .asg 2 (.op .add [.c (.int 3), .op .mod [.nm 0, .c (.int 5)]]),
  .asg 3 (.mth .join (.c (.str "")) [.comp [4] (.nm 4) .rng1 [.c (.int 8)] c0__law_names e0__law_names]),
  .ift (.op .eq [.op .mod [.op .fdiv [.nm 0, .c (.int 130)], .c (.int 3)], .c (.int 1)])
    [.ret (.op .add [.comp [5] (.nm 5) .rng1 [.c (.int 8)] c1__law_names e1__law_names, .op .lst [.op (.sl true true) [.nm 3, .c (.int 1), .c (.int 7)], .op (.sl true false) [.nm 3, .c (.int 2)]]])]
    [],
  .asg 6 (.op (.sl false true) [.nm 3, .op .mod [.op .fdiv [.nm 0, .c (.int 390)], .c (.int 8)]]),
  .asg 7 (.op .mod [.op .fdiv [.nm 0, .c (.int 3120)], .op .add [.op .len [.nm 6], .c (.int 1)]]),
  .asg 8 (.comp [5] (.nm 5) .rng1 [.c (.int 10)] c2__law_names e2__law_names),
  .ret (.comp [9] (.nm 9) .seq [.fz 8] c3__law_names e3__law_names)]
abbrev N__law_names : List Str := ["_law_number", "_law_letters", "_law_step", "_law_base", "_law_j", "_law_k", "_law_border", "_law_at", "_law_signs", "_law_sign"]
theorem m__law_names : mSs ⟨N__law_names, defScope (top 39), bnL, 0, false, none⟩ b__law_names (defBody (top 39)) = true := by decide +kernel
theorem s__law_names : scB N__law_names ["_law_number"] (defScope (top 39)) = true := by decide +kernel
abbrev r__law_names : List D → FR := runF 10 false b__law_names
def f__law_names : FE := ⟨"_law_names", 1, 1, false, [], r__law_names⟩
theorem ge__law_names (ds : List D) : f__law_names.g ds = runF 10 false b__law_names ds := id rfl
@[simp] theorem fl__law_names_1 (x0 : D) : fillD f__law_names [x0] = [lend x0] := fill_eq rfl
theorem h__law_names : ∀ ds, ds.length = f__law_names.np → f__law_names.g ds = runF N__law_names.length f__law_names.m b__law_names ds ∨ f__law_names.g ds = .bad := fun _ _ => .inl rfl
/-! ### _law_short -/
def l0__law_short : List S := [.asg 4 (.op .mod [.nm 2, .nm 3]),
  .asg 2 (.cp (.nm 3)),
  .asg 3 (.cp (.nm 4))]
def b__law_short : List S := [.asg 2 (.cp (.nm 0)),
  .asg 3 (.cp (.nm 1)),
  .whl (fuelI 3) (.op .gt [.nm 3, .c (.int 0)]) l0__law_short,
  .ret (.op .tup [.op .fdiv [.nm 0, .nm 2], .op .fdiv [.nm 1, .nm 2]])]
abbrev N__law_short : List Str := ["_law_top", "_law_bottom", "_law_one", "_law_other", "_law_rest"]
theorem m__law_short : mSs ⟨N__law_short, defScope (top 40), bnL, 0, false, none⟩ b__law_short (defBody (top 40)) = true := by decide +kernel
theorem s__law_short : scB N__law_short ["_law_top", "_law_bottom"] (defScope (top 40)) = true := by decide +kernel
abbrev r__law_short : List D → FR := runF 5 false b__law_short
def f__law_short : FE := ⟨"_law_short", 2, 1, false, [], r__law_short⟩
theorem ge__law_short (ds : List D) : f__law_short.g ds = runF 5 false b__law_short ds := id rfl
@[simp] theorem fl__law_short_2 (x0 x1 : D) : fillD f__law_short [x0, x1] = [lend x0, lend x1] := fill_eq rfl
theorem h__law_short : ∀ ds, ds.length = f__law_short.np → f__law_short.g ds = runF N__law_short.length f__law_short.m b__law_short ds ∨ f__law_short.g ds = .bad := fun _ _ => .inl rfl
/-! ### _law_places -/
def c0__law_places : List E := []
def e0__law_places : E := .op .add [.nm 4, .op .tupK [.nm 5]]
def l0__law_places : List S := [.up .ext (.nm 3) [.comp [5] (.nm 5) .rng1 [.nm 2] c0__law_places e0__law_places]]
def l1__law_places : List S := [.asg 3 (.op .lst []),
  .for_ (.nm 4) ⟨.seq, [.fz 1]⟩ l0__law_places,
  .asg 1 (.mv 3)]
def b__law_places : List S := [.asg 1 (.op .lst [.op .tupK []]),
  .for_ (.nm 2) ⟨.seq, [.nm 0]⟩ l1__law_places,
  .ret (.mv 1)]
abbrev N__law_places : List Str := ["_law_sizes_here", "_law_found", "_law_size", "_law_more", "_law_place", "_law_kind"]
theorem m__law_places : mSs ⟨N__law_places, defScope (top 41), bnL, 0, false, none⟩ b__law_places (defBody (top 41)) = true := by decide +kernel
theorem s__law_places : scB N__law_places ["_law_sizes_here"] (defScope (top 41)) = true := by decide +kernel
abbrev r__law_places : List D → FR := runF 6 false b__law_places
def f__law_places : FE := ⟨"_law_places", 1, 1, false, [], r__law_places⟩
theorem ge__law_places (ds : List D) : f__law_places.g ds = runF 6 false b__law_places ds := id rfl
@[simp] theorem fl__law_places_1 (x0 : D) : fillD f__law_places [x0] = [lend x0] := fill_eq rfl
theorem h__law_places : ∀ ds, ds.length = f__law_places.np → f__law_places.g ds = runF N__law_places.length f__law_places.m b__law_places ds ∨ f__law_places.g ds = .bad := fun _ _ => .inl rfl
/-! ### _law_share -/
def b__law_share : List S := [.asg 1 (.op .lst [.c (.int 0), .c (.int 1), .op .mod [.op .fdiv [.nm 0, .c (.int 7)], .c (.int 10)], .op .mod [.nm 0, .c (.int 1000003)], .op .mod [.op .mul [.nm 0, .c (.int 48271)], .op .pow [.c (.int 10), .c (.int 20)]], .c (.int 1)]),
  .asg 2 (.op .lst [.c (.int 1), .c (.int 1), .op .add [.c (.int 1), .op .mod [.op .fdiv [.nm 0, .c (.int 70)], .c (.int 9)]], .op .add [.c (.int 1), .op .mod [.op .fdiv [.nm 0, .c (.int 11)], .c (.int 1000)]], .op .add [.c (.int 1), .op .mod [.op .mul [.nm 0, .c (.int 69621)], .op .pow [.c (.int 10), .c (.int 18)]]], .op .pow [.c (.int 10), .c (.int 6)]]),
  .ret (.call f__law_short [.op .ix [.nm 1, .op .mod [.op .fdiv [.nm 0, .c (.int 3)], .c (.int 6)]], .op .ix [.nm 2, .op .mod [.op .fdiv [.nm 0, .c (.int 18)], .c (.int 6)]]])]
abbrev N__law_share : List Str := ["_law_number", "_law_tops", "_law_bottoms"]
theorem m__law_share : mSs ⟨N__law_share, defScope (top 42), bnL, 1, false, none⟩ b__law_share (defBody (top 42)) = true := by decide +kernel
theorem s__law_share : scB N__law_share ["_law_number"] (defScope (top 42)) = true := by decide +kernel
abbrev r__law_share : List D → FR := runF 3 false b__law_share
def f__law_share : FE := ⟨"_law_share", 1, 2, false, [], r__law_share⟩
theorem ge__law_share (ds : List D) : f__law_share.g ds = runF 3 false b__law_share ds := id rfl
@[simp] theorem fl__law_share_1 (x0 : D) : fillD f__law_share [x0] = [lend x0] := fill_eq rfl
theorem h__law_share : ∀ ds, ds.length = f__law_share.np → f__law_share.g ds = runF N__law_share.length f__law_share.m b__law_share ds ∨ f__law_share.g ds = .bad := fun _ _ => .inl rfl
/-! ### _law_drawn -/
def c0__law_drawn : List E := []
def e0__law_drawn : E := .cp (.op .ix [.nm 1, .mth .idx (.nm 0) [.nm 7]])
def l0__law_drawn : List S := [.asg 5 (.op .mod [.call f__law_mixed [.nm 2, .op .add [.c (.int 20), .nm 4]], .c (.int 5)]),
  .ift (.op .nin [.op .ix [.nm 0, .nm 5], .nm 3])
    [.app 3 (.cp (.op .ix [.nm 0, .nm 5]))]
    []]
def l1__law_drawn : List S := [.setI (.nm 8) (.nm 9) (.call f__law_share [.call f__law_mixed [.nm 2, .op .add [.c (.int 30), .nm 4]]])]
def b__law_drawn : List S := [.asg 3 (.op .lst []),
  .for_ (.nm 4) ⟨.rng1, [.op .mod [.nm 2, .c (.int 4)]]⟩ l0__law_drawn,
  .asg 6 (.pu (.comp [7] (.nm 7) .seq [.nm 3] c0__law_drawn e0__law_drawn)),
  .asg 8 (.op .dnt []),
  .for_ (.tup [4, 9]) ⟨.enum, [.tf (.call f__law_places [.nm 6])]⟩ l1__law_drawn,
  .ret (.op (.dlit ["names", "sizes", "cells"]) [.mv 3, .mv 6, .mv 8])]
abbrev N__law_drawn : List Str := ["_law_pool", "_law_sizes_here", "_law_number", "_law_names_here", "_law_k", "_law_at", "_law_counts", "_law_name", "_law_cells", "_law_place"]
theorem m__law_drawn : mSs ⟨N__law_drawn, defScope (top 43), bnL, 2, false, none⟩ b__law_drawn (defBody (top 43)) = true := by decide +kernel
theorem s__law_drawn : scB N__law_drawn ["_law_pool", "_law_sizes_here", "_law_number"] (defScope (top 43)) = true := by decide +kernel
abbrev r__law_drawn : List D → FR := runF 10 false b__law_drawn
def f__law_drawn : FE := ⟨"_law_drawn", 3, 3, false, [], r__law_drawn⟩
theorem ge__law_drawn (ds : List D) : f__law_drawn.g ds = runF 10 false b__law_drawn ds := id rfl
@[simp] theorem fl__law_drawn_3 (x0 x1 x2 : D) : fillD f__law_drawn [x0, x1, x2] = [lend x0, lend x1, lend x2] := fill_eq rfl
theorem h__law_drawn : ∀ ds, ds.length = f__law_drawn.np → f__law_drawn.g ds = runF N__law_drawn.length f__law_drawn.m b__law_drawn ds ∨ f__law_drawn.g ds = .bad := fun _ _ => .inl rfl
/-! ### _law_sizes -/
def c0__law_sizes : List E := []
def e0__law_sizes : E := .op .ix [.op .lst [.c (.int 1), .c (.int 2), .c (.int 3), .c (.int 4), .c (.int 2)], .op .mod [.op .add [.op .fdiv [.nm 0, .c (.int 7)], .op .mul [.c (.int 3), .nm 1]], .c (.int 5)]]
def b__law_sizes : List S := [.ret (.comp [1] (.nm 1) .rng1 [.c (.int 5)] c0__law_sizes e0__law_sizes)]
abbrev N__law_sizes : List Str := ["_law_number", "_law_k"]
theorem m__law_sizes : mSs ⟨N__law_sizes, defScope (top 45), bnL, 0, false, none⟩ b__law_sizes (defBody (top 45)) = true := by decide +kernel
theorem s__law_sizes : scB N__law_sizes ["_law_number"] (defScope (top 45)) = true := by decide +kernel
abbrev r__law_sizes : List D → FR := runF 2 false b__law_sizes
def f__law_sizes : FE := ⟨"_law_sizes", 1, 1, false, [], r__law_sizes⟩
theorem ge__law_sizes (ds : List D) : f__law_sizes.g ds = runF 2 false b__law_sizes ds := id rfl
@[simp] theorem fl__law_sizes_1 (x0 : D) : fillD f__law_sizes [x0] = [lend x0] := fill_eq rfl
theorem h__law_sizes : ∀ ds, ds.length = f__law_sizes.np → f__law_sizes.g ds = runF N__law_sizes.length f__law_sizes.m b__law_sizes ds ∨ f__law_sizes.g ds = .bad := fun _ _ => .inl rfl
/-! ### Table.names -/
def b_Table_names : List S := [.ret (.op .list [.op (.fld "row" [11]) [.nm 0]])]
abbrev N_Table_names : List Str := ["self"]
theorem m_Table_names : mSs ⟨N_Table_names, defScope (inClass (top 34) 1), bnL, 0, false, none⟩ b_Table_names (defBody (inClass (top 34) 1)) = true := by decide +kernel
theorem s_Table_names : scB N_Table_names ["self"] (defScope (inClass (top 34) 1)) = true := by decide +kernel
abbrev r_Table_names : List D → FR := runF 1 false b_Table_names
def f_Table_names : FE := ⟨"names", 1, 1, false, [], r_Table_names⟩
theorem ge_Table_names (ds : List D) : f_Table_names.g ds = runF 1 false b_Table_names ds := id rfl
@[simp] theorem fl_Table_names_1 (x0 : D) : fillD f_Table_names [x0] = [lend x0] := fill_eq rfl
theorem h_Table_names : ∀ ds, ds.length = f_Table_names.np → f_Table_names.g ds = runF N_Table_names.length f_Table_names.m b_Table_names ds ∨ f_Table_names.g ds = .bad := fun _ _ => .inl rfl
/-! ### Table.sizes -/
def b_Table_sizes : List S := [.ret (.op .list [.op (.fld "counts" [11]) [.nm 0]])]
abbrev N_Table_sizes : List Str := ["self"]
theorem m_Table_sizes : mSs ⟨N_Table_sizes, defScope (inClass (top 34) 2), bnL, 0, false, none⟩ b_Table_sizes (defBody (inClass (top 34) 2)) = true := by decide +kernel
theorem s_Table_sizes : scB N_Table_sizes ["self"] (defScope (inClass (top 34) 2)) = true := by decide +kernel
abbrev r_Table_sizes : List D → FR := runF 1 false b_Table_sizes
def f_Table_sizes : FE := ⟨"sizes", 1, 1, false, [], r_Table_sizes⟩
theorem ge_Table_sizes (ds : List D) : f_Table_sizes.g ds = runF 1 false b_Table_sizes ds := id rfl
@[simp] theorem fl_Table_sizes_1 (x0 : D) : fillD f_Table_sizes [x0] = [lend x0] := fill_eq rfl
theorem h_Table_sizes : ∀ ds, ds.length = f_Table_sizes.np → f_Table_sizes.g ds = runF N_Table_sizes.length f_Table_sizes.m b_Table_sizes ds ∨ f_Table_sizes.g ds = .bad := fun _ _ => .inl rfl
/-! ### Table.shares -/
def b_Table_shares : List S := [.ret (.op .list [.op (.fld "cells" [11]) [.nm 0]])]
abbrev N_Table_shares : List Str := ["self"]
theorem m_Table_shares : mSs ⟨N_Table_shares, defScope (inClass (top 34) 3), bnL, 0, false, none⟩ b_Table_shares (defBody (inClass (top 34) 3)) = true := by decide +kernel
theorem s_Table_shares : scB N_Table_shares ["self"] (defScope (inClass (top 34) 3)) = true := by decide +kernel
abbrev r_Table_shares : List D → FR := runF 1 false b_Table_shares
def f_Table_shares : FE := ⟨"shares", 1, 1, false, [], r_Table_shares⟩
theorem ge_Table_shares (ds : List D) : f_Table_shares.g ds = runF 1 false b_Table_shares ds := id rfl
@[simp] theorem fl_Table_shares_1 (x0 : D) : fillD f_Table_shares [x0] = [lend x0] := fill_eq rfl
theorem h_Table_shares : ∀ ds, ds.length = f_Table_shares.np → f_Table_shares.g ds = runF N_Table_shares.length f_Table_shares.m b_Table_shares ds ∨ f_Table_shares.g ds = .bad := fun _ _ => .inl rfl
/-! ### _law_is -/
def c1__law_is : List E := []
def e1__law_is : E := .op (.isi (.b "tuple") "tuple" [] []) [.nm 4]
def c0__law_is : List E := []
def e0__law_is : E := .cp (.op .ix [.op .ix [.nm 1, .c (.str "cells")], .nm 3])
def b__law_is : List S := [.ift (.bor [.op .not [.op (.isi (.c 11) "Table" [] [(11, true)]) [.nm 0]], .op .ne [.meth "names" [(11, f_Table_names)] (.nm 0) [], .op .ix [.nm 1, .c (.str "names")]], .op .ne [.meth "sizes" [(11, f_Table_sizes)] (.nm 0) [], .op .ix [.nm 1, .c (.str "sizes")]]])
    [.ret (.c (.bl false))]
    [],
  .asg 2 (.meth "shares" [(11, f_Table_shares)] (.nm 0) []),
  .ift (.bor [.op .not [.op (.isi (.b "list") "list" [] []) [.nm 2]], .op .ne [.nm 2, .comp [3] (.nm 3) .seq [.tf (.call f__law_places [.op .ix [.nm 1, .c (.str "sizes")]])] c0__law_is e0__law_is]])
    [.ret (.c (.bl false))]
    [],
  .ret (.op .all [.comp [4] (.nm 4) .seq [.fz 2] c1__law_is e1__law_is])]
abbrev N__law_is : List Str := ["_law_found", "_law_own", "_law_told", "_law_place", "_law_one"]
theorem m__law_is : mSs ⟨N__law_is, defScope (top 46), bnL, 1, false, none⟩ b__law_is (defBody (top 46)) = true := by decide +kernel
theorem s__law_is : scB N__law_is ["_law_found", "_law_own"] (defScope (top 46)) = true := by decide +kernel
abbrev r__law_is : List D → FR := runF 5 false b__law_is
def f__law_is : FE := ⟨"_law_is", 2, 2, false, [], r__law_is⟩
theorem ge__law_is (ds : List D) : f__law_is.g ds = runF 5 false b__law_is ds := id rfl
@[simp] theorem fl__law_is_2 (x0 x1 : D) : fillD f__law_is [x0, x1] = [lend x0, lend x1] := fill_eq rfl
theorem h__law_is : ∀ ds, ds.length = f__law_is.np → f__law_is.g ds = runF N__law_is.length f__law_is.m b__law_is ds ∨ f__law_is.g ds = .bad := fun _ _ => .inl rfl
/-! ### _law_word -/
def b__law_word : List S := [.asg 1 (.op .lst [.op (.isi (.c 9) "Asked" [(2, false)] []) [.nm 0], .op (.isi (.c 8) "BadOrder" [(2, false)] []) [.nm 0], .op (.isi (.c 7) "NoKind" [(2, false)] []) [.nm 0], .op (.isi (.c 10) "NoLine" [(2, false)] []) [.nm 0]]),
  .asg 1 (.op .add [.nm 1, .op .lst [.op (.isi (.c 1) "NoShare" [(2, false)] []) [.nm 0], .op (.isi (.c 6) "NoThing" [(2, false)] []) [.nm 0], .op (.isi (.c 5) "NoWeb" [(2, false)] []) [.nm 0], .op (.isi (.c 4) "NoWorld" [(2, false)] []) [.nm 0]]]),
  .ift (.bor [.op .in_ [.c (.bl true), .nm 1], .op (.isi (.c 3) "TooWide" [(2, false)] []) [.nm 0], .op .not [.op (.isi (.b "ValueError") "ValueError" [(2, true)] []) [.nm 0]]])
    [.ret (.c (.str "other"))]
    [],
  .ret (.ite (.op (.isi (.c 2) "BadTable" [(2, true)] []) [.nm 0]) (.c (.str "table")) (.c (.str "other")))]
abbrev N__law_word : List Str := ["_law_e", "_law_others"]
theorem m__law_word : mSs ⟨N__law_word, defScope (top 47), bnL, 0, false, none⟩ b__law_word (defBody (top 47)) = true := by decide +kernel
theorem s__law_word : scB N__law_word ["_law_e"] (defScope (top 47)) = true := by decide +kernel
abbrev r__law_word : List D → FR := runF 2 false b__law_word
def f__law_word : FE := ⟨"_law_word", 1, 1, false, [], r__law_word⟩
theorem ge__law_word (ds : List D) : f__law_word.g ds = runF 2 false b__law_word ds := id rfl
@[simp] theorem fl__law_word_1 (x0 : D) : fillD f__law_word [x0] = [lend x0] := fill_eq rfl
theorem h__law_word : ∀ ds, ds.length = f__law_word.np → f__law_word.g ds = runF N__law_word.length f__law_word.m b__law_word ds ∨ f__law_word.g ds = .bad := fun _ _ => .inl rfl
/-! ### Table.at -/
def c0_Table_at : List E := []
def e0_Table_at : E := .call f_is_kind [.nm 2, .nm 3]
def b_Table_at : List S := [.ex (.call f_need [.band [.op (.isi (.b "tuple") "tuple" [] []) [.nm 1], .op .eq [.op .len [.nm 1], .op .len [.op (.fld "row" [11]) [.nm 0]]]]]),
  .ex (.call f_need [.op .all [.comp [2, 3] (.tup [2, 3]) .zip [.cp (.nm 1), .cp (.op (.fld "counts" [11]) [.nm 0])] c0_Table_at e0_Table_at]]),
  .ret (.cp (.op .ix [.op (.fld "cells" [11]) [.nm 0], .call f_spot_of [.op (.fld "counts" [11]) [.nm 0], .nm 1]]))]
abbrev N_Table_at : List Str := ["self", "place", "kind", "size"]
theorem m_Table_at : mSs ⟨N_Table_at, defScope (inClass (top 34) 5), bnL, 1, false, none⟩ b_Table_at (defBody (inClass (top 34) 5)) = true := by decide +kernel
theorem s_Table_at : scB N_Table_at ["self", "place"] (defScope (inClass (top 34) 5)) = true := by decide +kernel
abbrev r_Table_at : List D → FR := runF 4 false b_Table_at
def f_Table_at : FE := ⟨"at", 2, 2, false, [], r_Table_at⟩
theorem ge_Table_at (ds : List D) : f_Table_at.g ds = runF 4 false b_Table_at ds := id rfl
@[simp] theorem fl_Table_at_2 (x0 x1 : D) : fillD f_Table_at [x0, x1] = [lend x0, lend x1] := fill_eq rfl
theorem h_Table_at : ∀ ds, ds.length = f_Table_at.np → f_Table_at.g ds = runF N_Table_at.length f_Table_at.m b_Table_at ds ∨ f_Table_at.g ds = .bad := fun _ _ => .inl rfl
/-! ### _law_no_place -/
def b__law_no_place : List S := [.asg 2 (.c (.non)),
  .try1
    [.ex (.meth "at" [(11, f_Table_at)] (.nm 0) [.nm 1])]
    0 "OddsError" [(2, true)] (some 3) (.exn 2),
  .ret (.band [.op .notN [.nm 2], .op .eq [.call f__law_word [.nm 2], .c (.str "table")]])]
abbrev N__law_no_place : List Str := ["_law_table", "_law_place", "_law_caught", "_law_e"]
theorem m__law_no_place : mSs ⟨N__law_no_place, defScope (top 48), bnL, 2, false, none⟩ b__law_no_place (defBody (top 48)) = true := by decide +kernel
theorem s__law_no_place : scB N__law_no_place ["_law_table", "_law_place"] (defScope (top 48)) = true := by decide +kernel
abbrev r__law_no_place : List D → FR := runF 4 false b__law_no_place
def f__law_no_place : FE := ⟨"_law_no_place", 2, 3, false, [], r__law_no_place⟩
theorem ge__law_no_place (ds : List D) : f__law_no_place.g ds = runF 4 false b__law_no_place ds := id rfl
@[simp] theorem fl__law_no_place_2 (x0 x1 : D) : fillD f__law_no_place [x0, x1] = [lend x0, lend x1] := fill_eq rfl
theorem h__law_no_place : ∀ ds, ds.length = f__law_no_place.np → f__law_no_place.g ds = runF N__law_no_place.length f__law_no_place.m b__law_no_place ds ∨ f__law_no_place.g ds = .bad := fun _ _ => .inl rfl
/-! ### _law_odd_place -/
def c0__law_odd_place : List E := []
def e0__law_odd_place : E := .op .sub [.nm 3, .c (.int 1)]
def b__law_odd_place : List S := [.asg 2 (.op .tuple [.comp [3] (.nm 3) .seq [.op .ix [.nm 0, .c (.str "sizes")]] c0__law_odd_place e0__law_odd_place]),
  .asg 4 (.tf (.op .lst [.c (.non), .op .list [.nm 2], .op .add [.nm 2, .op .tup [.c (.int 0)]], .c (.int 5), .c (.str "0"), .op .dnk []])),
  .ift (.op .ne [.nm 2, .op .tup []])
    [.asg 5 (.op .mod [.op .fdiv [.nm 1, .c (.int 9)], .op .len [.nm 2]]),
    .asg 6 (.tf (.op .ix [.op .lst [.cp (.op .ix [.op .ix [.nm 0, .c (.str "sizes")], .nm 5]), .op .neg [.c (.int 1)], .c (.bl true), .c (.non), .c (.str "0"), .op .lst [.c (.int 0)], .op .add [.op .ix [.op .ix [.nm 0, .c (.str "sizes")], .nm 5], .nm 1]], .op .mod [.op .fdiv [.nm 1, .c (.int 30)], .c (.int 7)]])),
    .asg 4 (.op .add [.nm 4, .op .lst [.op .add [.op .add [.op (.sl false true) [.nm 2, .nm 5], .op .tup [.cp (.nm 6)]], .op (.sl true false) [.nm 2, .op .add [.nm 5, .c (.int 1)]]], .op (.sl false true) [.nm 2, .op .neg [.c (.int 1)]], .op .add [.op .add [.op (.sl false true) [.nm 2, .nm 5], .op .tup [.cp (.nm 6)]], .op (.sl true false) [.nm 2, .op .add [.nm 5, .c (.int 1)]]]]])]
    [],
  .ret (.cp (.op .ix [.nm 4, .op .mod [.nm 1, .op .len [.nm 4]]]))]
abbrev N__law_odd_place : List Str := ["_law_own", "_law_number", "_law_good", "_law_size", "_law_some", "_law_at", "_law_odd"]
theorem m__law_odd_place : mSs ⟨N__law_odd_place, defScope (top 49), bnL, 0, false, none⟩ b__law_odd_place (defBody (top 49)) = true := by decide +kernel
theorem s__law_odd_place : scB N__law_odd_place ["_law_own", "_law_number"] (defScope (top 49)) = true := by decide +kernel
abbrev r__law_odd_place : List D → FR := runF 7 false b__law_odd_place
def f__law_odd_place : FE := ⟨"_law_odd_place", 2, 1, false, [], r__law_odd_place⟩
theorem ge__law_odd_place (ds : List D) : f__law_odd_place.g ds = runF 7 false b__law_odd_place ds := id rfl
@[simp] theorem fl__law_odd_place_2 (x0 x1 : D) : fillD f__law_odd_place [x0, x1] = [lend x0, lend x1] := fill_eq rfl
theorem h__law_odd_place : ∀ ds, ds.length = f__law_odd_place.np → f__law_odd_place.g ds = runF N__law_odd_place.length f__law_odd_place.m b__law_odd_place ds ∨ f__law_odd_place.g ds = .bad := fun _ _ => .inl rfl
/-! ### Table.places -/
def b_Table_places : List S := [.ret (.call f_places_by [.op (.fld "counts" [11]) [.nm 0]])]
abbrev N_Table_places : List Str := ["self"]
theorem m_Table_places : mSs ⟨N_Table_places, defScope (inClass (top 34) 4), bnL, 1, false, none⟩ b_Table_places (defBody (inClass (top 34) 4)) = true := by decide +kernel
theorem s_Table_places : scB N_Table_places ["self"] (defScope (inClass (top 34) 4)) = true := by decide +kernel
abbrev r_Table_places : List D → FR := runF 1 false b_Table_places
def f_Table_places : FE := ⟨"places", 1, 2, false, [], r_Table_places⟩
theorem ge_Table_places (ds : List D) : f_Table_places.g ds = runF 1 false b_Table_places ds := id rfl
@[simp] theorem fl_Table_places_1 (x0 : D) : fillD f_Table_places [x0] = [lend x0] := fill_eq rfl
theorem h_Table_places : ∀ ds, ds.length = f_Table_places.np → f_Table_places.g ds = runF N_Table_places.length f_Table_places.m b_Table_places ds ∨ f_Table_places.g ds = .bad := fun _ _ => .inl rfl
/-! ### _law_right -/
def c2__law_right : List E := []
def e2__law_right : E := .op (.isi (.b "tuple") "tuple" [] []) [.nm 6]
def c1__law_right : List E := []
def e1__law_right : E := .op (.isi (.b "list") "list" [] []) [.nm 7]
def c0__law_right : List E := []
def e0__law_right : E := .cp (.op .ix [.op .ix [.nm 1, .c (.str "cells")], .nm 6])
def l0__law_right : List S := [.asg 9 (.meth "at" [(11, f_Table_at)] (.nm 0) [.nm 6]),
  .ift (.bor [.op .not [.op (.isi (.b "tuple") "tuple" [] []) [.nm 9]], .op .ne [.nm 9, .op .ix [.op .ix [.nm 1, .c (.str "cells")], .nm 6]]])
    [.ret (.c (.bl false))]
    []]
def b__law_right : List S := [.asg 3 (.tf (.call f__law_places [.op .ix [.nm 1, .c (.str "sizes")]])),
  .asg 4 (.op .lst [.meth "names" [(11, f_Table_names)] (.nm 0) [], .meth "sizes" [(11, f_Table_sizes)] (.nm 0) [], .meth "shares" [(11, f_Table_shares)] (.nm 0) [], .meth "places" [(11, f_Table_places)] (.nm 0) []]),
  .asg 5 (.op .lst [.cp (.op .ix [.nm 1, .c (.str "names")]), .cp (.op .ix [.nm 1, .c (.str "sizes")]), .comp [6] (.nm 6) .seq [.nm 3] c0__law_right e0__law_right, .cp (.nm 3)]),
  .ift (.bor [.op .ne [.nm 4, .nm 5], .op .not [.op .all [.pu (.comp [7] (.nm 7) .seq [.nm 4] c1__law_right e1__law_right)]]])
    [.ret (.c (.bl false))]
    [],
  .ift (.op .not [.op .all [.pu (.comp [6] (.nm 6) .seq [.op .ix [.nm 4, .c (.int 3)]] c2__law_right e2__law_right)]])
    [.ret (.c (.bl false))]
    [],
  .forApp 8 4 (.non),
  .for_ (.nm 6) ⟨.seq, [.tf (.op .ix [.op .lst [.cp (.nm 3), .op .rev [.nm 3]], .op .mod [.nm 2, .c (.int 2)]])]⟩ l0__law_right,
  .ret (.op .eq [.op .lst [.meth "names" [(11, f_Table_names)] (.nm 0) [], .meth "sizes" [(11, f_Table_sizes)] (.nm 0) [], .meth "shares" [(11, f_Table_shares)] (.nm 0) [], .meth "places" [(11, f_Table_places)] (.nm 0) []], .nm 5])]
abbrev N__law_right : List Str := ["_law_table", "_law_own", "_law_number", "_law_places_here", "_law_told", "_law_due", "_law_place", "_law_one", "_law_row", "_law_found"]
theorem m__law_right : mSs ⟨N__law_right, defScope (top 50), bnL, 2, false, none⟩ b__law_right (defBody (top 50)) = true := by decide +kernel
theorem s__law_right : scB N__law_right ["_law_table", "_law_own", "_law_number"] (defScope (top 50)) = true := by decide +kernel
abbrev r__law_right : List D → FR := runF 10 false b__law_right
def f__law_right : FE := ⟨"_law_right", 3, 3, false, [], r__law_right⟩
theorem ge__law_right (ds : List D) : f__law_right.g ds = runF 10 false b__law_right ds := id rfl
@[simp] theorem fl__law_right_3 (x0 x1 x2 : D) : fillD f__law_right [x0, x1, x2] = [lend x0, lend x1, lend x2] := fill_eq rfl
theorem h__law_right : ∀ ds, ds.length = f__law_right.np → f__law_right.g ds = runF N__law_right.length f__law_right.m b__law_right ds ∨ f__law_right.g ds = .bad := fun _ _ => .inl rfl
/-! ### Table.__init__ -/
def c2_Table___init__ : List E := []
def e2_Table___init__ : E := .call f_is_share [.nm 6]
def c1_Table___init__ : List E := []
def e1_Table___init__ : E := .band [.call f_is_kind [.nm 5, .op .add [.gl "MOST_SIZE" (.int 4), .c (.int 1)]], .op .gt [.nm 5, .c (.int 0)]]
def c0_Table___init__ : List E := []
def e0_Table___init__ : E := .call f_is_good_name [.nm 4]
def b_Table___init__ : List S := [.ex (.call f_need [.band [.op (.isi (.b "list") "list" [] []) [.nm 1], .op (.isi (.b "list") "list" [] []) [.nm 2], .op .eq [.op .len [.nm 1], .op .len [.nm 2]]]]),
  .ex (.call f_need [.band [.op .le [.op .len [.nm 1], .gl "MOST_NAMES" (.int 10)], .op .all [.comp [4] (.nm 4) .seq [.nm 1] c0_Table___init__ e0_Table___init__]]]),
  .ex (.call f_need [.band [.op .eq [.op .lenSet [.nm 1], .op .len [.nm 1]], .op .all [.comp [5] (.nm 5) .seq [.nm 2] c1_Table___init__ e1_Table___init__]]]),
  .ex (.call f_need_narrow [.nm 2]),
  .ex (.call f_need [.band [.op (.isi (.b "list") "list" [] []) [.nm 3], .op .eq [.op .len [.nm 3], .call f_how_many [.nm 2]], .op .all [.comp [6] (.nm 6) .seq [.nm 3] c2_Table___init__ e2_Table___init__]]]),
  .setF (.nm 0) "row" [11] (.op .list [.nm 1]),
  .setF (.nm 0) "counts" [11] (.op .list [.nm 2]),
  .setF (.nm 0) "cells" [11] (.op .list [.nm 3])]
abbrev N_Table___init__ : List Str := ["self", "names", "sizes", "shares", "name", "size", "one"]
theorem m_Table___init__ : mSs ⟨N_Table___init__, defScope (inClass (top 34) 0), bnL, 2, true, none⟩ b_Table___init__ (defBody (inClass (top 34) 0)) = true := by decide +kernel
theorem s_Table___init__ : scB N_Table___init__ ["self", "names", "sizes", "shares"] (defScope (inClass (top 34) 0)) = true := by decide +kernel
abbrev r_Table___init__ : List D → FR := runF 7 true b_Table___init__
def f_Table___init__ : FE := ⟨"__init__", 4, 3, true, [], r_Table___init__⟩
theorem ge_Table___init__ (ds : List D) : f_Table___init__.g ds = runF 7 true b_Table___init__ ds := id rfl
@[simp] theorem fl_Table___init___4 (x0 x1 x2 x3 : D) : fillM f_Table___init__ x0 [x1, x2, x3] = [x0, lend x1, lend x2, lend x3] := id rfl
theorem h_Table___init__ : ∀ ds, ds.length = f_Table___init__.np → f_Table___init__.g ds = runF N_Table___init__.length f_Table___init__.m b_Table___init__ ds ∨ f_Table___init__.g ds = .bad := fun _ _ => .inl rfl
/-! ### law -/
def c0_law : List E := []
def e0_law : E := .cp (.op .ix [.op .ix [.nm 7, .c (.str "cells")], .nm 11])
def l0_law : List S := [.asg 6 (.call f__law_mixed [.nm 5, .op .add [.nm 4, .c (.int 3)]]),
  .asg 7 (.tf (.call f__law_drawn [.nm 1, .nm 2, .nm 6])),
  .asg 8 (.op .lst [.op .list [.op .ix [.nm 7, .c (.str "names")]], .op .list [.op .ix [.nm 7, .c (.str "sizes")]], .comp [11] (.nm 11) .seq [.tf (.call f__law_places [.op .ix [.nm 7, .c (.str "sizes")]])] c0_law e0_law]),
  .asg 9 (.tf (.make 11 "Table" f_Table___init__ [.op .ix [.nm 8, .c (.int 0)], .op .ix [.nm 8, .c (.int 1)], .op .ix [.nm 8, .c (.int 2)]])),
  .forApp 10 8 (.non),
  .ift (.bor [.op .not [.call f__law_right [.nm 9, .nm 7, .op .fdiv [.nm 6, .c (.int 5)]]], .op .not [.call f__law_no_place [.nm 9, .call f__law_odd_place [.nm 7, .op .fdiv [.nm 6, .c (.int 7)]]]]])
    [.ret (.c (.bl false))]
    [],
  .app 3 (.op .tup [.cp (.nm 9), .cp (.nm 7)])]
def l1_law : List S := [.ift (.op .not [.call f__law_is [.nm 9, .nm 7]])
    [.ret (.c (.bl false))]
    []]
def b_law : List S := [.asg 1 (.op (.sl false true) [.call f__law_names [.call f__law_mixed [.call f__law_cell_at [.nm 0, .c (.int 0)], .c (.int 1)]], .c (.int 5)]),
  .asg 2 (.call f__law_sizes [.call f__law_mixed [.call f__law_cell_at [.nm 0, .c (.int 0)], .c (.int 2)]]),
  .asg 3 (.op .lst []),
  .for_ (.tup [4, 5]) ⟨.enum, [.cp (.nm 0)]⟩ l0_law,
  .for_ (.tup [9, 7]) ⟨.seq, [.tf (.op (.sl true false) [.nm 3, .op .neg [.c (.int 4)]])]⟩ l1_law,
  .ret (.band [.op .eq [.meth "places" [(11, f_Table_places)] (.make 11 "Table" f_Table___init__ [.op .lst [], .op .lst [], .op .lst [.op .tup [.c (.int 1), .c (.int 1)]]]) [], .op .lst [.op .tupK []]], .op .eq [.meth "at" [(11, f_Table_at)] (.make 11 "Table" f_Table___init__ [.op .lst [], .op .lst [], .op .lst [.op .tup [.c (.int 0), .c (.int 1)]]]) [.op .tupK []], .op .tup [.c (.int 0), .c (.int 1)]]])]
abbrev N_law : List Str := ["_law_script", "_law_pool", "_law_sizes_here", "_law_held", "_law_k", "_law_cell", "_law_number", "_law_own", "_law_handed", "_law_table", "_law_row", "_law_place"]
theorem m_law : mSs ⟨N_law, defScope (top 51), bnL, 4, false, none⟩ b_law (defBody (top 51)) = true := by decide +kernel
theorem s_law : scB N_law ["_law_script"] (defScope (top 51)) = true := by decide +kernel
abbrev r_law : List D → FR := runF 12 false b_law
def f_law : FE := ⟨"law", 1, 5, false, [], r_law⟩
theorem ge_law (ds : List D) : f_law.g ds = runF 12 false b_law ds := id rfl
@[simp] theorem fl_law_1 (x0 : D) : fillD f_law [x0] = [lend x0] := fill_eq rfl
theorem h_law : ∀ ds, ds.length = f_law.np → f_law.g ds = runF N_law.length f_law.m b_law ds ∨ f_law.g ds = .bad := fun _ _ => .inl rfl
def K_Table_1 : List Str := ["row"]
def K_Table_2 : List Str := ["row", "counts"]
def K_Table : List Str := ["row", "counts", "cells"]
@[simp] theorem fld_Table_row_1 {fl : Fl} {x0 : D} : fldD "row" [11] (.ins fl 11 K_Table_1 [x0]) = live x0 := fldD_at rfl (j := 0) (by decide +kernel) rfl
@[simp] theorem stp_Table_row_1 {x0 : D} : stepG (.f "row" [11]) (.ins .own 11 K_Table_1 [x0]) = some 0 := stepG_at rfl (by decide +kernel)
@[simp] theorem setf_Table_row_1 {x x0 : D} : setFD "row" [11] x (.ins .own 11 K_Table_1 [x0]) = setIn x (.ins .own 11 K_Table_1 [x]) := setF_at rfl (j := 0) (by decide +kernel) rfl (by decide) rfl
@[simp] theorem fld_Table_row_3 {fl : Fl} {x0 x1 x2 : D} : fldD "row" [11] (.ins fl 11 K_Table [x0, x1, x2]) = live x0 := fldD_at rfl (j := 0) (by decide +kernel) rfl
@[simp] theorem stp_Table_row_3 {x0 x1 x2 : D} : stepG (.f "row" [11]) (.ins .own 11 K_Table [x0, x1, x2]) = some 0 := stepG_at rfl (by decide +kernel)
@[simp] theorem setf_Table_row_3 {x x0 x1 x2 : D} : setFD "row" [11] x (.ins .own 11 K_Table [x0, x1, x2]) = setIn x (.ins .own 11 K_Table [x, x1, x2]) := setF_at rfl (j := 0) (by decide +kernel) rfl (by decide) rfl
@[simp] theorem setn_Table_row {x : D} : setFD "row" [11] x (.ins .own 11 [] []) = setIn x (.ins .own 11 K_Table_1 [x]) := setF_new rfl (by decide +kernel) rfl (by decide) (by decide +kernel)
@[simp] theorem fld_Table_counts_2 {fl : Fl} {x0 x1 : D} : fldD "counts" [11] (.ins fl 11 K_Table_2 [x0, x1]) = live x1 := fldD_at rfl (j := 1) (by decide +kernel) rfl
@[simp] theorem stp_Table_counts_2 {x0 x1 : D} : stepG (.f "counts" [11]) (.ins .own 11 K_Table_2 [x0, x1]) = some 1 := stepG_at rfl (by decide +kernel)
@[simp] theorem setf_Table_counts_2 {x x0 x1 : D} : setFD "counts" [11] x (.ins .own 11 K_Table_2 [x0, x1]) = setIn x (.ins .own 11 K_Table_2 [x0, x]) := setF_at rfl (j := 1) (by decide +kernel) rfl (by decide) rfl
@[simp] theorem fld_Table_counts_3 {fl : Fl} {x0 x1 x2 : D} : fldD "counts" [11] (.ins fl 11 K_Table [x0, x1, x2]) = live x1 := fldD_at rfl (j := 1) (by decide +kernel) rfl
@[simp] theorem stp_Table_counts_3 {x0 x1 x2 : D} : stepG (.f "counts" [11]) (.ins .own 11 K_Table [x0, x1, x2]) = some 1 := stepG_at rfl (by decide +kernel)
@[simp] theorem setf_Table_counts_3 {x x0 x1 x2 : D} : setFD "counts" [11] x (.ins .own 11 K_Table [x0, x1, x2]) = setIn x (.ins .own 11 K_Table [x0, x, x2]) := setF_at rfl (j := 1) (by decide +kernel) rfl (by decide) rfl
@[simp] theorem setn_Table_counts {x x0 : D} : setFD "counts" [11] x (.ins .own 11 K_Table_1 [x0]) = setIn x (.ins .own 11 K_Table_2 [x0, x]) := setF_new rfl (by decide +kernel) rfl (by decide) (by decide +kernel)
@[simp] theorem fld_Table_cells_3 {fl : Fl} {x0 x1 x2 : D} : fldD "cells" [11] (.ins fl 11 K_Table [x0, x1, x2]) = live x2 := fldD_at rfl (j := 2) (by decide +kernel) rfl
@[simp] theorem stp_Table_cells_3 {x0 x1 x2 : D} : stepG (.f "cells" [11]) (.ins .own 11 K_Table [x0, x1, x2]) = some 2 := stepG_at rfl (by decide +kernel)
@[simp] theorem setf_Table_cells_3 {x x0 x1 x2 : D} : setFD "cells" [11] x (.ins .own 11 K_Table [x0, x1, x2]) = setIn x (.ins .own 11 K_Table [x0, x1, x]) := setF_at rfl (j := 2) (by decide +kernel) rfl (by decide) rfl
@[simp] theorem setn_Table_cells {x x0 x1 : D} : setFD "cells" [11] x (.ins .own 11 K_Table_2 [x0, x1]) = setIn x (.ins .own 11 K_Table [x0, x1, x]) := setF_new rfl (by decide +kernel) rfl (by decide) (by decide +kernel)
@[simp] theorem cls_Table_at {fl : Fl} {vs : List D} : clsI "at" (.ins fl 11 K_Table vs) = some 11 := clsI_at (by decide +kernel)
@[simp] theorem cls_Table_names {fl : Fl} {vs : List D} : clsI "names" (.ins fl 11 K_Table vs) = some 11 := clsI_at (by decide +kernel)
@[simp] theorem cls_Table_places {fl : Fl} {vs : List D} : clsI "places" (.ins fl 11 K_Table vs) = some 11 := clsI_at (by decide +kernel)
@[simp] theorem cls_Table_shares {fl : Fl} {vs : List D} : clsI "shares" (.ins fl 11 K_Table vs) = some 11 := clsI_at (by decide +kernel)
@[simp] theorem cls_Table_sizes {fl : Fl} {vs : List D} : clsI "sizes" (.ins fl 11 K_Table vs) = some 11 := clsI_at (by decide +kernel)
def DK_0 : List Key := [.inr "names", .inr "sizes", .inr "cells"]
@[simp] theorem dl_0 {x0 x1 x2 : D} : opD (.dlit ["names", "sizes", "cells"]) [x0, x1, x2] = if goodKids [x0, x1, x2] = true then some (.dk .own DK_0 [x0, x1, x2]) else none := dlit_at rfl (by decide +kernel) (by decide) (by simp) (by decide +kernel)
@[simp] theorem dg_0_0 {fl : Fl} {x0 x1 x2 : D} : ixD (.dk fl DK_0 [x0, x1, x2]) (.str "names") = some x0 := dkS_at (j := 0) (by decide +kernel) rfl
@[simp] theorem dg_0_1 {fl : Fl} {x0 x1 x2 : D} : ixD (.dk fl DK_0 [x0, x1, x2]) (.str "sizes") = some x1 := dkS_at (j := 1) (by decide +kernel) rfl
@[simp] theorem dg_0_2 {fl : Fl} {x0 x1 x2 : D} : ixD (.dk fl DK_0 [x0, x1, x2]) (.str "cells") = some x2 := dkS_at (j := 2) (by decide +kernel) rfl
end TT.Law
namespace TT.Law
open PySem L2 TT
@[simp] theorem own_dead : noOwn .dead = true := id rfl
@[simp] theorem bor_dead : noBor .dead = true := id rfl
/-! ### shares -/
theorem whole_int (i m : Int) : f_is_whole.g [.int i, .int m] = .ok (.bl (decide (m ≤ i))) .dead := by simp [f_is_whole, runF_eq, b_is_whole]
theorem common_run (a b : Nat) : f_common.g [.int a, .int b] = .ok (.int (Nat.gcd a b : Nat)) .dead := by
  obtain ⟨y, e⟩ := gcd_loop (c := evE (.op .gt [.nm 1, .c (.int 0)])) (f := exSs l0_common) (fun a b x => [.int a, .int b, x]) (fun a b x => by simp) (fun a b x hb => by
    have : (0 : Int) < b := by omega
    simp [l0_common, hb]) (b + 1) a b .dead (by omega)
  simp only [f_common, runF_eq, b_common, run_cons, run_whl]
  simp only [fuelI, List.cons_append, List.nil_append, List.length_cons, List.length_nil]
  simp [e]
theorem int_beq {n m : Nat} : ((n : Int) == (m : Int)) = (n == m) := by rw [Bool.eq_iff_iff]; simp; omega
theorem is_share_run (fl : Fl) (a b : Nat) (hb : 0 < b) : f_is_share.g [.tup fl [.int a, .int b]] = .ok (.bl (Nat.gcd a b == 1)) .dead := by
  have hb' : (1 : Int) ≤ b := by omega
  simp only [ge_is_share]; simp [runF_eq, b_is_share, whole_int, common_run, hb', live]
  exact int_beq (m := 1)
theorem cell_at (ns : List Int) (k : Nat) : ∃ c : Int, f__law_cell_at.g [.scr ns, .int k] = .ok (.int c) .dead := by
  by_cases h : k < ns.length
  · refine ⟨ns[k], ?_⟩
    simp only [ge__law_cell_at]; simp [runF_eq, b__law_cell_at, h, atI_nat h, live]
  · refine ⟨0, ?_⟩
    simp only [ge__law_cell_at]
    have : ¬ ((k : Int) < (ns.length : Int)) := by omega
    simp [runF_eq, b__law_cell_at, h]
theorem mixed (c : Int) (k : Nat) (hk : k ≤ 1000) : ∃ n : Nat, n < 2147483629 ∧ f__law_mixed.g [.int c, .int k] = .ok (.int n) .dead := by
  refine ⟨((c * (48271 + 2 * k * k) + 69621 * k + 11) % 2147483647 * 69621 % 2147483629).toNat, ?_, ?_⟩
  · have := Int.emod_lt_of_pos ((c * (48271 + 2 * k * k) + 69621 * k + 11) % 2147483647 * 69621) (show (0 : Int) < 2147483629 by omega)
    omega
  · have h0 := Int.emod_nonneg ((c * (48271 + 2 * k * k) + 69621 * k + 11) % 2147483647 * 69621) (show (2147483629 : Int) ≠ 0 by omega)
    have hk2 : k * k ≤ 1000 * 1000 := Nat.mul_le_mul hk hk
    have m1 : mulOk 2 (k : Int) = true := mulOk_l (by omega)
    have m2 : mulOk (2 * (k : Int)) (k : Int) = true := mulOk_r (by omega)
    have e : 2 * (k : Int) * k = ((2 * (k * k) : Nat) : Int) := by rw [Int.mul_assoc]; rfl
    have m3 : mulOk c (48271 + 2 * (k : Int) * k) = true := mulOk_r (by rw [e]; omega)
    have m4 : mulOk 69621 (k : Int) = true := mulOk_l (by omega)
    have m5 : mulOk ((c * (48271 + 2 * k * k) + 69621 * k + 11) % 2147483647) 69621 = true := mulOk_r (by omega)
    simp only [ge__law_mixed]; simp [runF_eq, b__law_mixed, m1, m2, m3, m4, m5]
    omega
/-! ### need, is_kind, how_many -/
theorem need_t : f_need.g [.bl true] = .ok .non .dead := by simp only [ge_need]; simp [runF_eq, b_need]
theorem need_f : f_need.g [.bl false] = .exc 2 [] [] .dead := by simp only [ge_need]; simp [runF_eq, b_need]
theorem kind_int (i n : Int) : f_is_kind.g [.int i, .int n] = .ok (.bl (decide (0 ≤ i) && decide (i < n))) .dead := by
  simp only [ge_is_kind]; simp [runF_eq, b_is_kind]
/-- products -/
def prodN (l : List Nat) : Nat := l.foldl (· * ·) 1
theorem how_many_run (fl : Fl) (l : List Nat) (hf : fl ≠ .own) (hl : l.length ≤ 100) (hb : ∀ n ∈ l, n < 2 ^ 32) : f_how_many.g [.lst fl (iL l)] = .ok (.int (prodN l : Nat)) .dead := by
  obtain ⟨x, e⟩ := loopF_fold (f := bodyO (.nm 2) l0_how_many) (fun (n : Nat) => D.int (n : Int)) (fun (b : Nat) (x : D) => [.lst fl (iL l), .int (b : Int), x]) (· * ·) l 1 .dead (fun l1 a l2 hs x => by
    have ha : a < 2 ^ 32 := hb a (by rw [hs]; simp)
    have m : mulOk ((l1.foldl (· * ·) 1 : Nat) : Int) (a : Int) = true := mulOk_r (by omega)
    exact ⟨.int a, by simp [l0_how_many, augD, m]⟩)
  have e : loopF (bodyO (.nm 2) l0_how_many) (iL l) [.lst fl (iL l), .int 1, .dead] = .nx [.lst fl (iL l), .int (l.foldl (· * ·) 1 : Nat), x] := e
  simp only [ge_how_many]
  simp [runF_eq, b_how_many, hf, e, prodN]
end TT.Law
namespace TT.Law
open PySem L2 TT
/-! ### places -/
def stepP (found : List (List Nat)) (size : Nat) : List (List Nat) := found.flatMap fun p => (List.range size).map fun k => p ++ [k]
def placesN (l : List Nat) : List (List Nat) := l.foldl stepP [[]]
def spotN (l p : List Nat) : Nat := (l.zip p).foldl (fun a q => a * q.1 + q.2) 0
theorem placesN_snoc (l : List Nat) (s : Nat) : placesN (l ++ [s]) = stepP (placesN l) s := by unfold placesN; rw [List.foldl_append]; rfl
theorem prodN_snoc (l : List Nat) (s : Nat) : prodN (l ++ [s]) = prodN l * s := by unfold prodN; rw [List.foldl_append]; rfl
theorem stepP_length (f : List (List Nat)) (s : Nat) : (stepP f s).length = f.length * s := by
  unfold stepP
  induction f with
  | nil => simp
  | cons p f ih =>
    rw [List.flatMap_cons, List.length_append, ih, List.length_map, List.length_range, List.length_cons, Nat.add_mul, Nat.one_mul, Nat.add_comm]
theorem snoc_ind {α : Type} {P : List α → Prop} (h0 : P []) (h1 : ∀ l a, P l → P (l ++ [a])) : ∀ l, P l := fun l => by
  have : ∀ n (l : List α), l.length = n → P l := by
    intro n
    induction n with
    | zero => intro l e; rw [List.length_eq_zero_iff.1 e]; exact h0
    | succ n ih =>
      intro l e
      have ne : l ≠ [] := fun z => by rw [z] at e; simp at e
      rw [← List.dropLast_concat_getLast ne]
      exact h1 _ _ (ih _ (by rw [List.length_dropLast, e]; rfl))
  exact this _ l rfl
theorem placesN_length : ∀ l : List Nat, (placesN l).length = prodN l := by
  refine snoc_ind rfl fun l s ih => ?_
  rw [placesN_snoc, stepP_length, ih, prodN_snoc]
theorem prodN_le : ∀ l : List Nat, (∀ n ∈ l, n ≤ 4) → prodN l ≤ 4 ^ l.length := by
  refine snoc_ind (fun _ => by simp [prodN]) fun l s ih h => ?_
  rw [prodN_snoc, List.length_append, List.length_singleton, Nat.pow_succ]
  exact Nat.mul_le_mul (ih fun n hn => h n (List.mem_append_left _ hn)) (h s (by simp))
theorem placesN_len : ∀ l : List Nat, ∀ p ∈ placesN l, p.length = l.length := by
  refine snoc_ind (fun p hp => by simp [placesN] at hp; rw [hp]) fun l s ih p hp => ?_
  rw [placesN_snoc] at hp
  unfold stepP at hp
  obtain ⟨q, hq, hp⟩ := List.mem_flatMap.1 hp
  obtain ⟨k, _, rfl⟩ := List.mem_map.1 hp
  rw [List.length_append, List.length_append, ih q hq]; rfl
theorem stepP_get {s : Nat} (hs : 0 < s) : ∀ {f : List (List Nat)} {k : Nat}, k < f.length * s → (stepP f s)[k]? = (f[k / s]?).map (· ++ [k % s])
  | [], k, h => by simp at h
  | p :: f, k, h => by
    have e : stepP (p :: f) s = ((List.range s).map fun k => p ++ [k]) ++ stepP f s := by unfold stepP; rw [List.flatMap_cons]
    rw [e]
    by_cases hk : k < s
    · rw [List.getElem?_append_left (by simpa using hk), Nat.div_eq_of_lt hk, Nat.mod_eq_of_lt hk]
      simp [hk]
    · have e1 : k / s = (k - s) / s + 1 := by
        rw [Nat.div_eq_sub_div hs (by omega)]
      have e2 : k % s = (k - s) % s := by
        rw [Nat.mod_eq_sub_mod (by omega)]
      rw [List.getElem?_append_right (by simp; omega), List.length_map, List.length_range, stepP_get hs (by
        rw [List.length_cons, Nat.add_mul, Nat.one_mul] at h
        omega), e1, e2, List.getElem?_cons_succ]
theorem spotN_snoc {l p : List Nat} (h : p.length = l.length) (s k : Nat) : spotN (l ++ [s]) (p ++ [k]) = spotN l p * s + k := by
  unfold spotN
  rw [List.zip_append h.symm, List.foldl_append]
  rfl
theorem spotN_at : ∀ l : List Nat, (∀ n ∈ l, 0 < n) → ∀ k p, (placesN l)[k]? = some p → spotN l p = k := by
  refine snoc_ind (fun _ k p h => ?_) fun l s ih hp k p h => ?_
  · cases k with
    | zero => simp [placesN] at h; subst h; rfl
    | succ k => simp [placesN] at h
  · have s0 : 0 < s := hp s (by simp)
    have hk := (List.getElem?_eq_some_iff.1 h).1
    rw [placesN_snoc] at h hk
    rw [stepP_length] at hk
    rw [stepP_get s0 hk] at h
    cases e : (placesN l)[k / s]? with
    | none => rw [e] at h; cases h
    | some q =>
      rw [e] at h
      cases h
      rw [spotN_snoc (placesN_len l q (List.mem_of_getElem? e)), ih (fun n hn => hp n (List.mem_append_left _ hn)) _ _ e]
      exact Nat.div_add_mod' k s
theorem placesN_lt : ∀ l : List Nat, ∀ p ∈ placesN l, ∀ q ∈ p.zip l, q.1 < q.2 := by
  refine snoc_ind (fun p hp => by simp) fun l s ih p hp => ?_
  rw [placesN_snoc] at hp
  unfold stepP at hp
  obtain ⟨q, hq, hp⟩ := List.mem_flatMap.1 hp
  obtain ⟨k, hk, rfl⟩ := List.mem_map.1 hp
  rw [List.zip_append (placesN_len l q hq)]
  intro x hx
  rcases List.mem_append.1 hx with h | h
  · exact ih q hq x h
  · simp at h
    rw [h]
    exact List.mem_range.1 hk
theorem placesN_nodup {l : List Nat} (h : ∀ n ∈ l, 0 < n) : (placesN l).Nodup := by
  rw [List.nodup_iff_pairwise_ne, List.pairwise_iff_getElem]
  intro i j hi hj hij e
  have e1 := spotN_at l h i _ (List.getElem?_eq_getElem hi)
  have e2 := spotN_at l h j _ (List.getElem?_eq_getElem hj)
  rw [e] at e1
  omega
/-! ### the defs -/
@[simp] theorem kN_snoc {p : List Nat} {j : Nat} : kN p ++ [Sum.inl (j : Int)] = kN (p ++ [j]) := by unfold kN; simp
theorem ext_turn (A F : D) (size : Nat) (hs : size ≤ 4) (acc : List (List Nat)) (p : List Nat) (hp : p.length ≤ 100) (hl : acc.length + size ≤ 16777216) (x4 : D) :
    bodyO (.nm 4) l0_places_by (.ktup (kN p)) [A, F, .int size, .lst .own (kL acc), x4, .dead] = .nx [A, F, .int size, .lst .own (kL (acc ++ (List.range size).map fun k => p ++ [k])), .ktup (kN p), .dead] := by
  have c := comp_img (own := [5]) (t := .nm 5) (co := c0_places_by) (elt := e0_places_by) (s := [A, F, .int size, .lst .own (kL acc), .ktup (kN p), .dead]) (l := List.range size) (fun (j : Nat) => D.int (j : Int)) (fun j => .ktup (kN (p ++ [j]))) (by simp)
    (fun j _ => ⟨[A, F, .int size, .lst .own (kL acc), .ktup (kN p), .int j], by
      have : p.length + 1 ≤ 16777216 := by omega
      simp [e0_places_by, c0_places_by, this], by simp, by simp⟩) (fun _ _ => ⟨rfl, rfl⟩) (by simp; omega)
  have s1 : size < 4611686018427387904 := by omega
  have h1 : noOwns ((List.range size).map fun j => D.ktup (kN (p ++ [j]))) = true := owns_img fun _ => rfl
  have h2 : goodKids ((List.range size).map fun j => D.ktup (kN (p ++ [j]))) = true := kids_img fun _ _ => ⟨rfl, rfl⟩
  simp [l0_places_by, s1, rngD_nat, c, h1, h2, hl]
theorem inner_run (A F : D) (size : Nat) (hs : size ≤ 4) (f : List (List Nat)) (hf : f.length ≤ 1000000) (hp : ∀ p ∈ f, p.length ≤ 100) (x4 : D) :
    ∃ y, loopF (bodyO (.nm 4) l0_places_by) (kL f) [A, F, .int size, .lst .own [], x4, .dead] = .nx [A, F, .int size, .lst .own (kL (stepP f size)), y, .dead] := by
  obtain ⟨y, e⟩ := loopF_fold (f := bodyO (.nm 4) l0_places_by) (fun p => D.ktup (kN p)) (fun (acc : List (List Nat)) (x : D) => [A, F, .int size, .lst .own (kL acc), x, .dead]) (fun acc p => acc ++ (List.range size).map fun k => p ++ [k]) f [] x4 (fun l1 p l2 e x => by
    have el : ∀ (l : List (List Nat)) (b : List (List Nat)), (l.foldl (fun acc p => acc ++ (List.range size).map fun k => p ++ [k]) b).length = b.length + l.length * size := by
      intro l
      induction l with
      | nil => intro b; simp
      | cons q l ih => intro b; rw [List.foldl_cons, ih, List.length_append, List.length_map, List.length_range, List.length_cons, Nat.add_mul]; omega
    have h1 := el l1 []
    have h2 : l1.length ≤ f.length := by rw [e, List.length_append]; omega
    have h3 : l1.length * size ≤ f.length * 4 := Nat.mul_le_mul h2 hs
    exact ⟨_, ext_turn A F size hs _ p (hp p (by rw [e]; simp)) (by rw [h1, List.length_nil]; omega) x⟩)
  refine ⟨y, ?_⟩
  have ef : ∀ (l b : List (List Nat)), l.foldl (fun acc p => acc ++ (List.range size).map fun k => p ++ [k]) b = b ++ stepP l size := by
    intro l
    induction l with
    | nil => intro b; simp [stepP]
    | cons q l ih => intro b; rw [List.foldl_cons, ih]; simp [stepP]
  rw [ef, List.nil_append] at e
  exact e
theorem places_run (fl : Fl) (l : List Nat) (hfl : fl ≠ .own) (hl : l.length ≤ 9) (h4 : ∀ n ∈ l, n ≤ 4) : f_places_by.g [.lst fl (iL l)] = .ok (.lst .own (kL (placesN l))) .dead := by
  obtain ⟨⟨y2, y3, y4⟩, e⟩ := loopF_fold (f := bodyO (.nm 2) l1_places_by) (fun (n : Nat) => D.int (n : Int)) (fun (f : List (List Nat)) (x : D × D × D) => [.lst fl (iL l), .lst .own (kL f), x.1, x.2.1, x.2.2, .dead]) stepP l [[]] (.dead, .dead, .dead) (fun l1 a l2 e x => by
    have ha : a ≤ 4 := h4 a (by rw [e]; simp)
    have hl1 : l1.length ≤ 9 := by rw [e, List.length_append] at hl; omega
    have hb : (placesN l1).length ≤ 1000000 := by
      rw [placesN_length]
      exact Nat.le_trans (prodN_le l1 fun n hn => h4 n (by rw [e]; exact List.mem_append_left _ hn)) (Nat.le_trans (Nat.pow_le_pow_right (by omega) hl1) (by decide))
    obtain ⟨y, e2⟩ := inner_run (.lst fl (iL l)) (.lst .shr (kL (placesN l1))) a ha (placesN l1) hb (fun p hp => by rw [placesN_len l1 p hp]; omega) x.2.2
    refine ⟨(.int a, .dead, y), ?_⟩
    show bodyO (.nm 2) l1_places_by (.int a) [.lst fl (iL l), .lst .own (kL (placesN l1)), x.1, x.2.1, x.2.2, .dead] = .nx [.lst fl (iL l), .lst .own (kL (stepP (placesN l1) a)), .int a, .dead, y, .dead]
    simp [l1_places_by, newLst, goodKids, e2])
  have e : loopF (bodyO (.nm 2) l1_places_by) (iL l) [.lst fl (iL l), .lst .own [.ktup []], .dead, .dead, .dead, .dead] = .nx [.lst fl (iL l), .lst .own (kL (placesN l)), y2, y3, y4, .dead] := e
  simp only [ge_places_by]
  simp [runF_eq, b_places_by, hfl, newLst, goodKids, e]
theorem lp_eq (ds : List D) : f__law_places.g ds = f_places_by.g ds := by rw [ge__law_places, ge_places_by]; rfl
theorem spot_run (fl : Fl) (l p : List Nat) (hfl : fl ≠ .own) (hp : p.length = l.length) (hl : l.length ≤ 9) (h4 : ∀ n ∈ l, n ≤ 4) : f_spot_of.g [.lst fl (iL l), .ktup (kN p)] = .ok (.int (spotN l p : Nat)) .dead := by
  have hz : zipD (.lst fl (iL l)) (.ktup (kN p)) = some ((l.zip p).map fun q => D.tup .shr [.int (q.1 : Nat), .int (q.2 : Nat)]) := by
    show ((lstD (.lst fl (iL l))).bind fun xs => (some ((kN p).map keyD)).map fun ys => (xs.zip ys).map fun q => pairD q.1 q.2) = _
    rw [kN_key]
    simp only [lstD_lst, iL_own, iL_dead]
    rw [if_pos (by simpa using hfl)]
    simp only [Option.bind_some, Option.map_some]
    rw [List.zip_map, List.map_map]
    rfl
  obtain ⟨⟨y3, y4⟩, e⟩ := loopF_fold (f := bodyO (.tup [3, 4]) l0_spot_of) (fun (q : Nat × Nat) => D.tup .shr [.int (q.1 : Nat), .int (q.2 : Nat)]) (fun (b : Nat) (x : D × D) => [.lst fl (iL l), .ktup (kN p), .int (b : Nat), x.1, x.2]) (fun a q => a * q.1 + q.2) (l.zip p) 0 (.dead, .dead) (fun l1 a l2 e x => by
    have ha : a.1 ≤ 4 := h4 a.1 (List.of_mem_zip (a := a.1) (b := a.2) (by rw [e]; exact List.mem_append_right _ List.mem_cons_self)).1
    refine ⟨(.int a.1, .int a.2), ?_⟩
    rw [body_eq (s2 := [.lst fl (iL l), .ktup (kN p), .int ((l1.foldl (fun a q => a * q.1 + q.2) 0 : Nat) : Int), .int (a.1 : Nat), .int (a.2 : Nat)]) rfl]
    have m : mulOk ((l1.foldl (fun a q => a * q.1 + q.2) 0 : Nat) : Int) (a.1 : Int) = true := mulOk_r (by omega)
    simp [l0_spot_of, m])
  have e : loopF (bodyO (.tup [3, 4]) l0_spot_of) ((l.zip p).map fun q => D.tup .shr [.int (q.1 : Nat), .int (q.2 : Nat)]) [.lst fl (iL l), .ktup (kN p), .int 0, .dead, .dead] = .nx [.lst fl (iL l), .ktup (kN p), .int (spotN l p : Nat), y3, y4] := e
  simp only [ge_spot_of]
  simp [runF_eq, b_spot_of, hfl, hz, e]
end TT.Law
namespace TT.Law
open PySem L2 TT
/-! ### shares drawn -/
abbrev cD (q : Nat × Nat) : D := .tup .shr [.int (q.1 : Nat), .int (q.2 : Nat)]
abbrev cL (l : List (Nat × Nat)) : List D := l.map cD
def Shr (q : Nat × Nat) : Prop := 0 < q.2 ∧ Nat.gcd q.1 q.2 = 1
@[simp] theorem cL_own {l : List (Nat × Nat)} : noOwns (cL l) = true := owns_img fun _ => rfl
@[simp] theorem cL_bor {l : List (Nat × Nat)} : noBors (cL l) = true := bors_img fun _ => rfl
@[simp] theorem cL_dead {l : List (Nat × Nat)} : (cL l).all (fun x => !isDead x) = true := dead_img fun _ => rfl
theorem cL_lend {l : List (Nat × Nat)} : refls Fl.lend (cL l) = cL l := refls_img fun _ => rfl
theorem cL_frz {l : List (Nat × Nat)} : refls Fl.frz (cL l) = cL l := refls_img fun _ => rfl
theorem gcd_div (a b : Nat) (hb : 0 < b) : Nat.gcd (a / Nat.gcd a b) (b / Nat.gcd a b) = 1 := by
  obtain ⟨x, hx⟩ := Nat.gcd_dvd_left a b
  obtain ⟨y, hy⟩ := Nat.gcd_dvd_right a b
  have hp : 0 < Nat.gcd a b := Nat.gcd_pos_of_pos_right a hb
  rw [Nat.div_eq_of_eq_mul_right hp hx, Nat.div_eq_of_eq_mul_right hp hy]
  have e : Nat.gcd (Nat.gcd a b * x) (Nat.gcd a b * y) = Nat.gcd a b := by rw [← hx, ← hy]
  rw [Nat.gcd_mul_left] at e
  exact Nat.eq_of_mul_eq_mul_left hp (by omega)
theorem short_run (a b : Nat) (hb : 0 < b) (hs : b < 2 ^ 200) : f__law_short.g [.int a, .int b] = .ok (cD (a / Nat.gcd a b, b / Nat.gcd a b)) .dead := by
  obtain ⟨y, e⟩ := gcd_loop (c := evE (.op .gt [.nm 3, .c (.int 0)])) (f := exSs l0__law_short) (fun p q x => [.int a, .int b, .int p, .int q, x]) (fun p q x => by simp) (fun p q x hq => by
    have : (0 : Int) < q := by omega
    simp [l0__law_short, hq]) (b + 1) a b .dead (by omega)
  have g0 : 0 < Nat.gcd a b := Nat.gcd_pos_of_pos_right a hb
  have g1 : (Nat.gcd a b).log2 < 9000 := by
    have := log2_lt (Nat.lt_of_le_of_lt (Nat.gcd_le_right a hb) hs) (by omega)
    omega
  simp only [f__law_short, runF_eq, b__law_short, run_cons, run_whl]
  simp only [fuelI, List.cons_append, List.nil_append, List.length_cons, List.length_nil]
  simp [e, fuelI, g0, g1, newTup, goodKids, tupOf]
theorem six {r : Nat} (h : r < 6) : r = 0 ∨ r = 1 ∨ r = 2 ∨ r = 3 ∨ r = 4 ∨ r = 5 := by omega
theorem share_run (n : Nat) (hn : n < 2147483629) : ∃ q : Nat × Nat, Shr q ∧ f__law_share.g [.int n] = .ok (cD q) .dead := by
  obtain ⟨t2, h2⟩ : ∃ t : Nat, (n : Int) / 7 % 10 = t := ⟨n / 7 % 10, by omega⟩
  obtain ⟨t3, h3⟩ : ∃ t : Nat, (n : Int) % 1000003 = t := ⟨n % 1000003, by omega⟩
  obtain ⟨t4, h4⟩ : ∃ t : Nat, (n : Int) * 48271 % 100000000000000000000 = t := ⟨n * 48271 % 100000000000000000000, by omega⟩
  obtain ⟨u2, k2, k2b⟩ : ∃ t : Nat, 1 + (n : Int) / 70 % 9 = t ∧ 0 < t ∧ t < 2 ^ 70 := ⟨1 + n / 70 % 9, by omega, by omega, by omega⟩
  obtain ⟨u3, k3, k3b⟩ : ∃ t : Nat, 1 + (n : Int) / 11 % 1000 = t ∧ 0 < t ∧ t < 2 ^ 70 := ⟨1 + n / 11 % 1000, by omega, by omega, by omega⟩
  obtain ⟨u4, k4, k4b⟩ : ∃ t : Nat, 1 + (n : Int) * 69621 % 1000000000000000000 = t ∧ 0 < t ∧ t < 2 ^ 70 := ⟨1 + n * 69621 % 1000000000000000000, by omega, by omega, by omega⟩
  obtain ⟨r, hr, r6⟩ : ∃ r : Nat, (n : Int) / 3 % 6 = r ∧ r < 6 := ⟨n / 3 % 6, by omega, by omega⟩
  obtain ⟨s, hs, s6⟩ : ∃ r : Nat, (n : Int) / 18 % 6 = r ∧ r < 6 := ⟨n / 18 % 6, by omega, by omega⟩
  obtain ⟨a, ha⟩ : ∃ a : Nat, atI [D.int 0, .int 1, .int t2, .int t3, .int t4, .int 1] (r : Int) = some (.int a) := by
    rcases six r6 with rfl | rfl | rfl | rfl | rfl | rfl
    · exact ⟨0, rfl⟩
    · exact ⟨1, rfl⟩
    · exact ⟨t2, rfl⟩
    · exact ⟨t3, rfl⟩
    · exact ⟨t4, rfl⟩
    · exact ⟨1, rfl⟩
  obtain ⟨b, hb, b0, b1⟩ : ∃ b : Nat, atI [D.int 1, .int 1, .int u2, .int u3, .int u4, .int 1000000] (s : Int) = some (.int b) ∧ 0 < b ∧ b < 2 ^ 70 := by
    rcases six s6 with rfl | rfl | rfl | rfl | rfl | rfl
    · exact ⟨1, rfl, by omega, by omega⟩
    · exact ⟨1, rfl, by omega, by omega⟩
    · exact ⟨u2, rfl, k2b⟩
    · exact ⟨u3, rfl, k3b⟩
    · exact ⟨u4, rfl, k4b⟩
    · exact ⟨1000000, rfl, by omega, by omega⟩
  have m1 : mulOk (n : Int) 48271 = true := mulOk_r (by omega)
  have m2 : mulOk (n : Int) 69621 = true := mulOk_r (by omega)
  have p1 : opD .pow [.int 10, .int 20] = some (.int 100000000000000000000) := by
    show (if (0 : Int) ≤ 20 ∧ (20 : Int) ≤ 1000000 ∧ (10 : Int).natAbs < 2 ^ 64 then some (D.int ((10 : Int) ^ (20 : Int).toNat)) else none) = _
    rw [if_pos (by decide)]; rfl
  have p2 : opD .pow [.int 10, .int 18] = some (.int 1000000000000000000) := by
    show (if (0 : Int) ≤ 18 ∧ (18 : Int) ≤ 1000000 ∧ (10 : Int).natAbs < 2 ^ 64 then some (D.int ((10 : Int) ^ (18 : Int).toNat)) else none) = _
    rw [if_pos (by decide)]; rfl
  have p3 : opD .pow [.int 10, .int 6] = some (.int 1000000) := by
    show (if (0 : Int) ≤ 6 ∧ (6 : Int) ≤ 1000000 ∧ (10 : Int).natAbs < 2 ^ 64 then some (D.int ((10 : Int) ^ (6 : Int).toNat)) else none) = _
    rw [if_pos (by decide)]; rfl
  refine ⟨(a / Nat.gcd a b, b / Nat.gcd a b), ⟨?_, gcd_div a b b0⟩, ?_⟩
  · exact Nat.div_pos (Nat.gcd_le_right a b0) (Nat.gcd_pos_of_pos_right a b0)
  · have e := short_run a b b0 (by omega)
    simp only [ge__law_share]
    simp [runF_eq, b__law_share, h2, h3, h4, k2, k3, k4, hr, hs, m1, m2, p1, p2, p3, newLst, goodKids, ha, hb, e]
/-! ### sizes -/
def szN (n j : Nat) : Nat := [1, 2, 3, 4, 2].getD ((n / 7 + 3 * j) % 5) 0
theorem szN_ok (n j : Nat) : 1 ≤ szN n j ∧ szN n j ≤ 4 := by
  unfold szN
  have h : (n / 7 + 3 * j) % 5 < 5 := Nat.mod_lt _ (by omega)
  have : (n / 7 + 3 * j) % 5 = 0 ∨ (n / 7 + 3 * j) % 5 = 1 ∨ (n / 7 + 3 * j) % 5 = 2 ∨ (n / 7 + 3 * j) % 5 = 3 ∨ (n / 7 + 3 * j) % 5 = 4 := by omega
  rcases this with e | e | e | e | e <;> rw [e] <;> decide
theorem sizes_run (n : Nat) (hn : n < 2147483629) : f__law_sizes.g [.int n] = .ok (.lst .own (iL ((List.range 5).map (szN n)))) .dead := by
  have c := comp_img (own := [1]) (t := .nm 1) (co := c0__law_sizes) (elt := e0__law_sizes) (s := [.int n, .dead]) (l := List.range 5) (fun (j : Nat) => D.int (j : Int)) (fun j => .int (szN n j : Nat)) (by simp)
    (fun j hj => ⟨[.int n, .int j], by
      have hj : j < 5 := List.mem_range.1 hj
      obtain ⟨r, hr, hr2, h5⟩ : ∃ r : Nat, ((n : Int) / 7 + 3 * (j : Int)) % 5 = r ∧ (n / 7 + 3 * j) % 5 = r ∧ r < 5 := ⟨(n / 7 + 3 * j) % 5, by omega, rfl, Nat.mod_lt _ (by omega)⟩
      have m : mulOk 3 (j : Int) = true := mulOk_l (by omega)
      have e : atI [D.int 1, .int 2, .int 3, .int 4, .int 2] (r : Int) = some (.int (szN n j : Nat)) := by
        unfold szN
        rw [hr2]
        have : r = 0 ∨ r = 1 ∨ r = 2 ∨ r = 3 ∨ r = 4 := by omega
        rcases this with rfl | rfl | rfl | rfl | rfl <;> rfl
      simp [e0__law_sizes, c0__law_sizes, hr, m, newLst, goodKids, e], by simp, by simp⟩) (fun _ _ => ⟨rfl, rfl⟩) (by simp)
  simp only [ge__law_sizes]
  have ei : (List.range 5).map (fun j => D.int (szN n j : Nat)) = iL ((List.range 5).map (szN n)) := by
    show _ = List.map _ (List.map _ _)
    rw [List.map_map]; rfl
  rw [ei] at c
  generalize (List.range 5).map (szN n) = L at c ⊢
  simp [runF_eq, b__law_sizes, rngD_nat, c]
end TT.Law
namespace TT.Law
open PySem L2 TT
/-! ### names -/
def GoodS (x : Str) : Prop := 1 ≤ x.length ∧ x.length ≤ 8 ∧ ∀ c ∈ x.cps.toList, 97 ≤ c ∧ c ≤ 122
theorem sIx_nat (n d i : Nat) : HT.sIx n d (some (i : Int)) = min i n := by
  unfold HT.sIx
  simp
  omega
theorem pre_tl (z : Str) (i : Nat) : (cutS z none (some (i : Int))).cps.toList = z.cps.toList.take i := by
  have hl : z.length = z.cps.toList.length := by simp [Str.length]
  unfold cutS
  rw [sIx_nat]
  show ((z.cps.toList.drop 0).take (min i z.length - 0)) = _
  rw [List.drop_zero, Nat.sub_zero, hl, List.take_eq_take_iff]
  omega
theorem suf_tl (z : Str) (i : Nat) : (cutS z (some (i : Int)) none).cps.toList = z.cps.toList.drop i := by
  have hl : z.length = z.cps.toList.length := by simp [Str.length]
  unfold cutS
  rw [sIx_nat]
  show ((z.cps.toList.drop (min i z.length)).take (z.length - min i z.length)) = _
  rw [hl]
  by_cases h : i ≤ z.cps.toList.length
  · rw [Nat.min_eq_left h, List.take_of_length_le (by simp)]
  · rw [Nat.min_eq_right (by omega), List.drop_of_length_le (Nat.le_refl _), List.drop_of_length_le (by omega)]
    simp
theorem mid_tl (z : Str) (i j : Nat) : (cutS z (some (i : Int)) (some (j : Int))).cps.toList = (z.cps.toList.drop (min i z.length)).take (min j z.length - min i z.length) := by
  unfold cutS
  rw [sIx_nat, sIx_nat]
theorem len_tl (x : Str) : x.length = x.cps.toList.length := by simp [Str.length]
theorem abc_get : ∀ k, k < 26 → (Str.ofString "abcdefghijklmnopqrstuvwxyz").cps.toList[k]? = some (97 + k) := by decide +kernel
theorem abc_mem {c : Nat} (h : 97 ≤ c ∧ c ≤ 122) : c ∈ (Str.ofString "abcdefghijklmnopqrstuvwxyz").cps.toList := by
  have := abc_get (c - 97) (by omega)
  rw [show 97 + (c - 97) = c by omega] at this
  exact List.mem_of_getElem? this
theorem good_run (x : Str) (h : GoodS x) : f_is_good_name.g [.str x] = .ok (.bl true) .dead := by
  obtain ⟨h1, h8, hc⟩ := h
  have c := comp_img (own := [1]) (t := .nm 1) (co := c0_is_good_name) (elt := e0_is_good_name) (s := [.str x, .dead]) (l := x.cps.toList) (fun c => D.str ⟨#[c]⟩) (fun _ => .bl true) (by simp)
    (fun c hm => ⟨[.str x, .str ⟨#[c]⟩], by
      have hin : inD (.str ⟨#[c]⟩) (.str "abcdefghijklmnopqrstuvwxyz") = some true := by
        show (if (#[c] : Array Nat).size = 1 then some (decide ((#[c] : Array Nat).getD 0 0 ∈ (Str.ofString "abcdefghijklmnopqrstuvwxyz").cps.toList)) else none) = _
        rw [if_pos (show (#[c] : Array Nat).size = 1 from rfl)]
        exact congrArg some (decide_eq_true (abc_mem (hc c hm)))
      simp [e0_is_good_name, c0_is_good_name, hin], by simp, by simp⟩) (fun _ _ => ⟨rfl, rfl⟩) (by rw [← len_tl]; omega)
  have i1 : (1 : Int) ≤ (x.length : Int) := by omega
  have i2 : (x.length : Int) ≤ 8 := by omega
  have i3 : x.length ≤ 16777216 := by omega
  have b : blsOf (x.cps.toList.map fun _ => D.bl true) = some (x.cps.toList.map fun _ => true) := blsOf_map
  have a : (x.cps.toList.map fun _ => true).all id = true := by simp
  generalize hq : (x.cps.toList.map fun _ => D.bl true) = q at c b
  generalize hw : (x.cps.toList.map fun _ => true) = w at a b
  have nb : noOwns q = true := by rw [← hq]; exact owns_img fun _ => rfl
  simp only [ge_is_good_name]
  simp [runF_eq, b_is_good_name, i1, i2, i3, h1, h8, c, b, a]
/-! ### the ten names -/
theorem ixT {x : Str} {r : Nat} {c : Nat} (h : x.cps.toList[r]? = some c) (hz : x.length ≤ 16777216) : ixD (.str x) (.int (r : Int)) = some (.str ⟨#[c]⟩) := by
  show (if x.length ≤ sizeLine then (atI x.cps.toList (r : Int)).map fun c => D.str ⟨#[c]⟩ else none) = _
  rw [if_pos (by rw [szl]; exact hz), atI_nat (List.getElem?_eq_some_iff.1 h).1, (List.getElem?_eq_some_iff.1 h).2]
  rfl
theorem join_ones : ∀ l : List Nat, (Txt.join (Str.ofString "") (l.map fun c => (⟨#[c]⟩ : Str))).cps.toList = l := by
  have j : ∀ l : List Nat, TL.joinL [] (l.map fun c => [c]) = l := by
    intro l
    induction l with
    | nil => rfl
    | cons a l ih =>
      cases l with
      | nil => rfl
      | cons b l =>
        show [a] ++ ([] ++ TL.joinL [] ((b :: l).map fun c => [c])) = _
        rw [ih]; rfl
  intro l
  have e := TL.tl_join (Str.ofString "") (l.map fun c => (⟨#[c]⟩ : Str))
  rw [← TL.join_eq] at e
  have e2 : (l.map fun c => (⟨#[c]⟩ : Str)).map TL.tl = l.map fun c => [c] := by rw [List.map_map]; rfl
  rw [e2] at e
  exact e.trans (j l)
end TT.Law
namespace TT.Law
open PySem L2 TT
abbrev ABC : Str := Str.ofString "abcdefghijklmnopqrstuvwxyz"
theorem abc_len : ABC.length ≤ 16777216 := by decide
theorem bors_app {xs ys : List D} : noBors (xs ++ ys) = (noBors xs && noBors ys) := by
  induction xs with
  | nil => simp
  | cons x xs ih => simp [ih, Bool.and_assoc]
theorem owns_app {xs ys : List D} : noOwns (xs ++ ys) = (noOwns xs && noOwns ys) := by
  induction xs with
  | nil => simp
  | cons x xs ih => simp [ih, Bool.and_assoc]
theorem good_cut {base : Str} (hb : ∀ c ∈ base.cps.toList, 97 ≤ c ∧ c ≤ 122) {x : Str} (h : ∀ c ∈ x.cps.toList, c ∈ base.cps.toList) (h1 : 1 ≤ x.length) (h8 : x.length ≤ 8) : GoodS x := ⟨h1, h8, fun c hc => hb c (h c hc)⟩
theorem names_run (n : Nat) (hn : n < 2147483629) : ∃ l : List Str, l.length = 10 ∧ (∀ x ∈ l, GoodS x) ∧ f__law_names.g [.int n] = .ok (.lst .own (sL l)) .dead := by
  obtain ⟨st, hst, hst2⟩ : ∃ t : Nat, 3 + (n : Int) % 5 = t ∧ t < 10 := ⟨3 + n % 5, by omega, by omega⟩
  have hr : ∀ j : Nat, ((n : Int) / 5 + (st : Int) * (j : Int)) % 26 = (((n / 5 + st * j) % 26 : Nat) : Int) := fun j => rfl
  have c0 := comp_img (own := [4]) (t := .nm 4) (co := c0__law_names) (elt := e0__law_names) (s := [.int n, .str ABC, .int st, .dead, .dead, .dead, .dead, .dead, .dead, .dead]) (l := List.range 8) (fun (j : Nat) => D.int (j : Int)) (fun j => .str ⟨#[97 + (n / 5 + st * j) % 26]⟩) (by simp)
    (fun j hj => ⟨[.int n, .str ABC, .int st, .dead, .int j, .dead, .dead, .dead, .dead, .dead], by
      have hj : j < 8 := List.mem_range.1 hj
      have m : mulOk (st : Int) (j : Int) = true := mulOk_l (by omega)
      have e := ixT (abc_get ((n / 5 + st * j) % 26) (Nat.mod_lt _ (by omega))) abc_len
      rw [← hr] at e
      simp [e0__law_names, c0__law_names, m, e], by simp, by simp⟩) (fun _ _ => ⟨rfl, rfl⟩) (by simp)
  have e1 : strsOf ((List.range 8).map fun j => D.str ⟨#[97 + (n / 5 + st * j) % 26]⟩) = some ((List.range 8).map fun j => (⟨#[97 + (n / 5 + st * j) % 26]⟩ : Str)) := strsOf_map
  obtain ⟨ys, hys⟩ : ∃ ys, ys = (List.range 8).map fun j => (⟨#[97 + (n / 5 + st * j) % 26]⟩ : Str) := ⟨_, rfl⟩
  obtain ⟨base, hbase⟩ : ∃ b, b = Txt.join (Str.ofString "") ys := ⟨_, rfl⟩
  have hcps : base.cps.toList = (List.range 8).map fun j => 97 + (n / 5 + st * j) % 26 := by
    have := join_ones ((List.range 8).map fun j => 97 + (n / 5 + st * j) % 26)
    rw [List.map_map] at this
    rw [hbase, hys]
    exact this
  have hbl : base.length = 8 := by rw [len_tl, hcps]; simp
  have hbc : ∀ c ∈ base.cps.toList, 97 ≤ c ∧ c ≤ 122 := fun c hc => by
    rw [hcps] at hc
    obtain ⟨j, _, rfl⟩ := List.mem_map.1 hc
    have := Nat.mod_lt (n / 5 + st * j) (show 0 < 26 by omega)
    omega
  have hy8 : ys.length = 8 := by rw [hys]; simp
  have hsum : (ys.map (·.length)).sum = 8 := by
    rw [hys, List.map_map]
    rfl
  rw [← hys] at e1
  clear hcps
  generalize hq : (List.range 8).map (fun j => D.str ⟨#[97 + (n / 5 + st * j) % 26]⟩) = q at c0 e1
  clear hys hq
  have hj : Txt.join (Str.ofString "") ys = base := hbase.symm
  clear hbase
  have z0 : (Str.ofString "").length = 0 := rfl
  by_cases hb : (n : Int) / 130 % 3 = 1
  · have c1 := comp_img (own := [5]) (t := .nm 5) (co := c1__law_names) (elt := e1__law_names) (s := [.int n, .str ABC, .int st, .str base, .dead, .dead, .dead, .dead, .dead, .dead]) (l := List.range 8) (fun (j : Nat) => D.int (j : Int)) (fun j => .str (cutS base none (some ((j + 1 : Nat) : Int)))) (by simp)
      (fun j hj => ⟨[.int n, .str ABC, .int st, .str base, .dead, .int j, .dead, .dead, .dead, .dead], by simp [e1__law_names, c1__law_names, hbl], by simp, by simp⟩) (fun _ _ => ⟨rfl, rfl⟩) (by simp)
    have ei : (List.range 8).map (fun j => D.str (cutS base none (some ((j + 1 : Nat) : Int)))) = sL ((List.range 8).map fun j => cutS base none (some ((j + 1 : Nat) : Int))) := by
      show _ = List.map _ (List.map _ _)
      rw [List.map_map]; rfl
    rw [ei] at c1
    obtain ⟨L, hL⟩ : ∃ L, L = (List.range 8).map fun j => cutS base none (some ((j + 1 : Nat) : Int)) := ⟨_, rfl⟩
    rw [← hL] at c1
    have hLl : L.length = 8 := by rw [hL]; simp
    refine ⟨L ++ [cutS base (some 1) (some 7), cutS base (some 2) none], by simp [hLl], fun x hx => ?_, ?_⟩
    · rcases List.mem_append.1 hx with hx | hx
      · rw [hL] at hx
        obtain ⟨j, hj, rfl⟩ := List.mem_map.1 hx
        have hj := List.mem_range.1 hj
        have e := pre_tl base (j + 1)
        have el : (cutS base none (some ((j + 1 : Nat) : Int))).length = j + 1 := by rw [len_tl, e, List.length_take, ← len_tl, hbl]; omega
        exact good_cut hbc (fun c hc => by rw [e] at hc; exact List.mem_of_mem_take hc) (by omega) (by omega)
      · simp only [List.mem_cons, List.not_mem_nil, or_false] at hx
        rcases hx with rfl | rfl
        · have e := mid_tl base 1 7
          have el : (cutS base (some ((1 : Nat) : Int)) (some ((7 : Nat) : Int))).length = 6 := by rw [len_tl, e, List.length_take, List.length_drop, ← len_tl, hbl]; decide
          exact good_cut hbc (x := cutS base (some ((1 : Nat) : Int)) (some ((7 : Nat) : Int))) (fun c hc => by rw [e] at hc; exact List.mem_of_mem_drop (List.mem_of_mem_take hc)) (by omega) (by omega)
        · have e := suf_tl base 2
          have el : (cutS base (some ((2 : Nat) : Int)) none).length = 6 := by rw [len_tl, e, List.length_drop, ← len_tl, hbl]
          exact good_cut hbc (x := cutS base (some ((2 : Nat) : Int)) none) (fun c hc => by rw [e] at hc; exact List.mem_of_mem_drop hc) (by omega) (by omega)
    · simp only [ge__law_names]
      simp [runF_eq, b__law_names, hst, rngD_nat, c0, e1, hsum, hy8, hj, hb, hbl, c1, newLst, goodKids, hLl, z0, bors_app]
  · obtain ⟨m, hm, hm8⟩ : ∃ m : Nat, (n : Int) / 390 % 8 = m ∧ m < 8 := ⟨n / 390 % 8, by omega, Nat.mod_lt _ (by omega)⟩
    obtain ⟨bo, hbo⟩ : ∃ b, b = cutS base none (some (m : Int)) := ⟨_, rfl⟩
    have ebo := pre_tl base m
    rw [← hbo] at ebo
    have hbol : bo.length = m := by rw [len_tl, ebo, List.length_take, ← len_tl, hbl]; omega
    have hboc : ∀ c ∈ bo.cps.toList, 97 ≤ c ∧ c ≤ 122 := fun c hc => by rw [ebo] at hc; exact hbc c (List.mem_of_mem_take hc)
    obtain ⟨at_, hat, hat2⟩ : ∃ a : Nat, (n : Int) / 3120 % ((m : Int) + 1) = a ∧ a ≤ m := ⟨n / 3120 % (m + 1), by
      rw [show (m : Int) + 1 = ((m + 1 : Nat) : Int) by omega]; rfl, by have := Nat.mod_lt (n / 3120) (show 0 < m + 1 by omega); omega⟩
    have c2 := comp_img (own := [5]) (t := .nm 5) (co := c2__law_names) (elt := e2__law_names) (s := [.int n, .str ABC, .int st, .str base, .dead, .dead, .str bo, .int at_, .dead, .dead]) (l := List.range 10) (fun (j : Nat) => D.int (j : Int)) (fun j => .str ⟨#[97 + (n / 28080 + 5 * j) % 26]⟩) (by simp)
      (fun j hj => ⟨[.int n, .str ABC, .int st, .str base, .dead, .int j, .str bo, .int at_, .dead, .dead], by
        have hj : j < 10 := List.mem_range.1 hj
        have mm : mulOk 5 (j : Int) = true := mulOk_l (by omega)
        have e := ixT (abc_get ((n / 28080 + 5 * j) % 26) (Nat.mod_lt _ (by omega))) abc_len
        have hr2 : ((n : Int) / 28080 + 5 * (j : Int)) % 26 = (((n / 28080 + 5 * j) % 26 : Nat) : Int) := rfl
        rw [← hr2] at e
        simp [e2__law_names, c2__law_names, mm, e], by simp, by simp⟩) (fun _ _ => ⟨rfl, rfl⟩) (by simp)
    obtain ⟨sg, hsg⟩ : ∃ l : List Str, l = (List.range 10).map fun j => (⟨#[97 + (n / 28080 + 5 * j) % 26]⟩ : Str) := ⟨_, rfl⟩
    have ei : (List.range 10).map (fun j => D.str ⟨#[97 + (n / 28080 + 5 * j) % 26]⟩) = sL sg := by
      rw [hsg]
      show _ = List.map _ (List.map _ _)
      rw [List.map_map]; rfl
    rw [ei] at c2
    have hs10 : sg.length = 10 := by rw [hsg]; simp
    have hs1 : ∀ x ∈ sg, x.length = 1 ∧ ∀ c ∈ x.cps.toList, 97 ≤ c ∧ c ≤ 122 := fun x hx => by
      rw [hsg] at hx
      obtain ⟨j, _, rfl⟩ := List.mem_map.1 hx
      refine ⟨rfl, fun c hc => ?_⟩
      have hc : c ∈ [97 + (n / 28080 + 5 * j) % 26] := hc
      have := Nat.mod_lt (n / 28080 + 5 * j) (show 0 < 26 by omega)
      simp at hc
      omega
    clear hsg ei
    have la : (cutS bo none (some (at_ : Int))).length = at_ := by rw [len_tl, pre_tl, List.length_take, ← len_tl, hbol]; omega
    have lb : (cutS bo (some (at_ : Int)) none).length = m - at_ := by rw [len_tl, suf_tl, List.length_drop, ← len_tl, hbol]
    have c3 := comp_img (own := [9]) (t := .nm 9) (co := c3__law_names) (elt := e3__law_names) (s := [.int n, .str ABC, .int st, .str base, .dead, .dead, .str bo, .int at_, .lst .shr (sL sg), .dead]) (l := sg) D.str (fun x => .str (cutS bo none (some (at_ : Int)) ++ x ++ cutS bo (some (at_ : Int)) none)) (by simp)
      (fun x hx => ⟨[.int n, .str ABC, .int st, .str base, .dead, .dead, .str bo, .int at_, .lst .shr (sL sg), .str x], by
        have l1 := (hs1 x hx).1
        have q1 : (cutS bo none (some (at_ : Int))).length + x.length ≤ 16777216 := by omega
        have q2 : (cutS bo none (some (at_ : Int)) ++ x).length + (cutS bo (some (at_ : Int)) none).length ≤ 16777216 := by
          have : (cutS bo none (some (at_ : Int)) ++ x).length = at_ + 1 := by rw [len_tl, ← TL.tl, TL.tl_append, List.length_append]; rw [TL.tl, TL.tl, ← len_tl, ← len_tl, la, l1]
          omega
        have q0 : bo.length ≤ 16777216 := by omega
        simp [e3__law_names, c3__law_names, q0, q1, q2], by simp, by simp⟩) (fun _ _ => ⟨rfl, rfl⟩) (by omega)
    obtain ⟨L, hL⟩ : ∃ L, L = sg.map fun x => cutS bo none (some (at_ : Int)) ++ x ++ cutS bo (some (at_ : Int)) none := ⟨_, rfl⟩
    have ej : (sg.map fun x => D.str (cutS bo none (some (at_ : Int)) ++ x ++ cutS bo (some (at_ : Int)) none)) = sL L := by
      rw [hL]
      show _ = List.map _ (List.map _ _)
      rw [List.map_map]; rfl
    rw [ej] at c3
    refine ⟨L, by rw [hL]; simp [hs10], fun x hx => ?_, ?_⟩
    · rw [hL] at hx
      obtain ⟨y, hy, rfl⟩ := List.mem_map.1 hx
      obtain ⟨y1, y2⟩ := hs1 y hy
      have et : (cutS bo none (some (at_ : Int)) ++ y ++ cutS bo (some (at_ : Int)) none).cps.toList = bo.cps.toList.take at_ ++ y.cps.toList ++ bo.cps.toList.drop at_ := by
        have := TL.tl_append (cutS bo none (some (at_ : Int)) ++ y) (cutS bo (some (at_ : Int)) none)
        rw [TL.tl_append (cutS bo none (some (at_ : Int))) y] at this
        rw [← pre_tl, ← suf_tl]
        exact this
      have el : (cutS bo none (some (at_ : Int)) ++ y ++ cutS bo (some (at_ : Int)) none).length = m + 1 := by
        rw [len_tl, et, List.length_append, List.length_append, List.length_take, List.length_drop, ← len_tl, ← len_tl, hbol, y1]
        omega
      refine ⟨by omega, by omega, fun c hc => ?_⟩
      rw [et] at hc
      rcases List.mem_append.1 hc with hc | hc
      · rcases List.mem_append.1 hc with hc | hc
        · exact hboc c (List.mem_of_mem_take hc)
        · exact y2 c hc
      · exact hboc c (List.mem_of_mem_drop hc)
    · simp only [ge__law_names]
      have q0 : m ≤ 16777216 := by omega
      have hbq : ((n : Int) / 130 % 3 == 1) = false := beq_false_of_ne hb
      simp [runF_eq, b__law_names, hst, rngD_nat, c0, e1, hsum, hy8, hj, hbq, hbl, z0, hm, ← hbo, hbol, hat, c2, c3, q0]
end TT.Law
namespace TT.Law
open PySem L2 TT
/-! ### what is drawn -/
theorem strOk_good {x : Str} (h : GoodS x) : PyData.strOk x = true := by
  show Array.all _ _ = true
  rw [← Array.all_toList]
  simp only [List.all_eq_true, decide_eq_true_eq]
  intro c hc
  have := h.2.2 c hc
  omega
theorem isDats_s {l : List Str} (h : ∀ x ∈ l, PyData.strOk x = true) : isDats (sL l) = true := by
  induction l with
  | nil => simp
  | cons x l ih =>
    show (isDat (.str x) && isDats (sL l)) = true
    rw [ih fun y hy => h y (List.mem_cons_of_mem _ hy), isDat_str, h x List.mem_cons_self]; rfl
theorem depth_s {l : List Str} : depthDs (sL l) = 0 := by
  induction l with
  | nil => simp
  | cons x l ih =>
    show max (depthD (.str x)) (depthDs (sL l)) = 0
    rw [ih, depthD_str]; rfl
theorem in_s {fl : Fl} {x : Str} {l : List Str} : inD (.str x) (.lst fl (sL l)) = some (decide (x ∈ l)) := by
  have hf : (sL l).all flatD = true := List.all_eq_true.2 fun y hy => by obtain ⟨z, _, rfl⟩ := List.mem_map.1 hy; rfl
  show (if flatD (.str x) = true ∧ (sL l).all flatD = true then some ((sL l).any fun y => eqv y (.str x)) else none) = _
  rw [if_pos ⟨rfl, hf⟩]
  congr 1
  rw [List.any_map]
  induction l with
  | nil => rfl
  | cons y l ih =>
    rw [List.any_cons, ih (List.all_eq_true.2 fun y hy => by obtain ⟨z, _, rfl⟩ := List.mem_map.1 hy; rfl)]
    show (eqv (.str y) (.str x) || decide (x ∈ l)) = _
    rw [eqv_str]
    by_cases e : x = y
    · rw [e]; simp
    · have ne : (y == x) = false := beq_eq_false_iff_ne.2 fun z => e z.symm
      rw [ne, Bool.false_or]
      exact decide_eq_decide.2 ⟨List.mem_cons_of_mem _, fun h => (List.mem_cons.1 h).resolve_left e⟩
def idxN (pool : List Str) (x : Str) : Nat := ((sL pool).findIdx? fun y => eqv y (.str x)).getD 0
theorem idx_run {fl : Fl} {pool : List Str} {x : Str} (hx : x ∈ pool) (hg : ∀ x ∈ pool, GoodS x) : idxD (.lst fl (sL pool)) (.str x) = some (.int (idxN pool x : Nat)) ∧ idxN pool x < pool.length := by
  have h1 : datOk (.str x) = true := by simp [datOk, strOk_good (hg x hx)]
  have h2 : datOk (.lst .own (sL pool)) = true := by
    unfold datOk
    rw [isDat_lst, isDats_s (fun y hy => strOk_good (hg y hy)), depthD_lst, depth_s]
    rfl
  have hs : ((sL pool).findIdx? fun y => eqv y (.str x)).isSome = true := by
    rw [List.findIdx?_isSome, List.any_eq_true]
    exact ⟨.str x, List.mem_map.2 ⟨x, hx, rfl⟩, by simp⟩
  obtain ⟨j, hj⟩ := Option.isSome_iff_exists.1 hs
  have hjl : j < pool.length := by
    have := (List.findIdx?_eq_some_iff_getElem.1 hj).1
    simpa using this
  have e : idxN pool x = j := by unfold idxN; rw [hj]; rfl
  rw [e]
  refine ⟨?_, hjl⟩
  show (if datOk (.str x) = true ∧ datOk (.lst .own (sL pool)) = true then ((sL pool).findIdx? fun y => eqv y (.str x)).map fun j => D.int (j : Nat) else none) = _
  rw [if_pos ⟨h1, h2⟩, hj]; rfl
theorem at_s {l : List Str} {r : Nat} (h : r < l.length) : atI (sL l) (r : Int) = some (.str l[r]) := by
  rw [atI_nat (by simpa using h)]; simp
theorem at_i {l : List Nat} {r : Nat} (h : r < l.length) : atI (iL l) (r : Int) = some (.int (l[r] : Nat)) := by
  rw [atI_nat (by simpa using h)]; simp
abbrev ownD (fl : Fl) (names : List Str) (counts : List Nat) (cells : List (Nat × Nat)) : D := .dk fl DK_0 [.lst fl (sL names), .lst fl (iL counts), .dt fl ((placesN counts).map kN) (cL cells)]
structure Own4 (names : List Str) (counts : List Nat) (cells : List (Nat × Nat)) : Prop where
  nd : names.Nodup
  gd : ∀ x ∈ names, GoodS x
  ln : names.length = counts.length
  l3 : counts.length ≤ 3
  ct : ∀ c ∈ counts, 1 ≤ c ∧ c ≤ 4
  cl : cells.length = (placesN counts).length
  sh : ∀ q ∈ cells, Shr q
theorem drawn_run (pool : List Str) (hp : pool.length = 5) (hg : ∀ x ∈ pool, GoodS x) (sz : List Nat) (hz : sz.length = 5) (hz4 : ∀ c ∈ sz, 1 ≤ c ∧ c ≤ 4) (n : Nat) (hn : n < 2147483629) :
    ∃ names counts cells, Own4 names counts cells ∧ f__law_drawn.g [.lst .bor (sL pool), .lst .bor (iL sz), .int n] = .ok (ownD .own names counts cells) .dead := by
  obtain ⟨w, hw, hw3⟩ : ∃ w : Nat, (n : Int) % 4 = w ∧ w ≤ 3 := ⟨n % 4, rfl, by omega⟩
  obtain ⟨s1, e1, names, x4, x5, rfl, nd, sub, nl⟩ := loopF_ix (f := bodyO (.nm 4) l0__law_drawn) (fun i s => ∃ (names : List Str) (x4 x5 : D), s = [.lst .bor (sL pool), .lst .bor (iL sz), .int n, .lst .own (sL names), x4, x5, .dead, .dead, .dead, .dead] ∧ names.Nodup ∧ (∀ x ∈ names, x ∈ pool) ∧ names.length ≤ i)
    (xs := rngD 0 w 1) (k := 0) (s := [.lst .bor (sL pool), .lst .bor (iL sz), .int n, .lst .own [], .dead, .dead, .dead, .dead, .dead, .dead]) (fun i d hd s hs => by
      obtain ⟨names, x4, x5, rfl, nd, sub, nl⟩ := hs
      obtain ⟨j, hj, rfl⟩ := rngD_mem (List.mem_of_getElem? hd)
      have hi : i < w := by have := (List.getElem?_eq_some_iff.1 hd).1; rw [rngD_len] at this; exact this
      obtain ⟨m, hm, em⟩ := mixed n (20 + j) (by omega)
      rw [show ((20 + j : Nat) : Int) = 20 + (j : Int) by omega] at em
      obtain ⟨r, hr, hr5⟩ : ∃ r : Nat, (m : Int) % 5 = r ∧ r < 5 := ⟨m % 5, rfl, Nat.mod_lt _ (by omega)⟩
      have ea := at_s (l := pool) (r := r) (by omega)
      rw [show (0 : Int) + (j : Int) * 1 = j by omega]
      have hlt : names.length < 16777216 := by omega
      by_cases hx : pool[r] ∈ names
      · refine ⟨_, ?_, names, .int j, .int r, rfl, nd, sub, by omega⟩
        simp [l0__law_drawn, em, hr, ea, in_s, hx]
      · refine ⟨_, ?_, names ++ [pool[r]], .int j, .int r, rfl, ?_, ?_, by simp; omega⟩
        · simp [l0__law_drawn, em, hr, ea, in_s, hx, hlt]
        · rw [List.nodup_append]
          refine ⟨nd, by simp, fun a ha b hb e => ?_⟩
          simp at hb
          rw [e, hb] at ha
          exact hx ha
        · intro x hx
          rcases List.mem_append.1 hx with h | h
          · exact sub x h
          · simp at h
            rw [h]
            exact List.getElem_mem _) ⟨[], .dead, .dead, rfl, List.nodup_nil, (fun x hx => nomatch hx), Nat.le_refl _⟩
  rw [rngD_len] at nl
  obtain ⟨cnt, hcnt⟩ : ∃ f : Str → Nat, f = fun x => sz.getD (idxN pool x) 0 := ⟨_, rfl⟩
  have hc4 : ∀ x ∈ names, atI (iL sz) (idxN pool x : Nat) = some (.int (cnt x : Nat)) ∧ 1 ≤ cnt x ∧ cnt x ≤ 4 := fun x hx => by
    have h := (idx_run (fl := .own) (sub x hx) hg).2
    have e : cnt x = sz[idxN pool x] := by rw [hcnt]; show sz.getD _ _ = _; rw [List.getD_eq_getElem?_getD, List.getElem?_eq_getElem (by omega)]; rfl
    refine ⟨?_, ?_⟩
    · rw [at_i (by omega), e]
    · rw [e]; exact hz4 _ (List.getElem_mem _)
  have c0 := comp_img (own := [7]) (t := .nm 7) (co := c0__law_drawn) (elt := e0__law_drawn) (s := [.lst .bor (sL pool), .lst .bor (iL sz), .int n, .lst .bor (sL names), refl Fl.lend x4, refl Fl.lend x5, .dead, .dead, .dead, .dead]) (l := names) D.str (fun x => .int (cnt x : Nat)) (by simp)
    (fun x hx => ⟨[.lst .bor (sL pool), .lst .bor (iL sz), .int n, .lst .bor (sL names), refl Fl.lend x4, refl Fl.lend x5, .dead, .str x, .dead, .dead], by
      have h := (idx_run (fl := .bor) (sub x hx) hg).1
      have h2 := (hc4 x hx).1
      simp only [e0__law_drawn, c0__law_drawn, tgSet_nm, stepO_some, ts_nil, Rok_bind, kSt_t, ev_cp, ev_op, evs_cons, ev_mth, ev_nm]
      simp [-idx_lst, h, h2], by simp, by simp⟩) (fun _ _ => ⟨rfl, rfl⟩) (by omega)
  obtain ⟨counts, hco⟩ : ∃ c, c = names.map cnt := ⟨_, rfl⟩
  have ec : (names.map fun x => D.int (cnt x : Nat)) = iL counts := by
    rw [hco]
    show _ = List.map _ (List.map _ _)
    rw [List.map_map]; rfl
  rw [ec] at c0
  have hcl : counts.length = names.length := by rw [hco]; simp
  have hct : ∀ c ∈ counts, 1 ≤ c ∧ c ≤ 4 := fun c hc => by
    rw [hco] at hc
    obtain ⟨x, hx, rfl⟩ := List.mem_map.1 hc
    exact (hc4 x hx).2
  clear ec hco hc4
  have hpl : (placesN counts).length ≤ 64 := by
    rw [placesN_length]
    exact Nat.le_trans (prodN_le counts fun c hc => (hct c hc).2) (Nat.le_trans (Nat.pow_le_pow_right (by omega) (show counts.length ≤ 3 by omega)) (by decide))
  have pr := places_run .bor counts (by simp) (by omega) fun c hc => (hct c hc).2
  rw [← lp_eq] at pr
  obtain ⟨zs, ez, ezl⟩ := enum_some (fl := .shr) (xs := kL (placesN counts)) (by simp) kL_own kL_dead
  have pnd := placesN_nodup (l := counts) fun c hc => by have := (hct c hc).1; omega
  obtain ⟨s2, e2, cells, y4, y9, rfl, cl, csh⟩ := loopF_ix (f := bodyO (.tup [4, 9]) l1__law_drawn) (fun i s => ∃ (cells : List (Nat × Nat)) (y4 y9 : D), s = [.lst .bor (sL pool), .lst .bor (iL sz), .int n, .lst .own (sL names), y4, x5, .lst .own (iL counts), .dead, .dt .own (((placesN counts).take i).map kN) (cL cells), y9] ∧ cells.length = i ∧ ∀ q ∈ cells, Shr q)
    (xs := zs) (k := 0) (s := [.lst .bor (sL pool), .lst .bor (iL sz), .int n, .lst .own (sL names), x4, x5, .lst .own (iL counts), .dead, .dt .own [] [], .dead]) (fun i d hd s hs => by
      obtain ⟨cells, y4, y9, rfl, cl, csh⟩ := hs
      obtain ⟨x, ex, rfl⟩ := enum_get ez hd
      rw [List.getElem?_map] at ex
      have hi : i < (placesN counts).length := by
        have := (List.getElem?_eq_some_iff.1 hd).1
        rw [ezl] at this
        simpa using this
      rw [List.getElem?_eq_getElem hi] at ex
      cases ex
      obtain ⟨m, hm, em⟩ := mixed n (30 + i) (by omega)
      rw [show ((30 + i : Nat) : Int) = 30 + (i : Int) by omega] at em
      obtain ⟨q, hq, eq⟩ := share_run m hm
      have nf : (((placesN counts).take i).map kN).findIdx? (fun y => decide (y = kN (placesN counts)[i])) = none := by
        rw [List.findIdx?_eq_none_iff]
        intro y hy
        obtain ⟨p, hp, rfl⟩ := List.mem_map.1 hy
        refine decide_eq_false fun e => ?_
        have e := kN_inj e
        obtain ⟨j, hj⟩ := List.mem_iff_getElem?.1 hp
        rw [List.getElem?_take] at hj
        split at hj
        · rename_i hji
          obtain ⟨hjl, ej⟩ := List.getElem?_eq_some_iff.1 hj
          exact List.pairwise_iff_getElem.1 (List.nodup_iff_pairwise_ne.1 pnd) j i hjl hi hji (by rw [ej, e])
        · cases hj
      have pd := putD_new (x := cD q) (vs := cL cells) nf (by simp; omega)
      have tk : ((placesN counts).take i).map kN ++ [kN (placesN counts)[i]] = ((placesN counts).take (i + 1)).map kN := by
        rw [List.take_add_one, List.getElem?_eq_getElem hi, List.map_append]; rfl
      rw [tk, List.map_take, List.map_take] at pd
      refine ⟨_, ?_, cells ++ [q], .int i, .ktup (kN (placesN counts)[i]), rfl, by simp [cl], fun a ha => ?_⟩
      · rw [pair_shr (by rfl) (by rfl)]
        rw [body_eq (s2 := [.lst .bor (sL pool), .lst .bor (iL sz), .int n, .lst .own (sL names), .int (i : Nat), x5, .lst .own (iL counts), .dead, .dt .own (((placesN counts).take i).map kN) (cL cells), .ktup (kN (placesN counts)[i])]) (by simp)]
        have h1 : i < 16777216 := by omega
        have h2 : ((placesN counts).take i).length < 16777216 := by rw [List.length_take]; omega
        simp only [Nat.zero_add]
        have h3 : min i (placesN counts).length < 16777216 := by omega
        simp [l1__law_drawn, em, eq, pd, h2, h3]
      · rcases List.mem_append.1 ha with h | h
        · exact csh a h
        · simp at h; rw [h]; exact hq) ⟨[], x4, .dead, rfl, rfl, fun q hq => nomatch hq⟩
  rw [Nat.zero_add, ezl, List.length_map] at cl
  rw [Nat.zero_add, ezl, List.length_map, List.take_length] at e2
  refine ⟨names, counts, cells, ⟨nd, fun x hx => hg x (sub x hx), by omega, by omega, hct, cl, csh⟩, ?_⟩
  simp only [ge__law_drawn]
  have w1 : w < 4611686018427387904 := by omega
  simp [runF_eq, b__law_drawn, hw, w1, e1, newLst, goodKids, c0, pr, ez, e2]
end TT.Law
namespace TT.Law
open PySem L2 TT
/-! ### the class -/
abbrev tabD (fl : Fl) (names : List Str) (counts : List Nat) (cells : List (Nat × Nat)) : D := .ins fl 11 K_Table [.lst fl (sL names), .lst fl (iL counts), .lst fl (cL cells)]
theorem metS_nodup : ∀ l : List Str, l.Nodup → metS l = l := by
  refine snoc_ind (fun _ => rfl) fun l a ih h => ?_
  rw [List.nodup_append] at h
  rw [metS_snoc, ih h.1]
  unfold met1
  rw [if_neg fun z => ?_]
  obtain ⟨b, hb, e⟩ := List.any_eq_true.1 z
  exact h.2.2 b hb a (by simp) (eq_of_beq e)
theorem narrow_run (l : List Nat) (h3 : l.length ≤ 3) (h4 : ∀ c ∈ l, 1 ≤ c ∧ c ≤ 4) : f_need_narrow.g [.lst .bor (iL l)] = .ok .non .dead := by
  have e := how_many_run .bor l (by simp) (by omega) fun c hc => by have := (h4 c hc).2; omega
  have h : prodN l ≤ 64 := Nat.le_trans (prodN_le l fun c hc => (h4 c hc).2) (Nat.le_trans (Nat.pow_le_pow_right (by omega) h3) (by decide))
  have h2 : ¬ ((20000 : Int) < (prodN l : Nat)) := by omega
  simp only [ge_need_narrow]
  simp [runF_eq, b_need_narrow, e, h2]
theorem bls_true {α : Type} (l : List α) : blsOf (l.map fun _ => D.bl true) = some (l.map fun _ => true) := blsOf_map
theorem all_true {α : Type} (l : List α) : (l.map fun _ => true).all id = true := by simp
theorem strs_s {l : List Str} : strsOf (sL l) = some l := by
  have := strsOf_map (f := id) (l := l)
  simpa using this
theorem init_run {names : List Str} {counts : List Nat} {cells : List (Nat × Nat)} (O : Own4 names counts cells) : f_Table___init__.g [.ins .own 11 [] [], .lst .bor (sL names), .lst .bor (iL counts), .lst .bor (cL cells)] = .ok .non (tabD .own names counts cells) := by
  obtain ⟨nd, gd, ln, l3, ct, cl, sh⟩ := O
  have hm := how_many_run .bor counts (by simp) (by omega) fun c hc => by have := (ct c hc).2; omega
  have nr := narrow_run counts l3 ct
  have c0 := comp_img (own := [4]) (t := .nm 4) (co := c0_Table___init__) (elt := e0_Table___init__) (s := [.ins .own 11 [] [], .lst .bor (sL names), .lst .bor (iL counts), .lst .bor (cL cells), .dead, .dead, .dead]) (l := names) D.str (fun _ => .bl true) (by simp)
    (fun x hx => ⟨[.ins .own 11 [] [], .lst .bor (sL names), .lst .bor (iL counts), .lst .bor (cL cells), .str x, .dead, .dead], by
      simp [e0_Table___init__, c0_Table___init__, good_run x (gd x hx)], by simp, by simp⟩) (fun _ _ => ⟨rfl, rfl⟩) (by omega)
  have c1 := comp_img (own := [5]) (t := .nm 5) (co := c1_Table___init__) (elt := e1_Table___init__) (s := [.ins .own 11 [] [], .lst .bor (sL names), .lst .bor (iL counts), .lst .bor (cL cells), .dead, .dead, .dead]) (l := counts) (fun (n : Nat) => D.int (n : Int)) (fun _ => .bl true) (by simp)
    (fun c hc => ⟨[.ins .own 11 [] [], .lst .bor (sL names), .lst .bor (iL counts), .lst .bor (cL cells), .dead, .int c, .dead], by
      have := ct c hc
      have h1 : (c : Int) < 5 := by omega
      have h2 : (0 : Int) < c := by omega
      have h3 : 0 < c := by omega
      have e := kind_int c 5
      simp [h1] at e
      simp [e1_Table___init__, c1_Table___init__, e, h2, h3], by simp, by simp⟩) (fun _ _ => ⟨rfl, rfl⟩) (by omega)
  have hpl : cells.length ≤ 64 := by
    rw [cl, placesN_length]
    exact Nat.le_trans (prodN_le counts fun c hc => (ct c hc).2) (Nat.le_trans (Nat.pow_le_pow_right (by omega) l3) (by decide))
  have c2 := comp_img (own := [6]) (t := .nm 6) (co := c2_Table___init__) (elt := e2_Table___init__) (s := [.ins .own 11 [] [], .lst .bor (sL names), .lst .bor (iL counts), .lst .bor (cL cells), .dead, .dead, .dead]) (l := cells) cD (fun _ => .bl true) (by simp)
    (fun q hq => ⟨[.ins .own 11 [] [], .lst .bor (sL names), .lst .bor (iL counts), .lst .bor (cL cells), .dead, .dead, cD q], by
      have := sh q hq
      simp [e2_Table___init__, c2_Table___init__, is_share_run .shr q.1 q.2 this.1, this.2], by simp, by simp⟩) (fun _ _ => ⟨rfl, rfl⟩) (by omega)
  have b0 := bls_true names
  have b1 := bls_true counts
  have b2 := bls_true cells
  have a0 := all_true names
  have a1 := all_true counts
  have a2 := all_true cells
  generalize hq0 : (names.map fun _ => D.bl true) = q0 at c0 b0
  generalize hq1 : (counts.map fun _ => D.bl true) = q1 at c1 b1
  generalize hq2 : (cells.map fun _ => D.bl true) = q2 at c2 b2
  generalize hw0 : (names.map fun _ => true) = w0 at b0 a0
  generalize hw1 : (counts.map fun _ => true) = w1 at b1 a1
  generalize hw2 : (cells.map fun _ => true) = w2 at b2 a2
  have ms := metS_nodup names nd
  have hcp : cells.length = prodN counts := by rw [cl, placesN_length]
  have l10 : (counts.length : Int) ≤ 10 := by omega
  have l4 : counts.length ≤ 4000 := by omega
  simp only [ge_Table___init__]
  simp [runF_eq, b_Table___init__, ln, need_t, c0, c1, c2, b0, b1, b2, a0, a1, a2, strs_s, ms, l4, nr, hm, hcp, l10]
end TT.Law
namespace TT.Law
open PySem L2 TT
section
variable {fl : Fl} {names : List Str} {counts : List Nat} {cells : List (Nat × Nat)}
theorem t_names : f_Table_names.g [tabD fl names counts cells] = .ok (.lst .own (sL names)) .dead := by
  simp only [ge_Table_names]
  simp [runF_eq, b_Table_names]
theorem t_sizes : f_Table_sizes.g [tabD fl names counts cells] = .ok (.lst .own (iL counts)) .dead := by
  simp only [ge_Table_sizes]
  simp [runF_eq, b_Table_sizes]
theorem t_shares : f_Table_shares.g [tabD fl names counts cells] = .ok (.lst .own (cL cells)) .dead := by
  simp only [ge_Table_shares]
  simp [runF_eq, b_Table_shares]
theorem lend_not (fl : Fl) : fl.lend ≠ .own := lend_ne fl
theorem t_places (h3 : counts.length ≤ 3) (h4 : ∀ c ∈ counts, 1 ≤ c ∧ c ≤ 4) : f_Table_places.g [tabD fl names counts cells] = .ok (.lst .own (kL (placesN counts))) .dead := by
  have e := places_run fl.lend counts (lend_not fl) (by omega) fun c hc => (h4 c hc).2
  simp only [ge_Table_places]
  simp [runF_eq, b_Table_places, e]
end
/-- a place's item is asked of -/
def kb (q : D × Nat) : Bool := match f_is_kind.g [q.1, .int (q.2 : Nat)] with
  | .ok (.bl b) _ => b
  | _ => false
def Kb (x : D) : Prop := noOwn x = true ∧ noBor x = true ∧ isDead x = false ∧ ∀ c : Nat, f_is_kind.g [x, .int (c : Nat)] = .ok (.bl (kb (x, c))) .dead
theorem lend_Kb {x : D} (h : noOwn x = true) : lend x = x := lend_of h
theorem kb_int (i : Int) : Kb (.int i) := ⟨rfl, rfl, rfl, fun c => by
  unfold kb
  rw [kind_int]⟩
theorem kb_bl (b : Bool) : Kb (.bl b) := ⟨rfl, rfl, rfl, fun c => by
  have e : f_is_kind.g [.bl b, .int (c : Nat)] = .ok (.bl false) .dead := by simp only [ge_is_kind]; simp [runF_eq, b_is_kind]
  unfold kb
  rw [e]⟩
theorem kb_non : Kb .non := ⟨rfl, rfl, rfl, fun c => by
  have e : f_is_kind.g [.non, .int (c : Nat)] = .ok (.bl false) .dead := by simp only [ge_is_kind]; simp [runF_eq, b_is_kind]
  unfold kb
  rw [e]⟩
theorem kb_str (s : Str) : Kb (.str s) := ⟨rfl, rfl, rfl, fun c => by
  have e : f_is_kind.g [.str s, .int (c : Nat)] = .ok (.bl false) .dead := by simp only [ge_is_kind]; simp [runF_eq, b_is_kind]
  unfold kb
  rw [e]⟩
theorem kb_lst (xs : List D) (h1 : noOwns xs = true) (h2 : noBors xs = true) : Kb (.lst .shr xs) := ⟨by simp [h1], by simp [h2], rfl, fun c => by
  have e : f_is_kind.g [.lst .shr xs, .int (c : Nat)] = .ok (.bl false) .dead := by simp only [ge_is_kind]; simp [runF_eq, b_is_kind]
  unfold kb
  rw [e]⟩
/-- the look at each item -/
theorem at_comp (s0 s1 : D) (xs : List D) (counts : List Nat) (hx : ∀ x ∈ xs, Kb x) (hl : counts.length ≤ 100) :
    compO [2, 3] (.tup [2, 3]) c0_Table_at e0_Table_at [s0, s1, .dead, .dead] (some ((xs.zip counts).map fun q => D.tup .shr [q.1, .int (q.2 : Nat)])) = .ok (.lst .own ((xs.zip counts).map fun q => .bl (kb q))) [s0, s1, .dead, .dead] :=
  comp_img (own := [2, 3]) (t := .tup [2, 3]) (co := c0_Table_at) (elt := e0_Table_at) (s := [s0, s1, .dead, .dead]) (l := xs.zip counts) (fun q => D.tup .shr [q.1, .int (q.2 : Nat)]) (fun q => .bl (kb q)) (by simp)
    (fun q hq => ⟨[s0, s1, q.1, .int (q.2 : Nat)], by
      obtain ⟨k1, k2, k3, k4⟩ := hx q.1 (List.of_mem_zip (a := q.1) (b := q.2) hq).1
      have e := lend_Kb k1
      have e4 := k4 q.2
      simp [e0_Table_at, c0_Table_at, k3, e, e4], by
        obtain ⟨k1, k2, k3, k4⟩ := hx q.1 (List.of_mem_zip (a := q.1) (b := q.2) hq).1
        simp [k1], by simp⟩) (fun _ _ => ⟨rfl, rfl⟩) (by rw [List.length_zip]; omega)
theorem kb_true {i c : Nat} (h : i < c) : kb (.int (i : Nat), c) = true := by
  unfold kb
  rw [kind_int]
  simp [h]
theorem kb_big {i : Int} {c : Nat} (h : i < 0 ∨ (c : Int) ≤ i) : kb (.int i, c) = false := by
  unfold kb
  rw [kind_int]
  rcases h with h | h
  · have : ¬ (0 ≤ i) := by omega
    simp [this]
  · have : ¬ (i < c) := by omega
    simp [this]
theorem zip_tab {fl : Fl} (hf : fl ≠ .own) {xs : List D} {counts : List Nat} (hx : ∀ x ∈ xs, Kb x) {d : D} (hd : zsD d = some xs) : zipD d (.lst fl (iL counts)) = some ((xs.zip counts).map fun q => D.tup .shr [q.1, .int (q.2 : Nat)]) := by
  unfold zipD
  rw [hd, zsD_lst, lstD_lst, iL_own, iL_dead, if_pos (by simpa using hf)]
  simp only [Option.bind_some, Option.map_some]
  congr 1
  show List.map _ (xs.zip (List.map _ counts)) = _
  rw [List.zip_map_right, List.map_map]
  refine List.map_congr_left fun q hq => ?_
  obtain ⟨k1, k2, k3, k4⟩ := hx q.1 (List.of_mem_zip (a := q.1) (b := q.2) hq).1
  exact pair_shr (show (noOwn q.1 && noBor q.1) = true by rw [k1, k2]; rfl) rfl
section
variable {fl : Fl} {names : List Str} {counts : List Nat} {cells : List (Nat × Nat)}
theorem at_ok (hf : fl ≠ .own) (O : Own4 names counts cells) {k : Nat} {p : List Nat} (hk : (placesN counts)[k]? = some p) {q : Nat × Nat} (hq : cells[k]? = some q) : f_Table_at.g [tabD fl names counts cells, .ktup (kN p)] = .ok (cD q) .dead := by
  have hp := List.mem_of_getElem? hk
  have hpl := placesN_len counts p hp
  have kbs : ∀ x ∈ iL p, Kb x := fun x hx => by
    obtain ⟨i, _, rfl⟩ := List.mem_map.1 hx
    exact kb_int _
  have z := zip_tab hf (counts := counts) kbs (d := .ktup (kN p)) (by rw [zsD_ktup, kN_key])
  have c := at_comp (tabD fl names counts cells) (.ktup (kN p)) (iL p) counts kbs (by have := O.l3; omega)
  have tr : ((iL p).zip counts).map (fun q => D.bl (kb q)) = (p.zip counts).map fun _ => D.bl true := by
    show ((List.map _ p).zip counts).map _ = _
    rw [List.zip_map_left, List.map_map]
    refine List.map_congr_left fun q hq => ?_
    show D.bl (kb (.int (q.1 : Nat), q.2)) = _
    rw [kb_true (placesN_lt counts p hp q hq)]
  rw [tr] at c
  have b := bls_true (p.zip counts)
  have a := all_true (p.zip counts)
  generalize hq0 : ((p.zip counts).map fun _ => D.bl true) = q0 at c b
  generalize hw0 : ((p.zip counts).map fun _ => true) = w0 at b a
  have sp := spot_run fl counts p hf hpl (by have := O.l3; omega) fun c hc => (O.ct c hc).2
  have hs := spotN_at counts (fun c hc => by have := (O.ct c hc).1; omega) k p hk
  rw [hs] at sp
  have hkl := (List.getElem?_eq_some_iff.1 hq).1
  have ia : atI (cL cells) (k : Int) = some (cD q) := by
    rw [atI_nat (by simpa using hkl)]
    have := (List.getElem?_eq_some_iff.1 hq).2
    simp [this]
  have fe : fl.lend = fl := by cases fl <;> first | rfl | exact absurd rfl hf
  simp only [ge_Table_at]
  simp [runF_eq, b_Table_at, O.ln, hpl, need_t, z, c, b, a, sp, ia, hf, fe]
/-- what at refuses -/
def BadP (counts : List Nat) (d : D) : Prop := noOwn d = true ∧ noBor d = true ∧ isDead d = false ∧ ∀ names cells, Own4 names counts cells → f_Table_at.g [tabD .shr names counts cells, d] = .exc 2 [] [] .dead
theorem bad_non {counts : List Nat} : BadP counts .non := ⟨rfl, rfl, rfl, fun names cells _ => by simp only [ge_Table_at]; simp [runF_eq, b_Table_at, need_f]⟩
theorem bad_int {counts : List Nat} {i : Int} : BadP counts (.int i) := ⟨rfl, rfl, rfl, fun names cells _ => by simp only [ge_Table_at]; simp [runF_eq, b_Table_at, need_f]⟩
theorem bad_str {counts : List Nat} {i : Str} : BadP counts (.str i) := ⟨rfl, rfl, rfl, fun names cells _ => by simp only [ge_Table_at]; simp [runF_eq, b_Table_at, need_f]⟩
theorem bad_lst {counts : List Nat} {xs : List D} (h1 : noOwns xs = true) (h2 : noBors xs = true) : BadP counts (.lst .shr xs) := ⟨by simp [h1], by simp [h2], rfl, fun names cells _ => by simp only [ge_Table_at]; simp [runF_eq, b_Table_at, need_f]⟩
theorem bad_dk {counts : List Nat} : BadP counts (.dk .shr [] []) := ⟨rfl, rfl, rfl, fun names cells _ => by simp only [ge_Table_at]; simp [runF_eq, b_Table_at, need_f]⟩
theorem bad_len {counts : List Nat} {xs : List D} (h1 : noOwns xs = true) (h2 : noBors xs = true) (h : xs.length ≠ counts.length) : BadP counts (.tup .shr xs) := ⟨by simp [h1], by simp [h2], rfl, fun names cells O => by
  have hne : ((xs.length : Int) == (counts.length : Int)) = false := beq_false_of_ne (by omega)
  simp only [ge_Table_at]
  simp [runF_eq, b_Table_at, need_f, O.ln, hne]⟩
theorem bad_item {counts : List Nat} {xs : List D} (hk : ∀ x ∈ xs, Kb x) (h : xs.length = counts.length) (hb : ∃ q ∈ xs.zip counts, kb q = false) : BadP counts (.tup .shr xs) := by
  have h1 : noOwns xs = true := noOwns_iff.2 fun x hx => (hk x hx).1
  have h2 : noBors xs = true := noBors_iff.2 fun x hx => (hk x hx).2.1
  have h3 : xs.all (fun x => !isDead x) = true := List.all_eq_true.2 fun x hx => by rw [(hk x hx).2.2.1]; rfl
  refine ⟨by simp [h1], by simp [h2], rfl, fun names cells O => ?_⟩
  have z := zip_tab (fl := .shr) (by simp) (counts := counts) hk (d := .tup .shr xs) (by rw [zsD_tup, h1, h3]; rfl)
  have c := at_comp (tabD .shr names counts cells) (.tup .shr xs) xs counts hk (by have := O.l3; omega)
  have b : blsOf ((xs.zip counts).map fun q => D.bl (kb q)) = some ((xs.zip counts).map kb) := blsOf_map
  have a : ((xs.zip counts).map kb).all id = false := by
    obtain ⟨q, hq, e⟩ := hb
    rw [List.all_eq_false]
    exact ⟨kb q, List.mem_map.2 ⟨q, hq, rfl⟩, by rw [e]; simp⟩
  generalize hq0 : ((xs.zip counts).map fun q => D.bl (kb q)) = q0 at c b
  generalize hw0 : ((xs.zip counts).map kb) = w0 at b a
  simp only [ge_Table_at]
  simp [runF_eq, b_Table_at, need_f, need_t, O.ln, h, z, c, b, a, h1, h2]
end
end TT.Law
namespace TT.Law
open PySem L2 TT
/-! ### odd places -/
theorem cut_pre {α : Type} (xs : List α) (i : Nat) : cut xs none (some (i : Int)) = xs.take i := by
  unfold cut
  rw [HT.sIx_nat]
  show (xs.drop 0).take (min i xs.length - 0) = _
  rw [List.drop_zero, Nat.sub_zero, List.take_eq_take_iff]
  omega
theorem cut_suf {α : Type} (xs : List α) (i : Nat) : cut xs (some (i : Int)) none = xs.drop i := by
  unfold cut
  rw [HT.sIx_nat]
  show (xs.drop (min i xs.length)).take (xs.length - min i xs.length) = _
  by_cases h : i ≤ xs.length
  · rw [Nat.min_eq_left h, List.take_of_length_le (by simp)]
  · rw [Nat.min_eq_right (by omega), List.drop_of_length_le (Nat.le_refl _), List.drop_of_length_le (by omega)]
    simp
theorem cut_last {α : Type} (xs : List α) : cut xs none (some (-1)) = xs.take (xs.length - 1) := by
  unfold cut
  have : HT.sIx xs.length xs.length (some (-1)) = xs.length - 1 := by
    unfold HT.sIx
    simp
    omega
  rw [this]
  rfl
theorem isDats_i {l : List D} (h : ∀ x ∈ l, ∃ i, x = .int i) : isDats l = true ∧ depthDs l = 0 := by
  induction l with
  | nil => exact ⟨rfl, rfl⟩
  | cons x l ih =>
    obtain ⟨i, rfl⟩ := h x List.mem_cons_self
    obtain ⟨h1, h2⟩ := ih fun y hy => h y (List.mem_cons_of_mem _ hy)
    rw [isDats_cons, depthDs_cons, h1, h2]
    exact ⟨rfl, rfl⟩
theorem ne_nil {l : List D} (h : ∀ x ∈ l, ∃ i, x = .int i) : neD (.tup .shr l) (.tup .shr []) = some (.bl (!l.isEmpty)) := by
  obtain ⟨h1, h2⟩ := isDats_i h
  have d1 : datOk (.tup .shr l) = true := by
    unfold datOk
    rw [isDat_tup, h1, depthD_tup, h2]; rfl
  unfold neD
  rw [if_pos ⟨d1, rfl⟩]
  cases l with
  | nil => simp
  | cons x l =>
    rw [eqv_tup]
    rfl
theorem odd_run {names : List Str} {counts : List Nat} {cells : List (Nat × Nat)} (O : Own4 names counts cells) (N : Nat) : ∃ d, BadP counts d ∧ f__law_odd_place.g [ownD .shr names counts cells, .int N] = .ok d .dead := by
  have c0 := comp_img (own := [3]) (t := .nm 3) (co := c0__law_odd_place) (elt := e0__law_odd_place) (s := [ownD .shr names counts cells, .int N, .dead, .dead, .dead, .dead, .dead]) (l := counts) (fun (n : Nat) => D.int (n : Int)) (fun (n : Nat) => D.int ((n : Int) - 1)) (by simp)
    (fun c hc => ⟨[ownD .shr names counts cells, .int N, .dead, .int c, .dead, .dead, .dead], by simp [e0__law_odd_place, c0__law_odd_place], by simp, by simp⟩) (fun _ _ => ⟨rfl, rfl⟩) (by have := O.l3; omega)
  obtain ⟨gd, hgd⟩ : ∃ g, g = counts.map fun (n : Nat) => D.int ((n : Int) - 1) := ⟨_, rfl⟩
  rw [← hgd] at c0
  have gi : ∀ x ∈ gd, ∃ i, x = .int i := fun x hx => by
    rw [hgd] at hx
    obtain ⟨c, _, rfl⟩ := List.mem_map.1 hx
    exact ⟨_, rfl⟩
  have g1 : noOwns gd = true := noOwns_iff.2 fun x hx => by obtain ⟨i, rfl⟩ := gi x hx; rfl
  have g2 : noBors gd = true := noBors_iff.2 fun x hx => by obtain ⟨i, rfl⟩ := gi x hx; rfl
  have g3 : refls Fl.frz gd = gd := frzs_of g1
  have gl : gd.length = counts.length := by rw [hgd]; simp
  have nn := ne_nil gi
  have l3 := O.l3
  have l16 : counts.length + 1 ≤ 16777216 := by omega
  by_cases h0 : counts = []
  · have g0 : gd = [] := by rw [hgd, h0]; rfl
    obtain ⟨r, hr, r6⟩ : ∃ r : Nat, (N : Int) % 6 = r ∧ r < 6 := ⟨N % 6, rfl, Nat.mod_lt _ (by omega)⟩
    obtain ⟨d, hd, bd⟩ : ∃ d, atI [D.non, .lst .shr [], .tup .shr [.int 0], .int 5, .str "0", .dk .shr [] []] (r : Int) = some d ∧ BadP counts d := by
      rcases six r6 with rfl | rfl | rfl | rfl | rfl | rfl
      · exact ⟨_, rfl, bad_non⟩
      · exact ⟨_, rfl, bad_lst rfl rfl⟩
      · exact ⟨_, rfl, bad_len rfl rfl (by rw [h0]; simp)⟩
      · exact ⟨_, rfl, bad_int⟩
      · exact ⟨_, rfl, bad_str⟩
      · exact ⟨_, rfl, bad_dk⟩
    refine ⟨d, bd, ?_⟩
    rw [g0] at c0 nn
    obtain ⟨b1, b2, b3, _⟩ := bd
    simp only [ge__law_odd_place]
    simp [runF_eq, b__law_odd_place, c0, nn, newLst, newTup, tupOf, goodKids, hr, hd, b1, b2, b3]
  · have L0 : 0 < counts.length := by cases counts with | nil => exact absurd rfl h0 | cons _ _ => simp
    have ge : gd.isEmpty = false := by
      cases gd with
      | nil => simp at gl; omega
      | cons _ _ => rfl
    obtain ⟨a, ha, aL⟩ : ∃ a : Nat, (N : Int) / 9 % (counts.length : Int) = a ∧ a < counts.length := ⟨N / 9 % counts.length, rfl, Nat.mod_lt _ L0⟩
    obtain ⟨r7, hr7, r77⟩ : ∃ r : Nat, (N : Int) / 30 % 7 = r ∧ r < 7 := ⟨N / 30 % 7, rfl, Nat.mod_lt _ (by omega)⟩
    obtain ⟨r9, hr9, r99⟩ : ∃ r : Nat, (N : Int) % 9 = r ∧ r < 9 := ⟨N % 9, rfl, Nat.mod_lt _ (by omega)⟩
    have ia := at_i (l := counts) aL
    obtain ⟨c, hc⟩ : ∃ c, c = counts[a] := ⟨_, rfl⟩
    rw [← hc] at ia
    obtain ⟨o, ho, o1, o2, o3, o4, o5⟩ : ∃ o, atI [D.int (c : Nat), .int (-1), .bl true, .non, .str "0", .lst .own [.int 0], .int ((c : Int) + N)] (r7 : Int) = some o ∧ noBor o = true ∧ isDead o = false ∧ Kb (refl Fl.frz o) ∧ kb (refl Fl.frz o, c) = false ∧ isDead (refl Fl.frz o) = false := by
      have : r7 = 0 ∨ r7 = 1 ∨ r7 = 2 ∨ r7 = 3 ∨ r7 = 4 ∨ r7 = 5 ∨ r7 = 6 := by omega
      rcases this with rfl | rfl | rfl | rfl | rfl | rfl | rfl
      · exact ⟨_, rfl, rfl, rfl, kb_int _, kb_big (.inr (Int.le_refl _)), rfl⟩
      · exact ⟨_, rfl, rfl, rfl, kb_int _, kb_big (.inl (by decide)), rfl⟩
      · refine ⟨_, rfl, rfl, rfl, kb_bl _, ?_, rfl⟩
        have e : f_is_kind.g [.bl true, .int (c : Nat)] = .ok (.bl false) .dead := by simp only [ge_is_kind]; simp [runF_eq, b_is_kind]
        show (match f_is_kind.g [.bl true, .int (c : Nat)] with | .ok (.bl b) _ => b | _ => false) = false
        rw [e]
      · refine ⟨_, rfl, rfl, rfl, kb_non, ?_, rfl⟩
        have e : f_is_kind.g [.non, .int (c : Nat)] = .ok (.bl false) .dead := by simp only [ge_is_kind]; simp [runF_eq, b_is_kind]
        show (match f_is_kind.g [.non, .int (c : Nat)] with | .ok (.bl b) _ => b | _ => false) = false
        rw [e]
      · refine ⟨_, rfl, rfl, rfl, kb_str _, ?_, rfl⟩
        have e : f_is_kind.g [.str "0", .int (c : Nat)] = .ok (.bl false) .dead := by simp only [ge_is_kind]; simp [runF_eq, b_is_kind]
        show (match f_is_kind.g [.str "0", .int (c : Nat)] with | .ok (.bl b) _ => b | _ => false) = false
        rw [e]
      · refine ⟨_, rfl, rfl, rfl, kb_lst _ rfl rfl, ?_, rfl⟩
        have e : f_is_kind.g [.lst .shr [.int 0], .int (c : Nat)] = .ok (.bl false) .dead := by simp only [ge_is_kind]; simp [runF_eq, b_is_kind]
        show (match f_is_kind.g [.lst .shr [.int 0], .int (c : Nat)] with | .ok (.bl b) _ => b | _ => false) = false
        rw [e]
      · exact ⟨_, rfl, rfl, rfl, kb_int _, kb_big (.inr (by omega)), rfl⟩
    obtain ⟨fo, hfo⟩ : ∃ f, f = refl Fl.frz o := ⟨_, rfl⟩
    rw [← hfo] at o3 o4 o5
    have of : refl Fl.frz o = fo := hfo.symm
    have kg : ∀ x ∈ gd, Kb x := fun x hx => by obtain ⟨i, rfl⟩ := gi x hx; exact kb_int i
    obtain ⟨A, hA⟩ : ∃ A, A = gd.take a ++ [fo] ++ gd.drop (a + 1) := ⟨_, rfl⟩
    have Al : A.length = counts.length := by rw [hA]; simp; omega
    have Ak : ∀ x ∈ A, Kb x := fun x hx => by
      rw [hA] at hx
      rcases List.mem_append.1 hx with hx | hx
      · rcases List.mem_append.1 hx with hx | hx
        · exact kg x (List.mem_of_mem_take hx)
        · simp at hx; rw [hx]; exact o3
      · exact kg x (List.mem_of_mem_drop hx)
    have A1 : noOwns A = true := noOwns_iff.2 fun x hx => (Ak x hx).1
    have A2 : noBors A = true := noBors_iff.2 fun x hx => (Ak x hx).2.1
    have badA : BadP counts (.tup .shr A) := bad_item Ak Al ⟨(fo, c), by
      have e1 : A[a]? = some fo := by
        rw [hA, List.append_assoc, List.getElem?_append_right (by rw [List.length_take]; omega)]
        have : a - (gd.take a).length = 0 := by rw [List.length_take]; omega
        rw [this]; rfl
      have e2 : counts[a]? = some c := by rw [hc]; exact List.getElem?_eq_getElem aL
      exact List.mem_of_getElem? (List.getElem?_zip_eq_some.2 ⟨e1, e2⟩), o4⟩
    have tk1 : noOwns (gd.take (counts.length - 1)) = true := noOwns_iff.2 fun x hx => noOwns_iff.1 g1 x (List.mem_of_mem_take hx)
    have tk2 : noBors (gd.take (counts.length - 1)) = true := noBors_iff.2 fun x hx => noBors_iff.1 g2 x (List.mem_of_mem_take hx)
    have badB : BadP counts (.tup .shr (gd.take (counts.length - 1))) := bad_len tk1 tk2 (by rw [List.length_take]; omega)
    have g01 : noOwns (gd ++ [.int 0]) = true := by rw [owns_app, g1]; rfl
    have g02 : noBors (gd ++ [.int 0]) = true := by rw [bors_app, g2]; rfl
    have g03 : refls Fl.frz (gd ++ [.int 0]) = gd ++ [.int 0] := frzs_of g01
    obtain ⟨d, hd, bd⟩ : ∃ d, atI [D.non, .lst .shr gd, .tup .shr (gd ++ [.int 0]), .int 5, .str "0", .dk .shr [] [], .tup .shr A, .tup .shr (gd.take (counts.length - 1)), .tup .shr A] (r9 : Int) = some d ∧ BadP counts d := by
      have : r9 = 0 ∨ r9 = 1 ∨ r9 = 2 ∨ r9 = 3 ∨ r9 = 4 ∨ r9 = 5 ∨ r9 = 6 ∨ r9 = 7 ∨ r9 = 8 := by omega
      rcases this with rfl | rfl | rfl | rfl | rfl | rfl | rfl | rfl | rfl
      · exact ⟨_, rfl, bad_non⟩
      · exact ⟨_, rfl, bad_lst g1 g2⟩
      · exact ⟨_, rfl, bad_len g01 g02 (by simp [gl])⟩
      · exact ⟨_, rfl, bad_int⟩
      · exact ⟨_, rfl, bad_str⟩
      · exact ⟨_, rfl, bad_dk⟩
      · exact ⟨_, rfl, badA⟩
      · exact ⟨_, rfl, badB⟩
      · exact ⟨_, rfl, badA⟩
    have f1 := cut_pre gd a
    have f2 := cut_suf gd (a + 1)
    rw [show ((a + 1 : Nat) : Int) = (a : Int) + 1 by omega] at f2
    have f3 := cut_last gd
    rw [gl] at f3
    have p1 : addD (.tup .shr (gd.take a)) (.tup .shr [fo]) = some (.tup .shr (gd.take a ++ [fo])) := by
      rw [addD_tt, if_pos (by rw [List.length_take, szl]; simp; omega)]
    have p2 : addD (.tup .shr (gd.take a ++ [fo])) (.tup .shr (gd.drop (a + 1))) = some (.tup .shr A) := by
      rw [addD_tt, if_pos (by simp; omega), ← hA]
    have k1 := o3.1
    have k2 := o3.2.1
    refine ⟨d, bd, ?_⟩
    obtain ⟨b1, b2, b3, _⟩ := bd
    simp only [ge__law_odd_place]
    have p0 : addD (.tup .shr gd) (.tup .shr [.int 0]) = some (.tup .shr (gd ++ [.int 0])) := by
      rw [addD_tt, if_pos (by rw [gl, szl]; simp; omega)]
    simp [-addD_tt, runF_eq, b__law_odd_place, c0, nn, ge, newLst, newTup, tupOf, goodKids, p0, p1, p2, g1, g2, g3, g01, g02, g03, gl, L0, ha, ia, hr7, ho, o1, o2, of, o5, f1, f2, f3, k1, k2, A1, A2, tk1, tk2, hr9, hd, b1, b2, b3]
end TT.Law
namespace TT.Law
open PySem L2 TT
theorem word_run : f__law_word.g [.exn 2 [] []] = .ok (.str "table") .dead := by
  have h : ∀ fl, inD (.bl true) (.lst fl [.bl false, .bl false, .bl false, .bl false, .bl false, .bl false, .bl false, .bl false]) = some false := fun _ => rfl
  simp only [ge__law_word]
  simp [runF_eq, b__law_word, newLst, goodKids, h]
theorem no_place_run {names : List Str} {counts : List Nat} {cells : List (Nat × Nat)} (O : Own4 names counts cells) {d : D} (h : BadP counts d) : f__law_no_place.g [tabD .shr names counts cells, d] = .ok (.bl true) .dead := by
  obtain ⟨b1, b2, b3, b4⟩ := h
  have e := b4 names cells O
  have el : refl Fl.lend d = d := lend_of b1
  have w := word_run
  have tt : eqD (.str "table") (.str "table") = some (.bl true) := by simp [eqD, datOk]; decide +kernel
  simp only [ge__law_no_place]
  simp [runF_eq, b__law_no_place, cL_lend, b3, el, e, suD, w, tt, noneD, isNon]
/-! ### a place's share -/
def cellOf (counts : List Nat) (cells : List (Nat × Nat)) (p : List Nat) : Nat × Nat := cells.getD (spotN counts p) (0, 1)
theorem place_ix {names : List Str} {counts : List Nat} {cells : List (Nat × Nat)} (O : Own4 names counts cells) {p : List Nat} (hp : p ∈ placesN counts) : ∃ k, (placesN counts)[k]? = some p ∧ cells[k]? = some (cellOf counts cells p) ∧ ((placesN counts).map kN).findIdx? (fun y => decide (y = kN p)) = some k := by
  obtain ⟨k, hk⟩ := List.mem_iff_getElem?.1 hp
  have pos : ∀ c ∈ counts, 0 < c := fun c hc => by have := (O.ct c hc).1; omega
  have hs := spotN_at counts pos k p hk
  obtain ⟨hkl, hke⟩ := List.getElem?_eq_some_iff.1 hk
  have hc : k < cells.length := by rw [O.cl]; exact hkl
  refine ⟨k, hk, ?_, ?_⟩
  · unfold cellOf
    rw [hs, List.getD_eq_getElem?_getD, List.getElem?_eq_getElem hc]; rfl
  · rw [List.findIdx?_eq_some_iff_getElem]
    refine ⟨by simpa using hkl, by simp [hke], fun j hj => ?_⟩
    simp only [List.getElem_map, Bool.not_eq_true, decide_eq_false_iff_not]
    intro e
    have e := kN_inj e
    exact List.pairwise_iff_getElem.1 (List.nodup_iff_pairwise_ne.1 (placesN_nodup pos)) j k (by omega) hkl hj (by rw [e, hke])
theorem cell_get {names : List Str} {counts : List Nat} {cells : List (Nat × Nat)} (O : Own4 names counts cells) {p : List Nat} (hp : p ∈ placesN counts) : dget ((placesN counts).map kN) (cL cells) (kN p) = some (cD (cellOf counts cells p)) := by
  obtain ⟨k, h1, h2, h3⟩ := place_ix O hp
  rw [dget_at h3 (by simp [O.cl]), List.getElem?_map, h2]; rfl
theorem at_cell {fl : Fl} (hf : fl ≠ .own) {names : List Str} {counts : List Nat} {cells : List (Nat × Nat)} (O : Own4 names counts cells) {p : List Nat} (hp : p ∈ placesN counts) : f_Table_at.g [tabD fl names counts cells, .ktup (kN p)] = .ok (cD (cellOf counts cells p)) .dead := by
  obtain ⟨k, h1, h2, h3⟩ := place_ix O hp
  exact at_ok hf O h1 h2
theorem cells_map {names : List Str} {counts : List Nat} {cells : List (Nat × Nat)} (O : Own4 names counts cells) : (placesN counts).map (cellOf counts cells) = cells := by
  refine List.ext_getElem (by simp [O.cl]) fun k h1 h2 => ?_
  have hk : k < (placesN counts).length := by simpa using h1
  have pos : ∀ c ∈ counts, 0 < c := fun c hc => by have := (O.ct c hc).1; omega
  have hs := spotN_at counts pos k _ (List.getElem?_eq_getElem hk)
  rw [List.getElem_map]
  unfold cellOf
  rw [hs, List.getD_eq_getElem?_getD, List.getElem?_eq_getElem h2]; rfl
/-! ### the same lists -/
theorem dat_i {l : List Nat} : isDats (iL l) = true ∧ depthDs (iL l) = 0 := isDats_i fun x hx => by obtain ⟨n, _, rfl⟩ := List.mem_map.1 hx; exact ⟨_, rfl⟩
theorem dat_c {l : List (Nat × Nat)} : isDats (cL l) = true ∧ depthDs (cL l) ≤ 1 := by
  induction l with
  | nil => exact ⟨rfl, by simp⟩
  | cons q l ih =>
    refine ⟨?_, ?_⟩
    · show (isDat (cD q) && isDats (cL l)) = true
      rw [ih.1]; rfl
    · show max (depthD (cD q)) (depthDs (cL l)) ≤ 1
      have : depthD (cD q) = 1 := rfl
      omega
theorem dat_k {l : List (List Nat)} : isDats (kL l) = true ∧ depthDs (kL l) ≤ 1 := by
  induction l with
  | nil => exact ⟨rfl, by simp⟩
  | cons p l ih =>
    refine ⟨?_, ?_⟩
    · show (isDat (.ktup (kN p)) && isDats (kL l)) = true
      rw [ih.1]
      have : isDat (.ktup (kN p)) = true := by
        show (kN p).all _ = true
        rw [List.all_eq_true]
        intro k hk
        obtain ⟨n, _, rfl⟩ := List.mem_map.1 hk
        rfl
      rw [this]; rfl
    · show max (depthD (.ktup (kN p))) (depthDs (kL l)) ≤ 1
      have : depthD (.ktup (kN p)) = 1 := rfl
      omega
theorem eqv_s : ∀ l : List Str, eqvs (sL l) (sL l) = true
  | [] => by simp
  | x :: l => by
    show eqvs (.str x :: sL l) (.str x :: sL l) = true
    rw [eqvs_cons, eqv_s l, eqv_str]; simp
theorem eqv_i : ∀ l : List Nat, eqvs (iL l) (iL l) = true
  | [] => by simp
  | x :: l => by
    show eqvs (.int (x : Nat) :: iL l) (.int (x : Nat) :: iL l) = true
    rw [eqvs_cons, eqv_i l, eqv_int]; simp
theorem eqv_c : ∀ l : List (Nat × Nat), eqvs (cL l) (cL l) = true
  | [] => by simp
  | x :: l => by
    show eqvs (cD x :: cL l) (cD x :: cL l) = true
    rw [eqvs_cons, eqv_c l, eqv_tup]; simp
theorem eqv_kk {p q : List Key} : eqv (.ktup p) (.ktup q) = decide (p = q) := by unfold eqv; exact id rfl
theorem eqv_k : ∀ l : List (List Nat), eqvs (kL l) (kL l) = true
  | [] => by simp
  | x :: l => by
    show eqvs (.ktup (kN x) :: kL l) (.ktup (kN x) :: kL l) = true
    rw [eqvs_cons, eqv_k l, eqv_kk]; simp
theorem dat_s {l : List Str} (h : ∀ x ∈ l, GoodS x) : isDats (sL l) = true ∧ depthDs (sL l) = 0 := ⟨isDats_s fun x hx => strOk_good (h x hx), depth_s⟩
theorem dat_four {f0 f1 f2 f3 f4 : Fl} {n : List Str} {c : List Nat} {q : List (Nat × Nat)} {P : List (List Nat)} (h : ∀ x ∈ n, GoodS x) : datOk (.lst f0 [.lst f1 (sL n), .lst f2 (iL c), .lst f3 (cL q), .lst f4 (kL P)]) = true := by
  unfold datOk
  obtain ⟨a1, a2⟩ := dat_s h
  obtain ⟨b1, b2⟩ := dat_i (l := c)
  obtain ⟨c1, c2⟩ := dat_c (l := q)
  obtain ⟨d1, d2⟩ := dat_k (l := P)
  simp only [isDat_lst, isDats_cons, isDats_nil, a1, b1, c1, d1, depthD_lst, depthDs_cons, depthDs_nil, a2, b2]
  simp
  omega
theorem four_ne {f0 f1 f2 f3 f4 g0 g1 g2 g3 g4 : Fl} {n : List Str} {c : List Nat} {q : List (Nat × Nat)} {P : List (List Nat)} (h : ∀ x ∈ n, GoodS x) : neD (.lst f0 [.lst f1 (sL n), .lst f2 (iL c), .lst f3 (cL q), .lst f4 (kL P)]) (.lst g0 [.lst g1 (sL n), .lst g2 (iL c), .lst g3 (cL q), .lst g4 (kL P)]) = some (.bl false) := by
  unfold neD
  rw [if_pos ⟨dat_four h, dat_four h⟩]
  simp only [eqv_lst, eqvs_cons, eqvs_nil, eqv_s, eqv_i, eqv_c, eqv_k]
  rfl
theorem four_eq {f0 f1 f2 f3 f4 g0 g1 g2 g3 g4 : Fl} {n : List Str} {c : List Nat} {q : List (Nat × Nat)} {P : List (List Nat)} (h : ∀ x ∈ n, GoodS x) : eqD (.lst f0 [.lst f1 (sL n), .lst f2 (iL c), .lst f3 (cL q), .lst f4 (kL P)]) (.lst g0 [.lst g1 (sL n), .lst g2 (iL c), .lst g3 (cL q), .lst g4 (kL P)]) = some (.bl true) := by
  unfold eqD
  rw [if_pos ⟨dat_four h, dat_four h⟩]
  simp only [eqv_lst, eqvs_cons, eqvs_nil, eqv_s, eqv_i, eqv_c, eqv_k]
  rfl
theorem ne_s {f g : Fl} {n : List Str} (h : ∀ x ∈ n, GoodS x) : neD (.lst f (sL n)) (.lst g (sL n)) = some (.bl false) := by
  obtain ⟨a1, a2⟩ := dat_s h
  have d : ∀ f, datOk (.lst f (sL n)) = true := fun f => by unfold datOk; rw [isDat_lst, a1, depthD_lst, a2]; rfl
  unfold neD
  rw [if_pos ⟨d f, d g⟩, eqv_lst, eqv_s]; rfl
theorem ne_i {f g : Fl} {n : List Nat} : neD (.lst f (iL n)) (.lst g (iL n)) = some (.bl false) := by
  obtain ⟨a1, a2⟩ := dat_i (l := n)
  have d : ∀ f, datOk (.lst f (iL n)) = true := fun f => by unfold datOk; rw [isDat_lst, a1, depthD_lst, a2]; rfl
  unfold neD
  rw [if_pos ⟨d f, d g⟩, eqv_lst, eqv_i]; rfl
theorem ne_c {f g : Fl} {n : List (Nat × Nat)} : neD (.lst f (cL n)) (.lst g (cL n)) = some (.bl false) := by
  obtain ⟨a1, a2⟩ := dat_c (l := n)
  have d : ∀ f, datOk (.lst f (cL n)) = true := fun f => by
    unfold datOk
    rw [isDat_lst, a1, depthD_lst]
    simp
    omega
  unfold neD
  rw [if_pos ⟨d f, d g⟩, eqv_lst, eqv_c]; rfl
theorem ne_q {q : Nat × Nat} : neD (cD q) (cD q) = some (.bl false) := by
  unfold neD
  rw [if_pos ⟨rfl, rfl⟩, eqv_tup]; simp
end TT.Law
namespace TT.Law
open PySem L2 TT
theorem walk_Q (P : List (List Nat)) (n : Nat) : ∃ (d : D) (Q : List (List Nat)), (∀ p ∈ Q, p ∈ P) ∧ atI [D.lst .shr (kL P), .lst .own (kL P).reverse] ((n : Int) % 2) = some d ∧ noBor d = true ∧ isDead d = false ∧ refl Fl.frz d = .lst .shr (kL Q) := by
  have hr : noOwns (kL P).reverse = true := noOwns_iff.2 fun x hx => noOwns_iff.1 kL_own x (List.mem_reverse.1 hx)
  have hb : noBors (kL P).reverse = true := noBors_iff.2 fun x hx => noBors_iff.1 kL_bor x (List.mem_reverse.1 hx)
  have h : n % 2 = 0 ∨ n % 2 = 1 := by omega
  rcases h with h | h
  · rw [show (n : Int) % 2 = ((0 : Nat) : Int) by omega]
    exact ⟨.lst .shr (kL P), P, fun p hp => hp, rfl, by simp, rfl, by simp⟩
  · rw [show (n : Int) % 2 = ((1 : Nat) : Int) by omega]
    refine ⟨.lst .own (kL P).reverse, P.reverse, fun p hp => List.mem_reverse.1 hp, rfl, ?_, rfl, ?_⟩
    · rw [bor_lst, hb]; rfl
    · show D.lst .shr (refls Fl.frz (kL P).reverse) = .lst .shr (List.map _ P.reverse)
      rw [frzs_of hr, List.map_reverse]
theorem right_run {names : List Str} {counts : List Nat} {cells : List (Nat × Nat)} (O : Own4 names counts cells) (N : Nat) : f__law_right.g [tabD .shr names counts cells, ownD .shr names counts cells, .int N] = .ok (.bl true) .dead := by
  have l3 := O.l3
  have h4 : ∀ c ∈ counts, c ≤ 4 := fun c hc => (O.ct c hc).2
  have pr := places_run .shr counts (by simp) (by omega) h4
  rw [← lp_eq] at pr
  have tn := t_names (fl := .shr) (names := names) (counts := counts) (cells := cells)
  have ts := t_sizes (fl := .shr) (names := names) (counts := counts) (cells := cells)
  have tc := t_shares (fl := .shr) (names := names) (counts := counts) (cells := cells)
  have tp := t_places (fl := .shr) (names := names) (cells := cells) l3 O.ct
  have hpl : (placesN counts).length ≤ 64 := by
    rw [placesN_length]
    exact Nat.le_trans (prodN_le counts h4) (Nat.le_trans (Nat.pow_le_pow_right (by omega) l3) (by decide))
  obtain ⟨P, hP⟩ : ∃ P, P = placesN counts := ⟨_, rfl⟩
  have cg : ∀ p ∈ P, dget (P.map kN) (cL cells) (kN p) = some (cD (cellOf counts cells p)) := fun p hp => by rw [hP] at hp ⊢; exact cell_get O hp
  have ac : ∀ p ∈ P, f_Table_at.g [tabD .shr names counts cells, .ktup (kN p)] = .ok (cD (cellOf counts cells p)) .dead := fun p hp => by rw [hP] at hp; exact at_cell (by simp) O hp
  have cm : P.map (fun p => cD (cellOf counts cells p)) = cL cells := by
    have := cells_map O
    rw [← hP] at this
    rw [← this]
    show _ = List.map _ (List.map _ _)
    rw [List.map_map, this]; rfl
  rw [← hP] at pr tp hpl
  have own_eq : ownD .shr names counts cells = .dk .shr DK_0 [.lst .shr (sL names), .lst .shr (iL counts), .dt .shr (P.map kN) (cL cells)] := by rw [hP]
  rw [own_eq]
  generalize ht : tabD .shr names counts cells = T at tn ts tc tp ac ⊢
  have tl : refl Fl.lend T = T := by rw [← ht]; simp [cL_lend]
  have td : isDead T = false := by rw [← ht]; rfl
  have kl1 : ∀ x, clsI x T = clsI x (tabD .shr names counts cells) := fun x => by rw [ht]
  have k1 : clsI "names" T = some 11 := by rw [kl1]; exact cls_Table_names
  have k2 : clsI "sizes" T = some 11 := by rw [kl1]; exact cls_Table_sizes
  have k3 : clsI "shares" T = some 11 := by rw [kl1]; exact cls_Table_shares
  have k4 : clsI "places" T = some 11 := by rw [kl1]; exact cls_Table_places
  have k5 : clsI "at" T = some 11 := by rw [kl1]; exact cls_Table_at
  have OW : refls Fl.lend (cL cells) = cL cells := cL_lend
  obtain ⟨W, hW⟩ : ∃ W, W = D.dk .shr DK_0 [.lst .shr (sL names), .lst .shr (iL counts), .dt .shr (P.map kN) (cL cells)] := ⟨_, rfl⟩
  rw [← hW]
  have w0 : ixD W (.str "names") = some (.lst .shr (sL names)) := by rw [hW]; exact dg_0_0
  have w1 : ixD W (.str "sizes") = some (.lst .shr (iL counts)) := by rw [hW]; exact dg_0_1
  have w2 : ixD W (.str "cells") = some (.dt .shr (P.map kN) (cL cells)) := by rw [hW]; exact dg_0_2
  have wd : isDead W = false := by rw [hW]; rfl
  have wl : refl Fl.lend W = W := by rw [hW]; simp [OW]
  have c0 := comp_img (own := [6]) (t := .nm 6) (co := c0__law_right) (elt := e0__law_right) (s := [T, W, .int N, .lst .shr (kL P), .lst .own [.lst .own (sL names), .lst .own (iL counts), .lst .own (cL cells), .lst .own (kL P)], .dead, .dead, .dead, .dead, .dead]) (l := P) (fun p => D.ktup (kN p)) (fun p => cD (cellOf counts cells p)) (by simp)
    (fun p hp => ⟨[T, W, .int N, .lst .shr (kL P), .lst .own [.lst .own (sL names), .lst .own (iL counts), .lst .own (cL cells), .lst .own (kL P)], .dead, .ktup (kN p), .dead, .dead, .dead], by
      simp [e0__law_right, c0__law_right, wd, w2, cg p hp], by simp, by simp⟩) (fun _ _ => ⟨rfl, rfl⟩) (by omega)
  rw [cm] at c0
  have dr : ∀ x, refl Fl.lend (refl Fl.lend x) = refl Fl.lend x := fun x => lend_lend
  obtain ⟨L, hL⟩ : ∃ L : List D, L = [T, W, .int N, .lst .shr (kL P), .lst .bor [.lst .bor (sL names), .lst .bor (iL counts), .lst .bor (cL cells), .lst .bor (kL P)], .lst .bor [.lst .shr (sL names), .lst .shr (iL counts), .lst .bor (cL cells), .lst .shr (kL P)], .dead, .dead, .dead, .dead] := ⟨_, rfl⟩
  have c1 : compO [7] (.nm 7) c1__law_right e1__law_right L (some [.lst .bor (sL names), .lst .bor (iL counts), .lst .bor (cL cells), .lst .bor (kL P)]) = .ok (.lst .own [.bl true, .bl true, .bl true, .bl true]) L := by
    have := comp_img (own := [7]) (t := .nm 7) (co := c1__law_right) (elt := e1__law_right) (s := L) (l := [D.lst .bor (sL names), .lst .bor (iL counts), .lst .bor (cL cells), .lst .bor (kL P)]) id (fun _ => .bl true) (by rw [hL]; simp)
      (fun x hx => ⟨L.set 7 x, by
        simp only [List.mem_cons, List.not_mem_nil, or_false] at hx
        rw [hL]
        rcases hx with rfl | rfl | rfl | rfl <;> simp [e1__law_right, c1__law_right], by
        simp only [List.mem_cons, List.not_mem_nil, or_false] at hx
        rw [hL]
        rcases hx with rfl | rfl | rfl | rfl <;> simp, by rw [hL]; simp⟩) (fun _ _ => ⟨rfl, rfl⟩) (by simp)
    exact this
  have c2 := comp_img (own := [6]) (t := .nm 6) (co := c2__law_right) (elt := e2__law_right) (s := L) (l := P) (fun p => D.ktup (kN p)) (fun _ => .bl true) (by rw [hL]; simp)
    (fun p hp => ⟨L.set 6 (.ktup (kN p)), by rw [hL]; simp [e2__law_right, c2__law_right], by rw [hL]; simp, by rw [hL]; simp⟩) (fun _ _ => ⟨rfl, rfl⟩) (by omega)
  have b2 := bls_true P
  have a2 := all_true P
  generalize hq2 : (P.map fun _ => D.bl true) = q2 at c2 b2
  generalize hw2 : (P.map fun _ => true) = v2 at b2 a2
  have nb2 : noBors q2 = true := by rw [← hq2]; exact bors_img fun _ => rfl
  obtain ⟨d, Q, q1, q2', q3, q4, q5⟩ := walk_Q P N
  have wk : ∀ A4 A5 : D, ∃ x6 x9, loopF (bodyO (.nm 6) l0__law_right) (kL Q) [T, W, .int N, .lst .shr (kL P), A4, A5, .dead, .dead, .dead, .dead] = .nx [T, W, .int N, .lst .shr (kL P), A4, A5, x6, .dead, .dead, x9] := fun A4 A5 => by
    obtain ⟨s', e, x6, x9, rfl⟩ := loopF_inv (f := bodyO (.nm 6) l0__law_right) (fun s => ∃ x6 x9, s = [T, W, .int N, .lst .shr (kL P), A4, A5, x6, .dead, .dead, x9]) (xs := kL Q) (s := [T, W, .int N, .lst .shr (kL P), A4, A5, .dead, .dead, .dead, .dead]) (fun x hx s hs => by
      obtain ⟨p, hp, rfl⟩ := List.mem_map.1 hx
      obtain ⟨x6, x9, rfl⟩ := hs
      refine ⟨_, ?_, .ktup (kN p), cD (cellOf counts cells p), rfl⟩
      have e1 := ac p (q1 p hp)
      have e2 := cg p (q1 p hp)
      simp [l0__law_right, td, tl, k5, e1, wd, w2, e2, ne_q]) ⟨.dead, .dead, rfl⟩
    exact ⟨x6, x9, e⟩
  obtain ⟨x6, x9, ew⟩ := wk (.lst .own [.lst .own (sL names ++ [.non]), .lst .own (iL counts ++ [.non]), .lst .own (cL cells ++ [.non]), .lst .own (kL P ++ [.non])]) (.lst .own [.lst .shr (sL names), .lst .shr (iL counts), .lst .own (cL cells), .lst .shr (kL P)])
  rw [hL] at c1 c2
  have n1 : names.length < 16777216 := by have := O.ln; omega
  have n2 : counts.length < 16777216 := by omega
  have n3 : cells.length < 16777216 := by have := O.cl; rw [← hP] at this; omega
  have n4 : P.length < 16777216 := by omega
  have fn := four_ne (f0 := .own) (f1 := .own) (f2 := .own) (f3 := .own) (f4 := .own) (g0 := .own) (g1 := .shr) (g2 := .shr) (g3 := .own) (g4 := .shr) (n := names) (c := counts) (q := cells) (P := P) O.gd
  have fe := four_eq (f0 := .own) (f1 := .own) (f2 := .own) (f3 := .own) (f4 := .own) (g0 := .own) (g1 := .shr) (g2 := .shr) (g3 := .own) (g4 := .shr) (n := names) (c := counts) (q := cells) (P := P) O.gd
  simp only [ge__law_right]
  have b4 : blsOf [D.bl true, D.bl true, D.bl true, D.bl true] = some [true, true, true, true] := rfl
  have rb : noBors (kL P).reverse = true := noBors_iff.2 fun x hx => noBors_iff.1 kL_bor x (List.mem_reverse.1 hx)
  have ro : (kL Q).all (fun x => !isDead x) = true := kL_dead
  simp [runF_eq, b__law_right, wd, wl, w0, w1, w2, pr, td, tl, k1, k2, k3, k4, tn, ts, tc, tp, newLst, goodKids, c0, fn, OW, c1, b4, c2, b2, a2, nb2, n1, n2, n3, n4, rb, q2', q3, q4, q5, ew, fe]
end TT.Law
namespace TT.Law
open PySem L2 TT
theorem is_run {names : List Str} {counts : List Nat} {cells : List (Nat × Nat)} (O : Own4 names counts cells) : f__law_is.g [tabD .shr names counts cells, ownD .shr names counts cells] = .ok (.bl true) .dead := by
  have l3 := O.l3
  have h4 : ∀ c ∈ counts, c ≤ 4 := fun c hc => (O.ct c hc).2
  have pr := places_run .shr counts (by simp) (by omega) h4
  rw [← lp_eq] at pr
  have tn := t_names (fl := .shr) (names := names) (counts := counts) (cells := cells)
  have ts := t_sizes (fl := .shr) (names := names) (counts := counts) (cells := cells)
  have tc := t_shares (fl := .shr) (names := names) (counts := counts) (cells := cells)
  have hpl : (placesN counts).length ≤ 64 := by
    rw [placesN_length]
    exact Nat.le_trans (prodN_le counts h4) (Nat.le_trans (Nat.pow_le_pow_right (by omega) l3) (by decide))
  obtain ⟨P, hP⟩ : ∃ P, P = placesN counts := ⟨_, rfl⟩
  have cg : ∀ p ∈ P, dget (P.map kN) (cL cells) (kN p) = some (cD (cellOf counts cells p)) := fun p hp => by rw [hP] at hp ⊢; exact cell_get O hp
  have cm : P.map (fun p => cD (cellOf counts cells p)) = cL cells := by
    have := cells_map O
    rw [← hP] at this
    rw [← this]
    show _ = List.map _ (List.map _ _)
    rw [List.map_map, this]; rfl
  have hcl : cells.length ≤ 64 := by rw [O.cl]; exact hpl
  rw [← hP] at pr hpl
  have own_eq : ownD .shr names counts cells = .dk .shr DK_0 [.lst .shr (sL names), .lst .shr (iL counts), .dt .shr (P.map kN) (cL cells)] := by rw [hP]
  rw [own_eq]
  have OW : refls Fl.lend (cL cells) = cL cells := cL_lend
  obtain ⟨W, hW⟩ : ∃ W, W = D.dk .shr DK_0 [.lst .shr (sL names), .lst .shr (iL counts), .dt .shr (P.map kN) (cL cells)] := ⟨_, rfl⟩
  rw [← hW]
  have w0 : ixD W (.str "names") = some (.lst .shr (sL names)) := by rw [hW]; exact dg_0_0
  have w1 : ixD W (.str "sizes") = some (.lst .shr (iL counts)) := by rw [hW]; exact dg_0_1
  have w2 : ixD W (.str "cells") = some (.dt .shr (P.map kN) (cL cells)) := by rw [hW]; exact dg_0_2
  have wd : isDead W = false := by rw [hW]; rfl
  have c0 := comp_img (own := [3]) (t := .nm 3) (co := c0__law_is) (elt := e0__law_is) (s := [tabD .shr names counts cells, W, .lst .own (cL cells), .dead, .dead]) (l := P) (fun p => D.ktup (kN p)) (fun p => cD (cellOf counts cells p)) (by simp)
    (fun p hp => ⟨[tabD .shr names counts cells, W, .lst .own (cL cells), .ktup (kN p), .dead], by
      simp [e0__law_is, c0__law_is, wd, w2, cg p hp], by simp, by simp⟩) (fun _ _ => ⟨rfl, rfl⟩) (by omega)
  rw [cm] at c0
  have c1 := comp_img (own := [4]) (t := .nm 4) (co := c1__law_is) (elt := e1__law_is) (s := [tabD .shr names counts cells, W, .lst .shr (cL cells), .dead, .dead]) (l := cells) cD (fun _ => .bl true) (by simp)
    (fun q hq => ⟨[tabD .shr names counts cells, W, .lst .shr (cL cells), .dead, cD q], by simp [e1__law_is, c1__law_is], by simp, by simp⟩) (fun _ _ => ⟨rfl, rfl⟩) (by omega)
  have b1 := bls_true cells
  have a1 := all_true cells
  generalize hq2 : (cells.map fun _ => D.bl true) = q2 at c1 b1
  generalize hw2 : (cells.map fun _ => true) = v2 at b1 a1
  have nc := ne_c (f := .own) (g := .own) (n := cells)
  have ni := ne_i (f := .own) (g := .shr) (n := counts)
  have ns := ne_s (f := .own) (g := .shr) (n := names) O.gd
  have cf : refls Fl.frz (cL cells) = cL cells := cL_frz
  simp only [ge__law_is]
  simp [runF_eq, b__law_is, OW, tn, ts, tc, wd, w0, w1, w2, ns, ni, pr, c0, nc, cf, c1, b1, a1]
end TT.Law
namespace TT.Law
open PySem L2 TT
theorem enum_scr (ns : List Int) : ∃ zs, enumD (.scr ns) = some zs ∧ zs.length = ns.length ∧ ∀ (i : Nat) d, zs[i]? = some d → ∃ c : Int, d = .tup .shr [.int (i : Nat), .int c] := by
  refine ⟨_, rfl, by simp, fun i d h => ?_⟩
  rw [List.getElem?_map, List.getElem?_zipIdx, List.getElem?_map] at h
  cases e : ns[i]? with
  | none => rw [e] at h; cases h
  | some c =>
    rw [e] at h
    cases h
    refine ⟨c, ?_⟩
    rw [Nat.zero_add]
    exact pair_shr rfl rfl
/-- a table that was held -/
abbrev H4 := List Str × List Nat × List (Nat × Nat)
abbrev hD (h : H4) : D := .tup .shr [tabD .shr h.1 h.2.1 h.2.2, ownD .shr h.1 h.2.1 h.2.2]
def HOk (h : H4) : Prop := Own4 h.1 h.2.1 h.2.2
theorem hD_own (h : H4) : noOwn (hD h) = true := by simp
theorem hD_bor (h : H4) : noBor (hD h) = true := by simp
theorem turn (ns : List Int) (pool : List Str) (hp : pool.length = 5) (hg : ∀ x ∈ pool, GoodS x) (sz : List Nat) (hz : sz.length = 5) (hz4 : ∀ c ∈ sz, 1 ≤ c ∧ c ≤ 4) (i : Nat) (hi : i ≤ 63) (c : Int) (held : List H4) (hh : held.length ≤ 100) (x6 x7 x8 x9 : D) :
    ∃ (h : H4) (y6 y7 y8 y9 : D), HOk h ∧ exSs l0_law [.scr ns, .lst .own (sL pool), .lst .own (iL sz), .lst .own (held.map hD), .int (i : Nat), .int c, x6, x7, x8, x9, .dead, .dead] = .nx [.scr ns, .lst .own (sL pool), .lst .own (iL sz), .lst .own ((held ++ [h]).map hD), .int (i : Nat), .int c, y6, y7, y8, y9, .dead, .dead] := by
  obtain ⟨n, hn, en⟩ := mixed c (i + 3) (by omega)
  rw [show ((i + 3 : Nat) : Int) = (i : Int) + 3 by omega] at en
  obtain ⟨names, counts, cells, O, ed⟩ := drawn_run pool hp hg sz hz hz4 n hn
  have l3 := O.l3
  have h4 : ∀ c ∈ counts, c ≤ 4 := fun c hc => (O.ct c hc).2
  have pr := places_run .shr counts (by simp) (by omega) h4
  rw [← lp_eq] at pr
  have ir := init_run O
  have rr : f__law_right.g [tabD .shr names counts cells, ownD .shr names counts cells, .int ((n : Int) / 5)] = .ok (.bl true) .dead := right_run O (n / 5)
  obtain ⟨d, bd, od⟩ := odd_run O (n / 7)
  have od : f__law_odd_place.g [ownD .shr names counts cells, .int ((n : Int) / 7)] = .ok d .dead := od
  have np := no_place_run O bd
  obtain ⟨b1, b2, b3, _⟩ := bd
  have dl : refl Fl.lend d = d := lend_of b1
  have hpl : (placesN counts).length ≤ 64 := by
    rw [placesN_length]
    exact Nat.le_trans (prodN_le counts h4) (Nat.le_trans (Nat.pow_le_pow_right (by omega) l3) (by decide))
  have cg : ∀ p ∈ placesN counts, dget ((placesN counts).map kN) (cL cells) (kN p) = some (cD (cellOf counts cells p)) := fun p hp => cell_get O hp
  have cm : (placesN counts).map (fun p => cD (cellOf counts cells p)) = cL cells := by
    have := cells_map O
    rw [← this]
    show _ = List.map _ (List.map _ _)
    rw [List.map_map, this]; rfl
  have hcl : cells.length ≤ 64 := by rw [O.cl]; exact hpl
  have OW : refls Fl.lend (cL cells) = cL cells := cL_lend
  have OF : refls Fl.frz (cL cells) = cL cells := cL_frz
  have n1 : names.length < 16777216 := by have := O.ln; omega
  have n2 : counts.length < 16777216 := by omega
  have n3 : cells.length < 16777216 := by omega
  obtain ⟨W, hW⟩ : ∃ W, W = ownD .shr names counts cells := ⟨_, rfl⟩
  have w0 : ixD W (.str "names") = some (.lst .shr (sL names)) := by rw [hW]; exact dg_0_0
  have w1 : ixD W (.str "sizes") = some (.lst .shr (iL counts)) := by rw [hW]; exact dg_0_1
  have w2 : ixD W (.str "cells") = some (.dt .shr ((placesN counts).map kN) (cL cells)) := by rw [hW]; exact dg_0_2
  have wd : isDead W = false := by rw [hW]; rfl
  have wo : noOwn W = true := by rw [hW]; simp
  have wb : noBor W = true := by rw [hW]; simp
  have wl : refl Fl.lend W = W := lend_of wo
  have wf : refl Fl.frz (ownD .own names counts cells) = W := by rw [hW]; simp [OF]
  have wob : noBor (ownD .own names counts cells) = true := by simp
  have wod : isDead (ownD .own names counts cells) = false := rfl
  obtain ⟨T, hT⟩ : ∃ T, T = tabD .shr names counts cells := ⟨_, rfl⟩
  have td : isDead T = false := by rw [hT]; rfl
  have to : noOwn T = true := by rw [hT]; simp
  have tb : noBor T = true := by rw [hT]; simp
  have tl : refl Fl.lend T = T := lend_of to
  have tf : refl Fl.frz (tabD .own names counts cells) = T := by rw [hT]; simp [OF]
  have tob : noBor (tabD .own names counts cells) = true := by simp
  have tod : isDead (tabD .own names counts cells) = false := rfl
  rw [← hW] at rr od
  rw [← hT] at rr np
  have hDe : hD (names, counts, cells) = .tup .shr [T, W] := by rw [hT, hW]
  generalize ownD .own names counts cells = W0 at ed wf wob wod
  generalize tabD .own names counts cells = T0 at ir tf tob tod
  have c0 := comp_img (own := [11]) (t := .nm 11) (co := c0_law) (elt := e0_law) (s := [.scr ns, .lst .own (sL pool), .lst .own (iL sz), .lst .own (held.map hD), .int (i : Nat), .int c, .int n, W, x8, x9, .dead, .dead]) (l := placesN counts) (fun p => D.ktup (kN p)) (fun p => cD (cellOf counts cells p)) (by simp)
    (fun p hp => ⟨[.scr ns, .lst .own (sL pool), .lst .own (iL sz), .lst .own (held.map hD), .int (i : Nat), .int c, .int n, W, x8, x9, .dead, .ktup (kN p)], by
      simp [e0_law, c0_law, wd, w2, cg p hp], by simp, by simp⟩) (fun _ _ => ⟨rfl, rfl⟩) (by omega)
  rw [cm] at c0
  generalize hq : held.map hD = q at c0 ⊢
  have ql : q.length < 16777216 := by rw [← hq, List.length_map]; omega
  refine ⟨(names, counts, cells), .int n, W, .lst .own [.lst .own (sL names ++ [.non]), .lst .own (iL counts ++ [.non]), .lst .own (cL cells ++ [.non])], T, O, ?_⟩
  rw [List.map_append, hq, List.map_singleton, hDe]
  have nt : newTup [T, W] = some (.tup .shr [T, W]) := by
    unfold newTup goodKids tupOf
    simp [to, tb, td, wo, wb, wd]
  simp [l0_law, en, ed, wob, wod, wf, wd, w0, w1, w2, pr, c0, newLst, goodKids, OW, ir, tob, tod, tf, n1, n2, n3, rr, od, np, b1, b2, b3, dl, td, to, tb, tl, wo, wb, wl, nt, ql]
end TT.Law
namespace TT.Law
open PySem L2 TT
theorem cut_mem {α : Type} {xs : List α} {lo hi : Option Int} {x : α} (h : x ∈ cut xs lo hi) : x ∈ xs := List.mem_of_mem_drop (List.mem_of_mem_take h)
theorem cut_img {α β : Type} {f : α → β} {xs : List α} {lo hi : Option Int} : cut (xs.map f) lo hi = (cut xs lo hi).map f := by
  unfold cut
  rw [List.length_map, List.map_take, List.map_drop]
theorem own_one (q : Nat × Nat) (h : Shr q) : Own4 [] [] [q] := ⟨List.nodup_nil, (fun x hx => nomatch hx), rfl, by simp, (fun x hx => nomatch hx), rfl, fun x hx => by simp at hx; rw [hx]; exact h⟩
theorem law_holds (ns : List Int) (h : ns.length ≤ 63) : f_law.np = 1 ∧ f_law.m = false ∧ f_law.g [.scr ns] = .ok (.bl true) .dead := by
  refine ⟨rfl, rfl, ?_⟩
  obtain ⟨c, ec⟩ := cell_at ns 0
  have ec : f__law_cell_at.g [.scr ns, .int 0] = .ok (.int c) .dead := ec
  obtain ⟨m1, hm1, e1⟩ := mixed c 1 (by omega)
  obtain ⟨m2, hm2, e2⟩ := mixed c 2 (by omega)
  have e1 : f__law_mixed.g [.int c, .int 1] = .ok (.int m1) .dead := e1
  have e2 : f__law_mixed.g [.int c, .int 2] = .ok (.int m2) .dead := e2
  obtain ⟨l10, hl10, gl10, en⟩ := names_run m1 hm1
  have es := sizes_run m2 hm2
  obtain ⟨sz, hsz⟩ : ∃ s, s = (List.range 5).map (szN m2) := ⟨_, rfl⟩
  rw [← hsz] at es
  have sz5 : sz.length = 5 := by rw [hsz]; simp
  have sz4 : ∀ c ∈ sz, 1 ≤ c ∧ c ≤ 4 := fun c hc => by
    rw [hsz] at hc
    obtain ⟨j, _, rfl⟩ := List.mem_map.1 hc
    exact szN_ok m2 j
  obtain ⟨pool, hpool⟩ : ∃ p, p = l10.take 5 := ⟨_, rfl⟩
  have p5 : pool.length = 5 := by rw [hpool, List.length_take, hl10]; rfl
  have pg : ∀ x ∈ pool, GoodS x := fun x hx => by rw [hpool] at hx; exact gl10 x (List.mem_of_mem_take hx)
  have pc : cut (sL l10) none (some 5) = sL pool := by
    have := cut_pre (sL l10) 5
    rw [hpool]
    show cut _ _ _ = List.map _ (List.take _ _)
    rw [List.map_take]
    exact this
  obtain ⟨zs, ez, zl, zg⟩ := enum_scr ns
  obtain ⟨s1, f1, held, y4, y5, y6, y7, y8, y9, rfl, hl, hok⟩ := loopF_ix (f := bodyO (.tup [4, 5]) l0_law) (fun i s => ∃ (held : List H4) (y4 y5 y6 y7 y8 y9 : D), s = [.scr ns, .lst .own (sL pool), .lst .own (iL sz), .lst .own (held.map hD), y4, y5, y6, y7, y8, y9, .dead, .dead] ∧ held.length = i ∧ ∀ h ∈ held, HOk h)
    (xs := zs) (k := 0) (s := [.scr ns, .lst .own (sL pool), .lst .own (iL sz), .lst .own [], .dead, .dead, .dead, .dead, .dead, .dead, .dead, .dead]) (fun i d hd s hs => by
      obtain ⟨held, y4, y5, y6, y7, y8, y9, rfl, hl, hok⟩ := hs
      rw [Nat.zero_add] at hl
      obtain ⟨c, rfl⟩ := zg i d hd
      have hi : i < ns.length := by have := (List.getElem?_eq_some_iff.1 hd).1; omega
      obtain ⟨hh, z6, z7, z8, z9, ho, et⟩ := turn ns pool p5 pg sz sz5 sz4 i (by omega) c held (by omega) y6 y7 y8 y9
      refine ⟨_, ?_, held ++ [hh], .int (i : Nat), .int c, z6, z7, z8, z9, rfl, by simp [hl], fun h' hm => ?_⟩
      · rw [body_eq (s2 := [.scr ns, .lst .own (sL pool), .lst .own (iL sz), .lst .own (held.map hD), .int (i : Nat), .int c, y6, y7, y8, y9, .dead, .dead]) rfl]
        exact et
      · rcases List.mem_append.1 hm with hm | hm
        · exact hok h' hm
        · simp at hm; rw [hm]; exact ho) ⟨[], .dead, .dead, .dead, .dead, .dead, .dead, rfl, rfl, fun h hm => nomatch hm⟩
  obtain ⟨last, hlast⟩ : ∃ l, l = cut held (some (-4)) none := ⟨_, rfl⟩
  have lok : ∀ h ∈ last, HOk h := fun h hm => by rw [hlast] at hm; exact hok h (cut_mem hm)
  have lc : cut (held.map hD) (some (-4)) none = last.map hD := by rw [hlast]; exact cut_img
  have lo : noOwns (last.map hD) = true := owns_img hD_own
  have lb : noBors (last.map hD) = true := bors_img hD_bor
  have lf : refls Fl.frz (last.map hD) = last.map hD := frzs_of lo
  have ld : (last.map hD).all (fun x => !isDead x) = true := dead_img fun _ => rfl
  have ho : noOwns (held.map hD) = true := owns_img hD_own
  have hb : noBors (held.map hD) = true := bors_img hD_bor
  have f2 : ∃ x7 x9, loopF (bodyO (.tup [9, 7]) l1_law) (last.map hD) [.scr ns, .lst .own (sL pool), .lst .own (iL sz), .lst .own (held.map hD), y4, y5, y6, y7, y8, y9, .dead, .dead] = .nx [.scr ns, .lst .own (sL pool), .lst .own (iL sz), .lst .own (held.map hD), y4, y5, y6, x7, y8, x9, .dead, .dead] := by
    obtain ⟨s', e, x7, x9, rfl⟩ := loopF_inv (f := bodyO (.tup [9, 7]) l1_law) (fun s => ∃ x7 x9, s = [.scr ns, .lst .own (sL pool), .lst .own (iL sz), .lst .own (held.map hD), y4, y5, y6, x7, y8, x9, .dead, .dead]) (xs := last.map hD) (s := [.scr ns, .lst .own (sL pool), .lst .own (iL sz), .lst .own (held.map hD), y4, y5, y6, y7, y8, y9, .dead, .dead]) (fun x hx s hs => by
      obtain ⟨h', hm, rfl⟩ := List.mem_map.1 hx
      obtain ⟨x7, x9, rfl⟩ := hs
      have ir := is_run (lok h' hm)
      have OW : refls Fl.lend (cL h'.2.2) = cL h'.2.2 := cL_lend
      refine ⟨_, ?_, ownD .shr h'.1 h'.2.1 h'.2.2, tabD .shr h'.1 h'.2.1 h'.2.2, rfl⟩
      rw [body_eq (s2 := [.scr ns, .lst .own (sL pool), .lst .own (iL sz), .lst .own (held.map hD), y4, y5, y6, ownD .shr h'.1 h'.2.1 h'.2.2, y8, tabD .shr h'.1 h'.2.1 h'.2.2, .dead, .dead]) rfl]
      simp [l1_law, OW, ir]) ⟨y7, y9, rfl⟩
    exact ⟨x7, x9, e⟩
  obtain ⟨x7, x9, f2⟩ := f2
  have O1 := own_one (1, 1) ⟨by decide, by decide⟩
  have O2 := own_one (0, 1) ⟨by decide, by decide⟩
  have i1 : f_Table___init__.g [.ins .own 11 [] [], .lst .bor [], .lst .bor [], .lst .bor [.tup .shr [.int 1, .int 1]]] = .ok .non (.ins .own 11 K_Table [.lst .own [], .lst .own [], .lst .own [.tup .shr [.int 1, .int 1]]]) := init_run O1
  have i2 : f_Table___init__.g [.ins .own 11 [] [], .lst .bor [], .lst .bor [], .lst .bor [.tup .shr [.int 0, .int 1]]] = .ok .non (.ins .own 11 K_Table [.lst .own [], .lst .own [], .lst .own [.tup .shr [.int 0, .int 1]]]) := init_run O2
  have p1 : f_Table_places.g [.ins .bor 11 K_Table [.lst .bor [], .lst .bor [], .lst .bor [.tup .shr [.int 1, .int 1]]]] = .ok (.lst .own [.ktup []]) .dead := t_places (fl := .bor) (names := []) (counts := []) (cells := [(1, 1)]) (by simp) (fun x hx => nomatch hx)
  have p2 : f_Table_at.g [.ins .bor 11 K_Table [.lst .bor [], .lst .bor [], .lst .bor [.tup .shr [.int 0, .int 1]]], .ktup []] = .ok (.tup .shr [.int 0, .int 1]) .dead := at_ok (fl := .bor) (by simp) O2 (k := 0) (p := []) rfl (q := (0, 1)) rfl
  have q1 : eqD (.lst .own [.ktup []]) (.lst .own [.ktup []]) = some (.bl true) := by
    unfold eqD
    rw [if_pos ⟨rfl, rfl⟩, eqv_lst, eqvs_cons, eqv_kk]; rfl
  have q2 : eqD (.tup .shr [.int 0, .int 1]) (.tup .shr [.int 0, .int 1]) = some (.bl true) := by
    unfold eqD
    rw [if_pos ⟨rfl, rfl⟩, eqv_tup]; simp
  simp only [ge_law]
  simp [runF_eq, b_law, ec, e1, e2, en, es, pc, newLst, goodKids, ez, f1, lc, lo, lb, lf, ld, ho, hb, f2, newTup, tupOf, i1, i2, p1, p2, q1, q2]
end TT.Law
namespace TT.Law
open PySem PySem.Spec PyProof.Rows L2 TT
theorem all_mk {l : PySem.W.OpenLaw} {w : World} {K : PySem.W.Frag} {h : Heap} {mg : Str → Option Value} {fa : Addr} (KX : K.In h) (G : h.Ns mainGlobals mg) (hfa : mg "law" = some (.ref fa))
    {a0_ : Addr} {od0 an0 : Option Addr} {sl0 : Array (Option Value)} {oc0 kV0 dc0 pm0 cd0 ct0 : Value}
    {a1_ : Addr} {od1 an1 : Option Addr} {sl1 : Array (Option Value)} {oc1 kV1 dc1 pm1 cd1 ct1 : Value}
    {a2_ : Addr} {od2 an2 : Option Addr} {sl2 : Array (Option Value)} {oc2 kV2 dc2 pm2 cd2 ct2 : Value}
    {a3_ : Addr} {od3 an3 : Option Addr} {sl3 : Array (Option Value)} {oc3 kV3 dc3 pm3 cd3 ct3 : Value}
    {a4_ : Addr} {od4 an4 : Option Addr} {sl4 : Array (Option Value)} {oc4 kV4 dc4 pm4 cd4 ct4 : Value}
    {a5_ : Addr} {od5 an5 : Option Addr} {sl5 : Array (Option Value)} {oc5 kV5 dc5 pm5 cd5 ct5 : Value}
    {a6_ : Addr} {od6 an6 : Option Addr} {sl6 : Array (Option Value)} {oc6 kV6 dc6 pm6 cd6 ct6 : Value}
    {a7_ : Addr} {od7 an7 : Option Addr} {sl7 : Array (Option Value)} {oc7 kV7 dc7 pm7 cd7 ct7 : Value}
    {a8_ : Addr} {od8 an8 : Option Addr} {sl8 : Array (Option Value)} {oc8 kV8 dc8 pm8 cd8 ct8 : Value}
    {a9_ : Addr} {od9 an9 : Option Addr} {sl9 : Array (Option Value)} {oc9 kV9 dc9 pm9 cd9 ct9 : Value}
    {a10_ : Addr} {od10 an10 : Option Addr} {sl10 : Array (Option Value)} {oc10 kV10 dc10 pm10 cd10 ct10 : Value}
    {a11_ : Addr} {od11 an11 : Option Addr} {sl11 : Array (Option Value)} {oc11 kV11 dc11 pm11 cd11 ct11 : Value}
    {a12_ : Addr} {od12 an12 : Option Addr} {sl12 : Array (Option Value)} {oc12 kV12 dc12 pm12 cd12 ct12 : Value}
    {a13_ : Addr} {od13 an13 : Option Addr} {sl13 : Array (Option Value)} {oc13 kV13 dc13 pm13 cd13 ct13 : Value}
    {a14_ : Addr} {od14 an14 : Option Addr} {sl14 : Array (Option Value)} {oc14 kV14 dc14 pm14 cd14 ct14 : Value}
    {a15_ : Addr} {od15 an15 : Option Addr} {sl15 : Array (Option Value)} {oc15 kV15 dc15 pm15 cd15 ct15 : Value}
    {a16_ : Addr} {od16 an16 : Option Addr} {sl16 : Array (Option Value)} {oc16 kV16 dc16 pm16 cd16 ct16 : Value}
    {a17_ : Addr} {od17 an17 : Option Addr} {sl17 : Array (Option Value)} {oc17 kV17 dc17 pm17 cd17 ct17 : Value}
    {a18_ : Addr} {od18 an18 : Option Addr} {sl18 : Array (Option Value)} {oc18 kV18 dc18 pm18 cd18 ct18 : Value}
    {a19_ : Addr} {od19 an19 : Option Addr} {sl19 : Array (Option Value)} {oc19 kV19 dc19 pm19 cd19 ct19 : Value}
    {a20_ : Addr} {od20 an20 : Option Addr} {sl20 : Array (Option Value)} {oc20 kV20 dc20 pm20 cd20 ct20 : Value}
    {a21_ : Addr} {od21 an21 : Option Addr} {sl21 : Array (Option Value)} {oc21 kV21 dc21 pm21 cd21 ct21 : Value}
    {a22_ : Addr} {od22 an22 : Option Addr} {sl22 : Array (Option Value)} {oc22 kV22 dc22 pm22 cd22 ct22 : Value}
    {a23_ : Addr} {od23 an23 : Option Addr} {sl23 : Array (Option Value)} {oc23 kV23 dc23 pm23 cd23 ct23 : Value}
    {a24_ : Addr} {od24 an24 : Option Addr} {sl24 : Array (Option Value)} {oc24 kV24 dc24 pm24 cd24 ct24 : Value}
    {a25_ : Addr} {od25 an25 : Option Addr} {sl25 : Array (Option Value)} {oc25 kV25 dc25 pm25 cd25 ct25 : Value}
    {a26_ : Addr} {od26 an26 : Option Addr} {sl26 : Array (Option Value)} {oc26 kV26 dc26 pm26 cd26 ct26 : Value}
    {a27_ : Addr} {od27 an27 : Option Addr} {sl27 : Array (Option Value)} {oc27 kV27 dc27 pm27 cd27 ct27 : Value}
    {a28_ : Addr} {od28 an28 : Option Addr} {sl28 : Array (Option Value)} {oc28 kV28 dc28 pm28 cd28 ct28 : Value}
    {a29_ : Addr} {od29 an29 : Option Addr} {sl29 : Array (Option Value)} {oc29 kV29 dc29 pm29 cd29 ct29 : Value}
    {gu0 : Tok}
    {gu1 : Tok}
    {gu2 : Tok}
    {gu3 : Tok}
    {gu4 : Tok}
    {c0 c1 c2 c3 c4 c5 c6 c7 c8 c9 c10 c11 : Addr}
    (ac0 : PySem.W.nsIn K mainGlobals "OddsError" = some (some (.ref c0)))
    (ac1 : PySem.W.nsIn K mainGlobals "NoShare" = some (some (.ref c1)))
    (ac2 : PySem.W.nsIn K mainGlobals "BadTable" = some (some (.ref c2)))
    (ac3 : PySem.W.nsIn K mainGlobals "TooWide" = some (some (.ref c3)))
    (ac4 : PySem.W.nsIn K mainGlobals "NoWorld" = some (some (.ref c4)))
    (ac5 : PySem.W.nsIn K mainGlobals "NoWeb" = some (some (.ref c5)))
    (ac6 : PySem.W.nsIn K mainGlobals "NoThing" = some (some (.ref c6)))
    (ac7 : PySem.W.nsIn K mainGlobals "NoKind" = some (some (.ref c7)))
    (ac8 : PySem.W.nsIn K mainGlobals "BadOrder" = some (some (.ref c8)))
    (ac9 : PySem.W.nsIn K mainGlobals "Asked" = some (some (.ref c9)))
    (ac10 : PySem.W.nsIn K mainGlobals "NoLine" = some (some (.ref c10)))
    (ac11 : PySem.W.nsIn K mainGlobals "Table" = some (some (.ref c11)))
    (x2 : PySem.W.excIn K c2 [.type "ValueError", .type "Exception", .type "BaseException", .type "object"] "ValueError.__new__" = true)
    (kc2 : PySem.W.keepIn K (.ref c2) = true)
    (sb2 : PySem.W.subIn K (.ref c2) (.type "BaseException") = some true)
    (ty2 : PySem.W.typeIn K (.ref c2) = some (.type "type"))
    (x3 : PySem.W.excIn K c3 [.type "ValueError", .type "Exception", .type "BaseException", .type "object"] "ValueError.__new__" = true)
    (kc3 : PySem.W.keepIn K (.ref c3) = true)
    (sb3 : PySem.W.subIn K (.ref c3) (.type "BaseException") = some true)
    (ty3 : PySem.W.typeIn K (.ref c3) = some (.type "type"))
    (eg2 : PySem.W.findIn K (.ref c2) "__getattribute__" = some (some (.builtin "BaseException.__getattribute__")))
    (ek2 : PySem.W.findIn K (.ref c2) "__getattr__" = some none)
    (ed2 : PySem.W.hasDictIn K c2 = true)
    (ea2 : PySem.W.findIn K (.ref c2) "__class__" = some (some (.builtin "object.__class__")))
    (em2 : PySem.W.mroIn K c2 (.type "object") = some true)
    (pg11 : PySem.W.plainGet K c11 Str.empty = true)
    (hd11 : PySem.W.hasDictIn K c11 = true)
    (po11 : PySem.W.plainOver K c11 = true)
    (sa11 : PySem.W.findIn K (.ref c11) "__setattr__" = some (some (.builtin "object.__setattr__")))
    (ea11 : PySem.W.findIn K (.ref c11) "__class__" = some (some (.builtin "object.__class__")))
    (em11 : PySem.W.mroIn K c11 (.type "object") = some true)
    (mi11 : PySem.W.makesIn K c11 = true)
    (kc11 : PySem.W.keepIn K (.ref c11) = true)
    (na11_cells : PySem.W.findIn K (.ref c11) "cells" = some none)
    (na11_counts : PySem.W.findIn K (.ref c11) "counts" = some none)
    (na11_row : PySem.W.findIn K (.ref c11) "row" = some none)
    (en : PySem.W.specialIn K (.builtin "object.__class__") "__get__" = some (some (.builtin "getset_descriptor.__get__")))
    (et : PySem.W.takesIn K (.builtin "object.__class__") = some true)
    (kt0 : PySem.W.exmOne K (.ref c2) (.ref c0) = some true)
    (kt1 : PySem.W.kitOne K (.ref c2) (.ref c9) = some false)
    (kt2 : PySem.W.kitOne K (.type "NoneType") (.ref c9) = some false)
    (kt3 : PySem.W.kitOne K (.type "int") (.ref c9) = some false)
    (kt4 : PySem.W.kitOne K (.type "bool") (.ref c9) = some false)
    (kt5 : PySem.W.kitOne K (.type "str") (.ref c9) = some false)
    (kt6 : PySem.W.kitOne K (.type "tuple") (.ref c9) = some false)
    (kt7 : PySem.W.kitOne K (.type "list") (.ref c9) = some false)
    (kt8 : PySem.W.kitOne K (.type "dict") (.ref c9) = some false)
    (kt9 : PySem.W.kitOne K (.ref c2) (.ref c8) = some false)
    (kt10 : PySem.W.kitOne K (.type "NoneType") (.ref c8) = some false)
    (kt11 : PySem.W.kitOne K (.type "int") (.ref c8) = some false)
    (kt12 : PySem.W.kitOne K (.type "bool") (.ref c8) = some false)
    (kt13 : PySem.W.kitOne K (.type "str") (.ref c8) = some false)
    (kt14 : PySem.W.kitOne K (.type "tuple") (.ref c8) = some false)
    (kt15 : PySem.W.kitOne K (.type "list") (.ref c8) = some false)
    (kt16 : PySem.W.kitOne K (.type "dict") (.ref c8) = some false)
    (kt17 : PySem.W.kitOne K (.ref c2) (.ref c7) = some false)
    (kt18 : PySem.W.kitOne K (.type "NoneType") (.ref c7) = some false)
    (kt19 : PySem.W.kitOne K (.type "int") (.ref c7) = some false)
    (kt20 : PySem.W.kitOne K (.type "bool") (.ref c7) = some false)
    (kt21 : PySem.W.kitOne K (.type "str") (.ref c7) = some false)
    (kt22 : PySem.W.kitOne K (.type "tuple") (.ref c7) = some false)
    (kt23 : PySem.W.kitOne K (.type "list") (.ref c7) = some false)
    (kt24 : PySem.W.kitOne K (.type "dict") (.ref c7) = some false)
    (kt25 : PySem.W.kitOne K (.ref c2) (.ref c10) = some false)
    (kt26 : PySem.W.kitOne K (.type "NoneType") (.ref c10) = some false)
    (kt27 : PySem.W.kitOne K (.type "int") (.ref c10) = some false)
    (kt28 : PySem.W.kitOne K (.type "bool") (.ref c10) = some false)
    (kt29 : PySem.W.kitOne K (.type "str") (.ref c10) = some false)
    (kt30 : PySem.W.kitOne K (.type "tuple") (.ref c10) = some false)
    (kt31 : PySem.W.kitOne K (.type "list") (.ref c10) = some false)
    (kt32 : PySem.W.kitOne K (.type "dict") (.ref c10) = some false)
    (kt33 : PySem.W.kitOne K (.ref c2) (.ref c1) = some false)
    (kt34 : PySem.W.kitOne K (.type "NoneType") (.ref c1) = some false)
    (kt35 : PySem.W.kitOne K (.type "int") (.ref c1) = some false)
    (kt36 : PySem.W.kitOne K (.type "bool") (.ref c1) = some false)
    (kt37 : PySem.W.kitOne K (.type "str") (.ref c1) = some false)
    (kt38 : PySem.W.kitOne K (.type "tuple") (.ref c1) = some false)
    (kt39 : PySem.W.kitOne K (.type "list") (.ref c1) = some false)
    (kt40 : PySem.W.kitOne K (.type "dict") (.ref c1) = some false)
    (kt41 : PySem.W.kitOne K (.ref c2) (.ref c6) = some false)
    (kt42 : PySem.W.kitOne K (.type "NoneType") (.ref c6) = some false)
    (kt43 : PySem.W.kitOne K (.type "int") (.ref c6) = some false)
    (kt44 : PySem.W.kitOne K (.type "bool") (.ref c6) = some false)
    (kt45 : PySem.W.kitOne K (.type "str") (.ref c6) = some false)
    (kt46 : PySem.W.kitOne K (.type "tuple") (.ref c6) = some false)
    (kt47 : PySem.W.kitOne K (.type "list") (.ref c6) = some false)
    (kt48 : PySem.W.kitOne K (.type "dict") (.ref c6) = some false)
    (kt49 : PySem.W.kitOne K (.ref c2) (.ref c5) = some false)
    (kt50 : PySem.W.kitOne K (.type "NoneType") (.ref c5) = some false)
    (kt51 : PySem.W.kitOne K (.type "int") (.ref c5) = some false)
    (kt52 : PySem.W.kitOne K (.type "bool") (.ref c5) = some false)
    (kt53 : PySem.W.kitOne K (.type "str") (.ref c5) = some false)
    (kt54 : PySem.W.kitOne K (.type "tuple") (.ref c5) = some false)
    (kt55 : PySem.W.kitOne K (.type "list") (.ref c5) = some false)
    (kt56 : PySem.W.kitOne K (.type "dict") (.ref c5) = some false)
    (kt57 : PySem.W.kitOne K (.ref c2) (.ref c4) = some false)
    (kt58 : PySem.W.kitOne K (.type "NoneType") (.ref c4) = some false)
    (kt59 : PySem.W.kitOne K (.type "int") (.ref c4) = some false)
    (kt60 : PySem.W.kitOne K (.type "bool") (.ref c4) = some false)
    (kt61 : PySem.W.kitOne K (.type "str") (.ref c4) = some false)
    (kt62 : PySem.W.kitOne K (.type "tuple") (.ref c4) = some false)
    (kt63 : PySem.W.kitOne K (.type "list") (.ref c4) = some false)
    (kt64 : PySem.W.kitOne K (.type "dict") (.ref c4) = some false)
    (kt65 : PySem.W.kitOne K (.ref c2) (.ref c3) = some false)
    (kt66 : PySem.W.kitOne K (.type "NoneType") (.ref c3) = some false)
    (kt67 : PySem.W.kitOne K (.type "int") (.ref c3) = some false)
    (kt68 : PySem.W.kitOne K (.type "bool") (.ref c3) = some false)
    (kt69 : PySem.W.kitOne K (.type "str") (.ref c3) = some false)
    (kt70 : PySem.W.kitOne K (.type "tuple") (.ref c3) = some false)
    (kt71 : PySem.W.kitOne K (.type "list") (.ref c3) = some false)
    (kt72 : PySem.W.kitOne K (.type "dict") (.ref c3) = some false)
    (kt73 : PySem.W.kitOne K (.ref c2) (.type "ValueError") = some true)
    (kt74 : PySem.W.kitOne K (.ref c2) (.ref c2) = some true)
    (kt75 : PySem.W.kitOne K (.type "NoneType") (.ref c2) = some false)
    (kt76 : PySem.W.kitOne K (.type "int") (.ref c2) = some false)
    (kt77 : PySem.W.kitOne K (.type "bool") (.ref c2) = some false)
    (kt78 : PySem.W.kitOne K (.type "str") (.ref c2) = some false)
    (kt79 : PySem.W.kitOne K (.type "tuple") (.ref c2) = some false)
    (kt80 : PySem.W.kitOne K (.type "list") (.ref c2) = some false)
    (kt81 : PySem.W.kitOne K (.type "dict") (.ref c2) = some false)
    (kt82 : PySem.W.kitOne K (.ref c11) (.ref c11) = some true)
    (kt83 : PySem.W.kitOne K (.type "NoneType") (.ref c11) = some false)
    (kt84 : PySem.W.kitOne K (.type "int") (.ref c11) = some false)
    (kt85 : PySem.W.kitOne K (.type "bool") (.ref c11) = some false)
    (kt86 : PySem.W.kitOne K (.type "str") (.ref c11) = some false)
    (kt87 : PySem.W.kitOne K (.type "tuple") (.ref c11) = some false)
    (kt88 : PySem.W.kitOne K (.type "list") (.ref c11) = some false)
    (kt89 : PySem.W.kitOne K (.type "dict") (.ref c11) = some false)
    (a0 : PySem.W.nsIn K mainGlobals "is_whole" = some (some (.ref a0_)))
    (l0 : K.lookup a0_ = some ⟨oc0, od0, .func (PySem.W.fnOf "is_whole" "is_whole" (defArgs (top 15)) (defBody (top 15)) (defScope (top 15)) (.none) kV0 dc0 pm0 an0 cd0 ct0), sl0⟩)
    (cd0_ : PySem.W.codeIn K cd0 "is_whole" = true)
    (kp0 : PySem.W.keepIn K (.ref a0_) = true)
    (a1 : PySem.W.nsIn K mainGlobals "common" = some (some (.ref a1_)))
    (l1 : K.lookup a1_ = some ⟨oc1, od1, .func (PySem.W.fnOf "common" "common" (defArgs (top 16)) (defBody (top 16)) (defScope (top 16)) (.none) kV1 dc1 pm1 an1 cd1 ct1), sl1⟩)
    (cd1_ : PySem.W.codeIn K cd1 "common" = true)
    (kp1 : PySem.W.keepIn K (.ref a1_) = true)
    (a2 : PySem.W.nsIn K mainGlobals "is_share" = some (some (.ref a2_)))
    (l2 : K.lookup a2_ = some ⟨oc2, od2, .func (PySem.W.fnOf "is_share" "is_share" (defArgs (top 17)) (defBody (top 17)) (defScope (top 17)) (.none) kV2 dc2 pm2 an2 cd2 ct2), sl2⟩)
    (cd2_ : PySem.W.codeIn K cd2 "is_share" = true)
    (kp2 : PySem.W.keepIn K (.ref a2_) = true)
    (a3 : PySem.W.nsIn K mainGlobals "is_good_name" = some (some (.ref a3_)))
    (l3 : K.lookup a3_ = some ⟨oc3, od3, .func (PySem.W.fnOf "is_good_name" "is_good_name" (defArgs (top 26)) (defBody (top 26)) (defScope (top 26)) (.none) kV3 dc3 pm3 an3 cd3 ct3), sl3⟩)
    (cd3_ : PySem.W.codeIn K cd3 "is_good_name" = true)
    (kp3 : PySem.W.keepIn K (.ref a3_) = true)
    (a4 : PySem.W.nsIn K mainGlobals "is_kind" = some (some (.ref a4_)))
    (l4 : K.lookup a4_ = some ⟨oc4, od4, .func (PySem.W.fnOf "is_kind" "is_kind" (defArgs (top 27)) (defBody (top 27)) (defScope (top 27)) (.none) kV4 dc4 pm4 an4 cd4 ct4), sl4⟩)
    (cd4_ : PySem.W.codeIn K cd4 "is_kind" = true)
    (kp4 : PySem.W.keepIn K (.ref a4_) = true)
    (a5 : PySem.W.nsIn K mainGlobals "need" = some (some (.ref a5_)))
    (l5 : K.lookup a5_ = some ⟨oc5, od5, .func (PySem.W.fnOf "need" "need" (defArgs (top 28)) (defBody (top 28)) (defScope (top 28)) (.none) kV5 dc5 pm5 an5 cd5 ct5), sl5⟩)
    (cd5_ : PySem.W.codeIn K cd5 "need" = true)
    (kp5 : PySem.W.keepIn K (.ref a5_) = true)
    (a6 : PySem.W.nsIn K mainGlobals "how_many" = some (some (.ref a6_)))
    (l6 : K.lookup a6_ = some ⟨oc6, od6, .func (PySem.W.fnOf "how_many" "how_many" (defArgs (top 29)) (defBody (top 29)) (defScope (top 29)) (.none) kV6 dc6 pm6 an6 cd6 ct6), sl6⟩)
    (cd6_ : PySem.W.codeIn K cd6 "how_many" = true)
    (kp6 : PySem.W.keepIn K (.ref a6_) = true)
    (a7 : PySem.W.nsIn K mainGlobals "need_narrow" = some (some (.ref a7_)))
    (l7 : K.lookup a7_ = some ⟨oc7, od7, .func (PySem.W.fnOf "need_narrow" "need_narrow" (defArgs (top 30)) (defBody (top 30)) (defScope (top 30)) (.none) kV7 dc7 pm7 an7 cd7 ct7), sl7⟩)
    (cd7_ : PySem.W.codeIn K cd7 "need_narrow" = true)
    (kp7 : PySem.W.keepIn K (.ref a7_) = true)
    (a8 : PySem.W.nsIn K mainGlobals "places_by" = some (some (.ref a8_)))
    (l8 : K.lookup a8_ = some ⟨oc8, od8, .func (PySem.W.fnOf "places_by" "places_by" (defArgs (top 31)) (defBody (top 31)) (defScope (top 31)) (.none) kV8 dc8 pm8 an8 cd8 ct8), sl8⟩)
    (cd8_ : PySem.W.codeIn K cd8 "places_by" = true)
    (kp8 : PySem.W.keepIn K (.ref a8_) = true)
    (a9 : PySem.W.nsIn K mainGlobals "spot_of" = some (some (.ref a9_)))
    (l9 : K.lookup a9_ = some ⟨oc9, od9, .func (PySem.W.fnOf "spot_of" "spot_of" (defArgs (top 32)) (defBody (top 32)) (defScope (top 32)) (.none) kV9 dc9 pm9 an9 cd9 ct9), sl9⟩)
    (cd9_ : PySem.W.codeIn K cd9 "spot_of" = true)
    (kp9 : PySem.W.keepIn K (.ref a9_) = true)
    (a10 : PySem.W.nsIn K mainGlobals "_law_cell_at" = some (some (.ref a10_)))
    (l10 : K.lookup a10_ = some ⟨oc10, od10, .func (PySem.W.fnOf "_law_cell_at" "_law_cell_at" (defArgs (top 37)) (defBody (top 37)) (defScope (top 37)) (.none) kV10 dc10 pm10 an10 cd10 ct10), sl10⟩)
    (cd10_ : PySem.W.codeIn K cd10 "_law_cell_at" = true)
    (kp10 : PySem.W.keepIn K (.ref a10_) = true)
    (a11 : PySem.W.nsIn K mainGlobals "_law_mixed" = some (some (.ref a11_)))
    (l11 : K.lookup a11_ = some ⟨oc11, od11, .func (PySem.W.fnOf "_law_mixed" "_law_mixed" (defArgs (top 38)) (defBody (top 38)) (defScope (top 38)) (.none) kV11 dc11 pm11 an11 cd11 ct11), sl11⟩)
    (cd11_ : PySem.W.codeIn K cd11 "_law_mixed" = true)
    (kp11 : PySem.W.keepIn K (.ref a11_) = true)
    (a12 : PySem.W.nsIn K mainGlobals "_law_names" = some (some (.ref a12_)))
    (l12 : K.lookup a12_ = some ⟨oc12, od12, .func (PySem.W.fnOf "_law_names" "_law_names" (defArgs (top 39)) (defBody (top 39)) (defScope (top 39)) (.none) kV12 dc12 pm12 an12 cd12 ct12), sl12⟩)
    (cd12_ : PySem.W.codeIn K cd12 "_law_names" = true)
    (kp12 : PySem.W.keepIn K (.ref a12_) = true)
    (a13 : PySem.W.nsIn K mainGlobals "_law_short" = some (some (.ref a13_)))
    (l13 : K.lookup a13_ = some ⟨oc13, od13, .func (PySem.W.fnOf "_law_short" "_law_short" (defArgs (top 40)) (defBody (top 40)) (defScope (top 40)) (.none) kV13 dc13 pm13 an13 cd13 ct13), sl13⟩)
    (cd13_ : PySem.W.codeIn K cd13 "_law_short" = true)
    (kp13 : PySem.W.keepIn K (.ref a13_) = true)
    (a14 : PySem.W.nsIn K mainGlobals "_law_places" = some (some (.ref a14_)))
    (l14 : K.lookup a14_ = some ⟨oc14, od14, .func (PySem.W.fnOf "_law_places" "_law_places" (defArgs (top 41)) (defBody (top 41)) (defScope (top 41)) (.none) kV14 dc14 pm14 an14 cd14 ct14), sl14⟩)
    (cd14_ : PySem.W.codeIn K cd14 "_law_places" = true)
    (kp14 : PySem.W.keepIn K (.ref a14_) = true)
    (a15 : PySem.W.nsIn K mainGlobals "_law_share" = some (some (.ref a15_)))
    (l15 : K.lookup a15_ = some ⟨oc15, od15, .func (PySem.W.fnOf "_law_share" "_law_share" (defArgs (top 42)) (defBody (top 42)) (defScope (top 42)) (.none) kV15 dc15 pm15 an15 cd15 ct15), sl15⟩)
    (cd15_ : PySem.W.codeIn K cd15 "_law_share" = true)
    (kp15 : PySem.W.keepIn K (.ref a15_) = true)
    (a16 : PySem.W.nsIn K mainGlobals "_law_drawn" = some (some (.ref a16_)))
    (l16 : K.lookup a16_ = some ⟨oc16, od16, .func (PySem.W.fnOf "_law_drawn" "_law_drawn" (defArgs (top 43)) (defBody (top 43)) (defScope (top 43)) (.none) kV16 dc16 pm16 an16 cd16 ct16), sl16⟩)
    (cd16_ : PySem.W.codeIn K cd16 "_law_drawn" = true)
    (kp16 : PySem.W.keepIn K (.ref a16_) = true)
    (a17 : PySem.W.nsIn K mainGlobals "_law_sizes" = some (some (.ref a17_)))
    (l17 : K.lookup a17_ = some ⟨oc17, od17, .func (PySem.W.fnOf "_law_sizes" "_law_sizes" (defArgs (top 45)) (defBody (top 45)) (defScope (top 45)) (.none) kV17 dc17 pm17 an17 cd17 ct17), sl17⟩)
    (cd17_ : PySem.W.codeIn K cd17 "_law_sizes" = true)
    (kp17 : PySem.W.keepIn K (.ref a17_) = true)
    (f18_11 : PySem.W.findIn K (.ref c11) "names" = some (some (.ref a18_)))
    (if18 : PySem.W.isFn K (.ref a18_) = true)
    (l18 : K.lookup a18_ = some ⟨oc18, od18, .func (PySem.W.fnOf "names" "Table.names" (defArgs (inClass (top 34) 1)) (defBody (inClass (top 34) 1)) (defScope (inClass (top 34) 1)) (.none) kV18 dc18 pm18 an18 cd18 ct18), sl18⟩)
    (cd18_ : PySem.W.codeIn K cd18 "Table.names" = true)
    (kp18 : PySem.W.keepIn K (.ref a18_) = true)
    (f19_11 : PySem.W.findIn K (.ref c11) "sizes" = some (some (.ref a19_)))
    (if19 : PySem.W.isFn K (.ref a19_) = true)
    (l19 : K.lookup a19_ = some ⟨oc19, od19, .func (PySem.W.fnOf "sizes" "Table.sizes" (defArgs (inClass (top 34) 2)) (defBody (inClass (top 34) 2)) (defScope (inClass (top 34) 2)) (.none) kV19 dc19 pm19 an19 cd19 ct19), sl19⟩)
    (cd19_ : PySem.W.codeIn K cd19 "Table.sizes" = true)
    (kp19 : PySem.W.keepIn K (.ref a19_) = true)
    (f20_11 : PySem.W.findIn K (.ref c11) "shares" = some (some (.ref a20_)))
    (if20 : PySem.W.isFn K (.ref a20_) = true)
    (l20 : K.lookup a20_ = some ⟨oc20, od20, .func (PySem.W.fnOf "shares" "Table.shares" (defArgs (inClass (top 34) 3)) (defBody (inClass (top 34) 3)) (defScope (inClass (top 34) 3)) (.none) kV20 dc20 pm20 an20 cd20 ct20), sl20⟩)
    (cd20_ : PySem.W.codeIn K cd20 "Table.shares" = true)
    (kp20 : PySem.W.keepIn K (.ref a20_) = true)
    (a21 : PySem.W.nsIn K mainGlobals "_law_is" = some (some (.ref a21_)))
    (l21 : K.lookup a21_ = some ⟨oc21, od21, .func (PySem.W.fnOf "_law_is" "_law_is" (defArgs (top 46)) (defBody (top 46)) (defScope (top 46)) (.none) kV21 dc21 pm21 an21 cd21 ct21), sl21⟩)
    (cd21_ : PySem.W.codeIn K cd21 "_law_is" = true)
    (kp21 : PySem.W.keepIn K (.ref a21_) = true)
    (a22 : PySem.W.nsIn K mainGlobals "_law_word" = some (some (.ref a22_)))
    (l22 : K.lookup a22_ = some ⟨oc22, od22, .func (PySem.W.fnOf "_law_word" "_law_word" (defArgs (top 47)) (defBody (top 47)) (defScope (top 47)) (.none) kV22 dc22 pm22 an22 cd22 ct22), sl22⟩)
    (cd22_ : PySem.W.codeIn K cd22 "_law_word" = true)
    (kp22 : PySem.W.keepIn K (.ref a22_) = true)
    (f23_11 : PySem.W.findIn K (.ref c11) "at" = some (some (.ref a23_)))
    (if23 : PySem.W.isFn K (.ref a23_) = true)
    (l23 : K.lookup a23_ = some ⟨oc23, od23, .func (PySem.W.fnOf "at" "Table.at" (defArgs (inClass (top 34) 5)) (defBody (inClass (top 34) 5)) (defScope (inClass (top 34) 5)) (.none) kV23 dc23 pm23 an23 cd23 ct23), sl23⟩)
    (cd23_ : PySem.W.codeIn K cd23 "Table.at" = true)
    (kp23 : PySem.W.keepIn K (.ref a23_) = true)
    (a24 : PySem.W.nsIn K mainGlobals "_law_no_place" = some (some (.ref a24_)))
    (l24 : K.lookup a24_ = some ⟨oc24, od24, .func (PySem.W.fnOf "_law_no_place" "_law_no_place" (defArgs (top 48)) (defBody (top 48)) (defScope (top 48)) (.none) kV24 dc24 pm24 an24 cd24 ct24), sl24⟩)
    (cd24_ : PySem.W.codeIn K cd24 "_law_no_place" = true)
    (kp24 : PySem.W.keepIn K (.ref a24_) = true)
    (a25 : PySem.W.nsIn K mainGlobals "_law_odd_place" = some (some (.ref a25_)))
    (l25 : K.lookup a25_ = some ⟨oc25, od25, .func (PySem.W.fnOf "_law_odd_place" "_law_odd_place" (defArgs (top 49)) (defBody (top 49)) (defScope (top 49)) (.none) kV25 dc25 pm25 an25 cd25 ct25), sl25⟩)
    (cd25_ : PySem.W.codeIn K cd25 "_law_odd_place" = true)
    (kp25 : PySem.W.keepIn K (.ref a25_) = true)
    (f26_11 : PySem.W.findIn K (.ref c11) "places" = some (some (.ref a26_)))
    (if26 : PySem.W.isFn K (.ref a26_) = true)
    (l26 : K.lookup a26_ = some ⟨oc26, od26, .func (PySem.W.fnOf "places" "Table.places" (defArgs (inClass (top 34) 4)) (defBody (inClass (top 34) 4)) (defScope (inClass (top 34) 4)) (.none) kV26 dc26 pm26 an26 cd26 ct26), sl26⟩)
    (cd26_ : PySem.W.codeIn K cd26 "Table.places" = true)
    (kp26 : PySem.W.keepIn K (.ref a26_) = true)
    (a27 : PySem.W.nsIn K mainGlobals "_law_right" = some (some (.ref a27_)))
    (l27 : K.lookup a27_ = some ⟨oc27, od27, .func (PySem.W.fnOf "_law_right" "_law_right" (defArgs (top 50)) (defBody (top 50)) (defScope (top 50)) (.none) kV27 dc27 pm27 an27 cd27 ct27), sl27⟩)
    (cd27_ : PySem.W.codeIn K cd27 "_law_right" = true)
    (kp27 : PySem.W.keepIn K (.ref a27_) = true)
    (f28_11 : PySem.W.findIn K (.ref c11) "__init__" = some (some (.ref a28_)))
    (if28 : PySem.W.isFn K (.ref a28_) = true)
    (l28 : K.lookup a28_ = some ⟨oc28, od28, .func (PySem.W.fnOf "__init__" "Table.__init__" (defArgs (inClass (top 34) 0)) (defBody (inClass (top 34) 0)) (defScope (inClass (top 34) 0)) (.none) kV28 dc28 pm28 an28 cd28 ct28), sl28⟩)
    (cd28_ : PySem.W.codeIn K cd28 "Table.__init__" = true)
    (kp28 : PySem.W.keepIn K (.ref a28_) = true)
    (a29 : PySem.W.nsIn K mainGlobals "law" = some (some (.ref a29_)))
    (l29 : K.lookup a29_ = some ⟨oc29, od29, .func (PySem.W.fnOf "law" "law" (defArgs (top 51)) (defBody (top 51)) (defScope (top 51)) (.none) kV29 dc29 pm29 an29 cd29 ct29), sl29⟩)
    (cd29_ : PySem.W.codeIn K cd29 "law" = true)
    (kp29 : PySem.W.keepIn K (.ref a29_) = true)
    (z_ValueError : PySem.W.nsIn K mainGlobals "ValueError" = some none)
    (z_all : PySem.W.nsIn K mainGlobals "all" = some none)
    (z_bool : PySem.W.nsIn K mainGlobals "bool" = some none)
    (z_enumerate : PySem.W.nsIn K mainGlobals "enumerate" = some none)
    (z_int : PySem.W.nsIn K mainGlobals "int" = some none)
    (z_isinstance : PySem.W.nsIn K mainGlobals "isinstance" = some none)
    (z_len : PySem.W.nsIn K mainGlobals "len" = some none)
    (z_list : PySem.W.nsIn K mainGlobals "list" = some none)
    (z_range : PySem.W.nsIn K mainGlobals "range" = some none)
    (z_set : PySem.W.nsIn K mainGlobals "set" = some none)
    (z_str : PySem.W.nsIn K mainGlobals "str" = some none)
    (z_tuple : PySem.W.nsIn K mainGlobals "tuple" = some none)
    (z_zip : PySem.W.nsIn K mainGlobals "zip" = some none)
    (gg0 : PySem.W.nsIn K mainGlobals "MOST_NAMES" = some (some (.int 10 gu0)))
    (gg1 : PySem.W.nsIn K mainGlobals "MOST_SIZE" = some (some (.int 4 gu1)))
    (gg2 : PySem.W.nsIn K mainGlobals "LONGEST" = some (some (.int 8 gu2)))
    (gg3 : PySem.W.nsIn K mainGlobals "SIGNS" = some (some (.str "abcdefghijklmnopqrstuvwxyz" gu3)))
    (gg4 : PySem.W.nsIn K mainGlobals "MOST_PLACES" = some (some (.int 20000 gu4)))
    : ∃ fd : FuncData, (∀ (s : Shared) (v : Value), BindsTo s fd ⟨[v], []⟩ [("_law_script", v)]) ∧ ∀ base : Heap, K.In base → base.Ns mainGlobals mg → FnOk l.prog w K mg base (L2.CX l.prog w) 5 fa fd ["_law_script"] (spL K) := by
  have e := hfa.symm.trans (PySem.W.mg_of KX G a29)
  have e2 : a29_ = fa := by injection e with e; injection e with e; exact e.symm
  subst e2
  let C : Gl0 := ⟨K, fun k => match k with | 0 => c0 | 1 => c1 | 2 => c2 | 3 => c3 | 4 => c4 | 5 => c5 | 6 => c6 | 7 => c7 | 8 => c8 | 9 => c9 | 10 => c10 | 11 => c11 | _ => 0, fun k => match k with  | _ => 0⟩
  have hbn : ∀ x ∈ bnL, mg x = none := by
    intro x hx
    simp only [bnL, List.mem_cons, List.not_mem_nil, or_false] at hx
    rcases hx with rfl | rfl | rfl | rfl | rfl | rfl | rfl | rfl | rfl | rfl | rfl | rfl | rfl
    · exact PySem.W.mg_none_of KX G z_ValueError
    · exact PySem.W.mg_none_of KX G z_all
    · exact PySem.W.mg_none_of KX G z_bool
    · exact PySem.W.mg_none_of KX G z_enumerate
    · exact PySem.W.mg_none_of KX G z_int
    · exact PySem.W.mg_none_of KX G z_isinstance
    · exact PySem.W.mg_none_of KX G z_len
    · exact PySem.W.mg_none_of KX G z_list
    · exact PySem.W.mg_none_of KX G z_range
    · exact PySem.W.mg_none_of KX G z_set
    · exact PySem.W.mg_none_of KX G z_str
    · exact PySem.W.mg_none_of KX G z_tuple
    · exact PySem.W.mg_none_of KX G z_zip
  have F0 := dfun_mk (x := "is_whole") (st := top 15) l0 cd0_
  have b0 := F0.binds (ps := ["thing", "least"]) fun _ _ _ _ _ _ us hl => match us, hl with | [_, _], _ => rfl
  have F1 := dfun_mk (x := "common") (st := top 16) l1 cd1_
  have b1 := F1.binds (ps := ["one", "other"]) fun _ _ _ _ _ _ us hl => match us, hl with | [_, _], _ => rfl
  have F2 := dfun_mk (x := "is_share") (st := top 17) l2 cd2_
  have b2 := F2.binds (ps := ["thing"]) fun _ _ _ _ _ _ us hl => match us, hl with | [_], _ => rfl
  have F3 := dfun_mk (x := "is_good_name") (st := top 26) l3 cd3_
  have b3 := F3.binds (ps := ["thing"]) fun _ _ _ _ _ _ us hl => match us, hl with | [_], _ => rfl
  have F4 := dfun_mk (x := "is_kind") (st := top 27) l4 cd4_
  have b4 := F4.binds (ps := ["thing", "size"]) fun _ _ _ _ _ _ us hl => match us, hl with | [_, _], _ => rfl
  have F5 := dfun_mk (x := "need") (st := top 28) l5 cd5_
  have b5 := F5.binds (ps := ["good"]) fun _ _ _ _ _ _ us hl => match us, hl with | [_], _ => rfl
  have F6 := dfun_mk (x := "how_many") (st := top 29) l6 cd6_
  have b6 := F6.binds (ps := ["sizes"]) fun _ _ _ _ _ _ us hl => match us, hl with | [_], _ => rfl
  have F7 := dfun_mk (x := "need_narrow") (st := top 30) l7 cd7_
  have b7 := F7.binds (ps := ["sizes"]) fun _ _ _ _ _ _ us hl => match us, hl with | [_], _ => rfl
  have F8 := dfun_mk (x := "places_by") (st := top 31) l8 cd8_
  have b8 := F8.binds (ps := ["sizes"]) fun _ _ _ _ _ _ us hl => match us, hl with | [_], _ => rfl
  have F9 := dfun_mk (x := "spot_of") (st := top 32) l9 cd9_
  have b9 := F9.binds (ps := ["sizes", "place"]) fun _ _ _ _ _ _ us hl => match us, hl with | [_, _], _ => rfl
  have F10 := dfun_mk (x := "_law_cell_at") (st := top 37) l10 cd10_
  have b10 := F10.binds (ps := ["_law_script", "_law_k"]) fun _ _ _ _ _ _ us hl => match us, hl with | [_, _], _ => rfl
  have F11 := dfun_mk (x := "_law_mixed") (st := top 38) l11 cd11_
  have b11 := F11.binds (ps := ["_law_cell", "_law_k"]) fun _ _ _ _ _ _ us hl => match us, hl with | [_, _], _ => rfl
  have F12 := dfun_mk (x := "_law_names") (st := top 39) l12 cd12_
  have b12 := F12.binds (ps := ["_law_number"]) fun _ _ _ _ _ _ us hl => match us, hl with | [_], _ => rfl
  have F13 := dfun_mk (x := "_law_short") (st := top 40) l13 cd13_
  have b13 := F13.binds (ps := ["_law_top", "_law_bottom"]) fun _ _ _ _ _ _ us hl => match us, hl with | [_, _], _ => rfl
  have F14 := dfun_mk (x := "_law_places") (st := top 41) l14 cd14_
  have b14 := F14.binds (ps := ["_law_sizes_here"]) fun _ _ _ _ _ _ us hl => match us, hl with | [_], _ => rfl
  have F15 := dfun_mk (x := "_law_share") (st := top 42) l15 cd15_
  have b15 := F15.binds (ps := ["_law_number"]) fun _ _ _ _ _ _ us hl => match us, hl with | [_], _ => rfl
  have F16 := dfun_mk (x := "_law_drawn") (st := top 43) l16 cd16_
  have b16 := F16.binds (ps := ["_law_pool", "_law_sizes_here", "_law_number"]) fun _ _ _ _ _ _ us hl => match us, hl with | [_, _, _], _ => rfl
  have F17 := dfun_mk (x := "_law_sizes") (st := top 45) l17 cd17_
  have b17 := F17.binds (ps := ["_law_number"]) fun _ _ _ _ _ _ us hl => match us, hl with | [_], _ => rfl
  have F18 := dfun_mk (x := "names") (st := inClass (top 34) 1) l18 cd18_
  have b18 := F18.binds (ps := ["self"]) fun _ _ _ _ _ _ us hl => match us, hl with | [_], _ => rfl
  have F19 := dfun_mk (x := "sizes") (st := inClass (top 34) 2) l19 cd19_
  have b19 := F19.binds (ps := ["self"]) fun _ _ _ _ _ _ us hl => match us, hl with | [_], _ => rfl
  have F20 := dfun_mk (x := "shares") (st := inClass (top 34) 3) l20 cd20_
  have b20 := F20.binds (ps := ["self"]) fun _ _ _ _ _ _ us hl => match us, hl with | [_], _ => rfl
  have F21 := dfun_mk (x := "_law_is") (st := top 46) l21 cd21_
  have b21 := F21.binds (ps := ["_law_found", "_law_own"]) fun _ _ _ _ _ _ us hl => match us, hl with | [_, _], _ => rfl
  have F22 := dfun_mk (x := "_law_word") (st := top 47) l22 cd22_
  have b22 := F22.binds (ps := ["_law_e"]) fun _ _ _ _ _ _ us hl => match us, hl with | [_], _ => rfl
  have F23 := dfun_mk (x := "at") (st := inClass (top 34) 5) l23 cd23_
  have b23 := F23.binds (ps := ["self", "place"]) fun _ _ _ _ _ _ us hl => match us, hl with | [_, _], _ => rfl
  have F24 := dfun_mk (x := "_law_no_place") (st := top 48) l24 cd24_
  have b24 := F24.binds (ps := ["_law_table", "_law_place"]) fun _ _ _ _ _ _ us hl => match us, hl with | [_, _], _ => rfl
  have F25 := dfun_mk (x := "_law_odd_place") (st := top 49) l25 cd25_
  have b25 := F25.binds (ps := ["_law_own", "_law_number"]) fun _ _ _ _ _ _ us hl => match us, hl with | [_, _], _ => rfl
  have F26 := dfun_mk (x := "places") (st := inClass (top 34) 4) l26 cd26_
  have b26 := F26.binds (ps := ["self"]) fun _ _ _ _ _ _ us hl => match us, hl with | [_], _ => rfl
  have F27 := dfun_mk (x := "_law_right") (st := top 50) l27 cd27_
  have b27 := F27.binds (ps := ["_law_table", "_law_own", "_law_number"]) fun _ _ _ _ _ _ us hl => match us, hl with | [_, _, _], _ => rfl
  have F28 := dfun_mk (x := "__init__") (st := inClass (top 34) 0) l28 cd28_
  have b28 := F28.binds (ps := ["self", "names", "sizes", "shares"]) fun _ _ _ _ _ _ us hl => match us, hl with | [_, _, _, _], _ => rfl
  have F29 := dfun_mk (x := "law") (st := top 51) l29 cd29_
  have b29 := F29.binds (ps := ["_law_script"]) fun _ _ _ _ _ _ us hl => match us, hl with | [_], _ => rfl
  refine ⟨PySem.W.fnOf "law" "law" (defArgs (top 51)) (defBody (top 51)) (defScope (top 51)) .none kV29 dc29 pm29 an29 cd29 ct29, fun s v => .of_eq rfl, fun base kb gb => ?_⟩
  have ec2 : ExcC K c2 := ⟨eg2, ek2, sb2, ed2, ea2, en, et, em2⟩
  have o0 : FnOk l.prog w K mg base (L2.CX l.prog w) f_is_whole.lv a0_ _ ["thing", "least"] (spec C f_is_whole) := def_ok (k := 0) rfl F0 s_is_whole rfl m_is_whole hbn (fun Y hP hw hK hm hb => by
    have hL : AllNd C Y (nSs b_is_whole) := ⟨(⟨fun k z => (nomatch z), by rw [hK]; exact (fun _ z => nomatch z), by rw [hK]; exact (fun _ z => nomatch z)⟩ : NdOk C Y (.isi (.b "int") "int" [] [])), (⟨fun k z => (nomatch z), by rw [hK]; exact (fun _ z => nomatch z), by rw [hK]; exact (fun _ z => nomatch z)⟩ : NdOk C Y (.isi (.b "bool") "bool" [] [])), trivial⟩
    exact hL) h_is_whole
  have g0 : ∀ Y : Cx, Y.prog = l.prog → Y.w = w → Y.K = K → Y.mg = mg → Y.base = base → FOk C Y f_is_whole a0_ _ ["thing", "least"] ([] : List V) ([] : List Value) := fun Y hP hw hK hm hb => by
    obtain ⟨prog, w0, K0, mg0, base0, A, N, s_0, H_0, env, outer, stack, ex, fn, calm, pn, xe⟩ := Y
    cases hP; cases hw; cases hK; cases hm; cases hb
    exact ⟨rfl, rfl, .nil, fun _ _ _ => ⟨rfl, rfl⟩, b0, o0⟩
  have n0 : ∀ Y : Cx, Y.prog = l.prog → Y.w = w → Y.K = K → Y.mg = mg → Y.base = base → NdOk C Y (.fe f_is_whole) := fun Y hP hw hK hm hb =>
    ⟨a0_, _, _, ([] : List V), ([] : List Value), by rw [hm]; exact PySem.W.mg_of KX G a0, by rw [hK]; exact kp0, g0 Y hP hw hK hm hb⟩
  have o1 : FnOk l.prog w K mg base (L2.CX l.prog w) f_common.lv a1_ _ ["one", "other"] (spec C f_common) := def_ok (k := 0) rfl F1 s_common rfl m_common hbn (fun Y hP hw hK hm hb => by
    have hL : AllNd C Y (nSs b_common) := trivial
    exact hL) h_common
  have g1 : ∀ Y : Cx, Y.prog = l.prog → Y.w = w → Y.K = K → Y.mg = mg → Y.base = base → FOk C Y f_common a1_ _ ["one", "other"] ([] : List V) ([] : List Value) := fun Y hP hw hK hm hb => by
    obtain ⟨prog, w0, K0, mg0, base0, A, N, s_0, H_0, env, outer, stack, ex, fn, calm, pn, xe⟩ := Y
    cases hP; cases hw; cases hK; cases hm; cases hb
    exact ⟨rfl, rfl, .nil, fun _ _ _ => ⟨rfl, rfl⟩, b1, o1⟩
  have n1 : ∀ Y : Cx, Y.prog = l.prog → Y.w = w → Y.K = K → Y.mg = mg → Y.base = base → NdOk C Y (.fe f_common) := fun Y hP hw hK hm hb =>
    ⟨a1_, _, _, ([] : List V), ([] : List Value), by rw [hm]; exact PySem.W.mg_of KX G a1, by rw [hK]; exact kp1, g1 Y hP hw hK hm hb⟩
  have o2 : FnOk l.prog w K mg base (L2.CX l.prog w) f_is_share.lv a2_ _ ["thing"] (spec C f_is_share) := def_ok (k := 1) rfl F2 s_is_share rfl m_is_share hbn (fun Y hP hw hK hm hb => by
    have hL : AllNd C Y (nSs b_is_share) := ⟨(⟨fun k z => (nomatch z), by rw [hK]; exact (fun _ z => nomatch z), by rw [hK]; exact (fun _ z => nomatch z)⟩ : NdOk C Y (.isi (.b "tuple") "tuple" [] [])), n0 Y hP hw hK hm hb, n0 Y hP hw hK hm hb, n1 Y hP hw hK hm hb, trivial⟩
    exact hL) h_is_share
  have g2 : ∀ Y : Cx, Y.prog = l.prog → Y.w = w → Y.K = K → Y.mg = mg → Y.base = base → FOk C Y f_is_share a2_ _ ["thing"] ([] : List V) ([] : List Value) := fun Y hP hw hK hm hb => by
    obtain ⟨prog, w0, K0, mg0, base0, A, N, s_0, H_0, env, outer, stack, ex, fn, calm, pn, xe⟩ := Y
    cases hP; cases hw; cases hK; cases hm; cases hb
    exact ⟨rfl, rfl, .nil, fun _ _ _ => ⟨rfl, rfl⟩, b2, o2⟩
  have n2 : ∀ Y : Cx, Y.prog = l.prog → Y.w = w → Y.K = K → Y.mg = mg → Y.base = base → NdOk C Y (.fe f_is_share) := fun Y hP hw hK hm hb =>
    ⟨a2_, _, _, ([] : List V), ([] : List Value), by rw [hm]; exact PySem.W.mg_of KX G a2, by rw [hK]; exact kp2, g2 Y hP hw hK hm hb⟩
  have o3 : FnOk l.prog w K mg base (L2.CX l.prog w) f_is_good_name.lv a3_ _ ["thing"] (spec C f_is_good_name) := def_ok (k := 0) rfl F3 s_is_good_name rfl m_is_good_name hbn (fun Y hP hw hK hm hb => by
    have hL : AllNd C Y (nSs b_is_good_name) := ⟨(⟨fun k z => (nomatch z), by rw [hK]; exact (fun _ z => nomatch z), by rw [hK]; exact (fun _ z => nomatch z)⟩ : NdOk C Y (.isi (.b "str") "str" [] [])), (⟨rfl, rfl, .int 8, .int 8 gu2, by rw [hm]; exact PySem.W.mg_of KX G gg2, ⟨_, rfl⟩, fun _ _ _ => ⟨rfl, rfl⟩⟩ : NdOk C Y (.gl "LONGEST" (.int 8))), (⟨rfl, rfl, .str "abcdefghijklmnopqrstuvwxyz", .str "abcdefghijklmnopqrstuvwxyz" gu3, by rw [hm]; exact PySem.W.mg_of KX G gg3, ⟨_, rfl⟩, fun _ _ _ => ⟨rfl, rfl⟩⟩ : NdOk C Y (.gl "SIGNS" (.str "abcdefghijklmnopqrstuvwxyz"))), trivial⟩
    exact hL) h_is_good_name
  have g3 : ∀ Y : Cx, Y.prog = l.prog → Y.w = w → Y.K = K → Y.mg = mg → Y.base = base → FOk C Y f_is_good_name a3_ _ ["thing"] ([] : List V) ([] : List Value) := fun Y hP hw hK hm hb => by
    obtain ⟨prog, w0, K0, mg0, base0, A, N, s_0, H_0, env, outer, stack, ex, fn, calm, pn, xe⟩ := Y
    cases hP; cases hw; cases hK; cases hm; cases hb
    exact ⟨rfl, rfl, .nil, fun _ _ _ => ⟨rfl, rfl⟩, b3, o3⟩
  have n3 : ∀ Y : Cx, Y.prog = l.prog → Y.w = w → Y.K = K → Y.mg = mg → Y.base = base → NdOk C Y (.fe f_is_good_name) := fun Y hP hw hK hm hb =>
    ⟨a3_, _, _, ([] : List V), ([] : List Value), by rw [hm]; exact PySem.W.mg_of KX G a3, by rw [hK]; exact kp3, g3 Y hP hw hK hm hb⟩
  have o4 : FnOk l.prog w K mg base (L2.CX l.prog w) f_is_kind.lv a4_ _ ["thing", "size"] (spec C f_is_kind) := def_ok (k := 0) rfl F4 s_is_kind rfl m_is_kind hbn (fun Y hP hw hK hm hb => by
    have hL : AllNd C Y (nSs b_is_kind) := ⟨(⟨fun k z => (nomatch z), by rw [hK]; exact (fun _ z => nomatch z), by rw [hK]; exact (fun _ z => nomatch z)⟩ : NdOk C Y (.isi (.b "int") "int" [] [])), (⟨fun k z => (nomatch z), by rw [hK]; exact (fun _ z => nomatch z), by rw [hK]; exact (fun _ z => nomatch z)⟩ : NdOk C Y (.isi (.b "bool") "bool" [] [])), trivial⟩
    exact hL) h_is_kind
  have g4 : ∀ Y : Cx, Y.prog = l.prog → Y.w = w → Y.K = K → Y.mg = mg → Y.base = base → FOk C Y f_is_kind a4_ _ ["thing", "size"] ([] : List V) ([] : List Value) := fun Y hP hw hK hm hb => by
    obtain ⟨prog, w0, K0, mg0, base0, A, N, s_0, H_0, env, outer, stack, ex, fn, calm, pn, xe⟩ := Y
    cases hP; cases hw; cases hK; cases hm; cases hb
    exact ⟨rfl, rfl, .nil, fun _ _ _ => ⟨rfl, rfl⟩, b4, o4⟩
  have n4 : ∀ Y : Cx, Y.prog = l.prog → Y.w = w → Y.K = K → Y.mg = mg → Y.base = base → NdOk C Y (.fe f_is_kind) := fun Y hP hw hK hm hb =>
    ⟨a4_, _, _, ([] : List V), ([] : List Value), by rw [hm]; exact PySem.W.mg_of KX G a4, by rw [hK]; exact kp4, g4 Y hP hw hK hm hb⟩
  have o5 : FnOk l.prog w K mg base (L2.CX l.prog w) f_need.lv a5_ _ ["good"] (spec C f_need) := def_ok (k := 0) rfl F5 s_need rfl m_need hbn (fun Y hP hw hK hm hb => by
    have hL : AllNd C Y (nSs b_need) := ⟨(⟨by rw [hm]; exact PySem.W.mg_of KX G ac2, by rw [hK]; exact x2, by rw [hK]; exact kc2, by rw [hK]; exact sb2, by rw [hK]; exact ty2⟩ : ExC C Y 2 "BadTable"), trivial⟩
    exact hL) h_need
  have g5 : ∀ Y : Cx, Y.prog = l.prog → Y.w = w → Y.K = K → Y.mg = mg → Y.base = base → FOk C Y f_need a5_ _ ["good"] ([] : List V) ([] : List Value) := fun Y hP hw hK hm hb => by
    obtain ⟨prog, w0, K0, mg0, base0, A, N, s_0, H_0, env, outer, stack, ex, fn, calm, pn, xe⟩ := Y
    cases hP; cases hw; cases hK; cases hm; cases hb
    exact ⟨rfl, rfl, .nil, fun _ _ _ => ⟨rfl, rfl⟩, b5, o5⟩
  have n5 : ∀ Y : Cx, Y.prog = l.prog → Y.w = w → Y.K = K → Y.mg = mg → Y.base = base → NdOk C Y (.fe f_need) := fun Y hP hw hK hm hb =>
    ⟨a5_, _, _, ([] : List V), ([] : List Value), by rw [hm]; exact PySem.W.mg_of KX G a5, by rw [hK]; exact kp5, g5 Y hP hw hK hm hb⟩
  have o6 : FnOk l.prog w K mg base (L2.CX l.prog w) f_how_many.lv a6_ _ ["sizes"] (spec C f_how_many) := def_ok (k := 0) rfl F6 s_how_many rfl m_how_many hbn (fun Y hP hw hK hm hb => by
    have hL : AllNd C Y (nSs b_how_many) := trivial
    exact hL) h_how_many
  have g6 : ∀ Y : Cx, Y.prog = l.prog → Y.w = w → Y.K = K → Y.mg = mg → Y.base = base → FOk C Y f_how_many a6_ _ ["sizes"] ([] : List V) ([] : List Value) := fun Y hP hw hK hm hb => by
    obtain ⟨prog, w0, K0, mg0, base0, A, N, s_0, H_0, env, outer, stack, ex, fn, calm, pn, xe⟩ := Y
    cases hP; cases hw; cases hK; cases hm; cases hb
    exact ⟨rfl, rfl, .nil, fun _ _ _ => ⟨rfl, rfl⟩, b6, o6⟩
  have n6 : ∀ Y : Cx, Y.prog = l.prog → Y.w = w → Y.K = K → Y.mg = mg → Y.base = base → NdOk C Y (.fe f_how_many) := fun Y hP hw hK hm hb =>
    ⟨a6_, _, _, ([] : List V), ([] : List Value), by rw [hm]; exact PySem.W.mg_of KX G a6, by rw [hK]; exact kp6, g6 Y hP hw hK hm hb⟩
  have o7 : FnOk l.prog w K mg base (L2.CX l.prog w) f_need_narrow.lv a7_ _ ["sizes"] (spec C f_need_narrow) := def_ok (k := 1) rfl F7 s_need_narrow rfl m_need_narrow hbn (fun Y hP hw hK hm hb => by
    have hL : AllNd C Y (nSs b_need_narrow) := ⟨n6 Y hP hw hK hm hb, (⟨rfl, rfl, .int 20000, .int 20000 gu4, by rw [hm]; exact PySem.W.mg_of KX G gg4, ⟨_, rfl⟩, fun _ _ _ => ⟨rfl, rfl⟩⟩ : NdOk C Y (.gl "MOST_PLACES" (.int 20000))), (⟨by rw [hm]; exact PySem.W.mg_of KX G ac3, by rw [hK]; exact x3, by rw [hK]; exact kc3, by rw [hK]; exact sb3, by rw [hK]; exact ty3⟩ : ExC C Y 3 "TooWide"), trivial⟩
    exact hL) h_need_narrow
  have g7 : ∀ Y : Cx, Y.prog = l.prog → Y.w = w → Y.K = K → Y.mg = mg → Y.base = base → FOk C Y f_need_narrow a7_ _ ["sizes"] ([] : List V) ([] : List Value) := fun Y hP hw hK hm hb => by
    obtain ⟨prog, w0, K0, mg0, base0, A, N, s_0, H_0, env, outer, stack, ex, fn, calm, pn, xe⟩ := Y
    cases hP; cases hw; cases hK; cases hm; cases hb
    exact ⟨rfl, rfl, .nil, fun _ _ _ => ⟨rfl, rfl⟩, b7, o7⟩
  have n7 : ∀ Y : Cx, Y.prog = l.prog → Y.w = w → Y.K = K → Y.mg = mg → Y.base = base → NdOk C Y (.fe f_need_narrow) := fun Y hP hw hK hm hb =>
    ⟨a7_, _, _, ([] : List V), ([] : List Value), by rw [hm]; exact PySem.W.mg_of KX G a7, by rw [hK]; exact kp7, g7 Y hP hw hK hm hb⟩
  have o8 : FnOk l.prog w K mg base (L2.CX l.prog w) f_places_by.lv a8_ _ ["sizes"] (spec C f_places_by) := def_ok (k := 0) rfl F8 s_places_by rfl m_places_by hbn (fun Y hP hw hK hm hb => by
    have hL : AllNd C Y (nSs b_places_by) := trivial
    exact hL) h_places_by
  have g8 : ∀ Y : Cx, Y.prog = l.prog → Y.w = w → Y.K = K → Y.mg = mg → Y.base = base → FOk C Y f_places_by a8_ _ ["sizes"] ([] : List V) ([] : List Value) := fun Y hP hw hK hm hb => by
    obtain ⟨prog, w0, K0, mg0, base0, A, N, s_0, H_0, env, outer, stack, ex, fn, calm, pn, xe⟩ := Y
    cases hP; cases hw; cases hK; cases hm; cases hb
    exact ⟨rfl, rfl, .nil, fun _ _ _ => ⟨rfl, rfl⟩, b8, o8⟩
  have n8 : ∀ Y : Cx, Y.prog = l.prog → Y.w = w → Y.K = K → Y.mg = mg → Y.base = base → NdOk C Y (.fe f_places_by) := fun Y hP hw hK hm hb =>
    ⟨a8_, _, _, ([] : List V), ([] : List Value), by rw [hm]; exact PySem.W.mg_of KX G a8, by rw [hK]; exact kp8, g8 Y hP hw hK hm hb⟩
  have o9 : FnOk l.prog w K mg base (L2.CX l.prog w) f_spot_of.lv a9_ _ ["sizes", "place"] (spec C f_spot_of) := def_ok (k := 0) rfl F9 s_spot_of rfl m_spot_of hbn (fun Y hP hw hK hm hb => by
    have hL : AllNd C Y (nSs b_spot_of) := trivial
    exact hL) h_spot_of
  have g9 : ∀ Y : Cx, Y.prog = l.prog → Y.w = w → Y.K = K → Y.mg = mg → Y.base = base → FOk C Y f_spot_of a9_ _ ["sizes", "place"] ([] : List V) ([] : List Value) := fun Y hP hw hK hm hb => by
    obtain ⟨prog, w0, K0, mg0, base0, A, N, s_0, H_0, env, outer, stack, ex, fn, calm, pn, xe⟩ := Y
    cases hP; cases hw; cases hK; cases hm; cases hb
    exact ⟨rfl, rfl, .nil, fun _ _ _ => ⟨rfl, rfl⟩, b9, o9⟩
  have n9 : ∀ Y : Cx, Y.prog = l.prog → Y.w = w → Y.K = K → Y.mg = mg → Y.base = base → NdOk C Y (.fe f_spot_of) := fun Y hP hw hK hm hb =>
    ⟨a9_, _, _, ([] : List V), ([] : List Value), by rw [hm]; exact PySem.W.mg_of KX G a9, by rw [hK]; exact kp9, g9 Y hP hw hK hm hb⟩
  have o10 : FnOk l.prog w K mg base (L2.CX l.prog w) f__law_cell_at.lv a10_ _ ["_law_script", "_law_k"] (spec C f__law_cell_at) := def_ok (k := 0) rfl F10 s__law_cell_at rfl m__law_cell_at hbn (fun Y hP hw hK hm hb => by
    have hL : AllNd C Y (nSs b__law_cell_at) := trivial
    exact hL) h__law_cell_at
  have g10 : ∀ Y : Cx, Y.prog = l.prog → Y.w = w → Y.K = K → Y.mg = mg → Y.base = base → FOk C Y f__law_cell_at a10_ _ ["_law_script", "_law_k"] ([] : List V) ([] : List Value) := fun Y hP hw hK hm hb => by
    obtain ⟨prog, w0, K0, mg0, base0, A, N, s_0, H_0, env, outer, stack, ex, fn, calm, pn, xe⟩ := Y
    cases hP; cases hw; cases hK; cases hm; cases hb
    exact ⟨rfl, rfl, .nil, fun _ _ _ => ⟨rfl, rfl⟩, b10, o10⟩
  have n10 : ∀ Y : Cx, Y.prog = l.prog → Y.w = w → Y.K = K → Y.mg = mg → Y.base = base → NdOk C Y (.fe f__law_cell_at) := fun Y hP hw hK hm hb =>
    ⟨a10_, _, _, ([] : List V), ([] : List Value), by rw [hm]; exact PySem.W.mg_of KX G a10, by rw [hK]; exact kp10, g10 Y hP hw hK hm hb⟩
  have o11 : FnOk l.prog w K mg base (L2.CX l.prog w) f__law_mixed.lv a11_ _ ["_law_cell", "_law_k"] (spec C f__law_mixed) := def_ok (k := 0) rfl F11 s__law_mixed rfl m__law_mixed hbn (fun Y hP hw hK hm hb => by
    have hL : AllNd C Y (nSs b__law_mixed) := trivial
    exact hL) h__law_mixed
  have g11 : ∀ Y : Cx, Y.prog = l.prog → Y.w = w → Y.K = K → Y.mg = mg → Y.base = base → FOk C Y f__law_mixed a11_ _ ["_law_cell", "_law_k"] ([] : List V) ([] : List Value) := fun Y hP hw hK hm hb => by
    obtain ⟨prog, w0, K0, mg0, base0, A, N, s_0, H_0, env, outer, stack, ex, fn, calm, pn, xe⟩ := Y
    cases hP; cases hw; cases hK; cases hm; cases hb
    exact ⟨rfl, rfl, .nil, fun _ _ _ => ⟨rfl, rfl⟩, b11, o11⟩
  have n11 : ∀ Y : Cx, Y.prog = l.prog → Y.w = w → Y.K = K → Y.mg = mg → Y.base = base → NdOk C Y (.fe f__law_mixed) := fun Y hP hw hK hm hb =>
    ⟨a11_, _, _, ([] : List V), ([] : List Value), by rw [hm]; exact PySem.W.mg_of KX G a11, by rw [hK]; exact kp11, g11 Y hP hw hK hm hb⟩
  have o12 : FnOk l.prog w K mg base (L2.CX l.prog w) f__law_names.lv a12_ _ ["_law_number"] (spec C f__law_names) := def_ok (k := 0) rfl F12 s__law_names rfl m__law_names hbn (fun Y hP hw hK hm hb => by
    have hL : AllNd C Y (nSs b__law_names) := trivial
    exact hL) h__law_names
  have g12 : ∀ Y : Cx, Y.prog = l.prog → Y.w = w → Y.K = K → Y.mg = mg → Y.base = base → FOk C Y f__law_names a12_ _ ["_law_number"] ([] : List V) ([] : List Value) := fun Y hP hw hK hm hb => by
    obtain ⟨prog, w0, K0, mg0, base0, A, N, s_0, H_0, env, outer, stack, ex, fn, calm, pn, xe⟩ := Y
    cases hP; cases hw; cases hK; cases hm; cases hb
    exact ⟨rfl, rfl, .nil, fun _ _ _ => ⟨rfl, rfl⟩, b12, o12⟩
  have n12 : ∀ Y : Cx, Y.prog = l.prog → Y.w = w → Y.K = K → Y.mg = mg → Y.base = base → NdOk C Y (.fe f__law_names) := fun Y hP hw hK hm hb =>
    ⟨a12_, _, _, ([] : List V), ([] : List Value), by rw [hm]; exact PySem.W.mg_of KX G a12, by rw [hK]; exact kp12, g12 Y hP hw hK hm hb⟩
  have o13 : FnOk l.prog w K mg base (L2.CX l.prog w) f__law_short.lv a13_ _ ["_law_top", "_law_bottom"] (spec C f__law_short) := def_ok (k := 0) rfl F13 s__law_short rfl m__law_short hbn (fun Y hP hw hK hm hb => by
    have hL : AllNd C Y (nSs b__law_short) := trivial
    exact hL) h__law_short
  have g13 : ∀ Y : Cx, Y.prog = l.prog → Y.w = w → Y.K = K → Y.mg = mg → Y.base = base → FOk C Y f__law_short a13_ _ ["_law_top", "_law_bottom"] ([] : List V) ([] : List Value) := fun Y hP hw hK hm hb => by
    obtain ⟨prog, w0, K0, mg0, base0, A, N, s_0, H_0, env, outer, stack, ex, fn, calm, pn, xe⟩ := Y
    cases hP; cases hw; cases hK; cases hm; cases hb
    exact ⟨rfl, rfl, .nil, fun _ _ _ => ⟨rfl, rfl⟩, b13, o13⟩
  have n13 : ∀ Y : Cx, Y.prog = l.prog → Y.w = w → Y.K = K → Y.mg = mg → Y.base = base → NdOk C Y (.fe f__law_short) := fun Y hP hw hK hm hb =>
    ⟨a13_, _, _, ([] : List V), ([] : List Value), by rw [hm]; exact PySem.W.mg_of KX G a13, by rw [hK]; exact kp13, g13 Y hP hw hK hm hb⟩
  have o14 : FnOk l.prog w K mg base (L2.CX l.prog w) f__law_places.lv a14_ _ ["_law_sizes_here"] (spec C f__law_places) := def_ok (k := 0) rfl F14 s__law_places rfl m__law_places hbn (fun Y hP hw hK hm hb => by
    have hL : AllNd C Y (nSs b__law_places) := trivial
    exact hL) h__law_places
  have g14 : ∀ Y : Cx, Y.prog = l.prog → Y.w = w → Y.K = K → Y.mg = mg → Y.base = base → FOk C Y f__law_places a14_ _ ["_law_sizes_here"] ([] : List V) ([] : List Value) := fun Y hP hw hK hm hb => by
    obtain ⟨prog, w0, K0, mg0, base0, A, N, s_0, H_0, env, outer, stack, ex, fn, calm, pn, xe⟩ := Y
    cases hP; cases hw; cases hK; cases hm; cases hb
    exact ⟨rfl, rfl, .nil, fun _ _ _ => ⟨rfl, rfl⟩, b14, o14⟩
  have n14 : ∀ Y : Cx, Y.prog = l.prog → Y.w = w → Y.K = K → Y.mg = mg → Y.base = base → NdOk C Y (.fe f__law_places) := fun Y hP hw hK hm hb =>
    ⟨a14_, _, _, ([] : List V), ([] : List Value), by rw [hm]; exact PySem.W.mg_of KX G a14, by rw [hK]; exact kp14, g14 Y hP hw hK hm hb⟩
  have o15 : FnOk l.prog w K mg base (L2.CX l.prog w) f__law_share.lv a15_ _ ["_law_number"] (spec C f__law_share) := def_ok (k := 1) rfl F15 s__law_share rfl m__law_share hbn (fun Y hP hw hK hm hb => by
    have hL : AllNd C Y (nSs b__law_share) := ⟨n13 Y hP hw hK hm hb, trivial⟩
    exact hL) h__law_share
  have g15 : ∀ Y : Cx, Y.prog = l.prog → Y.w = w → Y.K = K → Y.mg = mg → Y.base = base → FOk C Y f__law_share a15_ _ ["_law_number"] ([] : List V) ([] : List Value) := fun Y hP hw hK hm hb => by
    obtain ⟨prog, w0, K0, mg0, base0, A, N, s_0, H_0, env, outer, stack, ex, fn, calm, pn, xe⟩ := Y
    cases hP; cases hw; cases hK; cases hm; cases hb
    exact ⟨rfl, rfl, .nil, fun _ _ _ => ⟨rfl, rfl⟩, b15, o15⟩
  have n15 : ∀ Y : Cx, Y.prog = l.prog → Y.w = w → Y.K = K → Y.mg = mg → Y.base = base → NdOk C Y (.fe f__law_share) := fun Y hP hw hK hm hb =>
    ⟨a15_, _, _, ([] : List V), ([] : List Value), by rw [hm]; exact PySem.W.mg_of KX G a15, by rw [hK]; exact kp15, g15 Y hP hw hK hm hb⟩
  have o16 : FnOk l.prog w K mg base (L2.CX l.prog w) f__law_drawn.lv a16_ _ ["_law_pool", "_law_sizes_here", "_law_number"] (spec C f__law_drawn) := def_ok (k := 2) rfl F16 s__law_drawn rfl m__law_drawn hbn (fun Y hP hw hK hm hb => by
    have hL : AllNd C Y (nSs b__law_drawn) := ⟨n11 Y hP hw hK hm hb, n14 Y hP hw hK hm hb, n15 Y hP hw hK hm hb, n11 Y hP hw hK hm hb, trivial⟩
    exact hL) h__law_drawn
  have g16 : ∀ Y : Cx, Y.prog = l.prog → Y.w = w → Y.K = K → Y.mg = mg → Y.base = base → FOk C Y f__law_drawn a16_ _ ["_law_pool", "_law_sizes_here", "_law_number"] ([] : List V) ([] : List Value) := fun Y hP hw hK hm hb => by
    obtain ⟨prog, w0, K0, mg0, base0, A, N, s_0, H_0, env, outer, stack, ex, fn, calm, pn, xe⟩ := Y
    cases hP; cases hw; cases hK; cases hm; cases hb
    exact ⟨rfl, rfl, .nil, fun _ _ _ => ⟨rfl, rfl⟩, b16, o16⟩
  have n16 : ∀ Y : Cx, Y.prog = l.prog → Y.w = w → Y.K = K → Y.mg = mg → Y.base = base → NdOk C Y (.fe f__law_drawn) := fun Y hP hw hK hm hb =>
    ⟨a16_, _, _, ([] : List V), ([] : List Value), by rw [hm]; exact PySem.W.mg_of KX G a16, by rw [hK]; exact kp16, g16 Y hP hw hK hm hb⟩
  have o17 : FnOk l.prog w K mg base (L2.CX l.prog w) f__law_sizes.lv a17_ _ ["_law_number"] (spec C f__law_sizes) := def_ok (k := 0) rfl F17 s__law_sizes rfl m__law_sizes hbn (fun Y hP hw hK hm hb => by
    have hL : AllNd C Y (nSs b__law_sizes) := trivial
    exact hL) h__law_sizes
  have g17 : ∀ Y : Cx, Y.prog = l.prog → Y.w = w → Y.K = K → Y.mg = mg → Y.base = base → FOk C Y f__law_sizes a17_ _ ["_law_number"] ([] : List V) ([] : List Value) := fun Y hP hw hK hm hb => by
    obtain ⟨prog, w0, K0, mg0, base0, A, N, s_0, H_0, env, outer, stack, ex, fn, calm, pn, xe⟩ := Y
    cases hP; cases hw; cases hK; cases hm; cases hb
    exact ⟨rfl, rfl, .nil, fun _ _ _ => ⟨rfl, rfl⟩, b17, o17⟩
  have n17 : ∀ Y : Cx, Y.prog = l.prog → Y.w = w → Y.K = K → Y.mg = mg → Y.base = base → NdOk C Y (.fe f__law_sizes) := fun Y hP hw hK hm hb =>
    ⟨a17_, _, _, ([] : List V), ([] : List Value), by rw [hm]; exact PySem.W.mg_of KX G a17, by rw [hK]; exact kp17, g17 Y hP hw hK hm hb⟩
  have o18 : FnOk l.prog w K mg base (L2.CX l.prog w) f_Table_names.lv a18_ _ ["self"] (spec C f_Table_names) := def_ok (k := 0) rfl F18 s_Table_names rfl m_Table_names hbn (fun Y hP hw hK hm hb => by
    have hL : AllNd C Y (nSs b_Table_names) := ⟨(show ∀ c ∈ ([11] : List Nat), Cls Y.K (C.ca c) ∧ NoAttr Y.K (C.ca c) "row" from by rw [hK]; exact all_cons (⟨⟨pg11, hd11, po11, sa11⟩, na11_row⟩) ((fun _ z => nomatch z))), trivial⟩
    exact hL) h_Table_names
  have g18 : ∀ Y : Cx, Y.prog = l.prog → Y.w = w → Y.K = K → Y.mg = mg → Y.base = base → FOk C Y f_Table_names a18_ _ ["self"] ([] : List V) ([] : List Value) := fun Y hP hw hK hm hb => by
    obtain ⟨prog, w0, K0, mg0, base0, A, N, s_0, H_0, env, outer, stack, ex, fn, calm, pn, xe⟩ := Y
    cases hP; cases hw; cases hK; cases hm; cases hb
    exact ⟨rfl, rfl, .nil, fun _ _ _ => ⟨rfl, rfl⟩, b18, o18⟩
  have o19 : FnOk l.prog w K mg base (L2.CX l.prog w) f_Table_sizes.lv a19_ _ ["self"] (spec C f_Table_sizes) := def_ok (k := 0) rfl F19 s_Table_sizes rfl m_Table_sizes hbn (fun Y hP hw hK hm hb => by
    have hL : AllNd C Y (nSs b_Table_sizes) := ⟨(show ∀ c ∈ ([11] : List Nat), Cls Y.K (C.ca c) ∧ NoAttr Y.K (C.ca c) "counts" from by rw [hK]; exact all_cons (⟨⟨pg11, hd11, po11, sa11⟩, na11_counts⟩) ((fun _ z => nomatch z))), trivial⟩
    exact hL) h_Table_sizes
  have g19 : ∀ Y : Cx, Y.prog = l.prog → Y.w = w → Y.K = K → Y.mg = mg → Y.base = base → FOk C Y f_Table_sizes a19_ _ ["self"] ([] : List V) ([] : List Value) := fun Y hP hw hK hm hb => by
    obtain ⟨prog, w0, K0, mg0, base0, A, N, s_0, H_0, env, outer, stack, ex, fn, calm, pn, xe⟩ := Y
    cases hP; cases hw; cases hK; cases hm; cases hb
    exact ⟨rfl, rfl, .nil, fun _ _ _ => ⟨rfl, rfl⟩, b19, o19⟩
  have o20 : FnOk l.prog w K mg base (L2.CX l.prog w) f_Table_shares.lv a20_ _ ["self"] (spec C f_Table_shares) := def_ok (k := 0) rfl F20 s_Table_shares rfl m_Table_shares hbn (fun Y hP hw hK hm hb => by
    have hL : AllNd C Y (nSs b_Table_shares) := ⟨(show ∀ c ∈ ([11] : List Nat), Cls Y.K (C.ca c) ∧ NoAttr Y.K (C.ca c) "cells" from by rw [hK]; exact all_cons (⟨⟨pg11, hd11, po11, sa11⟩, na11_cells⟩) ((fun _ z => nomatch z))), trivial⟩
    exact hL) h_Table_shares
  have g20 : ∀ Y : Cx, Y.prog = l.prog → Y.w = w → Y.K = K → Y.mg = mg → Y.base = base → FOk C Y f_Table_shares a20_ _ ["self"] ([] : List V) ([] : List Value) := fun Y hP hw hK hm hb => by
    obtain ⟨prog, w0, K0, mg0, base0, A, N, s_0, H_0, env, outer, stack, ex, fn, calm, pn, xe⟩ := Y
    cases hP; cases hw; cases hK; cases hm; cases hb
    exact ⟨rfl, rfl, .nil, fun _ _ _ => ⟨rfl, rfl⟩, b20, o20⟩
  have o21 : FnOk l.prog w K mg base (L2.CX l.prog w) f__law_is.lv a21_ _ ["_law_found", "_law_own"] (spec C f__law_is) := def_ok (k := 1) rfl F21 s__law_is rfl m__law_is hbn (fun Y hP hw hK hm hb => by
    have hL : AllNd C Y (nSs b__law_is) := ⟨(⟨fun k z => by cases z; exact ⟨by rw [hm]; exact PySem.W.mg_of KX G ac11, by rw [hK]; exact all_cons (kt83) (all_cons (kt84) (all_cons (kt85) (all_cons (kt86) (all_cons (kt87) (all_cons (kt88) (all_cons (kt89) ((fun _ z => nomatch z))))))))⟩, by rw [hK]; exact (fun _ z => nomatch z), by rw [hK]; exact all_cons (⟨kt82, ⟨pg11, hd11, po11, sa11⟩, ea11, en, et, em11⟩) ((fun _ z => nomatch z))⟩ : NdOk C Y (.isi (.c 11) "Table" [] [(11, true)])), (⟨a18_, _, _, ([] : List V), ([] : List Value), by rw [hK]; exact ⟨pg11, hd11, po11, sa11⟩, by rw [hK]; exact ⟨f18_11, if18, kp18⟩, g18 Y hP hw hK hm hb⟩ : NdOk C Y (.me 11 "names" f_Table_names)), (⟨a19_, _, _, ([] : List V), ([] : List Value), by rw [hK]; exact ⟨pg11, hd11, po11, sa11⟩, by rw [hK]; exact ⟨f19_11, if19, kp19⟩, g19 Y hP hw hK hm hb⟩ : NdOk C Y (.me 11 "sizes" f_Table_sizes)), (⟨a20_, _, _, ([] : List V), ([] : List Value), by rw [hK]; exact ⟨pg11, hd11, po11, sa11⟩, by rw [hK]; exact ⟨f20_11, if20, kp20⟩, g20 Y hP hw hK hm hb⟩ : NdOk C Y (.me 11 "shares" f_Table_shares)), (⟨fun k z => (nomatch z), by rw [hK]; exact (fun _ z => nomatch z), by rw [hK]; exact (fun _ z => nomatch z)⟩ : NdOk C Y (.isi (.b "list") "list" [] [])), n14 Y hP hw hK hm hb, (⟨fun k z => (nomatch z), by rw [hK]; exact (fun _ z => nomatch z), by rw [hK]; exact (fun _ z => nomatch z)⟩ : NdOk C Y (.isi (.b "tuple") "tuple" [] [])), trivial⟩
    exact hL) h__law_is
  have g21 : ∀ Y : Cx, Y.prog = l.prog → Y.w = w → Y.K = K → Y.mg = mg → Y.base = base → FOk C Y f__law_is a21_ _ ["_law_found", "_law_own"] ([] : List V) ([] : List Value) := fun Y hP hw hK hm hb => by
    obtain ⟨prog, w0, K0, mg0, base0, A, N, s_0, H_0, env, outer, stack, ex, fn, calm, pn, xe⟩ := Y
    cases hP; cases hw; cases hK; cases hm; cases hb
    exact ⟨rfl, rfl, .nil, fun _ _ _ => ⟨rfl, rfl⟩, b21, o21⟩
  have n21 : ∀ Y : Cx, Y.prog = l.prog → Y.w = w → Y.K = K → Y.mg = mg → Y.base = base → NdOk C Y (.fe f__law_is) := fun Y hP hw hK hm hb =>
    ⟨a21_, _, _, ([] : List V), ([] : List Value), by rw [hm]; exact PySem.W.mg_of KX G a21, by rw [hK]; exact kp21, g21 Y hP hw hK hm hb⟩
  have o22 : FnOk l.prog w K mg base (L2.CX l.prog w) f__law_word.lv a22_ _ ["_law_e"] (spec C f__law_word) := def_ok (k := 0) rfl F22 s__law_word rfl m__law_word hbn (fun Y hP hw hK hm hb => by
    have hL : AllNd C Y (nSs b__law_word) := ⟨(⟨fun k z => by cases z; exact ⟨by rw [hm]; exact PySem.W.mg_of KX G ac9, by rw [hK]; exact all_cons (kt2) (all_cons (kt3) (all_cons (kt4) (all_cons (kt5) (all_cons (kt6) (all_cons (kt7) (all_cons (kt8) ((fun _ z => nomatch z))))))))⟩, by rw [hK]; exact all_cons (⟨kt1, ec2⟩) ((fun _ z => nomatch z)), by rw [hK]; exact (fun _ z => nomatch z)⟩ : NdOk C Y (.isi (.c 9) "Asked" [(2, false)] [])), (⟨fun k z => by cases z; exact ⟨by rw [hm]; exact PySem.W.mg_of KX G ac8, by rw [hK]; exact all_cons (kt10) (all_cons (kt11) (all_cons (kt12) (all_cons (kt13) (all_cons (kt14) (all_cons (kt15) (all_cons (kt16) ((fun _ z => nomatch z))))))))⟩, by rw [hK]; exact all_cons (⟨kt9, ec2⟩) ((fun _ z => nomatch z)), by rw [hK]; exact (fun _ z => nomatch z)⟩ : NdOk C Y (.isi (.c 8) "BadOrder" [(2, false)] [])), (⟨fun k z => by cases z; exact ⟨by rw [hm]; exact PySem.W.mg_of KX G ac7, by rw [hK]; exact all_cons (kt18) (all_cons (kt19) (all_cons (kt20) (all_cons (kt21) (all_cons (kt22) (all_cons (kt23) (all_cons (kt24) ((fun _ z => nomatch z))))))))⟩, by rw [hK]; exact all_cons (⟨kt17, ec2⟩) ((fun _ z => nomatch z)), by rw [hK]; exact (fun _ z => nomatch z)⟩ : NdOk C Y (.isi (.c 7) "NoKind" [(2, false)] [])), (⟨fun k z => by cases z; exact ⟨by rw [hm]; exact PySem.W.mg_of KX G ac10, by rw [hK]; exact all_cons (kt26) (all_cons (kt27) (all_cons (kt28) (all_cons (kt29) (all_cons (kt30) (all_cons (kt31) (all_cons (kt32) ((fun _ z => nomatch z))))))))⟩, by rw [hK]; exact all_cons (⟨kt25, ec2⟩) ((fun _ z => nomatch z)), by rw [hK]; exact (fun _ z => nomatch z)⟩ : NdOk C Y (.isi (.c 10) "NoLine" [(2, false)] [])), (⟨fun k z => by cases z; exact ⟨by rw [hm]; exact PySem.W.mg_of KX G ac1, by rw [hK]; exact all_cons (kt34) (all_cons (kt35) (all_cons (kt36) (all_cons (kt37) (all_cons (kt38) (all_cons (kt39) (all_cons (kt40) ((fun _ z => nomatch z))))))))⟩, by rw [hK]; exact all_cons (⟨kt33, ec2⟩) ((fun _ z => nomatch z)), by rw [hK]; exact (fun _ z => nomatch z)⟩ : NdOk C Y (.isi (.c 1) "NoShare" [(2, false)] [])), (⟨fun k z => by cases z; exact ⟨by rw [hm]; exact PySem.W.mg_of KX G ac6, by rw [hK]; exact all_cons (kt42) (all_cons (kt43) (all_cons (kt44) (all_cons (kt45) (all_cons (kt46) (all_cons (kt47) (all_cons (kt48) ((fun _ z => nomatch z))))))))⟩, by rw [hK]; exact all_cons (⟨kt41, ec2⟩) ((fun _ z => nomatch z)), by rw [hK]; exact (fun _ z => nomatch z)⟩ : NdOk C Y (.isi (.c 6) "NoThing" [(2, false)] [])), (⟨fun k z => by cases z; exact ⟨by rw [hm]; exact PySem.W.mg_of KX G ac5, by rw [hK]; exact all_cons (kt50) (all_cons (kt51) (all_cons (kt52) (all_cons (kt53) (all_cons (kt54) (all_cons (kt55) (all_cons (kt56) ((fun _ z => nomatch z))))))))⟩, by rw [hK]; exact all_cons (⟨kt49, ec2⟩) ((fun _ z => nomatch z)), by rw [hK]; exact (fun _ z => nomatch z)⟩ : NdOk C Y (.isi (.c 5) "NoWeb" [(2, false)] [])), (⟨fun k z => by cases z; exact ⟨by rw [hm]; exact PySem.W.mg_of KX G ac4, by rw [hK]; exact all_cons (kt58) (all_cons (kt59) (all_cons (kt60) (all_cons (kt61) (all_cons (kt62) (all_cons (kt63) (all_cons (kt64) ((fun _ z => nomatch z))))))))⟩, by rw [hK]; exact all_cons (⟨kt57, ec2⟩) ((fun _ z => nomatch z)), by rw [hK]; exact (fun _ z => nomatch z)⟩ : NdOk C Y (.isi (.c 4) "NoWorld" [(2, false)] [])), (⟨fun k z => by cases z; exact ⟨by rw [hm]; exact PySem.W.mg_of KX G ac3, by rw [hK]; exact all_cons (kt66) (all_cons (kt67) (all_cons (kt68) (all_cons (kt69) (all_cons (kt70) (all_cons (kt71) (all_cons (kt72) ((fun _ z => nomatch z))))))))⟩, by rw [hK]; exact all_cons (⟨kt65, ec2⟩) ((fun _ z => nomatch z)), by rw [hK]; exact (fun _ z => nomatch z)⟩ : NdOk C Y (.isi (.c 3) "TooWide" [(2, false)] [])), (⟨fun k z => (nomatch z), by rw [hK]; exact all_cons (⟨kt73, ec2⟩) ((fun _ z => nomatch z)), by rw [hK]; exact (fun _ z => nomatch z)⟩ : NdOk C Y (.isi (.b "ValueError") "ValueError" [(2, true)] [])), (⟨fun k z => by cases z; exact ⟨by rw [hm]; exact PySem.W.mg_of KX G ac2, by rw [hK]; exact all_cons (kt75) (all_cons (kt76) (all_cons (kt77) (all_cons (kt78) (all_cons (kt79) (all_cons (kt80) (all_cons (kt81) ((fun _ z => nomatch z))))))))⟩, by rw [hK]; exact all_cons (⟨kt74, ec2⟩) ((fun _ z => nomatch z)), by rw [hK]; exact (fun _ z => nomatch z)⟩ : NdOk C Y (.isi (.c 2) "BadTable" [(2, true)] [])), trivial⟩
    exact hL) h__law_word
  have g22 : ∀ Y : Cx, Y.prog = l.prog → Y.w = w → Y.K = K → Y.mg = mg → Y.base = base → FOk C Y f__law_word a22_ _ ["_law_e"] ([] : List V) ([] : List Value) := fun Y hP hw hK hm hb => by
    obtain ⟨prog, w0, K0, mg0, base0, A, N, s_0, H_0, env, outer, stack, ex, fn, calm, pn, xe⟩ := Y
    cases hP; cases hw; cases hK; cases hm; cases hb
    exact ⟨rfl, rfl, .nil, fun _ _ _ => ⟨rfl, rfl⟩, b22, o22⟩
  have n22 : ∀ Y : Cx, Y.prog = l.prog → Y.w = w → Y.K = K → Y.mg = mg → Y.base = base → NdOk C Y (.fe f__law_word) := fun Y hP hw hK hm hb =>
    ⟨a22_, _, _, ([] : List V), ([] : List Value), by rw [hm]; exact PySem.W.mg_of KX G a22, by rw [hK]; exact kp22, g22 Y hP hw hK hm hb⟩
  have o23 : FnOk l.prog w K mg base (L2.CX l.prog w) f_Table_at.lv a23_ _ ["self", "place"] (spec C f_Table_at) := def_ok (k := 1) rfl F23 s_Table_at rfl m_Table_at hbn (fun Y hP hw hK hm hb => by
    have hL : AllNd C Y (nSs b_Table_at) := ⟨n5 Y hP hw hK hm hb, (⟨fun k z => (nomatch z), by rw [hK]; exact (fun _ z => nomatch z), by rw [hK]; exact (fun _ z => nomatch z)⟩ : NdOk C Y (.isi (.b "tuple") "tuple" [] [])), (show ∀ c ∈ ([11] : List Nat), Cls Y.K (C.ca c) ∧ NoAttr Y.K (C.ca c) "row" from by rw [hK]; exact all_cons (⟨⟨pg11, hd11, po11, sa11⟩, na11_row⟩) ((fun _ z => nomatch z))), n5 Y hP hw hK hm hb, (show ∀ c ∈ ([11] : List Nat), Cls Y.K (C.ca c) ∧ NoAttr Y.K (C.ca c) "counts" from by rw [hK]; exact all_cons (⟨⟨pg11, hd11, po11, sa11⟩, na11_counts⟩) ((fun _ z => nomatch z))), n4 Y hP hw hK hm hb, (show ∀ c ∈ ([11] : List Nat), Cls Y.K (C.ca c) ∧ NoAttr Y.K (C.ca c) "cells" from by rw [hK]; exact all_cons (⟨⟨pg11, hd11, po11, sa11⟩, na11_cells⟩) ((fun _ z => nomatch z))), n9 Y hP hw hK hm hb, (show ∀ c ∈ ([11] : List Nat), Cls Y.K (C.ca c) ∧ NoAttr Y.K (C.ca c) "counts" from by rw [hK]; exact all_cons (⟨⟨pg11, hd11, po11, sa11⟩, na11_counts⟩) ((fun _ z => nomatch z))), trivial⟩
    exact hL) h_Table_at
  have g23 : ∀ Y : Cx, Y.prog = l.prog → Y.w = w → Y.K = K → Y.mg = mg → Y.base = base → FOk C Y f_Table_at a23_ _ ["self", "place"] ([] : List V) ([] : List Value) := fun Y hP hw hK hm hb => by
    obtain ⟨prog, w0, K0, mg0, base0, A, N, s_0, H_0, env, outer, stack, ex, fn, calm, pn, xe⟩ := Y
    cases hP; cases hw; cases hK; cases hm; cases hb
    exact ⟨rfl, rfl, .nil, fun _ _ _ => ⟨rfl, rfl⟩, b23, o23⟩
  have o24 : FnOk l.prog w K mg base (L2.CX l.prog w) f__law_no_place.lv a24_ _ ["_law_table", "_law_place"] (spec C f__law_no_place) := def_ok (k := 2) rfl F24 s__law_no_place rfl m__law_no_place hbn (fun Y hP hw hK hm hb => by
    have hL : AllNd C Y (nSs b__law_no_place) := ⟨(⟨by rw [hm]; exact PySem.W.mg_of KX G ac0, by rw [hK]; exact all_cons (kt0) ((fun _ z => nomatch z))⟩ : NdOk C Y (.tr 0 "OddsError" [(2, true)])), (⟨a23_, _, _, ([] : List V), ([] : List Value), by rw [hK]; exact ⟨pg11, hd11, po11, sa11⟩, by rw [hK]; exact ⟨f23_11, if23, kp23⟩, g23 Y hP hw hK hm hb⟩ : NdOk C Y (.me 11 "at" f_Table_at)), n22 Y hP hw hK hm hb, trivial⟩
    exact hL) h__law_no_place
  have g24 : ∀ Y : Cx, Y.prog = l.prog → Y.w = w → Y.K = K → Y.mg = mg → Y.base = base → FOk C Y f__law_no_place a24_ _ ["_law_table", "_law_place"] ([] : List V) ([] : List Value) := fun Y hP hw hK hm hb => by
    obtain ⟨prog, w0, K0, mg0, base0, A, N, s_0, H_0, env, outer, stack, ex, fn, calm, pn, xe⟩ := Y
    cases hP; cases hw; cases hK; cases hm; cases hb
    exact ⟨rfl, rfl, .nil, fun _ _ _ => ⟨rfl, rfl⟩, b24, o24⟩
  have n24 : ∀ Y : Cx, Y.prog = l.prog → Y.w = w → Y.K = K → Y.mg = mg → Y.base = base → NdOk C Y (.fe f__law_no_place) := fun Y hP hw hK hm hb =>
    ⟨a24_, _, _, ([] : List V), ([] : List Value), by rw [hm]; exact PySem.W.mg_of KX G a24, by rw [hK]; exact kp24, g24 Y hP hw hK hm hb⟩
  have o25 : FnOk l.prog w K mg base (L2.CX l.prog w) f__law_odd_place.lv a25_ _ ["_law_own", "_law_number"] (spec C f__law_odd_place) := def_ok (k := 0) rfl F25 s__law_odd_place rfl m__law_odd_place hbn (fun Y hP hw hK hm hb => by
    have hL : AllNd C Y (nSs b__law_odd_place) := trivial
    exact hL) h__law_odd_place
  have g25 : ∀ Y : Cx, Y.prog = l.prog → Y.w = w → Y.K = K → Y.mg = mg → Y.base = base → FOk C Y f__law_odd_place a25_ _ ["_law_own", "_law_number"] ([] : List V) ([] : List Value) := fun Y hP hw hK hm hb => by
    obtain ⟨prog, w0, K0, mg0, base0, A, N, s_0, H_0, env, outer, stack, ex, fn, calm, pn, xe⟩ := Y
    cases hP; cases hw; cases hK; cases hm; cases hb
    exact ⟨rfl, rfl, .nil, fun _ _ _ => ⟨rfl, rfl⟩, b25, o25⟩
  have n25 : ∀ Y : Cx, Y.prog = l.prog → Y.w = w → Y.K = K → Y.mg = mg → Y.base = base → NdOk C Y (.fe f__law_odd_place) := fun Y hP hw hK hm hb =>
    ⟨a25_, _, _, ([] : List V), ([] : List Value), by rw [hm]; exact PySem.W.mg_of KX G a25, by rw [hK]; exact kp25, g25 Y hP hw hK hm hb⟩
  have o26 : FnOk l.prog w K mg base (L2.CX l.prog w) f_Table_places.lv a26_ _ ["self"] (spec C f_Table_places) := def_ok (k := 1) rfl F26 s_Table_places rfl m_Table_places hbn (fun Y hP hw hK hm hb => by
    have hL : AllNd C Y (nSs b_Table_places) := ⟨n8 Y hP hw hK hm hb, (show ∀ c ∈ ([11] : List Nat), Cls Y.K (C.ca c) ∧ NoAttr Y.K (C.ca c) "counts" from by rw [hK]; exact all_cons (⟨⟨pg11, hd11, po11, sa11⟩, na11_counts⟩) ((fun _ z => nomatch z))), trivial⟩
    exact hL) h_Table_places
  have g26 : ∀ Y : Cx, Y.prog = l.prog → Y.w = w → Y.K = K → Y.mg = mg → Y.base = base → FOk C Y f_Table_places a26_ _ ["self"] ([] : List V) ([] : List Value) := fun Y hP hw hK hm hb => by
    obtain ⟨prog, w0, K0, mg0, base0, A, N, s_0, H_0, env, outer, stack, ex, fn, calm, pn, xe⟩ := Y
    cases hP; cases hw; cases hK; cases hm; cases hb
    exact ⟨rfl, rfl, .nil, fun _ _ _ => ⟨rfl, rfl⟩, b26, o26⟩
  have o27 : FnOk l.prog w K mg base (L2.CX l.prog w) f__law_right.lv a27_ _ ["_law_table", "_law_own", "_law_number"] (spec C f__law_right) := def_ok (k := 2) rfl F27 s__law_right rfl m__law_right hbn (fun Y hP hw hK hm hb => by
    have hL : AllNd C Y (nSs b__law_right) := ⟨n14 Y hP hw hK hm hb, (⟨a18_, _, _, ([] : List V), ([] : List Value), by rw [hK]; exact ⟨pg11, hd11, po11, sa11⟩, by rw [hK]; exact ⟨f18_11, if18, kp18⟩, g18 Y hP hw hK hm hb⟩ : NdOk C Y (.me 11 "names" f_Table_names)), (⟨a19_, _, _, ([] : List V), ([] : List Value), by rw [hK]; exact ⟨pg11, hd11, po11, sa11⟩, by rw [hK]; exact ⟨f19_11, if19, kp19⟩, g19 Y hP hw hK hm hb⟩ : NdOk C Y (.me 11 "sizes" f_Table_sizes)), (⟨a20_, _, _, ([] : List V), ([] : List Value), by rw [hK]; exact ⟨pg11, hd11, po11, sa11⟩, by rw [hK]; exact ⟨f20_11, if20, kp20⟩, g20 Y hP hw hK hm hb⟩ : NdOk C Y (.me 11 "shares" f_Table_shares)), (⟨a26_, _, _, ([] : List V), ([] : List Value), by rw [hK]; exact ⟨pg11, hd11, po11, sa11⟩, by rw [hK]; exact ⟨f26_11, if26, kp26⟩, g26 Y hP hw hK hm hb⟩ : NdOk C Y (.me 11 "places" f_Table_places)), (⟨fun k z => (nomatch z), by rw [hK]; exact (fun _ z => nomatch z), by rw [hK]; exact (fun _ z => nomatch z)⟩ : NdOk C Y (.isi (.b "list") "list" [] [])), (⟨fun k z => (nomatch z), by rw [hK]; exact (fun _ z => nomatch z), by rw [hK]; exact (fun _ z => nomatch z)⟩ : NdOk C Y (.isi (.b "tuple") "tuple" [] [])), (⟨a23_, _, _, ([] : List V), ([] : List Value), by rw [hK]; exact ⟨pg11, hd11, po11, sa11⟩, by rw [hK]; exact ⟨f23_11, if23, kp23⟩, g23 Y hP hw hK hm hb⟩ : NdOk C Y (.me 11 "at" f_Table_at)), (⟨fun k z => (nomatch z), by rw [hK]; exact (fun _ z => nomatch z), by rw [hK]; exact (fun _ z => nomatch z)⟩ : NdOk C Y (.isi (.b "tuple") "tuple" [] [])), (⟨a18_, _, _, ([] : List V), ([] : List Value), by rw [hK]; exact ⟨pg11, hd11, po11, sa11⟩, by rw [hK]; exact ⟨f18_11, if18, kp18⟩, g18 Y hP hw hK hm hb⟩ : NdOk C Y (.me 11 "names" f_Table_names)), (⟨a19_, _, _, ([] : List V), ([] : List Value), by rw [hK]; exact ⟨pg11, hd11, po11, sa11⟩, by rw [hK]; exact ⟨f19_11, if19, kp19⟩, g19 Y hP hw hK hm hb⟩ : NdOk C Y (.me 11 "sizes" f_Table_sizes)), (⟨a20_, _, _, ([] : List V), ([] : List Value), by rw [hK]; exact ⟨pg11, hd11, po11, sa11⟩, by rw [hK]; exact ⟨f20_11, if20, kp20⟩, g20 Y hP hw hK hm hb⟩ : NdOk C Y (.me 11 "shares" f_Table_shares)), (⟨a26_, _, _, ([] : List V), ([] : List Value), by rw [hK]; exact ⟨pg11, hd11, po11, sa11⟩, by rw [hK]; exact ⟨f26_11, if26, kp26⟩, g26 Y hP hw hK hm hb⟩ : NdOk C Y (.me 11 "places" f_Table_places)), trivial⟩
    exact hL) h__law_right
  have g27 : ∀ Y : Cx, Y.prog = l.prog → Y.w = w → Y.K = K → Y.mg = mg → Y.base = base → FOk C Y f__law_right a27_ _ ["_law_table", "_law_own", "_law_number"] ([] : List V) ([] : List Value) := fun Y hP hw hK hm hb => by
    obtain ⟨prog, w0, K0, mg0, base0, A, N, s_0, H_0, env, outer, stack, ex, fn, calm, pn, xe⟩ := Y
    cases hP; cases hw; cases hK; cases hm; cases hb
    exact ⟨rfl, rfl, .nil, fun _ _ _ => ⟨rfl, rfl⟩, b27, o27⟩
  have n27 : ∀ Y : Cx, Y.prog = l.prog → Y.w = w → Y.K = K → Y.mg = mg → Y.base = base → NdOk C Y (.fe f__law_right) := fun Y hP hw hK hm hb =>
    ⟨a27_, _, _, ([] : List V), ([] : List Value), by rw [hm]; exact PySem.W.mg_of KX G a27, by rw [hK]; exact kp27, g27 Y hP hw hK hm hb⟩
  have o28 : FnOk l.prog w K mg base (L2.CX l.prog w) f_Table___init__.lv a28_ _ ["self", "names", "sizes", "shares"] (spec C f_Table___init__) := def_ok (k := 2) rfl F28 s_Table___init__ rfl m_Table___init__ hbn (fun Y hP hw hK hm hb => by
    have hL : AllNd C Y (nSs b_Table___init__) := ⟨n5 Y hP hw hK hm hb, (⟨fun k z => (nomatch z), by rw [hK]; exact (fun _ z => nomatch z), by rw [hK]; exact (fun _ z => nomatch z)⟩ : NdOk C Y (.isi (.b "list") "list" [] [])), (⟨fun k z => (nomatch z), by rw [hK]; exact (fun _ z => nomatch z), by rw [hK]; exact (fun _ z => nomatch z)⟩ : NdOk C Y (.isi (.b "list") "list" [] [])), n5 Y hP hw hK hm hb, (⟨rfl, rfl, .int 10, .int 10 gu0, by rw [hm]; exact PySem.W.mg_of KX G gg0, ⟨_, rfl⟩, fun _ _ _ => ⟨rfl, rfl⟩⟩ : NdOk C Y (.gl "MOST_NAMES" (.int 10))), n3 Y hP hw hK hm hb, n5 Y hP hw hK hm hb, n4 Y hP hw hK hm hb, (⟨rfl, rfl, .int 4, .int 4 gu1, by rw [hm]; exact PySem.W.mg_of KX G gg1, ⟨_, rfl⟩, fun _ _ _ => ⟨rfl, rfl⟩⟩ : NdOk C Y (.gl "MOST_SIZE" (.int 4))), n7 Y hP hw hK hm hb, n5 Y hP hw hK hm hb, (⟨fun k z => (nomatch z), by rw [hK]; exact (fun _ z => nomatch z), by rw [hK]; exact (fun _ z => nomatch z)⟩ : NdOk C Y (.isi (.b "list") "list" [] [])), n6 Y hP hw hK hm hb, n2 Y hP hw hK hm hb, (show ∀ c ∈ ([11] : List Nat), Cls Y.K (C.ca c) ∧ NoAttr Y.K (C.ca c) "row" from by rw [hK]; exact all_cons (⟨⟨pg11, hd11, po11, sa11⟩, na11_row⟩) ((fun _ z => nomatch z))), (show ∀ c ∈ ([11] : List Nat), Cls Y.K (C.ca c) ∧ NoAttr Y.K (C.ca c) "counts" from by rw [hK]; exact all_cons (⟨⟨pg11, hd11, po11, sa11⟩, na11_counts⟩) ((fun _ z => nomatch z))), (show ∀ c ∈ ([11] : List Nat), Cls Y.K (C.ca c) ∧ NoAttr Y.K (C.ca c) "cells" from by rw [hK]; exact all_cons (⟨⟨pg11, hd11, po11, sa11⟩, na11_cells⟩) ((fun _ z => nomatch z))), trivial⟩
    exact hL) h_Table___init__
  have g28 : ∀ Y : Cx, Y.prog = l.prog → Y.w = w → Y.K = K → Y.mg = mg → Y.base = base → FOk C Y f_Table___init__ a28_ _ ["self", "names", "sizes", "shares"] ([] : List V) ([] : List Value) := fun Y hP hw hK hm hb => by
    obtain ⟨prog, w0, K0, mg0, base0, A, N, s_0, H_0, env, outer, stack, ex, fn, calm, pn, xe⟩ := Y
    cases hP; cases hw; cases hK; cases hm; cases hb
    exact ⟨rfl, rfl, .nil, fun _ _ _ => ⟨rfl, rfl⟩, b28, o28⟩
  have o29 : FnOk l.prog w K mg base (L2.CX l.prog w) f_law.lv a29_ _ ["_law_script"] (spec C f_law) := def_ok (k := 4) rfl F29 s_law rfl m_law hbn (fun Y hP hw hK hm hb => by
    have hL : AllNd C Y (nSs b_law) := ⟨n12 Y hP hw hK hm hb, n11 Y hP hw hK hm hb, n10 Y hP hw hK hm hb, n17 Y hP hw hK hm hb, n11 Y hP hw hK hm hb, n10 Y hP hw hK hm hb, n11 Y hP hw hK hm hb, n16 Y hP hw hK hm hb, n14 Y hP hw hK hm hb, (⟨a28_, _, _, ([] : List V), ([] : List Value), by rw [hm]; exact PySem.W.mg_of KX G ac11, by rw [hK]; exact ⟨mi11, f28_11, if28, kc11⟩, g28 Y hP hw hK hm hb⟩ : NdOk C Y (.mk 11 "Table" f_Table___init__)), n27 Y hP hw hK hm hb, n24 Y hP hw hK hm hb, n25 Y hP hw hK hm hb, n21 Y hP hw hK hm hb, (⟨a26_, _, _, ([] : List V), ([] : List Value), by rw [hK]; exact ⟨pg11, hd11, po11, sa11⟩, by rw [hK]; exact ⟨f26_11, if26, kp26⟩, g26 Y hP hw hK hm hb⟩ : NdOk C Y (.me 11 "places" f_Table_places)), (⟨a28_, _, _, ([] : List V), ([] : List Value), by rw [hm]; exact PySem.W.mg_of KX G ac11, by rw [hK]; exact ⟨mi11, f28_11, if28, kc11⟩, g28 Y hP hw hK hm hb⟩ : NdOk C Y (.mk 11 "Table" f_Table___init__)), (⟨a23_, _, _, ([] : List V), ([] : List Value), by rw [hK]; exact ⟨pg11, hd11, po11, sa11⟩, by rw [hK]; exact ⟨f23_11, if23, kp23⟩, g23 Y hP hw hK hm hb⟩ : NdOk C Y (.me 11 "at" f_Table_at)), (⟨a28_, _, _, ([] : List V), ([] : List Value), by rw [hm]; exact PySem.W.mg_of KX G ac11, by rw [hK]; exact ⟨mi11, f28_11, if28, kc11⟩, g28 Y hP hw hK hm hb⟩ : NdOk C Y (.mk 11 "Table" f_Table___init__)), trivial⟩
    exact hL) h_law
  exact o29.imp (spL_imp (C := C) rfl fun ns hl => law_holds ns hl)
end TT.Law
open PySem PySem.W PyProof.Rows
set_option maxRecDepth 100000 in
set_option maxHeartbeats 0 in
theorem PySem.Challenge.cw_oddsweb_k04_tables_made_holds : PySem.Challenge.rw_oddsweb_k04_tables_made.Holds := by
  w_on; o_law; k_head; (case hw => w_witness2)
  k_fill
  refine TT.walk (l := PySem.Challenge.rw_oddsweb_k04_tables_made) (x := "_law_script") rfl rfl (fun w h Y => PySem.W.kIn_of Y) (k := 5) (TT.room_by (by decide +kernel)) ?F
  case F =>
    intro w mg fa h KX G hmg
    refine' TT.Law.all_mk KX G hmg ?ac0 ?ac1 ?ac2 ?ac3 ?ac4 ?ac5 ?ac6 ?ac7 ?ac8 ?ac9 ?ac10 ?ac11 ?x2 ?kc2 ?sb2 ?ty2 ?x3 ?kc3 ?sb3 ?ty3 ?eg2 ?ek2 ?ed2 ?ea2 ?em2 ?pg11 ?hd11 ?po11 ?sa11 ?ea11 ?em11 ?mi11 ?kc11 ?na11_cells ?na11_counts ?na11_row ?en ?et ?kt0 ?kt1 ?kt2 ?kt3 ?kt4 ?kt5 ?kt6 ?kt7 ?kt8 ?kt9 ?kt10 ?kt11 ?kt12 ?kt13 ?kt14 ?kt15 ?kt16 ?kt17 ?kt18 ?kt19 ?kt20 ?kt21 ?kt22 ?kt23 ?kt24 ?kt25 ?kt26 ?kt27 ?kt28 ?kt29 ?kt30 ?kt31 ?kt32 ?kt33 ?kt34 ?kt35 ?kt36 ?kt37 ?kt38 ?kt39 ?kt40 ?kt41 ?kt42 ?kt43 ?kt44 ?kt45 ?kt46 ?kt47 ?kt48 ?kt49 ?kt50 ?kt51 ?kt52 ?kt53 ?kt54 ?kt55 ?kt56 ?kt57 ?kt58 ?kt59 ?kt60 ?kt61 ?kt62 ?kt63 ?kt64 ?kt65 ?kt66 ?kt67 ?kt68 ?kt69 ?kt70 ?kt71 ?kt72 ?kt73 ?kt74 ?kt75 ?kt76 ?kt77 ?kt78 ?kt79 ?kt80 ?kt81 ?kt82 ?kt83 ?kt84 ?kt85 ?kt86 ?kt87 ?kt88 ?kt89 ?a0 ?l0 ?cd0_ ?kp0 ?a1 ?l1 ?cd1_ ?kp1 ?a2 ?l2 ?cd2_ ?kp2 ?a3 ?l3 ?cd3_ ?kp3 ?a4 ?l4 ?cd4_ ?kp4 ?a5 ?l5 ?cd5_ ?kp5 ?a6 ?l6 ?cd6_ ?kp6 ?a7 ?l7 ?cd7_ ?kp7 ?a8 ?l8 ?cd8_ ?kp8 ?a9 ?l9 ?cd9_ ?kp9 ?a10 ?l10 ?cd10_ ?kp10 ?a11 ?l11 ?cd11_ ?kp11 ?a12 ?l12 ?cd12_ ?kp12 ?a13 ?l13 ?cd13_ ?kp13 ?a14 ?l14 ?cd14_ ?kp14 ?a15 ?l15 ?cd15_ ?kp15 ?a16 ?l16 ?cd16_ ?kp16 ?a17 ?l17 ?cd17_ ?kp17 ?f18_11 ?if18 ?l18 ?cd18_ ?kp18 ?f19_11 ?if19 ?l19 ?cd19_ ?kp19 ?f20_11 ?if20 ?l20 ?cd20_ ?kp20 ?a21 ?l21 ?cd21_ ?kp21 ?a22 ?l22 ?cd22_ ?kp22 ?f23_11 ?if23 ?l23 ?cd23_ ?kp23 ?a24 ?l24 ?cd24_ ?kp24 ?a25 ?l25 ?cd25_ ?kp25 ?f26_11 ?if26 ?l26 ?cd26_ ?kp26 ?a27 ?l27 ?cd27_ ?kp27 ?f28_11 ?if28 ?l28 ?cd28_ ?kp28 ?a29 ?l29 ?cd29_ ?kp29 ?z_ValueError ?z_all ?z_bool ?z_enumerate ?z_int ?z_isinstance ?z_len ?z_list ?z_range ?z_set ?z_str ?z_tuple ?z_zip ?gg0 ?gg1 ?gg2 ?gg3 ?gg4
    (case ac0 => k_is)
    (case ac1 => k_is)
    (case ac2 => k_is)
    (case ac3 => k_is)
    (case ac4 => k_is)
    (case ac5 => k_is)
    (case ac6 => k_is)
    (case ac7 => k_is)
    (case ac8 => k_is)
    (case ac9 => k_is)
    (case ac10 => k_is)
    (case ac11 => k_is)
    (case x2 => k_exc)
    (case kc2 => k_is)
    (case sb2 => k_is)
    (case ty2 => k_is)
    (case x3 => k_exc)
    (case kc3 => k_is)
    (case sb3 => k_is)
    (case ty3 => k_is)
    (case eg2 => k_is)
    (case ek2 => k_is)
    (case ed2 => k_is)
    (case ea2 => k_is)
    (case em2 => k_is)
    (case pg11 => k_is)
    (case hd11 => k_is)
    (case po11 => k_is)
    (case sa11 => k_is)
    (case ea11 => k_is)
    (case em11 => k_is)
    (case mi11 => k_is)
    (case kc11 => k_is)
    (case na11_cells => k_is)
    (case na11_counts => k_is)
    (case na11_row => k_is)
    (case en => k_is)
    (case et => k_is)
    (case kt0 => kts_exm)
    (case kt1 => kit_is)
    (case kt2 => kit_is)
    (case kt3 => kit_is)
    (case kt4 => kit_is)
    (case kt5 => kit_is)
    (case kt6 => kit_is)
    (case kt7 => kit_is)
    (case kt8 => kit_is)
    (case kt9 => kit_is)
    (case kt10 => kit_is)
    (case kt11 => kit_is)
    (case kt12 => kit_is)
    (case kt13 => kit_is)
    (case kt14 => kit_is)
    (case kt15 => kit_is)
    (case kt16 => kit_is)
    (case kt17 => kit_is)
    (case kt18 => kit_is)
    (case kt19 => kit_is)
    (case kt20 => kit_is)
    (case kt21 => kit_is)
    (case kt22 => kit_is)
    (case kt23 => kit_is)
    (case kt24 => kit_is)
    (case kt25 => kit_is)
    (case kt26 => kit_is)
    (case kt27 => kit_is)
    (case kt28 => kit_is)
    (case kt29 => kit_is)
    (case kt30 => kit_is)
    (case kt31 => kit_is)
    (case kt32 => kit_is)
    (case kt33 => kit_is)
    (case kt34 => kit_is)
    (case kt35 => kit_is)
    (case kt36 => kit_is)
    (case kt37 => kit_is)
    (case kt38 => kit_is)
    (case kt39 => kit_is)
    (case kt40 => kit_is)
    (case kt41 => kit_is)
    (case kt42 => kit_is)
    (case kt43 => kit_is)
    (case kt44 => kit_is)
    (case kt45 => kit_is)
    (case kt46 => kit_is)
    (case kt47 => kit_is)
    (case kt48 => kit_is)
    (case kt49 => kit_is)
    (case kt50 => kit_is)
    (case kt51 => kit_is)
    (case kt52 => kit_is)
    (case kt53 => kit_is)
    (case kt54 => kit_is)
    (case kt55 => kit_is)
    (case kt56 => kit_is)
    (case kt57 => kit_is)
    (case kt58 => kit_is)
    (case kt59 => kit_is)
    (case kt60 => kit_is)
    (case kt61 => kit_is)
    (case kt62 => kit_is)
    (case kt63 => kit_is)
    (case kt64 => kit_is)
    (case kt65 => kit_is)
    (case kt66 => kit_is)
    (case kt67 => kit_is)
    (case kt68 => kit_is)
    (case kt69 => kit_is)
    (case kt70 => kit_is)
    (case kt71 => kit_is)
    (case kt72 => kit_is)
    (case kt73 => kit_is)
    (case kt74 => kit_is)
    (case kt75 => kit_is)
    (case kt76 => kit_is)
    (case kt77 => kit_is)
    (case kt78 => kit_is)
    (case kt79 => kit_is)
    (case kt80 => kit_is)
    (case kt81 => kit_is)
    (case kt82 => kit_is)
    (case kt83 => kit_is)
    (case kt84 => kit_is)
    (case kt85 => kit_is)
    (case kt86 => kit_is)
    (case kt87 => kit_is)
    (case kt88 => kit_is)
    (case kt89 => kit_is)
    (case a0 => k_is)
    (case l0 => k_is)
    (case cd0_ => k_is)
    (case kp0 => k_is)
    (case a1 => k_is)
    (case l1 => k_is)
    (case cd1_ => k_is)
    (case kp1 => k_is)
    (case a2 => k_is)
    (case l2 => k_is)
    (case cd2_ => k_is)
    (case kp2 => k_is)
    (case a3 => k_is)
    (case l3 => k_is)
    (case cd3_ => k_is)
    (case kp3 => k_is)
    (case a4 => k_is)
    (case l4 => k_is)
    (case cd4_ => k_is)
    (case kp4 => k_is)
    (case a5 => k_is)
    (case l5 => k_is)
    (case cd5_ => k_is)
    (case kp5 => k_is)
    (case a6 => k_is)
    (case l6 => k_is)
    (case cd6_ => k_is)
    (case kp6 => k_is)
    (case a7 => k_is)
    (case l7 => k_is)
    (case cd7_ => k_is)
    (case kp7 => k_is)
    (case a8 => k_is)
    (case l8 => k_is)
    (case cd8_ => k_is)
    (case kp8 => k_is)
    (case a9 => k_is)
    (case l9 => k_is)
    (case cd9_ => k_is)
    (case kp9 => k_is)
    (case a10 => k_is)
    (case l10 => k_is)
    (case cd10_ => k_is)
    (case kp10 => k_is)
    (case a11 => k_is)
    (case l11 => k_is)
    (case cd11_ => k_is)
    (case kp11 => k_is)
    (case a12 => k_is)
    (case l12 => k_is)
    (case cd12_ => k_is)
    (case kp12 => k_is)
    (case a13 => k_is)
    (case l13 => k_is)
    (case cd13_ => k_is)
    (case kp13 => k_is)
    (case a14 => k_is)
    (case l14 => k_is)
    (case cd14_ => k_is)
    (case kp14 => k_is)
    (case a15 => k_is)
    (case l15 => k_is)
    (case cd15_ => k_is)
    (case kp15 => k_is)
    (case a16 => k_is)
    (case l16 => k_is)
    (case cd16_ => k_is)
    (case kp16 => k_is)
    (case a17 => k_is)
    (case l17 => k_is)
    (case cd17_ => k_is)
    (case kp17 => k_is)
    (case f18_11 => k_is)
    (case if18 => k_is)
    (case l18 => k_is)
    (case cd18_ => k_is)
    (case kp18 => k_is)
    (case f19_11 => k_is)
    (case if19 => k_is)
    (case l19 => k_is)
    (case cd19_ => k_is)
    (case kp19 => k_is)
    (case f20_11 => k_is)
    (case if20 => k_is)
    (case l20 => k_is)
    (case cd20_ => k_is)
    (case kp20 => k_is)
    (case a21 => k_is)
    (case l21 => k_is)
    (case cd21_ => k_is)
    (case kp21 => k_is)
    (case a22 => k_is)
    (case l22 => k_is)
    (case cd22_ => k_is)
    (case kp22 => k_is)
    (case f23_11 => k_is)
    (case if23 => k_is)
    (case l23 => k_is)
    (case cd23_ => k_is)
    (case kp23 => k_is)
    (case a24 => k_is)
    (case l24 => k_is)
    (case cd24_ => k_is)
    (case kp24 => k_is)
    (case a25 => k_is)
    (case l25 => k_is)
    (case cd25_ => k_is)
    (case kp25 => k_is)
    (case f26_11 => k_is)
    (case if26 => k_is)
    (case l26 => k_is)
    (case cd26_ => k_is)
    (case kp26 => k_is)
    (case a27 => k_is)
    (case l27 => k_is)
    (case cd27_ => k_is)
    (case kp27 => k_is)
    (case f28_11 => k_is)
    (case if28 => k_is)
    (case l28 => k_is)
    (case cd28_ => k_is)
    (case kp28 => k_is)
    (case a29 => k_is)
    (case l29 => k_is)
    (case cd29_ => k_is)
    (case kp29 => k_is)
    (case z_ValueError => k_is)
    (case z_all => k_is)
    (case z_bool => k_is)
    (case z_enumerate => k_is)
    (case z_int => k_is)
    (case z_isinstance => k_is)
    (case z_len => k_is)
    (case z_list => k_is)
    (case z_range => k_is)
    (case z_set => k_is)
    (case z_str => k_is)
    (case z_tuple => k_is)
    (case z_zip => k_is)
    (case gg0 => k_is)
    (case gg1 => k_is)
    (case gg2 => k_is)
    (case gg3 => k_is)
    (case gg4 => k_is)
