import PyProof.Rows.All
import Wide.All
import OpenK.AllK
import Wide.FinOn
import HandS.ForMost
import HandS.Walk
import HandS.ForExc
import HandS.IsInst
import HandS.Wide
import HandS.ExcInit
import HandS.ExcIs
import HandS.Deep
import HandS.TupAny
import HandS.WideBits
import HandS.Style
import HandS.Defaults
import PySem.Challenge.RW_oddsweb_k03_share_texts
set_option Elab.async false
set_option linter.all false
set_option maxRecDepth 100000
set_option maxHeartbeats 4000000
namespace TT
open PySem L2
/-! ### data as trees; each node is owned by the frame, borrowed, or shared for good -/
inductive Fl where
  | own | bor | shr
  deriving DecidableEq
inductive D where
  | dead | non | bl (b : Bool) | int (i : Int) | str (x : Str) | fn (k : Nat) | scr (ns : List Int)
  | tup (fl : Fl) (xs : List D) | lst (fl : Fl) (xs : List D)
  | dk (fl : Fl) (ks : List Key) (vs : List D) | dt (fl : Fl) (ks : List (List Key)) (vs : List D)
  | ins (fl : Fl) (c : Nat) (fs : List Str) (vs : List D)
  | exn (c : Nat) (fs : List Str) (vs : List D)
mutual
/-- no node is owned -/
def noOwn : D → Bool
  | .tup fl xs => (fl != .own) && noOwns xs
  | .lst fl xs => (fl != .own) && noOwns xs
  | .dk fl _ xs => (fl != .own) && noOwns xs
  | .dt fl _ xs => (fl != .own) && noOwns xs
  | .ins fl _ _ xs => (fl != .own) && noOwns xs
  | .exn _ _ xs => noOwns xs
  | _ => true
def noOwns : List D → Bool
  | [] => true
  | x :: xs => noOwn x && noOwns xs
end
mutual
/-- no node is borrowed -/
def noBor : D → Bool
  | .tup fl xs => (fl != .bor) && noBors xs
  | .lst fl xs => (fl != .bor) && noBors xs
  | .dk fl _ xs => (fl != .bor) && noBors xs
  | .dt fl _ xs => (fl != .bor) && noBors xs
  | .ins fl _ _ xs => (fl != .bor) && noBors xs
  | .exn _ _ xs => noBors xs
  | _ => true
def noBors : List D → Bool
  | [] => true
  | x :: xs => noBor x && noBors xs
end
def Fl.frz : Fl → Fl
  | .own => .shr
  | f => f
def Fl.lend : Fl → Fl
  | .own => .bor
  | f => f
mutual
/-- owned nodes become others -/
def refl (g : Fl → Fl) : D → D
  | .tup fl xs => .tup (g fl) (refls g xs)
  | .lst fl xs => .lst (g fl) (refls g xs)
  | .dk fl ks xs => .dk (g fl) ks (refls g xs)
  | .dt fl ks xs => .dt (g fl) ks (refls g xs)
  | .ins fl c fs xs => .ins (g fl) c fs (refls g xs)
  | .exn c fs xs => .exn c fs (refls g xs)
  | .dead => .dead
  | .non => .non
  | .bl b => .bl b
  | .int i => .int i
  | .str x => .str x
  | .fn k => .fn k
  | .scr ns => .scr ns
def refls (g : Fl → Fl) : List D → List D
  | [] => []
  | x :: xs => refl g x :: refls g xs
end
abbrev frz : D → D := refl Fl.frz
abbrev lend : D → D := refl Fl.lend
theorem noOwns_iff : ∀ {xs : List D}, noOwns xs = true ↔ ∀ x ∈ xs, noOwn x = true
  | [] => by simp [noOwns]
  | x :: xs => by simp [noOwns, noOwns_iff (xs := xs)]
theorem noBors_iff : ∀ {xs : List D}, noBors xs = true ↔ ∀ x ∈ xs, noBor x = true
  | [] => by simp [noBors]
  | x :: xs => by simp [noBors, noBors_iff (xs := xs)]
theorem refls_map (g : Fl → Fl) : ∀ xs : List D, refls g xs = xs.map (refl g)
  | [] => rfl
  | x :: xs => by simp [refls, refls_map g xs]
/-- shared to the last node -/
def allShr (d : D) : Bool := noOwn d && noBor d
def okKids : Fl → List D → Prop
  | .shr, xs => noOwns xs = true ∧ noBors xs = true
  | .bor, xs => noOwns xs = true
  | .own, _ => True
/-! ### heaps -/
/-- what may be locked by a walk -/
def Lockable : HO → Prop
  | .dK _ => True
  | .dT _ => True
  | _ => False
/-- all that stands in A stands in H, a dict perhaps under a walk's lock -/
def Sb (A H : Hp) : Prop := ∀ a o, A a = some o → H a = some o ∨ (Lockable o ∧ ∃ ob, H a = some (.frz ob o))
theorem Sb.refl (H : Hp) : Sb H H := fun _ _ h => .inl h
theorem Sb.trans {A B H : Hp} (x : Sb A B) (y : Sb B H) : Sb A H := fun a o h => by
  rcases x a o h with h1 | ⟨l, ob, h1⟩
  · exact y a o h1
  · rcases y a _ h1 with h2 | ⟨l2, _⟩
    · exact .inr ⟨l, ob, h2⟩
    · exact l2.elim
theorem Sb.ne {A H : Hp} (x : Sb A H) {a : Addr} (h : A a ≠ none) : H a ≠ none := by
  cases e : A a with
  | none => exact absurd e h
  | some o =>
    rcases x a o e with q | ⟨_, _, q⟩ <;> rw [q] <;> simp
theorem Sb.rd {A H : Hp} (x : Sb A H) {a : Addr} {o : HO} (h : Rd A a o) : Rd H a o := by
  rcases h with h | ⟨ob, h⟩
  · rcases x a o h with q | ⟨_, ob, q⟩
    · exact .inl q
    · exact .inr ⟨ob, q⟩
  · rcases x a _ h with q | ⟨l, _⟩
    · exact .inr ⟨ob, q⟩
    · exact l.elim
theorem Sb.seqL {K : PySem.W.Frag} {A H : Hp} (x : Sb A H) {a : Addr} {vs : List V} (h : SqL K A a vs) : SqL K H a vs := by
  rcases h with h | h
  · exact .inl (x.rd h)
  · exact .inr h
theorem Sb.seqT {K : PySem.W.Frag} {A H : Hp} (x : Sb A H) {a : Addr} {vs : List V} (h : SqT K A a vs) : SqT K H a vs := by
  rcases h with h | h
  · exact .inl (x.rd h)
  · exact .inr h
theorem Sb.of_same {A H : Hp} (x : ∀ a o, A a = some o → H a = some o) : Sb A H := fun a o h => .inl (x a o h)
theorem Sb.plain {A H : Hp} (x : Sb A H) {a : Addr} {o : HO} (h : A a = some o) (l : ¬ Lockable o) : H a = some o := by
  rcases x a o h with q | ⟨k, _⟩
  · exact q
  · exact (l k).elim
/-- the written part, the classes' addresses, the functions' addresses -/
structure Gl0 where
  K : PySem.W.Frag
  ca : Nat → Addr
  fa : Nat → Addr
section
variable (C : Gl0) (G B H : Hp)
/-- where a node stands, by its flag -/
def At (fl : Fl) (a : Addr) (p : Hp → Prop) (o : HO) : Prop :=
  match fl with
  | .shr => p G
  | .bor => p B
  | .own => H a = some o ∧ B a = none
def fcons (fl : Fl) (a : Addr) (F : List Addr) : List Addr := match fl with
  | .own => a :: F
  | _ => F
/-- a caught exception: its object is known by its class and its own dict -/
def exH (cls : Value) (d : Option Addr) (a : Addr) : HO := .ext fun h => ∃ (oe : Obj) (vs : Array Value), h.get? a = some oe ∧ Zc cls d oe ∧ oe.data = .fields vs
mutual
def Own : D → V → List Addr → Prop
  | .dead, _, F => F = []
  | .non, v, F => v = .non ∧ F = []
  | .bl b, v, F => v = .bl b ∧ F = []
  | .int i, v, F => v = .int i ∧ F = []
  | .str x, v, F => v = .str x ∧ F = []
  | .fn k, v, F => v = .ref (C.fa k) ∧ F = []
  | .scr ns, v, F => (∃ a, v = .ref a ∧ SqL C.K G a (ns.map V.int)) ∧ F = []
  | .tup fl xs, v, F => ∃ a vs F', v = .ref a ∧ At G B H fl a (fun A => SqT C.K A a vs) (.tup vs) ∧ Owns xs vs F' ∧ F = fcons fl a F' ∧ okKids fl xs
  | .lst fl xs, v, F => ∃ a vs F', v = .ref a ∧ At G B H fl a (fun A => A a = some (.lst vs)) (.lst vs) ∧ Owns xs vs F' ∧ F = fcons fl a F' ∧ okKids fl xs
  | .dk fl ks xs, v, F => ∃ a vs F', v = .ref a ∧ At G B H fl a (fun A => Rd A a (.dK (ks.zip vs))) (.dK (ks.zip vs)) ∧ Owns xs vs F' ∧ F = fcons fl a F' ∧ okKids fl xs ∧ ks.length = xs.length ∧ ks.Nodup
  | .dt fl ks xs, v, F => ∃ a vs F', v = .ref a ∧ At G B H fl a (fun A => Rd A a (.dT (ks.zip vs))) (.dT (ks.zip vs)) ∧ Owns xs vs F' ∧ F = fcons fl a F' ∧ okKids fl xs ∧ ks.length = xs.length ∧ ks.Nodup
  | .ins fl c fs xs, v, F => ∃ a dx vs F', v = .ref a ∧ At G B H fl a (fun A => A a = some (.ins (C.ca c) dx (fs.zip vs))) (.ins (C.ca c) dx (fs.zip vs)) ∧ Owns xs vs F' ∧ F = fcons fl a F' ∧ okKids fl xs ∧ fs.length = xs.length ∧ fs.Nodup
  | .exn c fs xs, v, F => ∃ a vs, v = .ref a ∧ F = [] ∧ okKids .shr xs ∧ Owns xs vs [] ∧ fs.length = xs.length ∧
      ((fs = [] ∧ G a = some (exH (.ref (C.ca c)) none a)) ∨ (fs ≠ [] ∧ ∃ dd, G a = some (exH (.ref (C.ca c)) (some dd) a) ∧ G dd = some (.xd (fs.zip vs))))
def Owns : List D → List V → List Addr → Prop
  | [], vs, F => vs = [] ∧ F = []
  | x :: xs, vs, F => ∃ v vr F1 F2, vs = v :: vr ∧ F = F1 ++ F2 ∧ Own x v F1 ∧ Owns xs vr F2
end
end
section
variable {C : Gl0} {G B H G' B' H' : Hp}
theorem At.viewT {K : PySem.W.Frag} (gb : Sb G B) (bh : Sb B H) {fl : Fl} {a : Addr} {vs : List V} (h : At G B H fl a (fun A => SqT K A a vs) (.tup vs)) : SqT K H a vs := by
  cases fl with
  | shr => exact (gb.trans bh).seqT h
  | bor => exact bh.seqT h
  | own => exact .inl (.inl h.1)
theorem At.viewD (gb : Sb G B) (bh : Sb B H) {fl : Fl} {a : Addr} {o : HO} (h : At G B H fl a (fun A => Rd A a o) o) : Rd H a o := by
  cases fl with
  | shr => exact (gb.trans bh).rd h
  | bor => exact bh.rd h
  | own => exact .inl h.1
theorem At.viewI (gb : Sb G B) (bh : Sb B H) {fl : Fl} {a : Addr} {o : HO} (l : ¬ Lockable o) (h : At G B H fl a (fun A => A a = some o) o) : H a = some o := by
  cases fl with
  | shr => exact (gb.trans bh).plain h l
  | bor => exact bh.plain h l
  | own => exact h.1
theorem Owns.length : ∀ {xs : List D} {vs : List V} {F : List Addr}, Owns C G B H xs vs F → xs.length = vs.length
  | [], _, _, h => by obtain rfl := h.1; rfl
  | _ :: _, _, _, h => by
    obtain ⟨v, vr, F1, F2, rfl, _, _, h2⟩ := h
    simp [Owns.length h2]
/-- moving a node's place to other heaps -/
theorem At.mono {fl : Fl} {a : Addr} {p : Hp → Prop} {o : HO} (hg : ∀ A A' : Hp, (∀ b u, A b = some u → A' b = some u) → p A → p A')
    (g : ∀ b u, G b = some u → G' b = some u) (b : ∀ b u, B b = some u → B' b = some u) (hf : fl = .own → H' a = H a ∧ B' a = none) (h : At G B H fl a p o) : At G' B' H' fl a p o := by
  cases fl with
  | shr => exact hg _ _ g h
  | bor => exact hg _ _ b h
  | own =>
    obtain ⟨e1, e2⟩ := hf rfl
    exact ⟨e1.trans h.1, e2⟩
theorem seqL_same {K : PySem.W.Frag} {a : Addr} {vs : List V} (A A' : Hp) (x : ∀ b u, A b = some u → A' b = some u) (h : SqL K A a vs) : SqL K A' a vs := (Sb.of_same x).seqL h
theorem seqT_same {K : PySem.W.Frag} {a : Addr} {vs : List V} (A A' : Hp) (x : ∀ b u, A b = some u → A' b = some u) (h : SqT K A a vs) : SqT K A' a vs := (Sb.of_same x).seqT h
theorem rd_same {a : Addr} {o : HO} (A A' : Hp) (x : ∀ b u, A b = some u → A' b = some u) (h : Rd A a o) : Rd A' a o := (Sb.of_same x).rd h
theorem mem_fcons {fl : Fl} {a : Addr} {F : List Addr} {b : Addr} : b ∈ fcons fl a F ↔ (fl = .own ∧ b = a) ∨ b ∈ F := by
  cases fl <;> simp [fcons]
mutual
theorem Own.mono (g : ∀ b u, G b = some u → G' b = some u) (b : ∀ b u, B b = some u → B' b = some u) : ∀ {d : D} {v : V} {F : List Addr}, (∀ a ∈ F, H' a = H a ∧ B' a = none) → Own C G B H d v F → Own C G' B' H' d v F
  | .dead, _, _, _, h => h
  | .non, _, _, _, h => h
  | .bl _, _, _, _, h => h
  | .int _, _, _, _, h => h
  | .str _, _, _, _, h => h
  | .fn _, _, _, _, h => h
  | .scr _, _, _, _, h => ⟨h.1.elim fun a z => ⟨a, z.1, seqL_same _ _ g z.2⟩, h.2⟩
  | .tup fl xs, v, F, k, h => by
    obtain ⟨a, vs, F', rfl, h1, h2, rfl, h3⟩ := h
    exact ⟨a, vs, F', rfl, h1.mono (fun A A' x => seqT_same A A' x) g b fun e => k a (mem_fcons.2 (.inl ⟨e, rfl⟩)), Owns.mono g b (fun c hc => k c (mem_fcons.2 (.inr hc))) h2, rfl, h3⟩
  | .lst fl xs, v, F, k, h => by
    obtain ⟨a, vs, F', rfl, h1, h2, rfl, h3⟩ := h
    exact ⟨a, vs, F', rfl, h1.mono (fun A A' x q => x _ _ q) g b fun e => k a (mem_fcons.2 (.inl ⟨e, rfl⟩)), Owns.mono g b (fun c hc => k c (mem_fcons.2 (.inr hc))) h2, rfl, h3⟩
  | .dk fl ks xs, v, F, k, h => by
    obtain ⟨a, vs, F', rfl, h1, h2, rfl, h3⟩ := h
    exact ⟨a, vs, F', rfl, h1.mono (fun A A' x => rd_same A A' x) g b fun e => k a (mem_fcons.2 (.inl ⟨e, rfl⟩)), Owns.mono g b (fun c hc => k c (mem_fcons.2 (.inr hc))) h2, rfl, h3⟩
  | .dt fl ks xs, v, F, k, h => by
    obtain ⟨a, vs, F', rfl, h1, h2, rfl, h3⟩ := h
    exact ⟨a, vs, F', rfl, h1.mono (fun A A' x => rd_same A A' x) g b fun e => k a (mem_fcons.2 (.inl ⟨e, rfl⟩)), Owns.mono g b (fun c hc => k c (mem_fcons.2 (.inr hc))) h2, rfl, h3⟩
  | .ins fl c fs xs, v, F, k, h => by
    obtain ⟨a, dx, vs, F', rfl, h1, h2, rfl, h3⟩ := h
    exact ⟨a, dx, vs, F', rfl, h1.mono (fun A A' x q => x _ _ q) g b fun e => k a (mem_fcons.2 (.inl ⟨e, rfl⟩)), Owns.mono g b (fun c hc => k c (mem_fcons.2 (.inr hc))) h2, rfl, h3⟩
  | .exn c fs xs, v, F, k, h => by
    obtain ⟨a, vs, rfl, rfl, h1, h2, h3, h4⟩ := h
    refine ⟨a, vs, rfl, rfl, h1, Owns.mono g b (fun c hc => by cases hc) h2, h3, ?_⟩
    rcases h4 with ⟨e, h4⟩ | ⟨ne, dd, h4, h5⟩
    · exact .inl ⟨e, g _ _ h4⟩
    · exact .inr ⟨ne, dd, g _ _ h4, g _ _ h5⟩
theorem Owns.mono (g : ∀ b u, G b = some u → G' b = some u) (b : ∀ b u, B b = some u → B' b = some u) : ∀ {xs : List D} {vs : List V} {F : List Addr}, (∀ a ∈ F, H' a = H a ∧ B' a = none) → Owns C G B H xs vs F → Owns C G' B' H' xs vs F
  | [], _, _, _, h => h
  | x :: xs, _, _, k, h => by
    obtain ⟨v, vr, F1, F2, rfl, rfl, h1, h2⟩ := h
    exact ⟨v, vr, F1, F2, rfl, rfl, Own.mono g b (fun a ha => k a (List.mem_append_left _ ha)) h1, Owns.mono g b (fun a ha => k a (List.mem_append_right _ ha)) h2⟩
end
mutual
/-- nothing is owned: no footprint -/
theorem Own.nil : ∀ {d : D} {v : V} {F : List Addr}, noOwn d = true → Own C G B H d v F → F = []
  | .dead, _, _, _, h => h
  | .non, _, _, _, h => h.2
  | .bl _, _, _, _, h => h.2
  | .int _, _, _, _, h => h.2
  | .str _, _, _, _, h => h.2
  | .fn _, _, _, _, h => h.2
  | .scr _, _, _, _, h => h.2
  | .tup fl xs, v, F, k, h => by
    obtain ⟨a, vs, F', rfl, h1, h2, rfl, h3⟩ := h
    simp only [noOwn, Bool.and_eq_true, bne_iff_ne] at k
    obtain rfl := Owns.nil k.2 h2
    cases fl <;> simp_all [fcons]
  | .lst fl xs, v, F, k, h => by
    obtain ⟨a, vs, F', rfl, h1, h2, rfl, h3⟩ := h
    simp only [noOwn, Bool.and_eq_true, bne_iff_ne] at k
    obtain rfl := Owns.nil k.2 h2
    cases fl <;> simp_all [fcons]
  | .dk fl ks xs, v, F, k, h => by
    obtain ⟨a, vs, F', rfl, h1, h2, rfl, h3⟩ := h
    simp only [noOwn, Bool.and_eq_true, bne_iff_ne] at k
    obtain rfl := Owns.nil k.2 h2
    cases fl <;> simp_all [fcons]
  | .dt fl ks xs, v, F, k, h => by
    obtain ⟨a, vs, F', rfl, h1, h2, rfl, h3⟩ := h
    simp only [noOwn, Bool.and_eq_true, bne_iff_ne] at k
    obtain rfl := Owns.nil k.2 h2
    cases fl <;> simp_all [fcons]
  | .ins fl c fs xs, v, F, k, h => by
    obtain ⟨a, dx, vs, F', rfl, h1, h2, rfl, h3⟩ := h
    simp only [noOwn, Bool.and_eq_true, bne_iff_ne] at k
    obtain rfl := Owns.nil k.2 h2
    cases fl <;> simp_all [fcons]
  | .exn c fs xs, v, F, k, h => by
    obtain ⟨a, vs, rfl, rfl, h1⟩ := h
    rfl
theorem Owns.nil : ∀ {xs : List D} {vs : List V} {F : List Addr}, noOwns xs = true → Owns C G B H xs vs F → F = []
  | [], _, _, _, h => h.2
  | x :: xs, _, _, k, h => by
    obtain ⟨v, vr, F1, F2, rfl, rfl, h1, h2⟩ := h
    simp only [noOwns, Bool.and_eq_true] at k
    rw [Own.nil k.1 h1, Owns.nil k.2 h2]; rfl
end
theorem At.own {fl : Fl} {a b : Addr} {p : Hp → Prop} {o : HO} (h : At G B H fl a p o) (e : fl = .own ∧ b = a) : H b ≠ none ∧ B b = none := by
  obtain ⟨rfl, rfl⟩ := e
  obtain ⟨h1, h2⟩ := h
  exact ⟨by rw [h1]; simp, h2⟩
mutual
/-- what is owned stands in H and not in B -/
theorem Own.fp : ∀ {d : D} {v : V} {F : List Addr}, Own C G B H d v F → ∀ b ∈ F, H b ≠ none ∧ B b = none
  | .dead, _, _, h => by obtain rfl := h; intro b hb; cases hb
  | .non, _, _, h => by rw [h.2]; intro b hb; cases hb
  | .bl _, _, _, h => by rw [h.2]; intro b hb; cases hb
  | .int _, _, _, h => by rw [h.2]; intro b hb; cases hb
  | .str _, _, _, h => by rw [h.2]; intro b hb; cases hb
  | .fn _, _, _, h => by rw [h.2]; intro b hb; cases hb
  | .scr _, _, _, h => by rw [h.2]; intro b hb; cases hb
  | .tup fl xs, v, F, h => by
    obtain ⟨a, vs, F', rfl, h1, h2, rfl, h3⟩ := h
    intro b hb
    rcases mem_fcons.1 hb with e | hb
    · exact h1.own e
    · exact Owns.fp h2 b hb
  | .lst fl xs, v, F, h => by
    obtain ⟨a, vs, F', rfl, h1, h2, rfl, h3⟩ := h
    intro b hb
    rcases mem_fcons.1 hb with e | hb
    · exact h1.own e
    · exact Owns.fp h2 b hb
  | .dk fl ks xs, v, F, h => by
    obtain ⟨a, vs, F', rfl, h1, h2, rfl, h3⟩ := h
    intro b hb
    rcases mem_fcons.1 hb with e | hb
    · exact h1.own e
    · exact Owns.fp h2 b hb
  | .dt fl ks xs, v, F, h => by
    obtain ⟨a, vs, F', rfl, h1, h2, rfl, h3⟩ := h
    intro b hb
    rcases mem_fcons.1 hb with e | hb
    · exact h1.own e
    · exact Owns.fp h2 b hb
  | .ins fl c fs xs, v, F, h => by
    obtain ⟨a, dx, vs, F', rfl, h1, h2, rfl, h3⟩ := h
    intro b hb
    rcases mem_fcons.1 hb with e | hb
    · exact h1.own e
    · exact Owns.fp h2 b hb
  | .exn c fs xs, v, F, h => by
    obtain ⟨a, vs, rfl, rfl, h1⟩ := h
    intro b hb; cases hb
theorem Owns.fp : ∀ {xs : List D} {vs : List V} {F : List Addr}, Owns C G B H xs vs F → ∀ b ∈ F, H b ≠ none ∧ B b = none
  | [], _, _, h => by rw [h.2]; intro b hb; cases hb
  | x :: xs, _, _, h => by
    obtain ⟨v, vr, F1, F2, rfl, rfl, h1, h2⟩ := h
    intro b hb
    rcases List.mem_append.1 hb with hb | hb
    · exact Own.fp h1 b hb
    · exact Owns.fp h2 b hb
end
mutual
theorem noOwn_refl {g : Fl → Fl} (hg : ∀ f, g f ≠ .own) : ∀ d : D, noOwn (refl g d) = true
  | .dead => rfl
  | .non => rfl
  | .bl _ => rfl
  | .int _ => rfl
  | .str _ => rfl
  | .fn _ => rfl
  | .scr _ => rfl
  | .tup fl xs => by simp [refl, noOwn, hg, noOwns_refls hg xs]
  | .lst fl xs => by simp [refl, noOwn, hg, noOwns_refls hg xs]
  | .dk fl ks xs => by simp [refl, noOwn, hg, noOwns_refls hg xs]
  | .dt fl ks xs => by simp [refl, noOwn, hg, noOwns_refls hg xs]
  | .ins fl c fs xs => by simp [refl, noOwn, hg, noOwns_refls hg xs]
  | .exn c fs xs => by simp [refl, noOwn, noOwns_refls hg xs]
theorem noOwns_refls {g : Fl → Fl} (hg : ∀ f, g f ≠ .own) : ∀ xs : List D, noOwns (refls g xs) = true
  | [] => rfl
  | x :: xs => by simp [refls, noOwns, noOwn_refl hg x, noOwns_refls hg xs]
end
theorem frz_ne (f : Fl) : f.frz ≠ .own := by cases f <;> simp [Fl.frz]
theorem lend_ne (f : Fl) : f.lend ≠ .own := by cases f <;> simp [Fl.lend]
mutual
theorem noBor_frz : ∀ d : D, noBor (refl Fl.frz d) = noBor d
  | .dead => rfl
  | .non => rfl
  | .bl _ => rfl
  | .int _ => rfl
  | .str _ => rfl
  | .fn _ => rfl
  | .scr _ => rfl
  | .tup fl xs => by cases fl <;> simp [refl, noBor, Fl.frz, noBors_frz xs] <;> rfl
  | .lst fl xs => by cases fl <;> simp [refl, noBor, Fl.frz, noBors_frz xs] <;> rfl
  | .dk fl ks xs => by cases fl <;> simp [refl, noBor, Fl.frz, noBors_frz xs] <;> rfl
  | .dt fl ks xs => by cases fl <;> simp [refl, noBor, Fl.frz, noBors_frz xs] <;> rfl
  | .ins fl c fs xs => by cases fl <;> simp [refl, noBor, Fl.frz, noBors_frz xs] <;> rfl
  | .exn c fs xs => by simp [refl, noBor, noBors_frz xs]
theorem noBors_frz : ∀ xs : List D, noBors (refls Fl.frz xs) = noBors xs
  | [] => rfl
  | x :: xs => by simp [refls, noBors, noBor_frz x, noBors_frz xs]
end
mutual
/-- nothing owned: relabelling changes nothing -/
theorem refl_id {g : Fl → Fl} (h1 : g .bor = .bor) (h2 : g .shr = .shr) : ∀ {d : D}, noOwn d = true → refl g d = d
  | .dead, _ => rfl
  | .non, _ => rfl
  | .bl _, _ => rfl
  | .int _, _ => rfl
  | .str _, _ => rfl
  | .fn _, _ => rfl
  | .scr _, _ => rfl
  | .tup fl xs, k => by
    simp only [noOwn, Bool.and_eq_true, bne_iff_ne] at k
    cases fl <;> simp_all [refl, refls_id h1 h2 k.2]
  | .lst fl xs, k => by
    simp only [noOwn, Bool.and_eq_true, bne_iff_ne] at k
    cases fl <;> simp_all [refl, refls_id h1 h2 k.2]
  | .dk fl ks xs, k => by
    simp only [noOwn, Bool.and_eq_true, bne_iff_ne] at k
    cases fl <;> simp_all [refl, refls_id h1 h2 k.2]
  | .dt fl ks xs, k => by
    simp only [noOwn, Bool.and_eq_true, bne_iff_ne] at k
    cases fl <;> simp_all [refl, refls_id h1 h2 k.2]
  | .ins fl c fs xs, k => by
    simp only [noOwn, Bool.and_eq_true, bne_iff_ne] at k
    cases fl <;> simp_all [refl, refls_id h1 h2 k.2]
  | .exn c fs xs, k => by
    simp only [noOwn] at k
    simp [refl, refls_id h1 h2 k]
theorem refls_id {g : Fl → Fl} (h1 : g .bor = .bor) (h2 : g .shr = .shr) : ∀ {xs : List D}, noOwns xs = true → refls g xs = xs
  | [], _ => rfl
  | x :: xs, k => by
    simp only [noOwns, Bool.and_eq_true] at k
    simp [refls, refl_id h1 h2 k.1, refls_id h1 h2 k.2]
end
theorem refls_length (g : Fl → Fl) : ∀ xs : List D, (refls g xs).length = xs.length
  | [] => rfl
  | x :: xs => by simp [refls, refls_length g xs]
/-- an owned node is frozen -/
theorem At.frz {fl : Fl} {a : Addr} {p : Hp → Prop} {o : HO} (hg : ∀ A A' : Hp, (∀ b u, A b = some u → A' b = some u) → p A → p A') (ho : ∀ A : Hp, A a = some o → p A)
    (g : ∀ b u, G b = some u → G' b = some u) (nb : fl ≠ .bor) (hf : fl = .own → G' a = H a) (h : At G B H fl a p o) : At G' B' H' fl.frz a p o := by
  cases fl with
  | shr => exact hg _ _ g h
  | bor => exact absurd rfl nb
  | own => exact ho _ ((hf rfl).trans h.1)
theorem At.lend {fl : Fl} {a : Addr} {p : Hp → Prop} {o : HO} (hg : ∀ A A' : Hp, (∀ b u, A b = some u → A' b = some u) → p A → p A') (ho : ∀ A : Hp, A a = some o → p A)
    (g : ∀ b u, G b = some u → G' b = some u) (bb : ∀ b u, B b = some u → B' b = some u) (hf : fl = .own → B' a = H a) (h : At G B H fl a p o) : At G' B' H' fl.lend a p o := by
  cases fl with
  | shr => exact hg _ _ g h
  | bor => exact hg _ _ bb h
  | own => exact ho _ ((hf rfl).trans h.1)
theorem okKids.frz {fl : Fl} {xs : List D} (nb : fl ≠ .bor) (n : noBors xs = true) (h : okKids fl xs) : okKids fl.frz (refls Fl.frz xs) := by
  cases fl with
  | bor => exact absurd rfl nb
  | shr => exact ⟨noOwns_refls frz_ne xs, by rw [noBors_frz]; exact n⟩
  | own => exact ⟨noOwns_refls frz_ne xs, by rw [noBors_frz]; exact n⟩
theorem okKids.lend {fl : Fl} {xs : List D} (h : okKids fl xs) : okKids fl.lend (refls Fl.lend xs) := by
  cases fl with
  | bor => exact noOwns_refls lend_ne xs
  | shr => rw [refls_id rfl rfl h.1]; exact h
  | own => exact noOwns_refls lend_ne xs
theorem fcons_ne {fl : Fl} (h : fl ≠ .own) (a : Addr) (F : List Addr) : fcons fl a F = F := by
  cases fl <;> simp_all [fcons]
mutual
theorem Own.frz (g : ∀ b u, G b = some u → G' b = some u) : ∀ {d : D} {v : V} {F : List Addr}, noBor d = true → (∀ a ∈ F, G' a = H a) → Own C G B H d v F → Own C G' B' H' (refl Fl.frz d) v []
  | .dead, _, _, _, _, h => rfl
  | .non, _, _, _, _, h => ⟨h.1, rfl⟩
  | .bl _, _, _, _, _, h => ⟨h.1, rfl⟩
  | .int _, _, _, _, _, h => ⟨h.1, rfl⟩
  | .str _, _, _, _, _, h => ⟨h.1, rfl⟩
  | .fn _, _, _, _, _, h => ⟨h.1, rfl⟩
  | .scr _, _, _, _, _, h => ⟨h.1.elim fun a z => ⟨a, z.1, seqL_same _ _ g z.2⟩, rfl⟩
  | .tup fl xs, v, F, n, k, h => by
    obtain ⟨a, vs, F', rfl, h1, h2, rfl, h3⟩ := h
    simp only [noBor, Bool.and_eq_true, bne_iff_ne] at n
    exact ⟨a, vs, [], rfl, h1.frz (fun A A' x => seqT_same A A' x) (fun A q => .inl (.inl q)) g n.1 fun e => k a (mem_fcons.2 (.inl ⟨e, rfl⟩)),
      Owns.frz g n.2 (fun c hc => k c (mem_fcons.2 (.inr hc))) h2, (fcons_ne (frz_ne fl) _ _).symm, h3.frz n.1 n.2⟩
  | .lst fl xs, v, F, n, k, h => by
    obtain ⟨a, vs, F', rfl, h1, h2, rfl, h3⟩ := h
    simp only [noBor, Bool.and_eq_true, bne_iff_ne] at n
    exact ⟨a, vs, [], rfl, h1.frz (fun A A' x q => x _ _ q) (fun A q => q) g n.1 fun e => k a (mem_fcons.2 (.inl ⟨e, rfl⟩)),
      Owns.frz g n.2 (fun c hc => k c (mem_fcons.2 (.inr hc))) h2, (fcons_ne (frz_ne fl) _ _).symm, h3.frz n.1 n.2⟩
  | .dk fl ks xs, v, F, n, k, h => by
    obtain ⟨a, vs, F', rfl, h1, h2, rfl, h3, h4, h5⟩ := h
    simp only [noBor, Bool.and_eq_true, bne_iff_ne] at n
    exact ⟨a, vs, [], rfl, h1.frz (fun A A' x => rd_same A A' x) (fun A q => .inl q) g n.1 fun e => k a (mem_fcons.2 (.inl ⟨e, rfl⟩)),
      Owns.frz g n.2 (fun c hc => k c (mem_fcons.2 (.inr hc))) h2, (fcons_ne (frz_ne fl) _ _).symm, h3.frz n.1 n.2, by rw [refls_length]; exact h4, h5⟩
  | .dt fl ks xs, v, F, n, k, h => by
    obtain ⟨a, vs, F', rfl, h1, h2, rfl, h3, h4, h5⟩ := h
    simp only [noBor, Bool.and_eq_true, bne_iff_ne] at n
    exact ⟨a, vs, [], rfl, h1.frz (fun A A' x => rd_same A A' x) (fun A q => .inl q) g n.1 fun e => k a (mem_fcons.2 (.inl ⟨e, rfl⟩)),
      Owns.frz g n.2 (fun c hc => k c (mem_fcons.2 (.inr hc))) h2, (fcons_ne (frz_ne fl) _ _).symm, h3.frz n.1 n.2, by rw [refls_length]; exact h4, h5⟩
  | .ins fl c fs xs, v, F, n, k, h => by
    obtain ⟨a, dx, vs, F', rfl, h1, h2, rfl, h3, h4, h5⟩ := h
    simp only [noBor, Bool.and_eq_true, bne_iff_ne] at n
    exact ⟨a, dx, vs, [], rfl, h1.frz (fun A A' x q => x _ _ q) (fun A q => q) g n.1 fun e => k a (mem_fcons.2 (.inl ⟨e, rfl⟩)),
      Owns.frz g n.2 (fun c hc => k c (mem_fcons.2 (.inr hc))) h2, (fcons_ne (frz_ne fl) _ _).symm, h3.frz n.1 n.2, by rw [refls_length]; exact h4, h5⟩
  | .exn c fs xs, v, F, n, k, h => by
    obtain ⟨a, vs, rfl, rfl, h1, h2, h3, h4⟩ := h
    simp only [noBor] at n
    refine ⟨a, vs, rfl, rfl, okKids.frz (fl := .shr) (by simp) n h1, Owns.frz g n (fun c hc => by cases hc) h2, by rw [refls_length]; exact h3, ?_⟩
    rcases h4 with ⟨e, h4⟩ | ⟨ne, dd, h4, h5⟩
    · exact .inl ⟨e, g _ _ h4⟩
    · exact .inr ⟨ne, dd, g _ _ h4, g _ _ h5⟩
theorem Owns.frz (g : ∀ b u, G b = some u → G' b = some u) : ∀ {xs : List D} {vs : List V} {F : List Addr}, noBors xs = true → (∀ a ∈ F, G' a = H a) → Owns C G B H xs vs F → Owns C G' B' H' (refls Fl.frz xs) vs []
  | [], _, _, _, _, h => ⟨h.1, rfl⟩
  | x :: xs, _, _, n, k, h => by
    obtain ⟨v, vr, F1, F2, rfl, rfl, h1, h2⟩ := h
    simp only [noBors, Bool.and_eq_true] at n
    exact ⟨v, vr, [], [], rfl, rfl, Own.frz g n.1 (fun a ha => k a (List.mem_append_left _ ha)) h1, Owns.frz g n.2 (fun a ha => k a (List.mem_append_right _ ha)) h2⟩
end
mutual
theorem Own.lend (g : ∀ b u, G b = some u → G' b = some u) (bb : ∀ b u, B b = some u → B' b = some u) : ∀ {d : D} {v : V} {F : List Addr}, (∀ a ∈ F, B' a = H a) → Own C G B H d v F → Own C G' B' H' (refl Fl.lend d) v []
  | .dead, _, _, _, h => rfl
  | .non, _, _, _, h => ⟨h.1, rfl⟩
  | .bl _, _, _, _, h => ⟨h.1, rfl⟩
  | .int _, _, _, _, h => ⟨h.1, rfl⟩
  | .str _, _, _, _, h => ⟨h.1, rfl⟩
  | .fn _, _, _, _, h => ⟨h.1, rfl⟩
  | .scr _, _, _, _, h => ⟨h.1.elim fun a z => ⟨a, z.1, seqL_same _ _ g z.2⟩, rfl⟩
  | .tup fl xs, v, F, k, h => by
    obtain ⟨a, vs, F', rfl, h1, h2, rfl, h3⟩ := h
    exact ⟨a, vs, [], rfl, h1.lend (fun A A' x => seqT_same A A' x) (fun A q => .inl (.inl q)) g bb fun e => k a (mem_fcons.2 (.inl ⟨e, rfl⟩)),
      Owns.lend g bb (fun c hc => k c (mem_fcons.2 (.inr hc))) h2, (fcons_ne (lend_ne fl) _ _).symm, h3.lend⟩
  | .lst fl xs, v, F, k, h => by
    obtain ⟨a, vs, F', rfl, h1, h2, rfl, h3⟩ := h
    exact ⟨a, vs, [], rfl, h1.lend (fun A A' x q => x _ _ q) (fun A q => q) g bb fun e => k a (mem_fcons.2 (.inl ⟨e, rfl⟩)),
      Owns.lend g bb (fun c hc => k c (mem_fcons.2 (.inr hc))) h2, (fcons_ne (lend_ne fl) _ _).symm, h3.lend⟩
  | .dk fl ks xs, v, F, k, h => by
    obtain ⟨a, vs, F', rfl, h1, h2, rfl, h3, h4, h5⟩ := h
    exact ⟨a, vs, [], rfl, h1.lend (fun A A' x => rd_same A A' x) (fun A q => .inl q) g bb fun e => k a (mem_fcons.2 (.inl ⟨e, rfl⟩)),
      Owns.lend g bb (fun c hc => k c (mem_fcons.2 (.inr hc))) h2, (fcons_ne (lend_ne fl) _ _).symm, h3.lend, by rw [refls_length]; exact h4, h5⟩
  | .dt fl ks xs, v, F, k, h => by
    obtain ⟨a, vs, F', rfl, h1, h2, rfl, h3, h4, h5⟩ := h
    exact ⟨a, vs, [], rfl, h1.lend (fun A A' x => rd_same A A' x) (fun A q => .inl q) g bb fun e => k a (mem_fcons.2 (.inl ⟨e, rfl⟩)),
      Owns.lend g bb (fun c hc => k c (mem_fcons.2 (.inr hc))) h2, (fcons_ne (lend_ne fl) _ _).symm, h3.lend, by rw [refls_length]; exact h4, h5⟩
  | .ins fl c fs xs, v, F, k, h => by
    obtain ⟨a, dx, vs, F', rfl, h1, h2, rfl, h3, h4, h5⟩ := h
    exact ⟨a, dx, vs, [], rfl, h1.lend (fun A A' x q => x _ _ q) (fun A q => q) g bb fun e => k a (mem_fcons.2 (.inl ⟨e, rfl⟩)),
      Owns.lend g bb (fun c hc => k c (mem_fcons.2 (.inr hc))) h2, (fcons_ne (lend_ne fl) _ _).symm, h3.lend, by rw [refls_length]; exact h4, h5⟩
  | .exn c fs xs, v, F, k, h => by
    obtain ⟨a, vs, rfl, rfl, h1, h2, h3, h4⟩ := h
    refine ⟨a, vs, rfl, rfl, okKids.lend (fl := .shr) h1, Owns.lend g bb (fun c hc => by cases hc) h2, by rw [refls_length]; exact h3, ?_⟩
    rcases h4 with ⟨e, h4⟩ | ⟨ne, dd, h4, h5⟩
    · exact .inl ⟨e, g _ _ h4⟩
    · exact .inr ⟨ne, dd, g _ _ h4, g _ _ h5⟩
theorem Owns.lend (g : ∀ b u, G b = some u → G' b = some u) (bb : ∀ b u, B b = some u → B' b = some u) : ∀ {xs : List D} {vs : List V} {F : List Addr}, (∀ a ∈ F, B' a = H a) → Owns C G B H xs vs F → Owns C G' B' H' (refls Fl.lend xs) vs []
  | [], _, _, _, h => ⟨h.1, rfl⟩
  | x :: xs, _, _, k, h => by
    obtain ⟨v, vr, F1, F2, rfl, rfl, h1, h2⟩ := h
    exact ⟨v, vr, [], [], rfl, rfl, Own.lend g bb (fun a ha => k a (List.mem_append_left _ ha)) h1, Owns.lend g bb (fun a ha => k a (List.mem_append_right _ ha)) h2⟩
end
end
end TT
namespace TT
open PySem L2
/-! ### comparisons of data -/
mutual
def eqv : D → D → Bool
  | .non, .non => true
  | .bl a, .bl b => a == b
  | .bl a, .int j => (if a then 1 else 0) == j
  | .int i, .bl b => i == (if b then 1 else 0)
  | .int i, .int j => i == j
  | .str x, .str y => x == y
  | .lst _ xs, .lst _ ys => eqvs xs ys
  | .tup _ xs, .tup _ ys => eqvs xs ys
  | _, _ => false
def eqvs : List D → List D → Bool
  | [], [] => true
  | x :: xs, y :: ys => eqv x y && eqvs xs ys
  | _, _ => false
end
mutual
/-- what == may be asked of -/
def isDat : D → Bool
  | .non => true
  | .bl _ => true
  | .int _ => true
  | .str x => PyData.strOk x
  | .lst _ xs => isDats xs
  | .tup _ xs => isDats xs
  | _ => false
def isDats : List D → Bool
  | [] => true
  | x :: xs => isDat x && isDats xs
end
mutual
def depthD : D → Nat
  | .lst _ xs => depthDs xs + 1
  | .tup _ xs => depthDs xs + 1
  | _ => 0
def depthDs : List D → Nat
  | [] => 0
  | x :: xs => max (depthD x) (depthDs xs)
end
def datOk (x : D) : Bool := isDat x && decide (depthD x ≤ 64)
def flatD : D → Bool
  | .non => true
  | .bl _ => true
  | .int _ => true
  | .str _ => true
  | _ => false
def isDead : D → Bool
  | .dead => true
  | _ => false
def truth : D → Option Bool
  | .non => some false
  | .bl b => some b
  | .int i => some (i != 0)
  | .str x => if x.length ≤ sizeLine then some ((x.length : Int) != 0) else none
  | .lst _ xs => some (!xs.isEmpty)
  | .tup _ xs => some (!xs.isEmpty)
  | _ => none
/-- a new tuple is shared at once, where all its items are -/
def tupOf (xs : List D) : D := if noOwns xs && noBors xs then .tup .shr xs else .tup .own xs
/-- a type that isinstance is asked of: a built-in one, or a class of the text -/
inductive Ty where
  | b (n : String) | c (k : Nat)
  deriving DecidableEq
def tyName : D → Option String
  | .non => some "NoneType"
  | .bl _ => some "bool"
  | .int _ => some "int"
  | .str _ => some "str"
  | .tup _ _ => some "tuple"
  | .lst _ _ => some "list"
  | .dk _ _ _ => some "dict"
  | .dt _ _ _ => none
  | _ => none
def clsOf : D → Option Nat
  | .ins _ c _ _ => some c
  | .exn c _ _ => some c
  | _ => none
inductive Op where
  | add | sub | mul | fdiv | mod | pow | neg
  | eq | ne | lt | le | gt | ge
  | isN | notN | in_ | nin | not
  | tup | lst | dnk | dnt
  | ix | sl (lo hi : Bool) | rev | fld (f : Str)
  | len | list | tuple | int | strI | sum | min2 | max2 | all | any
  | part | find | join | divmod | intT | rep
  | isi (t : Ty) (x : Str) (tab : List (Nat × Bool))
def dget {κ : Type} [DecidableEq κ] (ks : List κ) (vs : List D) (k : κ) : Option D := ((ks.zip vs).find? fun p => decide (p.1 = k)).map (·.2)
def keyOf : D → Option Key
  | .int i => some (.inl i)
  | .str x => some (.inr x)
  | _ => none
def keysOf : List D → Option (List Key)
  | [] => some []
  | x :: xs => match keyOf x, keysOf xs with
    | some k, some ks => some (k :: ks)
    | _, _ => none
def ixD : D → D → Option D
  | .lst _ xs, .int i => atI xs i
  | .tup _ xs, .int i => atI xs i
  | .scr ns, .int i => (atI ns i).map .int
  | .str x, .int i => if x.length ≤ sizeLine then (atI x.cps.toList i).map fun c => .str ⟨#[c]⟩ else none
  | .dk _ ks vs, .int i => dget ks vs (.inl i)
  | .dk _ ks vs, .str x => dget ks vs (.inr x)
  | _, _ => none
def inD : D → D → Option Bool
  | x, .lst _ xs => if flatD x = true ∧ xs.all flatD = true then some (xs.any fun y => eqv y x) else none
  | x, .tup _ xs => if flatD x = true ∧ xs.all flatD = true then some (xs.any fun y => eqv y x) else none
  | .str x, .str y => if x.cps.size = 1 then some (decide (x.cps.getD 0 0 ∈ y.cps.toList)) else none
  | x, .dk _ ks _ => (keyOf x).map fun (k : Key) => ks.any fun q => decide (q = k)
  | _, _ => none
def cut {α : Type} (xs : List α) (lo hi : Option Int) : List α := (xs.drop (HT.sIx xs.length 0 lo)).take (HT.sIx xs.length xs.length hi - HT.sIx xs.length 0 lo)
def slD (x : D) (lo hi : Option Int) : Option D :=
  match x with
  | .lst _ xs => if noOwns xs = true ∧ noBors xs = true then some (.lst .own (cut xs lo hi)) else none
  | .tup .shr xs => some (.tup .shr (cut xs lo hi))
  | .scr ns => some (.lst .own ((cut ns lo hi).map .int))
  | .str z => if z.length ≤ sizeLine then some (.str (cutS z lo hi)) else none
  | _ => none
def partD : D → Option Int
  | .int i => some i
  | _ => none
def blsOf : List D → Option (List Bool)
  | [] => some []
  | .bl b :: xs => (blsOf xs).map (b :: ·)
  | _ => none
def intsOf : List D → Option (List Int)
  | [] => some []
  | .int b :: xs => (intsOf xs).map (b :: ·)
  | _ => none
def isiD (t : Ty) (tab : List (Nat × Bool)) (x : D) : Option Bool :=
  match x with
  | .exn c [] [] => tab.lookup c
  | x => match tyName x, t with
    | some n, .b m => kitB n m
    | some _, .c _ => some false
    | none, _ => none
/-- what may be laid into a new list -/
def goodKids (xs : List D) : Bool := noBors xs && xs.all fun x => !isDead x
def un1 (f : D → Option D) : List D → Option D
  | [x] => f x
  | _ => none
def bi2 (f : D → D → Option D) : List D → Option D
  | [x, y] => f x y
  | _ => none
def tr3 (f : D → D → D → Option D) : List D → Option D
  | [x, y, z] => f x y z
  | _ => none
def addD : D → D → Option D
  | .int i, .int j => some (.int (i + j))
  | .str x, .str y => if x.length + y.length ≤ sizeLine then some (.str (x ++ y)) else none
  | .lst _ xs, .lst _ ys => if noOwns xs = true ∧ noOwns ys = true ∧ noBors xs = true ∧ noBors ys = true ∧ xs.length + ys.length ≤ sizeLine then some (.lst .own (xs ++ ys)) else none
  | .tup .shr xs, .tup .shr ys => if xs.length + ys.length ≤ sizeLine then some (.tup .shr (xs ++ ys)) else none
  | _, _ => none
def subD : D → D → Option D
  | .int i, .int j => some (.int (i - j))
  | _, _ => none
/-- a product that is surely made: not too many figures, or one factor is small -/
def mulOk (i j : Int) : Bool := decide (i.natAbs.log2 + j.natAbs.log2 < 1000000) || decide (i.natAbs < 2 ^ 64) || decide (j.natAbs < 2 ^ 64)
def mulD : D → D → Option D
  | .int i, .int j => if mulOk i j = true then some (.int (i * j)) else none
  | .lst _ xs, .int k => if noOwns xs = true ∧ noBors xs = true ∧ 0 ≤ k ∧ k < 2 ^ 63 ∧ xs.length * k.toNat ≤ sizeLine then some (.lst .own (List.replicate k.toNat xs).flatten) else none
  | _, _ => none
def fdivD : D → D → Option D
  | .int i, .int j => if 0 < j ∧ j.natAbs.log2 < 9000 then some (.int (i / j)) else none
  | _, _ => none
def modD : D → D → Option D
  | .int i, .int j => if 0 < j then some (.int (i % j)) else none
  | _, _ => none
def powD : D → D → Option D
  | .int i, .int j => if 0 ≤ j ∧ j ≤ 1000000 ∧ i.natAbs < 2 ^ 64 then some (.int (i ^ j.toNat)) else none
  | _, _ => none
def negD : D → Option D
  | .int i => some (.int (-i))
  | _ => none
def eqD (x y : D) : Option D := if datOk x = true ∧ datOk y = true then some (.bl (eqv x y)) else none
def emptyDk : D → Bool
  | .dk .own [] [] => true
  | _ => false
def isTupD : D → Bool
  | .tup _ _ => true
  | _ => false
def neD (x y : D) : Option D := if datOk x = true ∧ datOk y = true then some (.bl (!eqv x y)) else if emptyDk x = true ∧ isTupD y = true then some (.bl true) else none
def cmpD (p : Int → Int → Bool) : D → D → Option D
  | .int i, .int j => some (.bl (p i j))
  | _, _ => none
def isNon : D → Bool
  | .non => true
  | _ => false
def noneD (neg : Bool) (x : D) : Option D := if isDead x = true then none else some (.bl (if neg then !isNon x else isNon x))
def notD : D → Option D
  | .bl b => some (.bl (!b))
  | _ => none
def newTup (xs : List D) : Option D := if goodKids xs = true ∧ xs.length ≤ sizeLine then some (tupOf xs) else none
def newLst (xs : List D) : Option D := if goodKids xs = true ∧ xs.length ≤ sizeLine then some (.lst .own xs) else none
def newDk : List D → Option D
  | [] => some (.dk .own [] [])
  | _ => none
def newDt : List D → Option D
  | [] => some (.dt .own [] [])
  | _ => none
def live (d : D) : Option D := if isDead d = true then none else some d
def slices : Bool → Bool → List D → Option D
  | false, false, [x] => slD x none none
  | true, false, [x, i] => (partD i).bind fun i => slD x (some i) none
  | false, true, [x, j] => (partD j).bind fun j => slD x none (some j)
  | true, true, [x, i, j] => (partD i).bind fun i => (partD j).bind fun j => slD x (some i) (some j)
  | _, _, _ => none
def revD : D → Option D
  | .lst _ xs => if noOwns xs = true ∧ noBors xs = true then some (.lst .own xs.reverse) else none
  | _ => none
def fldD (f : Str) : D → Option D
  | .ins _ _ fs vs => (dget fs vs f).bind live
  | _ => none
def lenD : D → Option D
  | .str x => if x.length ≤ sizeLine then some (.int x.length) else none
  | .lst _ xs => some (.int xs.length)
  | .tup _ xs => some (.int xs.length)
  | .scr ns => some (.int ns.length)
  | .dk _ ks _ => some (.int ks.length)
  | _ => none
def listD : D → Option D
  | .lst _ xs => if noOwns xs = true ∧ noBors xs = true then some (.lst .own xs) else none
  | .tup _ xs => if noOwns xs = true ∧ noBors xs = true then some (.lst .own xs) else none
  | _ => none
def tupleD : D → Option D
  | .lst _ xs => if noOwns xs = true ∧ noBors xs = true then some (.tup .shr xs) else none
  | _ => none
def intD : D → Option D
  | .int i => some (.int i)
  | .bl b => some (.int (if b then 1 else 0))
  | _ => none
def strID : D → Option D
  | .int i => if i.natAbs.log2 < 1920 then some (.str (toString i)) else none
  | _ => none
def sumD : D → Option D
  | .lst _ xs => (intsOf xs).map fun ns => .int ns.sum
  | _ => none
def minD : D → D → Option D
  | .int i, .int j => some (.int (if j < i then j else i))
  | _, _ => none
def maxD : D → D → Option D
  | .int i, .int j => some (.int (if j > i then j else i))
  | _, _ => none
def allD : D → Option D
  | .lst _ xs => (blsOf xs).map fun bs => .bl (bs.all id)
  | _ => none
def anyD : D → Option D
  | .lst _ xs => (blsOf xs).map fun bs => .bl (bs.any id)
  | _ => none
def txtPart : D → D → Option D
  | .str a, .str b => if (b.length == 0) = false ∧ a.length ≤ sizeLine then some (.tup .shr [.str (Txt.partition a b).1, .str (Txt.partition a b).2.1, .str (Txt.partition a b).2.2]) else none
  | _, _ => none
def txtFind : D → D → Option D
  | .str a, .str b => some (.int (Txt.find a b))
  | _, _ => none
def strsOf : List D → Option (List Str)
  | [] => some []
  | .str b :: xs => (strsOf xs).map (b :: ·)
  | _ => none
def txtJoin : D → D → Option D
  | .str a, .lst _ xs => (strsOf xs).bind fun ys => if (ys.map (·.length)).sum + ys.length * a.length ≤ 16777216 then some (.str (Txt.join a ys)) else none
  | _, _ => none
def divmodD : D → D → Option D
  | .int i, .int j => if 0 < j ∧ Builtin.Int.intBits i ≤ Builtin.Int.intBits j + 4000 then some (.tup .shr [.int (i / j), .int (i % j)]) else none
  | _, _ => none
def intTD : D → Option D
  | .str a => (PySem.intText? a).bind fun n => if a.length ≤ 640 then some (.int n) else none
  | _ => none
/-- a text, so many times -/
def repS (a : Str) (k : Int) : Str := ⟨(List.replicate k.toNat a.cps.toList).flatten.toArray⟩
def repD : D → D → Option D
  | .str a, .int k => if 0 ≤ k ∧ k ≤ 1000000 ∧ a.length * k.toNat ≤ 1000000 then some (.str (repS a k)) else none
  | _, _ => none
def opD : Op → List D → Option D
  | .add => bi2 addD
  | .sub => bi2 subD
  | .mul => bi2 mulD
  | .fdiv => bi2 fdivD
  | .mod => bi2 modD
  | .pow => bi2 powD
  | .neg => un1 negD
  | .eq => bi2 eqD
  | .ne => bi2 neD
  | .lt => bi2 (cmpD fun i j => decide (i < j))
  | .le => bi2 (cmpD fun i j => decide (i ≤ j))
  | .gt => bi2 (cmpD fun i j => decide (j < i))
  | .ge => bi2 (cmpD fun i j => decide (j ≤ i))
  | .isN => un1 (noneD false)
  | .notN => un1 (noneD true)
  | .in_ => bi2 fun x y => (inD x y).map .bl
  | .nin => bi2 fun x y => (inD x y).map fun b => .bl (!b)
  | .not => un1 notD
  | .tup => newTup
  | .lst => newLst
  | .dnk => newDk
  | .dnt => newDt
  | .ix => bi2 fun x y => (ixD x y).bind live
  | .sl lo hi => slices lo hi
  | .rev => un1 revD
  | .fld f => un1 (fldD f)
  | .len => un1 lenD
  | .list => un1 listD
  | .tuple => un1 tupleD
  | .int => un1 intD
  | .strI => un1 strID
  | .sum => un1 sumD
  | .min2 => bi2 minD
  | .max2 => bi2 maxD
  | .all => un1 allD
  | .any => un1 anyD
  | .part => bi2 txtPart
  | .find => bi2 txtFind
  | .join => bi2 txtJoin
  | .divmod => bi2 divmodD
  | .intT => un1 intTD
  | .rep => bi2 repD
  | .isi t _ tab => un1 fun x => (isiD t tab x).map .bl
/-! ### outcomes -/
inductive R (α : Type) where
  | ok (a : α) (s : List D)
  | exc (c : Nat) (fs : List Str) (xs : List D) (s : List D)
  | bad
def R.bind {α β : Type} (r : R α) (f : α → List D → R β) : R β :=
  match r with
  | .ok a s => f a s
  | .exc c fs xs s => .exc c fs xs s
  | .bad => .bad
def R.of {α : Type} (o : Option α) (s : List D) : R α :=
  match o with
  | some a => .ok a s
  | none => .bad
/-- a def's outcome: the value, or the exception; its first parameter's data behind it -/
inductive FR where
  | ok (r : D) (d0 : D)
  | exc (c : Nat) (fs : List Str) (xs : List D) (d0 : D)
  | bad
/-- a def of the text: name, parameters, level, whether it may change its first parameter, defaults (of the last parameters), what it gives -/
structure FE where
  name : Str
  np : Nat
  lv : Nat
  m : Bool
  dfl : List D
  g : List D → FR
/-- what a walk goes through, and where its items go -/
inductive ItK where
  | seq | rng1 | rng2 | rng3 | enum | zip
  deriving DecidableEq
inductive Tg where
  | nm (i : Nat) | tup (is : List Nat)
inductive E where
  | c (d : D) | nm (i : Nat) | mv (i : Nat) | fz (i : Nat) | cp (a : E) | tf (a : E) | gl (x : Str) (d : D)
  | op (o : Op) (es : List E) | mth (o : Op) (a : E) (es : List E)
  | band (es : List E) | bor (es : List E) | ite (c a b : E)
  | chain (o1 o2 : Op) (a b c : E)
  | call (f : FE) (es : List E)
  | comp (own : List Nat) (t : Tg) (k : ItK) (es : List E) (co : List E) (elt : E)
structure It where
  k : ItK
  es : List E
def scalD : D → Bool
  | .non => true
  | .bl _ => true
  | .int _ => true
  | .str _ => true
  | _ => false
def fillD (f : FE) (ds : List D) : List D := refls Fl.lend ds ++ f.dfl.drop (f.dfl.length - (f.np - ds.length))
def setAll : List Nat → List D → List D → Option (List D)
  | [], [], s => some s
  | i :: is, x :: xs, s => setAll is xs (s.set i x)
  | _, _, _ => none
/-- items are shared or borrowed: storing them takes nothing -/
def tgSet : Tg → D → List D → Option (List D)
  | .nm i, d, s => some (s.set i d)
  | .tup is, .tup _ xs, s => setAll is xs s
  | _, _, _ => none
def pairD (x y : D) : D := if allShr x && allShr y then .tup .shr [x, y] else .tup .bor [x, y]
def small62 (i : Int) : Bool := decide (-(2 ^ 62) ≤ i) && decide (i < 2 ^ 62)
def rngD (lo : Int) (n : Nat) (c : Int) : List D := (List.range n).map fun (k : Nat) => .int (lo + (k : Int) * c)
def seqD : D → Option (List D)
  | .lst fl xs => if fl != .own && noOwns xs && xs.all (fun x => !isDead x) then some xs else none
  | .tup fl xs => if fl != .own && noOwns xs && xs.all (fun x => !isDead x) then some xs else none
  | .str x => some (x.cps.toList.map fun c => .str ⟨#[c]⟩)
  | .scr ns => some (ns.map .int)
  | _ => none
def lstD : D → Option (List D)
  | .lst fl xs => if fl != .own && noOwns xs && xs.all (fun x => !isDead x) then some xs else none
  | .scr ns => some (ns.map .int)
  | _ => none
def rng1D : D → Option (List D)
  | .int j => if small62 j then some (rngD 0 j.toNat 1) else none
  | _ => none
def rng2D : D → D → Option (List D)
  | .int i, .int j => if small62 i && small62 j then some (rngD i (j - i).toNat 1) else none
  | _, _ => none
def rng3D : D → D → D → Option (List D)
  | .int i, .int j, .int k => if small62 i && small62 j && decide (0 < k) && decide (k < 1073741824) then some (rngD i ((j - i + (k - 1)) / k).toNat k) else none
  | _, _, _ => none
def enumD (d : D) : Option (List D) := (lstD d).map fun xs => (xs.zipIdx.map fun p => pairD (.int (p.2 : Nat)) p.1)
def zipD (x y : D) : Option (List D) := (lstD x).bind fun xs => (lstD y).map fun ys => (xs.zip ys).map fun p => pairD p.1 p.2
/-- the items of a walk -/
def itD : ItK → List D → Option (List D)
  | .seq, [x] => seqD x
  | .rng1, [x] => rng1D x
  | .rng2, [x, y] => rng2D x y
  | .rng3, [x, y, z] => rng3D x y z
  | .enum, [x] => enumD x
  | .zip, [x, y] => zipD x y
  | _, _ => none
/-- slots put aside, and back -/
def clr : List Nat → List D → List D
  | [], s => s
  | i :: is, s => (clr is s).set i .dead
def rst (s0 : List D) : List Nat → List D → List D
  | [], s => s
  | i :: is, s => (rst s0 is s).set i (s0.getD i .dead)
def chk (own : List Nat) (s : List D) : Bool := own.all fun i => noOwn (s.getD i .dead)
/-- the turns of a comprehension -/
def loopC (own : List Nat) (f : D → List D → R (Option D)) : List D → List D → R (List D)
  | [], s => .ok [] s
  | d :: ds, s => match f d s with
    | .ok (some y) s1 => if chk own s1 then (loopC own f ds (clr own s1)).bind fun ys s2 => .ok (y :: ys) s2 else .bad
    | .ok none s1 => if chk own s1 then loopC own f ds (clr own s1) else .bad
    | _ => .bad
def compE (own : List Nat) (s1 : List D) (r : R (List D)) : R D := match r with
  | .ok ys s2 => if goodKids ys && decide (ys.length ≤ sizeLine) then .ok (.lst .own ys) (rst s1 own s2) else .bad
  | _ => .bad
def ordP : Op → Option (Int → Int → Bool)
  | .lt => some fun i j => decide (i < j)
  | .le => some fun i j => decide (i ≤ j)
  | .gt => some fun i j => decide (j < i)
  | .ge => some fun i j => decide (j ≤ i)
  | _ => none
def ordD (o : Op) (x y : D) : Option Bool := match ordP o, x, y with
  | some p, .int i, .int j => some (p i j)
  | _, _, _ => none
/-- what a method is asked of -/
def rcvOk (o : Op) (d : D) : Bool := match o, d with
  | .part, .str _ => true
  | .find, .str _ => true
  | .join, .str _ => true
  | _, _ => false
mutual
def evE : E → List D → R D
  | .c d, s => .ok d s
  | .nm i, s => if isDead (s.getD i .dead) then .bad else .ok (s.getD i .dead) s
  | .mv i, s => if isDead (s.getD i .dead) then .bad else .ok (s.getD i .dead) (s.set i .dead)
  | .fz i, s => if isDead (s.getD i .dead) || !noBor (s.getD i .dead) then .bad else .ok (frz (s.getD i .dead)) (s.set i (frz (s.getD i .dead)))
  | .cp a, s => (evE a s).bind fun d s1 => if noOwn d then .ok d s1 else .bad
  | .tf a, s => (evE a s).bind fun d s1 => if noBor d then .ok (frz d) s1 else .bad
  | .gl _ d, s => .ok d s
  | .op o es, s => (evEs es s).bind fun ds s1 => R.of (opD o ds) s1
  | .mth o a es, s => (evE a s).bind fun d0 s1 => if rcvOk o d0 then (evEs es s1).bind fun ds s2 => R.of (opD o (d0 :: ds)) s2 else .bad
  | .band es, s => evAnd es s
  | .bor es, s => evOr es s
  | .ite c a b, s => (evE c s).bind fun d s1 => match truth d with
    | some true => evE a s1
    | some false => evE b s1
    | none => .bad
  | .chain o1 o2 a b c, s => (evE a s).bind fun x s1 => (evE b s1).bind fun y s2 => match ordD o1 x y with
    | some true => (evE c s2).bind fun z s3 => R.of ((ordD o2 y z).map .bl) s3
    | some false => .ok (.bl false) s2
    | none => .bad
  | .call f es, s => (evEs es s).bind fun ds s1 => match f.g (fillD f ds) with
    | .ok r _ => if noBor r && !isDead r then .ok r s1 else .bad
    | .exc c fs xs _ => .exc c fs xs s1
    | .bad => .bad
  | .comp own t k es co elt, s => (evEs es s).bind fun ds s1 => match itD k ds with
    | some xs => if chk own s1 then
        compE own s1 (loopC own (fun d s => match tgSet t d s with
          | some s2 => (evTs co s2).bind fun b s3 => if b then (evE elt s3).bind fun y s4 => .ok (some y) s4 else .ok none s3
          | none => .bad) xs (clr own s1))
      else .bad
    | none => .bad
def evEs : List E → List D → R (List D)
  | [], s => .ok [] s
  | e :: es, s => (evE e s).bind fun d s1 => (evEs es s1).bind fun ds s2 => .ok (d :: ds) s2
def evAnd : List E → List D → R D
  | [], _ => .bad
  | [e], s => evE e s
  | e :: es, s => (evE e s).bind fun d s1 => match d with
    | .bl true => evAnd es s1
    | .bl false => .ok (.bl false) s1
    | _ => .bad
def evOr : List E → List D → R D
  | [], _ => .bad
  | [e], s => evE e s
  | e :: es, s => (evE e s).bind fun d s1 => match d with
    | .bl false => evOr es s1
    | .bl true => .ok (.bl true) s1
    | _ => .bad
/-- a comprehension's test, at most one -/
def evTs : List E → List D → R Bool
  | [], s => .ok true s
  | e :: es, s => (evE e s).bind fun d s1 => match truth d with
    | some b => .ok b s1
    | none => .bad
end
def evIt (it : It) (s : List D) : R (List D) := (evEs it.es s).bind fun ds s1 => R.of (itD it.k ds) s1
/-! ### statements -/
inductive O where
  | nx (s : List D) | rt (d : D) (s : List D) | bk (s : List D) | ct (s : List D)
  | exc (c : Nat) (fs : List Str) (xs : List D) (s : List D)
  | bad
def R.then {α : Type} (r : R α) (f : α → List D → O) : O :=
  match r with
  | .ok a s => f a s
  | .exc c fs xs s => .exc c fs xs s
  | .bad => .bad
def O.bind (o : O) (f : List D → O) : O :=
  match o with
  | .nx s => f s
  | o => o
/-- what an except suite does: a name is given the exception, or a constant, or an empty list -/
inductive Su where
  | exn (i : Nat) | c (i : Nat) (d : D) | nil (i : Nat)
inductive S where
  | asg (i : Nat) (e : E)
  | par (i j : Nat) (a b : E)
  | app (i : Nat) (e : E)
  | asgT (is : List Nat) (e : E)
  | aug (i : Nat) (o : Op) (e : E)
  | ex (e : E)
  | ret (e : E)
  | ift (c : E) (a b : List S)
  | for_ (t : Tg) (it : It) (b : List S)
  | whl (fuel : List D → Nat) (c : E) (b : List S)
  | raise0 (c : Nat) (x : Str)
  | try1 (b : List S) (c : Nat) (x : Str) (tab : List (Nat × Bool)) (nmi : Option Nat) (su : Su)
  | pass | cont
/-- x += .., x *= ..: whole numbers, texts -/
def augD : Op → D → D → Option D
  | .add, .int i, .int j => some (.int (i + j))
  | .add, .str x, .str y => if x.length + y.length ≤ sizeLine then some (.str (x ++ y)) else none
  | .mul, .int i, .int j => if mulOk i j = true then some (.int (i * j)) else none
  | _, _, _ => none
def isLst : D → Bool
  | .lst _ _ => true
  | _ => false
/-- xs.append(d) -/
def appD : D → D → Option D
  | .lst .own xs, d => if noBor d && !isDead d && decide (xs.length < sizeLine) then some (.lst .own (xs ++ [d])) else none
  | _, _ => none
def suD : Su → Nat → List Str → List D → List D → List D
  | .exn i, c, fs, xs, s => s.set i (.exn c fs xs)
  | .c i d, _, _, _, s => s.set i d
  | .nil i, _, _, _, s => s.set i (.lst .own [])
/-- the turns of a for -/
def loopF (f : D → List D → O) : List D → List D → O
  | [], s => .nx s
  | d :: ds, s => match f d s with
    | .nx s1 => loopF f ds s1
    | .ct s1 => loopF f ds s1
    | .bk s1 => .nx s1
    | o => o
/-- the turns of a while, at most n -/
def loopW (c : List D → R D) (f : List D → O) : Nat → List D → O
  | 0, _ => .bad
  | n + 1, s => match c s with
    | .ok d s1 => match truth d with
      | some true => match f s1 with
        | .nx s2 => loopW c f n s2
        | .ct s2 => loopW c f n s2
        | .bk s2 => .nx s2
        | o => o
      | some false => .nx s1
      | none => .bad
    | .exc c fs xs s1 => .exc c fs xs s1
    | .bad => .bad
mutual
def exS : S → List D → O
  | .asg i e, s => (evE e s).then fun d s1 => .nx (s1.set i d)
  | .par i j a b, s => (evEs [a, b] s).then fun ds s1 => match ds with
    | [x, y] => .nx ((s1.set i x).set j y)
    | _ => .bad
  | .app i e, s => if isLst (s.getD i .dead) then (evE e s).then fun d s1 => match appD (s1.getD i .dead) d with
      | some r => .nx (s1.set i r)
      | none => .bad
    else .bad
  | .asgT is e, s => (evE e s).then fun d s1 => match tgSet (.tup is) d s1 with
    | some s2 => .nx s2
    | none => .bad
  | .aug i o e, s => if isDead (s.getD i .dead) then .bad else (evE e s).then fun d s1 => match augD o (s1.getD i .dead) d with
    | some r => .nx (s1.set i r)
    | none => .bad
  | .ex e, s => (evE e s).then fun _ s1 => .nx s1
  | .ret e, s => (evE e s).then fun d s1 => .rt d s1
  | .ift c a b, s => (evE c s).then fun d s1 => match truth d with
    | some true => exSs a s1
    | some false => exSs b s1
    | none => .bad
  | .for_ t it b, s => (evIt it s).then fun xs s1 => loopF (fun d s => match tgSet t d s with | some s' => exSs b s' | none => .bad) xs s1
  | .whl fuel c b, s => loopW (evE c) (exSs b) (fuel s) s
  | .raise0 c _, s => .exc c [] [] s
  | .try1 b _ _ tab nmi su, s => match exSs b s with
    | .exc c fs xs s1 => match tab.lookup c with
      | some true => .nx (match nmi with | some i => (suD su c fs xs s1).set i .dead | none => suD su c fs xs s1)
      | some false => .exc c fs xs s1
      | none => .bad
    | o => o
  | .pass, s => .nx s
  | .cont, s => .ct s
def exSs : List S → List D → O
  | [], s => .nx s
  | x :: xs, s => (exS x s).bind fun s1 => exSs xs s1
end
/-- a def's run -/
def runF (n : Nat) (m : Bool) (b : List S) (ds : List D) : FR :=
  match exSs b (ds ++ List.replicate (n - ds.length) .dead) with
  | .nx s => .ok .non (if m then s.getD 0 .dead else .dead)
  | .rt d s => if noBor d && !isDead d then .ok d (if m then s.getD 0 .dead else .dead) else .bad
  | .exc c fs xs s => .exc c fs xs (if m then s.getD 0 .dead else .dead)
  | _ => .bad
end TT
open TT in
example (a b : TT.D) : evE (.op .tup [.nm 0, .c (.int 3)]) [.int 4] = .ok (.tup .shr [.int 4, .int 3]) [.int 4] := rfl
open TT in
example (n : Int) : exSs [.asg 0 (.op .add [.nm 0, .c (.int 3)]), .ret (.nm 0)] [.int n] = .rt (.int (n+3)) [.int (n+3)] := rfl
namespace TT
open PySem PySem.Spec PyProof.Rows L2
/-! ### states -/
abbrev Fp := Nat → List Addr
def inF (F : Fp) (a : Addr) : Prop := ∃ i, a ∈ F i
structure Good (C : Gl0) (G B H : Hp) (F : Fp) (s : List D) (σ : L2.St) : Prop where
  gb : Sb G B
  bh : Sb B H
  len : s.length = σ.length
  sl : ∀ i, s.getD i .dead ≠ .dead → ∃ v, σ[i]? = some (some v) ∧ Own C G B H (s.getD i .dead) v (F i)
  nf : ∀ i, s.getD i .dead = .dead → F i = []
  nd : ∀ i, (F i).Nodup
  dj : ∀ i j a, a ∈ F i → a ∈ F j → i = j
/-- from one state to a later one: P what the code may change, P' what it may change from then on -/
structure Ext (G B H : Hp) (P : Addr → Prop) (G' B' H' : Hp) (P' : Addr → Prop) : Prop where
  keep : ∀ a o, H a = some o → ¬ P a → H' a = some o
  g : ∀ a o, G a = some o → G' a = some o
  b : ∀ a o, B a = some o → B' a = some o
  gn : ∀ a, G' a ≠ none → G a ≠ none ∨ P a ∨ H a = none
  bn : ∀ a, B' a ≠ none → B a ≠ none ∨ P a ∨ H a = none
  pn : ∀ a, P' a → P a ∨ H a = none
section
variable {C : Gl0} {G B H G' B' H' G'' B'' H'' : Hp} {P P' P'' R : Addr → Prop} {F F' : Fp} {s s' : List D} {σ : L2.St}
theorem Ext.refl : Ext G B H P G B H P := ⟨fun _ _ h _ => h, fun _ _ h => h, fun _ _ h => h, fun _ h => .inl h, fun _ h => .inl h, fun _ h => .inl h⟩
theorem Ext.gone (x : Ext G B H P G' B' H' P') {a : Addr} (h : H' a = none) : H a = none ∨ P a := by
  cases e : H a with
  | none => exact .inl rfl
  | some o =>
    by_cases p : P a
    · exact .inr p
    · have := x.keep a o e p
      rw [h] at this; cases this
theorem Ext.trans (x : Ext G B H P G' B' H' P') (y : Ext G' B' H' P' G'' B'' H'' P'') : Ext G B H P G'' B'' H'' P'' where
  keep := fun a o h p => y.keep a o (x.keep a o h p) fun p' => (x.pn a p').elim p fun z => by rw [z] at h; cases h
  g := fun a o h => y.g a o (x.g a o h)
  b := fun a o h => y.b a o (x.b a o h)
  gn := fun a h => by
    rcases y.gn a h with h | h | h
    · exact x.gn a h
    · exact .inr (x.pn a h)
    · exact .inr ((x.gone h).symm)
  bn := fun a h => by
    rcases y.bn a h with h | h | h
    · exact x.bn a h
    · exact .inr (x.pn a h)
    · exact .inr ((x.gone h).symm)
  pn := fun a h => by
    rcases y.pn a h with h | h
    · exact x.pn a h
    · exact (x.gone h).symm
/-- beside it stands R -/
theorem Ext.frame (x : Ext G B H P G' B' H' P') : Ext G B H (fun a => P a ∨ R a) G' B' H' (fun a => P' a ∨ R a) where
  keep := fun a o h p => x.keep a o h fun z => p (.inl z)
  g := x.g
  b := x.b
  gn := fun a h => by
    rcases x.gn a h with h | h | h
    · exact .inl h
    · exact .inr (.inl (.inl h))
    · exact .inr (.inr h)
  bn := fun a h => by
    rcases x.bn a h with h | h | h
    · exact .inl h
    · exact .inr (.inl (.inl h))
    · exact .inr (.inr h)
  pn := fun a h => by
    rcases h with h | h
    · rcases x.pn a h with h | h
      · exact .inl (.inl h)
      · exact .inr h
    · exact .inl (.inr h)
theorem Ext.imp (x : Ext G B H P G' B' H' P') {R R' : Addr → Prop} (h1 : ∀ a, P a → R a) (h2 : ∀ a, R' a → P' a ∨ (P a ∨ R a)) : Ext G B H R G' B' H' R' where
  keep := fun a o h p => x.keep a o h fun z => p (h1 a z)
  g := x.g
  b := x.b
  gn := fun a h => (x.gn a h).imp id (Or.imp (h1 a) id)
  bn := fun a h => (x.bn a h).imp id (Or.imp (h1 a) id)
  pn := fun a h => by
    rcases h2 a h with h | h | h
    · exact (x.pn a h).imp (h1 a) id
    · exact .inl (h1 a h)
    · exact .inl h
/-- only new things -/
abbrev Alloc (G B H G' B' H' : Hp) : Prop := Ext G B H (fun _ => False) G' B' H' (fun _ => False)
theorem Alloc.ext (x : Alloc G B H G' B' H') : Ext G B H P G' B' H' P := x.imp (fun _ h => h.elim) fun _ h => .inr (.inr h)
theorem Good.nb (g : Good C G B H F s σ) {i : Nat} {a : Addr} (h : a ∈ F i) : H a ≠ none ∧ B a = none := by
  by_cases e : s.getD i .dead = .dead
  · rw [g.nf i e] at h; cases h
  · obtain ⟨v, _, o⟩ := g.sl i e
    exact o.fp a h
theorem Good.inF (g : Good C G B H F s σ) {a : Addr} (h : TT.inF F a) : H a ≠ none ∧ B a = none := let ⟨_, h⟩ := h; g.nb h
theorem none_of_ne {A : Hp} {a : Addr} (h : ¬ A a ≠ none) : A a = none := by
  cases e : A a with
  | none => rfl
  | some o => exact absurd (by rw [e]; simp) h
theorem Ext.bnone (x : Ext G B H P G' B' H' P') {a : Addr} (h1 : B a = none) (h2 : ¬ P a) (h3 : H a ≠ none) : B' a = none := none_of_ne fun z => by
  rcases x.bn a z with q | q | q
  · exact q h1
  · exact h2 q
  · exact h3 q
theorem Ext.same (x : Ext G B H P G' B' H' P') {a : Addr} (h2 : ¬ P a) (h3 : H a ≠ none) : H' a = H a := by
  cases e : H a with
  | none => exact absurd e h3
  | some o => exact x.keep a o e h2
theorem Ext.own (x : Ext G B H P G' B' H' P') {d : D} {v : V} {fd : List Addr} (o : Own C G B H d v fd) (h : ∀ a ∈ fd, ¬ P a) : Own C G' B' H' d v fd :=
  o.mono x.g x.b fun a ha => ⟨x.same (h a ha) (o.fp a ha).1, x.bnone (o.fp a ha).2 (h a ha) (o.fp a ha).1⟩
theorem Ext.owns (x : Ext G B H P G' B' H' P') {d : List D} {v : List V} {fd : List Addr} (o : Owns C G B H d v fd) (h : ∀ a ∈ fd, ¬ P a) : Owns C G' B' H' d v fd :=
  o.mono x.g x.b fun a ha => ⟨x.same (h a ha) (o.fp a ha).1, x.bnone (o.fp a ha).2 (h a ha) (o.fp a ha).1⟩
theorem Good.alloc (g : Good C G B H F s σ) (x : Alloc G B H G' B' H') (gb : Sb G' B') (bh : Sb B' H') : Good C G' B' H' F s σ :=
  ⟨gb, bh, g.len, fun i h => let ⟨v, e, o⟩ := g.sl i h; ⟨v, e, x.own o fun _ _ z => z⟩, g.nf, g.nd, g.dj⟩
end
/-! ### what may change, what is but looked at -/
mutual
def eff : E → Bool
  | .mv _ => true
  | .fz _ => true
  | .cp a => eff a
  | .tf a => eff a
  | .op _ es => effs es
  | .mth _ a es => eff a || effs es
  | .band es => effs es
  | .bor es => effs es
  | .ite c a b => eff c || eff a || eff b
  | .chain _ _ a b c => eff a || (eff b || eff c)
  | .call _ es => effs es
  | .comp _ _ _ es co elt => effs es || (effs co || eff elt)
  | _ => false
def effs : List E → Bool
  | [] => false
  | e :: es => eff e || effs es
end
def isLook : Op → Bool
  | .ix => true
  | .fld _ => true
  | _ => false
mutual
def isPl : E → Bool
  | .nm _ => true
  | .op o es => isLook o && isPl0 es
  | _ => false
def isPl0 : List E → Bool
  | [] => false
  | e :: _ => isPl e
end
/-! ### what holds behind an expression -/
structure PostE (C : Gl0) (σ : L2.St) (e : E) (G B H : Hp) (F : Fp) (s : List D) (d : D) (s' : List D) (v : V) (G' B' H' : Hp) (F' : Fp) (fd : List Addr) : Prop where
  good : Good C G' B' H' F' s' σ
  ext : Ext G B H (inF F) G' B' H' (fun a => inF F' a ∨ a ∈ fd)
  own : Own C G' B' H' d v fd
  nd : fd.Nodup
  pl : isPl e = true → ∀ a ∈ fd, inF F' a
  np : isPl e = false → ∀ a ∈ fd, ¬ inF F' a
  pure : eff e = false → s' = s ∧ F' = F ∧ ∀ a o, H a = some o → H' a = some o
def VL (C : Gl0) (G B H : Hp) (F : Fp) : List E → List D → List V → List Addr → Prop
  | [], ds, vs, U => ds = [] ∧ vs = [] ∧ U = []
  | e :: es, ds, vs, U => ∃ d dr v vr fd U', ds = d :: dr ∧ vs = v :: vr ∧ Own C G B H d v fd ∧ fd.Nodup ∧ VL C G B H F es dr vr U' ∧
      ((isPl e = true ∧ (∀ a ∈ fd, inF F a) ∧ U = U') ∨ (isPl e = false ∧ (∀ a ∈ fd, ¬ inF F a ∧ a ∉ U') ∧ U = fd ++ U'))
structure PostL (C : Gl0) (σ : L2.St) (es : List E) (G B H : Hp) (F : Fp) (s : List D) (ds : List D) (s' : List D) (vs : List V) (G' B' H' : Hp) (F' : Fp) (U : List Addr) : Prop where
  good : Good C G' B' H' F' s' σ
  ext : Ext G B H (inF F) G' B' H' (fun a => inF F' a ∨ a ∈ U)
  vl : VL C G' B' H' F' es ds vs U
  nd : U.Nodup
  np : ∀ a ∈ U, ¬ inF F' a
  pure : effs es = false → s' = s ∧ F' = F ∧ ∀ a o, H a = some o → H' a = some o
/-- an exception in the air: its class, its dict -/
def ExR (C : Gl0) (G : Hp) (c : Nat) (fs : List Str) (xs : List D) (cls : Value) (dd : Option Addr) : Prop :=
  cls = .ref (C.ca c) ∧ okKids .shr xs ∧ ∃ vs, (∀ B H, Owns C G B H xs vs []) ∧ fs.length = xs.length ∧ ((fs = [] ∧ dd = none) ∨ (fs ≠ [] ∧ ∃ d, dd = some d ∧ G d = some (.xd (fs.zip vs))))
def outX (C : Gl0) (W : WX) (σ : L2.St) (G B H : Hp) (F : Fp) (c : Nat) (fs : List Str) (xs : List D) (s' : List D) : Prop :=
  ∀ cls dd G' B' H' F', Good C G' B' H' F' s' σ → Ext G B H (inF F) G' B' H' (inF F') → ExR C G' c fs xs cls dd → W cls dd σ H'
def outE (C : Gl0) (W : WX) (σ : L2.St) (e : E) (G B H : Hp) (F : Fp) (s : List D) (r : R D) (Q : VK) : Prop :=
  match r with
  | .ok d s' => ∀ v G' B' H' F' fd, PostE C σ e G B H F s d s' v G' B' H' F' fd → Q v H'
  | .exc c fs xs s' => outX C W σ G B H F c fs xs s'
  | .bad => False
def tE (C : Gl0) (W : WX) (e : E) : TE := fun σ H Q => ∃ s G B F, Good C G B H F s σ ∧ outE C W σ e G B H F s (evE e s) Q
def outL (C : Gl0) (W : WX) (σ : L2.St) (es : List E) (G B H : Hp) (F : Fp) (s : List D) (r : R (List D)) (Q : List V → Hp → Prop) : Prop :=
  match r with
  | .ok ds s' => ∀ vs G' B' H' F' U, PostL C σ es G B H F s ds s' vs G' B' H' F' U → Q vs H'
  | .exc c fs xs s' => outX C W σ G B H F c fs xs s'
  | .bad => False
def tL (C : Gl0) (W : WX) (es : List E) : TA := fun σ H Q => ∃ s G B F, Good C G B H F s σ ∧ outL C W σ es G B H F s (evEs es s) Q
section
variable {C : Gl0} {W : WX} {σ : L2.St} {G B H G1 B1 H1 : Hp} {F F1 : Fp} {s s1 : List D}
theorem outX.from {P : Addr → Prop} {c : Nat} {fs : List Str} {xs s' : List D} (x : Ext G B H (inF F) G1 B1 H1 P) (hP : ∀ a, inF F1 a → P a) (h : outX C W σ G B H F c fs xs s') : outX C W σ G1 B1 H1 F1 c fs xs s' :=
  fun cls dd G' B' H' F' g y r => h cls dd G' B' H' F' g ((x.imp (fun _ z => z) fun a z => .inl (hP a z)).trans y) r
theorem tE.mono {e : E} {Q Q' : VK} (h : tE C W e σ H Q) (q : ∀ v H, Q v H → Q' v H) : tE C W e σ H Q' := by
  obtain ⟨s, G, B, F, g, h⟩ := h
  refine ⟨s, G, B, F, g, ?_⟩
  cases e1 : evE e s with
  | ok d s' => rw [e1] at h; exact fun v G' B' H' F' fd p => q _ _ (h v G' B' H' F' fd p)
  | exc c fs xs s' => rw [e1] at h; exact h
  | bad => rw [e1] at h; exact h
theorem tL.mono {e : List E} {Q Q' : List V → Hp → Prop} (h : tL C W e σ H Q) (q : ∀ v H, Q v H → Q' v H) : tL C W e σ H Q' := by
  obtain ⟨s, G, B, F, g, h⟩ := h
  refine ⟨s, G, B, F, g, ?_⟩
  cases e1 : evEs e s with
  | ok d s' => rw [e1] at h; exact fun v G' B' H' F' fd p => q _ _ (h v G' B' H' F' fd p)
  | exc c fs xs s' => rw [e1] at h; exact h
  | bad => rw [e1] at h; exact h
theorem tL.nil {Q : List V → Hp → Prop} (h : tL C W [] σ H Q) : Q [] H := by
  obtain ⟨s, G, B, F, g, h⟩ := h
  have x : Ext G B H (inF F) G B H (fun a => inF F a ∨ a ∈ ([] : List Addr)) := (Ext.refl (P := inF F)).imp (fun _ z => z) (fun a z => .inl (z.elim id fun z => nomatch z))
  refine h [] G B H F [] { good := g, ext := x, vl := ⟨rfl, rfl, rfl⟩, nd := List.nodup_nil, np := (fun _ z => nomatch z), pure := fun _ => ⟨rfl, rfl, fun _ _ z => z⟩ }
theorem PostL.cons {e : E} {es : List E} {d : D} {v : V} {fd : List Addr} {ds s2 : List D} {vs : List V} {G2 B2 H2 : Hp} {F2 : Fp} {U : List Addr} (hp : isPl e = true → effs es = false)
    (p : PostE C σ e G B H F s d s1 v G1 B1 H1 F1 fd) (q : PostL C σ es G1 B1 H1 F1 s1 ds s2 vs G2 B2 H2 F2 U) :
    ∃ U', PostL C σ (e :: es) G B H F s (d :: ds) s2 (v :: vs) G2 B2 H2 F2 U' := by
  have fp := p.own.fp
  cases hpl : isPl e with
  | false =>
    have np := p.np hpl
    have own2 : Own C G2 B2 H2 d v fd := q.ext.own p.own np
    have n2 : ∀ a ∈ fd, ¬ inF F2 a ∧ a ∉ U := fun a ha => by
      refine ⟨fun z => ?_, fun z => ?_⟩
      · rcases q.ext.pn a (.inl z) with h | h
        · exact np a ha h
        · exact (fp a ha).1 h
      · rcases q.ext.pn a (.inr z) with h | h
        · exact np a ha h
        · exact (fp a ha).1 h
    refine ⟨fd ++ U, q.good, ?_, ⟨d, ds, v, vs, fd, U, rfl, rfl, own2, p.nd, q.vl, .inr ⟨hpl, n2, rfl⟩⟩, ?_, ?_, fun h => ?_⟩
    · refine (p.ext.trans (q.ext.frame (R := fun a => a ∈ fd))).imp (fun _ z => z) fun a z => .inl ?_
      rcases z with z | z
      · exact .inl (.inl z)
      · rcases List.mem_append.1 z with z | z
        · exact .inr z
        · exact .inl (.inr z)
    · refine List.nodup_append.2 ⟨p.nd, q.nd, fun a ha b hb e => ?_⟩
      subst e
      exact (n2 a ha).2 hb
    · intro a ha
      rcases List.mem_append.1 ha with z | z
      · exact (n2 a z).1
      · exact q.np a z
    · simp only [effs, Bool.or_eq_false_iff] at h
      obtain ⟨e1, e2, k1⟩ := p.pure h.1
      obtain ⟨e3, e4, k2⟩ := q.pure h.2
      exact ⟨e3.trans e1, e4.trans e2, fun a o z => k2 a o (k1 a o z)⟩
  | true =>
    have pl := p.pl hpl
    obtain ⟨e1, e2, k1⟩ := q.pure (hp hpl)
    have own2 : Own C G2 B2 H2 d v fd := p.own.mono q.ext.g q.ext.b fun a ha => by
      refine ⟨?_, ?_⟩
      · cases e : H1 a with
        | none => exact absurd e (fp a ha).1
        | some o => exact k1 a o e
      · refine (q.good.inF ?_).2
        rw [e2]; exact pl a ha
    refine ⟨U, q.good, ?_, ⟨d, ds, v, vs, fd, U, rfl, rfl, own2, p.nd, q.vl, .inl ⟨hpl, fun a ha => by rw [e2]; exact pl a ha, rfl⟩⟩, q.nd, q.np, fun h => ?_⟩
    · refine (p.ext.trans (q.ext.frame (R := fun a => a ∈ fd))).imp (fun _ z => z) fun a z => .inl (.inl z)
    · simp only [effs, Bool.or_eq_false_iff] at h
      obtain ⟨e1, e2, k1⟩ := p.pure h.1
      obtain ⟨e3, e4, k2⟩ := q.pure h.2
      exact ⟨e3.trans e1, e4.trans e2, fun a o z => k2 a o (k1 a o z)⟩
theorem tL.cons {e : E} {es : List E} {Q : List V → Hp → Prop} (hp : isPl e = true → effs es = false) (h : tL C W (e :: es) σ H Q) : tE C W e σ H fun x H1 => tL C W es σ H1 fun xs H2 => Q (x :: xs) H2 := by
  obtain ⟨s, G, B, F, g, h⟩ := h
  refine ⟨s, G, B, F, g, ?_⟩
  unfold evEs at h
  cases e1 : evE e s with
  | bad => rw [e1] at h; exact h
  | exc c fs xs s' => rw [e1] at h; exact h
  | ok d s1 =>
    rw [e1] at h
    intro v G1 B1 H1 F1 fd p
    refine ⟨s1, G1, B1, F1, p.good, ?_⟩
    have h : outL C W σ (e :: es) G B H F s ((evEs es s1).bind fun ds s2 => .ok (d :: ds) s2) Q := h
    cases e2 : evEs es s1 with
    | bad => rw [e2] at h; exact h
    | exc c fs xs s' => rw [e2] at h; exact outX.from p.ext (fun a z => .inl z) h
    | ok ds s2 =>
      rw [e2] at h
      intro vs G2 B2 H2 F2 U q
      obtain ⟨U', r⟩ := PostL.cons hp p q
      exact h (v :: vs) G2 B2 H2 F2 U' r
end
end TT
namespace TT
open PySem PySem.Spec PyProof.Rows L2
theorem Alloc.to {G B H G' B' H' : Hp} {P P' : Addr → Prop} (x : Alloc G B H G' B' H') (h : ∀ a, P' a → P a ∨ H a = none) : Ext G B H P G' B' H' P' :=
  ⟨fun a o e _ => x.keep a o e fun z => z, x.g, x.b, fun a z => (x.gn a z).imp id fun z => .inr (z.elim False.elim id), fun a z => (x.bn a z).imp id fun z => .inr (z.elim False.elim id), h⟩
/-- what an operation's result is wanted for -/
def Res (C : Gl0) (G B H : Hp) (F : Fp) (pl : Bool) (U : List Addr) (d : D) (Q : VK) : Prop :=
  ∀ v G' B' H' fd, Alloc G B H G' B' H' → Sb G' B' → Sb B' H' → Own C G' B' H' d v fd → fd.Nodup → (if pl = true then ∀ a ∈ fd, inF F a else ∀ a ∈ fd, H a = none ∨ a ∈ U) → Q v H'
/-- what holds of the operands -/
structure Opd (C : Gl0) (G B H : Hp) (F : Fp) (es : List E) (ds : List D) (vs : List V) (U : List Addr) : Prop where
  gb : Sb G B
  bh : Sb B H
  vl : VL C G B H F es ds vs U
  nd : U.Nodup
section
variable {C : Gl0} {W : WX} {σ : L2.St} {G B H : Hp} {F : Fp} {U : List Addr} {pl : Bool} {d : D} {Q : VK}
theorem op_step {o : Op} {es : List E} {r : List V → Hp → Prop} (h : tE C W (.op o es) σ H Q)
    (hr : ∀ ds vs G1 B1 H1 F1 U d, Opd C G1 B1 H1 F1 es ds vs U → opD o ds = some d → Res C G1 B1 H1 F1 (isPl (.op o es)) U d Q → r vs H1) : tL C W es σ H r := by
  obtain ⟨s, G, B, F, g, h⟩ := h
  refine ⟨s, G, B, F, g, ?_⟩
  have h : outE C W σ (.op o es) G B H F s ((evEs es s).bind fun ds s1 => R.of (opD o ds) s1) Q := by unfold evE at h; exact h
  cases e1 : evEs es s with
  | bad => rw [e1] at h; exact h
  | exc c fs xs s' => rw [e1] at h; exact h
  | ok ds s1 =>
    rw [e1] at h
    intro vs G1 B1 H1 F1 U p
    have h : outE C W σ (.op o es) G B H F s (R.of (opD o ds) s1) Q := h
    cases e2 : opD o ds with
    | none => rw [e2] at h; exact h.elim
    | some d =>
      rw [e2] at h
      refine hr ds vs G1 B1 H1 F1 U d ⟨p.good.gb, p.good.bh, p.vl, p.nd⟩ e2 fun v G' B' H' fd x gb bh own nd src => h v G' B' H' F1 fd ?_
      refine { good := p.good.alloc x gb bh, ext := p.ext.trans (x.to fun a z => ?_), own := own, nd := nd, pl := fun q a ha => ?_, np := fun q a ha z => ?_, pure := fun q => ?_ }
      · rcases z with z | z
        · exact .inl (.inl z)
        · cases q : isPl (.op o es) with
          | true => rw [q, if_pos rfl] at src; exact .inl (.inl (src a z))
          | false =>
            rw [q, if_neg (by decide)] at src
            rcases src a z with z | z
            · exact .inr z
            · exact .inl (.inr z)
      · rw [q, if_pos rfl] at src; exact src a ha
      · rw [q, if_neg (by decide)] at src
        rcases src a ha with y | y
        · exact (p.good.inF z).1 y
        · exact p.np a y z
      · obtain ⟨e1, e2, k⟩ := p.pure q
        exact ⟨e1, e2, fun a o z => x.keep a o (k a o z) fun z => z⟩
/-! ### results -/
theorem Res.now {es : List E} {ds : List D} {vs : List V} {v : V} (p : Opd C G B H F es ds vs U) (q : Res C G B H F pl U d Q) (o : Own C G B H d v []) : Q v H :=
  q v G B H [] Ext.refl p.gb p.bh o List.nodup_nil (by split <;> exact fun _ z => nomatch z)
theorem Res.part {es : List E} {ds : List D} {vs : List V} {v : V} {fd : List Addr} (p : Opd C G B H F es ds vs U) (q : Res C G B H F pl U d Q) (o : Own C G B H d v fd) (n : fd.Nodup) (h : if pl = true then ∀ a ∈ fd, inF F a else ∀ a ∈ fd, a ∈ U) : Q v H := by
  refine q v G B H fd Ext.refl p.gb p.bh o n ?_
  cases pl with
  | true => exact h
  | false => rw [if_neg (by decide)] at h ⊢; exact fun a z => .inr (h a z)
theorem alloc_own {p : Addr} {o : HO} (bh : Sb B H) (hp : H p = none) : Alloc G B H G B (upd H p o) ∧ Sb B (upd H p o) ∧ B p = none := by
  have bp : B p = none := none_of_ne fun z => bh.ne z hp
  refine ⟨⟨fun a u e _ => by rw [upd_ne (ne_of_none e hp)]; exact e, fun _ _ z => z, fun _ _ z => z, fun _ z => .inl z, fun _ z => .inl z, fun _ z => z.elim⟩, fun a u e => ?_, bp⟩
  have : a ≠ p := fun z => by rw [z, bp] at e; cases e
  rw [upd_ne this]; exact bh a u e
theorem alloc_shr {p : Addr} {o : HO} (gb : Sb G B) (bh : Sb B H) (hp : H p = none) : Alloc G B H (upd G p o) (upd B p o) (upd H p o) ∧ Sb (upd G p o) (upd B p o) ∧ Sb (upd B p o) (upd H p o) := by
  have bp : B p = none := none_of_ne fun z => bh.ne z hp
  have gp : G p = none := none_of_ne fun z => gb.ne z bp
  have up : ∀ {A A' : Hp}, Sb A A' → Sb (upd A p o) (upd A' p o) := fun {A A'} x a u e => by
    by_cases q : a = p
    · subst q; rw [upd_same] at e ⊢; exact .inl e
    · rw [upd_ne q] at e ⊢; exact x a u e
  have nn : ∀ {A : Hp} {a : Addr}, upd A p o a ≠ none → A a ≠ none ∨ a = p := fun {A a} z => by
    by_cases q : a = p
    · exact .inr q
    · rw [upd_ne q] at z; exact .inl z
  refine ⟨⟨fun a u e _ => by rw [upd_ne (ne_of_none e hp)]; exact e, fun a u e => by rw [upd_ne (ne_of_none e gp)]; exact e, fun a u e => by rw [upd_ne (ne_of_none e bp)]; exact e, fun a z => ?_, fun a z => ?_, fun _ z => z.elim⟩, up gb, up bh⟩
  · rcases nn z with z | z
    · exact .inl z
    · rw [z]; exact .inr (.inr hp)
  · rcases nn z with z | z
    · exact .inl z
    · rw [z]; exact .inr (.inr hp)
/-- a new list of one's own -/
theorem Res.lst {es : List E} {ds : List D} {vs : List V} {xs : List D} {kvs : List V} {U' : List Addr} {p : Addr} (P : Opd C G B H F es ds vs U) (q : Res C G B H F false U (.lst .own xs) Q) (hp : H p = none)
    (o : Owns C G B H xs kvs U') (n : U'.Nodup) (h : ∀ a ∈ U', a ∈ U) : Q (.ref p) (upd H p (.lst kvs)) := by
  obtain ⟨x, b1, bp⟩ := alloc_own (G := G) (o := .lst kvs) P.bh hp
  refine q (.ref p) G B _ (p :: U') x P.gb b1 ⟨p, kvs, U', rfl, ⟨upd_same, bp⟩, x.owns o (fun _ _ z => z), rfl, trivial⟩ (List.nodup_cons.2 ⟨fun z => (o.fp p z).1 hp, n⟩) ?_
  rw [if_neg (by decide)]
  intro a ha
  rcases List.mem_cons.1 ha with e | e
  · rw [e]; exact .inl hp
  · exact .inr (h a e)
theorem Res.tup {es : List E} {ds : List D} {vs : List V} {xs : List D} {kvs : List V} {U' : List Addr} {p : Addr} (P : Opd C G B H F es ds vs U) (q : Res C G B H F false U (tupOf xs) Q) (hp : H p = none)
    (o : Owns C G B H xs kvs U') (n : U'.Nodup) (h : ∀ a ∈ U', a ∈ U) : Q (.ref p) (upd H p (.tup kvs)) := by
  unfold tupOf at q
  split at q
  · rename_i hs
    rw [Bool.and_eq_true] at hs
    obtain rfl := o.nil hs.1
    obtain ⟨x, b1, b2⟩ := alloc_shr (o := .tup kvs) P.gb P.bh hp
    exact q (.ref p) _ _ _ [] x b1 b2 ⟨p, kvs, [], rfl, .inl (.inl upd_same), x.owns o (fun _ _ z => z), rfl, hs⟩ List.nodup_nil (by rw [if_neg (by decide)]; exact fun _ z => nomatch z)
  · obtain ⟨x, b1, bp⟩ := alloc_own (G := G) (o := .tup kvs) P.bh hp
    refine q (.ref p) G B _ (p :: U') x P.gb b1 ⟨p, kvs, U', rfl, ⟨upd_same, bp⟩, x.owns o (fun _ _ z => z), rfl, trivial⟩ (List.nodup_cons.2 ⟨fun z => (o.fp p z).1 hp, n⟩) ?_
    rw [if_neg (by decide)]
    intro a ha
    rcases List.mem_cons.1 ha with e | e
    · rw [e]; exact .inl hp
    · exact .inr (h a e)
theorem Res.tupS {es : List E} {ds : List D} {vs : List V} {xs : List D} {kvs : List V} {p : Addr} (P : Opd C G B H F es ds vs U) (q : Res C G B H F false U (.tup .shr xs) Q) (hp : H p = none)
    (k : noOwns xs = true ∧ noBors xs = true) (o : Owns C G B H xs kvs []) : Q (.ref p) (upd H p (.tup kvs)) := by
  refine Res.tup P (xs := xs) (U' := []) ?_ hp o List.nodup_nil fun _ z => nomatch z
  unfold tupOf
  rw [k.1, k.2]
  exact q
/-! ### operands -/
theorem VL.all : ∀ {es : List E} {ds : List D} {vs : List V} {U : List Addr}, VL C G B H F es ds vs U → (∀ e ∈ es, isPl e = false) → Owns C G B H ds vs U
  | [], _, _, _, h, _ => by
    obtain ⟨rfl, rfl, rfl⟩ := h
    exact ⟨rfl, rfl⟩
  | e :: es, _, _, _, h, k => by
    obtain ⟨d, dr, v, vr, fd, U', rfl, rfl, o, n, h, ⟨z, _⟩ | ⟨_, _, rfl⟩⟩ := h
    · rw [k e List.mem_cons_self] at z; cases z
    · exact ⟨v, vr, fd, U', rfl, rfl, o, h.all fun e he => k e (List.mem_cons_of_mem _ he)⟩
theorem Opd.one {e : E} {ds : List D} {vs : List V} (p : Opd C G B H F [e] ds vs U) : ∃ d v fd, ds = [d] ∧ vs = [v] ∧ Own C G B H d v fd ∧ fd.Nodup ∧ ((isPl e = true ∧ (∀ a ∈ fd, inF F a)) ∨ (isPl e = false ∧ ∀ a ∈ fd, a ∈ U)) := by
  obtain ⟨d, dr, v, vr, fd, U', rfl, rfl, o, n, ⟨rfl, rfl, rfl⟩, h⟩ := p.vl
  refine ⟨d, v, fd, rfl, rfl, o, n, ?_⟩
  rcases h with ⟨h1, h2, _⟩ | ⟨h1, _, h3⟩
  · exact .inl ⟨h1, h2⟩
  · exact .inr ⟨h1, fun a ha => by rw [h3]; exact List.mem_append_left _ ha⟩
theorem Opd.two {e f : E} {ds : List D} {vs : List V} (p : Opd C G B H F [e, f] ds vs U) : ∃ d d2 v v2 fd fd2, ds = [d, d2] ∧ vs = [v, v2] ∧ Own C G B H d v fd ∧ fd.Nodup ∧ ((isPl e = true ∧ (∀ a ∈ fd, inF F a)) ∨ (isPl e = false ∧ ∀ a ∈ fd, a ∈ U)) ∧ Own C G B H d2 v2 fd2 ∧ fd2.Nodup := by
  obtain ⟨d, dr, v, vr, fd, U', rfl, rfl, o, n, ⟨d2, dr2, v2, vr2, fd2, U2, rfl, rfl, o2, n2, ⟨rfl, rfl, rfl⟩, _⟩, h⟩ := p.vl
  refine ⟨d, d2, v, v2, fd, fd2, rfl, rfl, o, n, ?_, o2, n2⟩
  rcases h with ⟨h1, h2, _⟩ | ⟨h1, _, h3⟩
  · exact .inl ⟨h1, h2⟩
  · exact .inr ⟨h1, fun a ha => by rw [h3]; exact List.mem_append_left _ ha⟩
theorem Opd.three {e f g : E} {ds : List D} {vs : List V} (p : Opd C G B H F [e, f, g] ds vs U) : ∃ d d2 d3 v v2 v3 fd fd2 fd3, ds = [d, d2, d3] ∧ vs = [v, v2, v3] ∧ Own C G B H d v fd ∧ Own C G B H d2 v2 fd2 ∧ Own C G B H d3 v3 fd3 := by
  obtain ⟨d, dr, v, vr, fd, U', rfl, rfl, o, n, ⟨d2, dr2, v2, vr2, fd2, U2, rfl, rfl, o2, n2, ⟨d3, dr3, v3, vr3, fd3, U3, rfl, rfl, o3, n3, ⟨rfl, rfl, rfl⟩, _⟩, _⟩, h⟩ := p.vl
  exact ⟨d, d2, d3, v, v2, v3, fd, fd2, fd3, rfl, rfl, o, o2, o3⟩
/-- a part of nothing owned -/
theorem Owns.get : ∀ {xs : List D} {vs : List V} {U : List Addr} {i : Nat} {d : D}, Owns C G B H xs vs U → xs[i]? = some d → ∃ v fd, vs[i]? = some v ∧ Own C G B H d v fd ∧ (U.Nodup → fd.Nodup) ∧ ∀ a ∈ fd, a ∈ U
  | [], _, _, _, _, _, h => by simp at h
  | x :: xs, _, _, 0, d, h, e => by
    obtain ⟨v, vr, F1, F2, rfl, rfl, o, h⟩ := h
    simp at e
    subst e
    exact ⟨v, F1, rfl, o, fun n => (List.nodup_append.1 n).1, fun a ha => List.mem_append_left _ ha⟩
  | x :: xs, _, _, i + 1, d, h, e => by
    obtain ⟨v, vr, F1, F2, rfl, rfl, o, h⟩ := h
    obtain ⟨w, fd, e1, o1, n1, s1⟩ := h.get (i := i) (d := d) (by simpa using e)
    exact ⟨w, fd, by simpa using e1, o1, fun n => n1 (List.nodup_append.1 n).2.1, fun a ha => List.mem_append_right _ (s1 a ha)⟩
theorem Owns.app : ∀ {xs ys : List D} {vs ws : List V} {U U' : List Addr}, Owns C G B H xs vs U → Owns C G B H ys ws U' → Owns C G B H (xs ++ ys) (vs ++ ws) (U ++ U')
  | [], _, _, _, _, _, h, k => by
    obtain ⟨rfl, rfl⟩ := h
    exact k
  | x :: xs, _, _, _, _, _, h, k => by
    obtain ⟨v, vr, F1, F2, rfl, rfl, o, h⟩ := h
    exact ⟨v, vr ++ _, F1, F2 ++ _, rfl, by rw [List.append_assoc], o, h.app k⟩
theorem Owns.takeN : ∀ {xs : List D} {vs : List V} (n : Nat), Owns C G B H xs vs [] → Owns C G B H (xs.take n) (vs.take n) []
  | [], _, n, h => by
    obtain ⟨rfl, _⟩ := h
    simp [Owns]
  | x :: xs, _, 0, h => by simp [Owns]
  | x :: xs, _, n + 1, h => by
    obtain ⟨v, vr, F1, F2, rfl, e, o, h⟩ := h
    obtain ⟨rfl, rfl⟩ := List.append_eq_nil_iff.1 e.symm
    exact ⟨v, vr.take n, [], [], rfl, rfl, o, h.takeN n⟩
theorem Owns.dropN : ∀ {xs : List D} {vs : List V} (n : Nat), Owns C G B H xs vs [] → Owns C G B H (xs.drop n) (vs.drop n) []
  | [], _, n, h => by
    obtain ⟨rfl, _⟩ := h
    simp [Owns]
  | x :: xs, _, 0, h => h
  | x :: xs, _, n + 1, h => by
    obtain ⟨v, vr, F1, F2, rfl, e, o, h⟩ := h
    obtain ⟨rfl, rfl⟩ := List.append_eq_nil_iff.1 e.symm
    exact h.dropN n
theorem Owns.cut {xs : List D} {vs : List V} (h : Owns C G B H xs vs []) (lo hi : Option Int) : Owns C G B H (TT.cut xs lo hi) (cutV vs lo hi) [] := by
  unfold TT.cut cutV
  rw [h.length]
  exact (h.dropN _).takeN _
theorem Owns.ints : ∀ {xs : List D} {vs : List V} {ns : List Int} {U : List Addr}, intsOf xs = some ns → Owns C G B H xs vs U → vs = ns.map V.int
  | [], _, ns, _, e, h => by
    cases e
    exact h.1
  | x :: xs, _, ns, _, e, h => by
    obtain ⟨v, vr, F1, F2, rfl, rfl, o, h⟩ := h
    cases x <;> simp [intsOf] at e
    obtain ⟨ms, e, rfl⟩ := e
    obtain ⟨rfl, _⟩ := o
    rw [h.ints e]; rfl
theorem Owns.bls : ∀ {xs : List D} {vs : List V} {ns : List Bool} {U : List Addr}, blsOf xs = some ns → Owns C G B H xs vs U → vs = ns.map V.bl
  | [], _, ns, _, e, h => by
    cases e
    exact h.1
  | x :: xs, _, ns, _, e, h => by
    obtain ⟨v, vr, F1, F2, rfl, rfl, o, h⟩ := h
    cases x <;> simp [blsOf] at e
    obtain ⟨ms, e, rfl⟩ := e
    obtain ⟨rfl, _⟩ := o
    rw [h.bls e]; rfl
theorem owns_ints : ∀ ns : List Int, Owns C G B H (ns.map D.int) (ns.map V.int) []
  | [] => ⟨rfl, rfl⟩
  | n :: ns => ⟨_, _, [], [], rfl, rfl, ⟨rfl, rfl⟩, owns_ints ns⟩
end
end TT
namespace TT
open PySem PySem.Spec PyProof.Rows L2
theorem pe_imp {X : Cx} {e : Expr} {t t' : TE} (h : PE X e t) (k : ∀ σ H Q, t' σ H Q → t σ H Q) : PE X e t' := ⟨fun pins s σ H Q I z => h.run pins s σ H Q I (k σ H Q z)⟩
theorem pt_imp {X : Cx} {e : Expr} {t t' : TT} (h : PT X e t) (k : ∀ σ H Q, t' σ H Q → t σ H Q) : PT X e t' := ⟨fun pins s σ H Q I z => h.run pins s σ H Q I (k σ H Q z)⟩
section
variable {C : Gl0} {G B H : Hp} {F : Fp} {U : List Addr} {es : List E} {ds : List D} {vs : List V} {d : D} {Q : VK}
theorem Own.lstAt {fl : Fl} {xs : List D} {v : V} {fd : List Addr} (gb : Sb G B) (bh : Sb B H) (o : Own C G B H (.lst fl xs) v fd) : ∃ a ws F', v = .ref a ∧ H a = some (.lst ws) ∧ Owns C G B H xs ws F' ∧ fd = fcons fl a F' ∧ okKids fl xs := by
  obtain ⟨a, ws, F', rfl, h1, h2, h3, h4⟩ := o
  exact ⟨a, ws, F', rfl, h1.viewI gb bh (fun z => z), h2, h3, h4⟩
theorem Own.tupAt {fl : Fl} {xs : List D} {v : V} {fd : List Addr} (gb : Sb G B) (bh : Sb B H) (o : Own C G B H (.tup fl xs) v fd) : ∃ a ws F', v = .ref a ∧ SqT C.K H a ws ∧ Owns C G B H xs ws F' ∧ fd = fcons fl a F' ∧ okKids fl xs := by
  obtain ⟨a, ws, F', rfl, h1, h2, h3, h4⟩ := o
  exact ⟨a, ws, F', rfl, h1.viewT gb bh, h2, h3, h4⟩
theorem Own.insAt {fl : Fl} {c : Nat} {fs : List Str} {xs : List D} {v : V} {fd : List Addr} (gb : Sb G B) (bh : Sb B H) (o : Own C G B H (.ins fl c fs xs) v fd) :
    ∃ a dx ws F', v = .ref a ∧ H a = some (.ins (C.ca c) dx (fs.zip ws)) ∧ Owns C G B H xs ws F' ∧ fd = fcons fl a F' ∧ okKids fl xs ∧ fs.length = xs.length ∧ fs.Nodup := by
  obtain ⟨a, dx, ws, F', rfl, h1, h2, h3, h4, h5, h6⟩ := o
  exact ⟨a, dx, ws, F', rfl, h1.viewI gb bh (fun z => z), h2, h3, h4, h5, h6⟩
theorem mem_kids {fl : Fl} {a : Addr} {F' fd : List Addr} (h : fd = fcons fl a F') : ∀ b ∈ F', b ∈ fd := fun b hb => by rw [h]; exact mem_fcons.2 (.inr hb)
theorem nodup_kids {fl : Fl} {a : Addr} {F' fd : List Addr} (h : fd = fcons fl a F') (n : fd.Nodup) : F'.Nodup := by
  subst h
  cases fl with
  | own => exact (List.nodup_cons.1 n).2
  | bor => exact n
  | shr => exact n
theorem fcons_shr {a : Addr} {F' fd : List Addr} (h : fd = fcons .shr a F') : fd = F' := h
theorem Own.sc {fl : Fl} {xs : List D} {v : V} {fd : List Addr} (o : Own C G B H (.tup .shr xs) v fd) : fd = [] := by
  obtain ⟨a, ws, F', rfl, h1, h2, rfl, h4⟩ := o
  exact h2.nil h4.1
/-! ### the operations' values -/
abbrev rStrCat : R2 := fun x y H Q => ∃ i j, x = V.str i ∧ y = V.str j ∧ i.length + j.length ≤ sizeLine ∧ Q (V.str (i ++ j)) H
abbrev rAdd' (K : PySem.W.Frag) : R2 := fun x y H Q => rI0 (fun i j => .int (i + j)) x y H Q ∨ (rStrCat x y H Q ∨ (rCat x y H Q ∨ rCatA K x y H Q))
theorem op_add' {X : Cx} : OpR X (binaryOp .Add) (rAdd' X.K) := op_add.or (op_add_str.or (op_cat.or op_catA))
abbrev CMulO (i j : Int) : Prop := mulOk i j = true
theorem mulOk_ok {i j : Int} (h : CMulO i j) : IntMulOk i j := by
  unfold CMulO mulOk at h
  simp only [Bool.or_eq_true, decide_eq_true_eq] at h
  rcases h with (h | h) | h
  · exact CMulW.ok h
  · exact CMul.ok (.inl ⟨by omega, by omega⟩)
  · exact CMul.ok (.inr ⟨by omega, by omega⟩)
abbrev rMul' : R2 := fun x y H Q => rI CMulO (fun i j => .int (i * j)) x y H Q ∨ rRep x y H Q
theorem op_mulO {X : Cx} : OpR X (binaryOp .Mult) (rI CMulO fun i j => .int (i * j)) := opI fun _ _ _ _ _ _ _ hc q => mul_int q (mulOk_ok hc)
theorem op_mul' {X : Cx} : OpR X (binaryOp .Mult) rMul' := op_mulO.or op_rep
/-- two operands -/
abbrev Two (vs : List V) (r : R2) (H : Hp) (Q : VK) : Prop := ∃ x y, vs = [x, y] ∧ r x y H Q
abbrev One (vs : List V) (r : V → Hp → VK → Prop) (H : Hp) (Q : VK) : Prop := ∃ x, vs = [x] ∧ r x H Q
variable {e f : E}
theorem v_add (P : Opd C G B H F [e, f] ds vs U) (h : bi2 addD ds = some d) (q : Res C G B H F false U d Q) : Two vs (rAdd' C.K) H Q := by
  obtain ⟨d1, d2, v1, v2, fd, fd2, rfl, rfl, o1, n1, s1, o2, n2⟩ := P.two
  refine ⟨v1, v2, rfl, ?_⟩
  have h : addD d1 d2 = some d := h
  unfold addD at h
  split at h
  · cases h
    obtain ⟨rfl, rfl⟩ := o1
    obtain ⟨rfl, rfl⟩ := o2
    exact .inl ⟨_, _, rfl, rfl, q.now P ⟨rfl, rfl⟩⟩
  · split at h <;> cases h
    rename_i hs
    obtain ⟨rfl, rfl⟩ := o1
    obtain ⟨rfl, rfl⟩ := o2
    exact .inr (.inl ⟨_, _, rfl, rfl, hs, q.now P ⟨rfl, rfl⟩⟩)
  · split at h <;> cases h
    rename_i hs
    obtain ⟨k1, k2, k3, k4, k5⟩ := hs
    obtain ⟨a, ws, F', rfl, ea, oa, _, _⟩ := o1.lstAt P.gb P.bh
    obtain ⟨b, us, F2, rfl, eb, ob, _, _⟩ := o2.lstAt P.gb P.bh
    obtain rfl := oa.nil k1
    obtain rfl := ob.nil k2
    have hl := oa.length
    have hl2 := ob.length
    exact .inr (.inr (.inl ⟨a, b, ws, us, rfl, rfl, ea, eb, by omega, fun p hp => q.lst P hp (oa.app ob) List.nodup_nil fun _ z => nomatch z⟩))
  · rename_i xs ys
    split at h <;> cases h
    rename_i k2
    obtain ⟨a, ws, F', rfl, ea, oa, _, ha1⟩ := id (o1.tupAt P.gb P.bh)
    obtain ⟨b, us, F2, rfl, eb, ob, _, hb1⟩ := id (o2.tupAt P.gb P.bh)
    obtain rfl := oa.nil ha1.1
    obtain rfl := ob.nil hb1.1
    have hl := oa.length
    have hl2 := ob.length
    obtain rfl := o1.sc (fl := .shr)
    obtain rfl := o2.sc (fl := .shr)
    refine .inr (.inr (.inr ⟨a, b, ws, us, rfl, rfl, ea, eb, by omega, fun z => ?_, fun _ z => ?_, fun _ _ p hp => ?_⟩))
    · subst z
      obtain rfl := List.eq_nil_of_length_eq_zero hl
      exact q.now P o2
    · subst z
      obtain rfl := List.eq_nil_of_length_eq_zero hl2
      rw [List.append_nil] at q
      exact q.now P o1
    · refine q.tupS P hp ⟨?_, ?_⟩ (oa.app ob)
      · rw [noOwns_iff]
        intro x hx
        rcases List.mem_append.1 hx with hx | hx
        · exact noOwns_iff.1 ha1.1 x hx
        · exact noOwns_iff.1 hb1.1 x hx
      · rw [noBors_iff]
        intro x hx
        rcases List.mem_append.1 hx with hx | hx
        · exact noBors_iff.1 ha1.2 x hx
        · exact noBors_iff.1 hb1.2 x hx
  · cases h
theorem v_int2 {g : D → D → Option D} {Cc : Int → Int → Prop} {k : Int → Int → V} (hg : ∀ d1 d2 d, g d1 d2 = some d → ∃ i j, d1 = .int i ∧ d2 = .int j ∧ Cc i j ∧ ∀ G B H, Own C G B H d (k i j) [])
    (P : Opd C G B H F [e, f] ds vs U) (h : bi2 g ds = some d) (q : Res C G B H F pl U d Q) : Two vs (rI Cc k) H Q := by
  obtain ⟨d1, d2, v1, v2, fd, fd2, rfl, rfl, o1, n1, s1, o2, n2⟩ := P.two
  obtain ⟨i, j, rfl, rfl, hc, o⟩ := hg d1 d2 d h
  obtain ⟨rfl, rfl⟩ := o1
  obtain ⟨rfl, rfl⟩ := o2
  exact ⟨_, _, rfl, i, j, rfl, rfl, hc, q.now P (o _ _ _)⟩
theorem v_cmp {p : Int → Int → Bool} (P : Opd C G B H F [e, f] ds vs U) (h : bi2 (cmpD p) ds = some d) (q : Res C G B H F pl U d Q) : Two vs (rI0 fun i j => .bl (p i j)) H Q := by
  obtain ⟨x, y, rfl, i, j, rfl, rfl, _, z⟩ := v_int2 (Cc := fun _ _ => True) (k := fun i j => .bl (p i j)) (fun d1 d2 d h => by
    unfold cmpD at h
    split at h <;> cases h
    exact ⟨_, _, rfl, rfl, trivial, fun _ _ _ => ⟨rfl, rfl⟩⟩) P h q
  exact ⟨_, _, rfl, i, j, rfl, rfl, z⟩
theorem v_sub (P : Opd C G B H F [e, f] ds vs U) (h : bi2 subD ds = some d) (q : Res C G B H F pl U d Q) : Two vs (rI0 fun i j => .int (i - j)) H Q := by
  obtain ⟨x, y, rfl, i, j, rfl, rfl, _, z⟩ := v_int2 (Cc := fun _ _ => True) (k := fun i j => .int (i - j)) (fun d1 d2 d h => by
    unfold subD at h
    split at h <;> cases h
    exact ⟨_, _, rfl, rfl, trivial, fun _ _ _ => ⟨rfl, rfl⟩⟩) P h q
  exact ⟨_, _, rfl, i, j, rfl, rfl, z⟩
theorem v_fdiv (P : Opd C G B H F [e, f] ds vs U) (h : bi2 fdivD ds = some d) (q : Res C G B H F pl U d Q) : Two vs (rI CDivW fun i j => .int (i / j)) H Q :=
  v_int2 (fun d1 d2 d h => by
    unfold fdivD at h
    split at h
    · split at h <;> cases h
      rename_i hs
      exact ⟨_, _, rfl, rfl, hs, fun _ _ _ => ⟨rfl, rfl⟩⟩
    · cases h) P h q
theorem v_mod (P : Opd C G B H F [e, f] ds vs U) (h : bi2 modD ds = some d) (q : Res C G B H F pl U d Q) : Two vs (rI (fun _ j => 0 < j) fun i j => .int (i % j)) H Q :=
  v_int2 (fun d1 d2 d h => by
    unfold modD at h
    split at h
    · split at h <;> cases h
      rename_i hs
      exact ⟨_, _, rfl, rfl, hs, fun _ _ _ => ⟨rfl, rfl⟩⟩
    · cases h) P h q
theorem v_pow (P : Opd C G B H F [e, f] ds vs U) (h : bi2 powD ds = some d) (q : Res C G B H F pl U d Q) : Two vs (rI CPow fun i j => .int (i ^ j.toNat)) H Q :=
  v_int2 (fun d1 d2 d h => by
    unfold powD at h
    split at h
    · split at h <;> cases h
      rename_i hs
      exact ⟨_, _, rfl, rfl, hs, fun _ _ _ => ⟨rfl, rfl⟩⟩
    · cases h) P h q
theorem owns_rep {xs : List D} {ws : List V} (h : Owns C G B H xs ws []) : ∀ n : Nat, Owns C G B H (List.replicate n xs).flatten (List.replicate n ws).flatten []
  | 0 => ⟨rfl, rfl⟩
  | n + 1 => by
    rw [List.replicate_succ, List.replicate_succ, List.flatten_cons, List.flatten_cons]
    exact h.app (owns_rep h n)
theorem v_mul (P : Opd C G B H F [e, f] ds vs U) (h : bi2 mulD ds = some d) (q : Res C G B H F false U d Q) : Two vs rMul' H Q := by
  obtain ⟨d1, d2, v1, v2, fd, fd2, rfl, rfl, o1, n1, s1, o2, n2⟩ := P.two
  refine ⟨v1, v2, rfl, ?_⟩
  have h : mulD d1 d2 = some d := h
  unfold mulD at h
  split at h
  · split at h <;> cases h
    rename_i hs
    obtain ⟨rfl, rfl⟩ := o1
    obtain ⟨rfl, rfl⟩ := o2
    exact .inl ⟨_, _, rfl, rfl, hs, q.now P ⟨rfl, rfl⟩⟩
  · split at h <;> cases h
    rename_i hs
    obtain ⟨k1, k2, k3, k4, k5⟩ := hs
    obtain ⟨rfl, rfl⟩ := o2
    obtain ⟨a, ws, F', rfl, ea, oa, _, _⟩ := o1.lstAt P.gb P.bh
    obtain rfl := oa.nil k1
    have hl := oa.length
    exact .inr ⟨a, _, ws, rfl, rfl, ea, by omega, k4, by rw [← hl]; exact k5, fun p hp => q.lst P hp (owns_rep oa _) List.nodup_nil fun _ z => nomatch z⟩
  · cases h
theorem v_neg (P : Opd C G B H F [e] ds vs U) (h : un1 negD ds = some d) (q : Res C G B H F pl U d Q) : One vs (rU fun i => .int (-i)) H Q := by
  obtain ⟨d1, v1, fd, rfl, rfl, o1, n1, s1⟩ := P.one
  have h : negD d1 = some d := h
  unfold negD at h
  split at h <;> cases h
  obtain ⟨rfl, rfl⟩ := o1
  exact ⟨_, rfl, _, rfl, q.now P ⟨rfl, rfl⟩⟩
/-! ### == -/
mutual
def toPy : D → PyData
  | .bl b => .bool b
  | .int i => .int i
  | .str x => .str x
  | .lst _ xs => .list (toPys xs)
  | .tup _ xs => .tuple (toPys xs)
  | _ => .none
def toPys : List D → List PyData
  | [] => []
  | x :: xs => toPy x :: toPys xs
end
mutual
theorem eqv_py : ∀ (x y : D), isDat x = true → isDat y = true → eqv x y = PyData.eqv (toPy x) (toPy y)
  | .lst _ xs, y, hx, hy => by
    cases y <;> simp only [isDat, Bool.false_eq_true] at hy <;> simp only [eqv, toPy, PyData.eqv]
    exact eqvs_py xs _ hx hy
  | .tup _ xs, y, hx, hy => by
    cases y <;> simp only [isDat, Bool.false_eq_true] at hy <;> simp only [eqv, toPy, PyData.eqv]
    exact eqvs_py xs _ hx hy
  | .non, y, _, hy => by cases y <;> simp only [isDat, Bool.false_eq_true] at hy <;> simp only [eqv, toPy, PyData.eqv]
  | .bl _, y, _, hy => by cases y <;> simp only [isDat, Bool.false_eq_true] at hy <;> simp only [eqv, toPy, PyData.eqv]
  | .int _, y, _, hy => by cases y <;> simp only [isDat, Bool.false_eq_true] at hy <;> simp only [eqv, toPy, PyData.eqv]
  | .str _, y, _, hy => by cases y <;> simp only [isDat, Bool.false_eq_true] at hy <;> simp only [eqv, toPy, PyData.eqv]
  | .dead, _, h, _ => by simp [isDat] at h
  | .fn _, _, h, _ => by simp [isDat] at h
  | .scr _, _, h, _ => by simp [isDat] at h
  | .dk _ _ _, _, h, _ => by simp [isDat] at h
  | .dt _ _ _, _, h, _ => by simp [isDat] at h
  | .ins _ _ _ _, _, h, _ => by simp [isDat] at h
  | .exn _ _ _, _, h, _ => by simp [isDat] at h
theorem eqvs_py : ∀ (xs ys : List D), isDats xs = true → isDats ys = true → eqvs xs ys = PyData.eqvAll (toPys xs) (toPys ys)
  | [], [], _, _ => rfl
  | [], _ :: _, _, _ => rfl
  | _ :: _, [], _, _ => rfl
  | x :: xs, y :: ys, hx, hy => by
    simp only [isDats, Bool.and_eq_true] at hx hy
    simp only [eqvs, toPys, PyData.eqvAll]
    rw [eqv_py x y hx.1 hy.1, eqvs_py xs ys hx.2 hy.2]
end
mutual
theorem lay_py : ∀ (x : D), isDat x = true → (toPy x).canLay0 = true ∧ (toPy x).depth = depthD x
  | .lst _ xs, h => by
    have := lays_py xs h
    simp only [toPy, PyData.canLay0, PyData.depth, depthD]
    exact ⟨this.1, by rw [this.2]⟩
  | .tup _ xs, h => by
    have := lays_py xs h
    simp only [toPy, PyData.canLay0, PyData.depth, depthD]
    exact ⟨this.1, by rw [this.2]⟩
  | .non, _ => ⟨rfl, rfl⟩
  | .bl _, _ => ⟨rfl, rfl⟩
  | .int _, _ => ⟨rfl, rfl⟩
  | .str _, h => ⟨h, rfl⟩
  | .dead, h => by simp [isDat] at h
  | .fn _, h => by simp [isDat] at h
  | .scr _, h => by simp [isDat] at h
  | .dk _ _ _, h => by simp [isDat] at h
  | .dt _ _ _, h => by simp [isDat] at h
  | .ins _ _ _ _, h => by simp [isDat] at h
  | .exn _ _ _, h => by simp [isDat] at h
theorem lays_py : ∀ (xs : List D), isDats xs = true → PyData.canLayAll0 (toPys xs) = true ∧ PyData.depthAll (toPys xs) = depthDs xs
  | [], _ => ⟨rfl, rfl⟩
  | x :: xs, h => by
    simp only [isDats, Bool.and_eq_true] at h
    have h1 := lay_py x h.1
    have h2 := lays_py xs h.2
    simp only [toPys, PyData.canLayAll0, PyData.depthAll, depthDs, h1, h2, Bool.and_self, true_and]
end
theorem shaped_py {x : D} (h : datOk x = true) : SeqAt.shaped (toPy x) = true := by
  unfold datOk at h
  simp only [Bool.and_eq_true, decide_eq_true_eq] at h
  have := lay_py x h.1
  unfold SeqAt.shaped
  simp only [this, Bool.true_and, decide_eq_true_eq]
  exact h.2
theorem dat_of {x : D} (h : datOk x = true) : isDat x = true := by
  unfold datOk at h
  simp only [Bool.and_eq_true] at h
  exact h.1
mutual
theorem dp_of (gb : Sb G B) (bh : Sb B H) : ∀ {x : D} {v : V} {fd : List Addr}, isDat x = true → Own C G B H x v fd → Dp C.K H v (toPy x)
  | .lst _ xs, v, fd, h, o => by
    obtain ⟨a, ws, F', rfl, ea, oa, _⟩ := o.lstAt gb bh
    exact .lst (SqL.of ea) (dps_of gb bh h oa)
  | .tup _ xs, v, fd, h, o => by
    obtain ⟨a, ws, F', rfl, ea, oa, _⟩ := o.tupAt gb bh
    exact .tup ea (dps_of gb bh h oa)
  | .non, _, _, _, o => by obtain ⟨rfl, _⟩ := o; exact .non
  | .bl _, _, _, _, o => by obtain ⟨rfl, _⟩ := o; exact .bl _
  | .int _, _, _, _, o => by obtain ⟨rfl, _⟩ := o; exact .int _
  | .str _, _, _, _, o => by obtain ⟨rfl, _⟩ := o; exact .str _
  | .dead, _, _, h, _ => by simp [isDat] at h
  | .fn _, _, _, h, _ => by simp [isDat] at h
  | .scr _, _, _, h, _ => by simp [isDat] at h
  | .dk _ _ _, _, _, h, _ => by simp [isDat] at h
  | .dt _ _ _, _, _, h, _ => by simp [isDat] at h
  | .ins _ _ _ _, _, _, h, _ => by simp [isDat] at h
  | .exn _ _ _, _, _, h, _ => by simp [isDat] at h
theorem dps_of (gb : Sb G B) (bh : Sb B H) : ∀ {xs : List D} {vs : List V} {fd : List Addr}, isDats xs = true → Owns C G B H xs vs fd → DpAll C.K H vs (toPys xs)
  | [], _, _, _, o => by obtain ⟨rfl, _⟩ := o; exact .nil
  | x :: xs, _, _, h, o => by
    obtain ⟨v, vr, F1, F2, rfl, rfl, o1, o2⟩ := o
    simp only [isDats, Bool.and_eq_true] at h
    exact .cons (dp_of gb bh h.1 o1) (dps_of gb bh h.2 o2)
end
theorem v_eq (P : Opd C G B H F [e, f] ds vs U) (h : bi2 eqD ds = some d) (q : Res C G B H F pl U d Q) : Two vs (rEqD C.K) H Q := by
  obtain ⟨d1, d2, v1, v2, fd, fd2, rfl, rfl, o1, n1, s1, o2, n2⟩ := P.two
  have h : eqD d1 d2 = some d := h
  unfold eqD at h
  split at h <;> cases h
  rename_i hs
  exact ⟨_, _, rfl, toPy d1, toPy d2, dp_of P.gb P.bh (dat_of hs.1) o1, dp_of P.gb P.bh (dat_of hs.2) o2, shaped_py hs.1, shaped_py hs.2, by rw [← eqv_py _ _ (dat_of hs.1) (dat_of hs.2)]; exact q.now P ⟨rfl, rfl⟩⟩
abbrev rNeE (K : PySem.W.Frag) : R2 := fun x y H Q => ∃ a b xs, x = V.ref a ∧ y = V.ref b ∧ H a = some (.dK []) ∧ SqT K H b xs ∧ Q (.bl true) H
theorem v_ne (P : Opd C G B H F [e, f] ds vs U) (h : bi2 neD ds = some d) (q : Res C G B H F pl U d Q) : Two vs (fun x y H Q => rNeD C.K x y H Q ∨ rNeE C.K x y H Q) H Q := by
  obtain ⟨d1, d2, v1, v2, fd, fd2, rfl, rfl, o1, n1, s1, o2, n2⟩ := P.two
  have h : neD d1 d2 = some d := h
  unfold neD at h
  split at h
  · cases h
    rename_i hs
    exact ⟨_, _, rfl, .inl ⟨toPy d1, toPy d2, dp_of P.gb P.bh (dat_of hs.1) o1, dp_of P.gb P.bh (dat_of hs.2) o2, shaped_py hs.1, shaped_py hs.2, by rw [← eqv_py _ _ (dat_of hs.1) (dat_of hs.2)]; exact q.now P ⟨rfl, rfl⟩⟩⟩
  · split at h <;> cases h
    rename_i hs
    obtain ⟨h1, h2⟩ := hs
    unfold emptyDk at h1
    split at h1
    · obtain ⟨a, ws, F', rfl, ⟨ha, _⟩, _⟩ := o1
      unfold isTupD at h2
      split at h2
      · obtain ⟨b, ws2, F2, rfl, hb, _⟩ := o2.tupAt P.gb P.bh
        exact ⟨_, _, rfl, .inr ⟨a, b, ws2, rfl, rfl, ha, hb, q.now P ⟨rfl, rfl⟩⟩⟩
      · cases h2
    · cases h1
theorem isNon_v {x : D} {v : V} {fd : List Addr} (n : isDead x = false) (o : Own C G B H x v fd) : decide (v = .non) = isNon x := by
  cases x <;> simp only [isDead, Bool.true_eq_false] at n <;> first
    | (obtain ⟨rfl, _⟩ := o; rfl)
    | (obtain ⟨⟨a, rfl, _⟩, _⟩ := o; rfl)
    | (obtain ⟨a, vs, F', rfl, _⟩ := o; rfl)
    | (obtain ⟨a, dx, vs, F', rfl, _⟩ := o; rfl)
    | (obtain ⟨a, vs, rfl, _⟩ := o; rfl)
theorem v_isN (P : Opd C G B H F [e] ds vs U) (h : un1 (noneD false) ds = some d) (q : Res C G B H F pl U d Q) : One vs (fun x H Q => Q (.bl (decide (x = .non))) H) H Q := by
  obtain ⟨d1, v1, fd, rfl, rfl, o1, n1, s1⟩ := P.one
  have h : noneD false d1 = some d := h
  unfold noneD at h
  split at h <;> cases h
  rename_i hs
  refine ⟨_, rfl, ?_⟩
  show Q (V.bl (decide (v1 = .non))) H
  rw [isNon_v (by simpa using hs) o1]
  exact q.now P ⟨rfl, rfl⟩
theorem v_notN (P : Opd C G B H F [e] ds vs U) (h : un1 (noneD true) ds = some d) (q : Res C G B H F pl U d Q) : One vs (fun x H Q => Q (.bl (!decide (x = .non))) H) H Q := by
  obtain ⟨d1, v1, fd, rfl, rfl, o1, n1, s1⟩ := P.one
  have h : noneD true d1 = some d := h
  unfold noneD at h
  split at h <;> cases h
  rename_i hs
  refine ⟨_, rfl, ?_⟩
  show Q (V.bl (!decide (v1 = .non))) H
  rw [isNon_v (by simpa using hs) o1]
  exact q.now P ⟨rfl, rfl⟩
theorem v_not (P : Opd C G B H F [e] ds vs U) (h : un1 notD ds = some d) (q : Res C G B H F pl U d Q) : One vs (fun x H Q => ∃ c, x = .bl c ∧ Q (.bl (!c)) H) H Q := by
  obtain ⟨d1, v1, fd, rfl, rfl, o1, n1, s1⟩ := P.one
  have h : notD d1 = some d := h
  unfold notD at h
  split at h <;> cases h
  obtain ⟨rfl, rfl⟩ := o1
  exact ⟨_, rfl, _, rfl, q.now P ⟨rfl, rfl⟩⟩
theorem v_tup (P : Opd C G B H F es ds vs U) (he : ∀ e ∈ es, isPl e = false) (h : newTup ds = some d) (q : Res C G B H F false U d Q) : vs.length ≤ sizeLine ∧ ∀ p, H p = none → Q (.ref p) (upd H p (.tup vs)) := by
  unfold newTup at h
  split at h <;> cases h
  rename_i hs
  have o := P.vl.all he
  exact ⟨by rw [← o.length]; exact hs.2, fun p hp => q.tup P hp o P.nd fun _ z => z⟩
theorem v_lst (P : Opd C G B H F es ds vs U) (he : ∀ e ∈ es, isPl e = false) (h : newLst ds = some d) (q : Res C G B H F false U d Q) : vs.length ≤ sizeLine ∧ ∀ p, H p = none → Q (.ref p) (upd H p (.lst vs)) := by
  unfold newLst at h
  split at h <;> cases h
  rename_i hs
  have o := P.vl.all he
  exact ⟨by rw [← o.length]; exact hs.2, fun p hp => q.lst P hp o P.nd fun _ z => z⟩
end
end TT
namespace TT
open PySem PySem.Spec PyProof.Rows L2
section
variable {C : Gl0} {G B H : Hp} {F : Fp} {U : List Addr} {es : List E} {ds : List D} {vs : List V} {d : D} {Q : VK} {e f g : E} {pl : Bool}
/-! ### looking into a list, a tuple, a text, a dict, an instance -/
theorem live_some {x d : D} (h : live x = some d) : x = d := by
  unfold live at h
  split at h <;> cases h
  rfl
theorem atI_ix {α : Type} {xs : List α} {i : Int} {v : α} (h : atI xs i = some v) : ∃ j, ixN xs.length i = some j ∧ xs[j]? = some v := by
  unfold atI at h
  cases e : ixN xs.length i with
  | none => rw [e] at h; cases h
  | some j => rw [e] at h; exact ⟨j, rfl, h⟩
theorem ix_atI {α : Type} {xs : List α} {i : Int} {v : α} {j : Nat} (h : ixN xs.length i = some j) (k : xs[j]? = some v) : atI xs i = some v := by
  unfold atI
  rw [h]; exact k
theorem find_zip {κ : Type} [DecidableEq κ] (k : κ) : ∀ {ks : List κ} {xs : List D} {ws : List V} {U : List Addr} {d : D}, Owns C G B H xs ws U → ks.length = xs.length → dget ks xs k = some d →
    ∃ v fd, valV (ks.zip ws) k = some v ∧ Own C G B H d v fd ∧ (U.Nodup → fd.Nodup) ∧ ∀ a ∈ fd, a ∈ U
  | [], _, _, _, _, _, _, h => by simp [dget] at h
  | k' :: ks, [], _, _, _, _, hl, _ => by simp at hl
  | k' :: ks, x :: xs, _, _, d, o, hl, h => by
    obtain ⟨v, vr, F1, F2, rfl, rfl, o1, o2⟩ := o
    by_cases e : k' = k
    · subst e
      have h : some x = some d := by simpa [dget] using h
      cases h
      exact ⟨v, F1, by simp [valV], o1, fun n => (List.nodup_append.1 n).1, fun a ha => List.mem_append_left _ ha⟩
    · have h : dget ks xs k = some d := by
        unfold dget at h ⊢
        rw [List.zip_cons_cons, List.find?_cons_of_neg (by simpa using e)] at h
        exact h
      obtain ⟨w, fd, e1, o3, n1, s1⟩ := find_zip k o2 (by simpa using hl) h
      refine ⟨w, fd, ?_, o3, fun n => n1 (List.nodup_append.1 n).2.1, fun a ha => List.mem_append_right _ (s1 a ha)⟩
      rw [List.zip_cons_cons]
      unfold valV at e1 ⊢
      rw [List.find?_cons_of_neg (by simpa using e)]
      exact e1
theorem src_part {fd fd' : List Addr} (h : (isPl e = true ∧ (∀ a ∈ fd, inF F a)) ∨ (isPl e = false ∧ ∀ a ∈ fd, a ∈ U)) (k : ∀ a ∈ fd', a ∈ fd) : if isPl e = true then ∀ a ∈ fd', inF F a else ∀ a ∈ fd', a ∈ U := by
  rcases h with ⟨h1, h2⟩ | ⟨h1, h2⟩
  · rw [h1, if_pos rfl]; exact fun a ha => h2 a (k a ha)
  · rw [h1, if_neg (by decide)]; exact fun a ha => h2 a (k a ha)
theorem keyOf_v {x : D} {k : Key} {v : V} {fd : List Addr} (h : keyOf x = some k) (o : Own C G B H x v fd) : v = kV k := by
  cases x <;> simp [keyOf] at h
  · subst h; obtain ⟨rfl, _⟩ := o; rfl
  · subst h; obtain ⟨rfl, _⟩ := o; rfl
theorem keysOf_v : ∀ {xs : List D} {ks : List Key} {vs : List V} {fd : List Addr}, keysOf xs = some ks → Owns C G B H xs vs fd → vs = ks.map kV
  | [], _, _, _, h, o => by cases h; exact o.1
  | x :: xs, _, _, _, h, o => by
    obtain ⟨v, vr, F1, F2, rfl, rfl, o1, o2⟩ := o
    unfold keysOf at h
    split at h <;> cases h
    rename_i e1 e2
    rw [keyOf_v e1 o1, keysOf_v e2 o2]; rfl
theorem tup_key {K : PySem.W.Frag} {A : Hp} {a : Addr} {ws : List V} (h : SqT K A a ws) : True := trivial
theorem dget_rd {kvs : List (Key × V)} {a : Addr} {k : Key} (h : Rd H a (.dK kvs)) : DGet H a (kV k) (valV kvs k) := .inl ⟨kvs, k, h, rfl, rfl⟩
/-- x[i], by what x is -/
theorem v_ix (P : Opd C G B H F [e, f] ds vs U) (h : bi2 (fun x y => (ixD x y).bind live) ds = some d) (q : Res C G B H F (isPl e) U d Q) : Two vs (rIx C.K) H Q ∨ ∃ x y a v, vs = [x, y] ∧ x = .ref a ∧ DGet H a y (some v) ∧ Q v H := by
  obtain ⟨d1, d2, v1, v2, fd, fd2, rfl, rfl, o1, n1, s1, o2, n2⟩ := P.two
  have h : (ixD d1 d2).bind live = some d := h
  cases e1 : ixD d1 d2 with
  | none => rw [e1] at h; cases h
  | some d0 =>
    rw [e1] at h
    obtain rfl : d0 = d := live_some h
    unfold ixD at e1
    split at e1
    · obtain ⟨rfl, rfl⟩ := o2
      obtain ⟨a, ws, F', rfl, ea, oa, ef, _⟩ := o1.lstAt P.gb P.bh
      obtain ⟨j, h1, h2⟩ := atI_ix e1
      obtain ⟨w, fdk, h3, o3, n3, s3⟩ := oa.get h2
      exact .inl ⟨_, _, rfl, .inl ⟨a, ws, _, w, rfl, rfl, SqL.of ea, ix_atI (by rw [← oa.length]; exact h1) h3, q.part P o3 (n3 (nodup_kids ef n1)) (src_part s1 fun b hb => mem_kids ef b (s3 b hb))⟩⟩
    · obtain ⟨rfl, rfl⟩ := o2
      obtain ⟨a, ws, F', rfl, ea, oa, ef, _⟩ := o1.tupAt P.gb P.bh
      obtain ⟨j, h1, h2⟩ := atI_ix e1
      obtain ⟨w, fdk, h3, o3, n3, s3⟩ := oa.get h2
      exact .inl ⟨_, _, rfl, .inr (.inl ⟨a, ws, _, w, rfl, rfl, ea, ix_atI (by rw [← oa.length]; exact h1) h3, q.part P o3 (n3 (nodup_kids ef n1)) (src_part s1 fun b hb => mem_kids ef b (s3 b hb))⟩)⟩
    · obtain ⟨rfl, rfl⟩ := o2
      obtain ⟨⟨a, rfl, ea⟩, rfl⟩ := o1
      rw [Option.map_eq_some_iff] at e1
      obtain ⟨n, e1, rfl⟩ := e1
      refine .inl ⟨_, _, rfl, .inl ⟨a, _, _, .int n, rfl, rfl, (P.gb.trans P.bh).seqL ea, ?_, q.now P ⟨rfl, rfl⟩⟩⟩
      obtain ⟨j, h1, h2⟩ := atI_ix e1
      exact ix_atI (by rw [List.length_map]; exact h1) (by rw [List.getElem?_map, h2]; rfl)
    · split at e1
      · rename_i hs
        obtain ⟨rfl, rfl⟩ := o2
        obtain ⟨rfl, rfl⟩ := o1
        rw [Option.map_eq_some_iff] at e1
        obtain ⟨c, e1, rfl⟩ := e1
        exact .inl ⟨_, _, rfl, .inr (.inr ⟨_, _, c, rfl, rfl, hs, e1, q.now P ⟨rfl, rfl⟩⟩)⟩
      · cases e1
    · obtain ⟨rfl, rfl⟩ := o2
      obtain ⟨a, ws, F', rfl, h1, oa, ef, _, hl, nd⟩ := o1
      obtain ⟨w, fdk, h3, o3, n3, s3⟩ := find_zip (Sum.inl _) oa hl e1
      refine .inr ⟨_, _, a, w, rfl, rfl, ?_, q.part P o3 (n3 (nodup_kids ef n1)) (src_part s1 fun b hb => mem_kids ef b (s3 b hb))⟩
      rw [← h3]
      first | exact dget_rd (k := Sum.inl _) (h1.viewD P.gb P.bh) | exact dget_rd (k := Sum.inr _) (h1.viewD P.gb P.bh)
    · obtain ⟨rfl, rfl⟩ := o2
      obtain ⟨a, ws, F', rfl, h1, oa, ef, _, hl, nd⟩ := o1
      obtain ⟨w, fdk, h3, o3, n3, s3⟩ := find_zip (Sum.inr _) oa hl e1
      refine .inr ⟨_, _, a, w, rfl, rfl, ?_, q.part P o3 (n3 (nodup_kids ef n1)) (src_part s1 fun b hb => mem_kids ef b (s3 b hb))⟩
      rw [← h3]
      first | exact dget_rd (k := Sum.inl _) (h1.viewD P.gb P.bh) | exact dget_rd (k := Sum.inr _) (h1.viewD P.gb P.bh)
    · cases e1
theorem v_len (P : Opd C G B H F [e] ds vs U) (h : un1 lenD ds = some d) (q : Res C G B H F pl U d Q) : (∃ x n, vs = [x] ∧ LenV C.K x H n ∧ Q (.int n) H) ∨ ∃ a kvs, vs = [.ref a] ∧ Rd H a (.dK kvs) ∧ Q (.int kvs.length) H := by
  obtain ⟨d1, v1, fd, rfl, rfl, o1, n1, s1⟩ := P.one
  have h : lenD d1 = some d := h
  unfold lenD at h
  split at h
  · split at h <;> cases h
    rename_i hs
    obtain ⟨rfl, rfl⟩ := o1
    exact .inl ⟨_, _, rfl, ⟨hs, rfl⟩, q.now P ⟨rfl, rfl⟩⟩
  · cases h
    obtain ⟨a, ws, F', rfl, ea, oa, ef, _⟩ := o1.lstAt P.gb P.bh
    exact .inl ⟨_, _, rfl, .inl ⟨ws, SqL.of ea, oa.length⟩, q.now P ⟨rfl, rfl⟩⟩
  · cases h
    obtain ⟨a, ws, F', rfl, ea, oa, ef, _⟩ := o1.tupAt P.gb P.bh
    exact .inl ⟨_, _, rfl, .inr ⟨ws, ea, oa.length⟩, q.now P ⟨rfl, rfl⟩⟩
  · cases h
    obtain ⟨⟨a, rfl, ea⟩, rfl⟩ := o1
    exact .inl ⟨_, _, rfl, .inl ⟨_, (P.gb.trans P.bh).seqL ea, by rw [List.length_map]⟩, q.now P ⟨rfl, rfl⟩⟩
  · cases h
    obtain ⟨a, ws, F', rfl, h1, oa, ef, _, hl, nd⟩ := o1
    refine .inr ⟨a, _, rfl, h1.viewD P.gb P.bh, ?_⟩
    refine q.now P ⟨?_, rfl⟩
    rw [List.length_zip, ← oa.length, hl, Nat.min_self]
  · cases h
theorem v_list (P : Opd C G B H F [e] ds vs U) (h : un1 listD ds = some d) (q : Res C G B H F false U d Q) : ∃ p ys, vs = [.ref p] ∧ (SqL C.K H p ys ∨ SqT C.K H p ys) ∧ ∀ l, H l = none → Q (.ref l) (upd H l (.lst ys)) := by
  obtain ⟨d1, v1, fd, rfl, rfl, o1, n1, s1⟩ := P.one
  have h : listD d1 = some d := h
  unfold listD at h
  split at h
  · split at h <;> cases h
    rename_i hs
    obtain ⟨a, ws, F', rfl, ea, oa, ef, _⟩ := o1.lstAt P.gb P.bh
    obtain rfl := oa.nil hs.1
    exact ⟨a, ws, rfl, .inl (SqL.of ea), fun l hl => q.lst P hl oa List.nodup_nil fun _ z => nomatch z⟩
  · split at h <;> cases h
    rename_i hs
    obtain ⟨a, ws, F', rfl, ea, oa, ef, _⟩ := o1.tupAt P.gb P.bh
    obtain rfl := oa.nil hs.1
    exact ⟨a, ws, rfl, .inr ea, fun l hl => q.lst P hl oa List.nodup_nil fun _ z => nomatch z⟩
  · cases h
theorem v_tuple (P : Opd C G B H F [e] ds vs U) (h : un1 tupleD ds = some d) (q : Res C G B H F false U d Q) : ∃ p ys, vs = [.ref p] ∧ ((SqL C.K H p ys ∧ ∀ l, H l = none → Q (.ref l) (upd H l (.tup ys))) ∨ (SqT C.K H p ys ∧ Q (.ref p) H)) := by
  obtain ⟨d1, v1, fd, rfl, rfl, o1, n1, s1⟩ := P.one
  have h : tupleD d1 = some d := h
  unfold tupleD at h
  split at h
  · split at h <;> cases h
    rename_i hs
    obtain ⟨a, ws, F', rfl, ea, oa, ef, _⟩ := o1.lstAt P.gb P.bh
    obtain rfl := oa.nil hs.1
    exact ⟨a, ws, rfl, .inl ⟨SqL.of ea, fun l hl => q.tupS P hl hs oa⟩⟩
  · cases h
theorem v_int (P : Opd C G B H F [e] ds vs U) (h : un1 intD ds = some d) (q : Res C G B H F pl U d Q) : (∃ i, vs = [.int i] ∧ Q (.int i) H) ∨ ∃ k, vs = [.bl k] ∧ Q (.int (if k then 1 else 0)) H := by
  obtain ⟨d1, v1, fd, rfl, rfl, o1, n1, s1⟩ := P.one
  have h : intD d1 = some d := h
  unfold intD at h
  split at h <;> cases h
  · obtain ⟨rfl, rfl⟩ := o1
    exact .inl ⟨_, rfl, q.now P ⟨rfl, rfl⟩⟩
  · obtain ⟨rfl, rfl⟩ := o1
    exact .inr ⟨_, rfl, q.now P ⟨rfl, rfl⟩⟩
theorem v_strI (P : Opd C G B H F [e] ds vs U) (h : un1 strID ds = some d) (q : Res C G B H F pl U d Q) : ∃ i : Int, vs = [.int i] ∧ i.natAbs.log2 < 1920 ∧ Q (.str (toString i)) H := by
  obtain ⟨d1, v1, fd, rfl, rfl, o1, n1, s1⟩ := P.one
  have h : strID d1 = some d := h
  unfold strID at h
  split at h
  · split at h <;> cases h
    rename_i hs
    obtain ⟨rfl, rfl⟩ := o1
    exact ⟨_, rfl, hs, q.now P ⟨rfl, rfl⟩⟩
  · cases h
theorem v_sum (P : Opd C G B H F [e] ds vs U) (h : un1 sumD ds = some d) (q : Res C G B H F pl U d Q) : rSum C.K vs H Q := by
  obtain ⟨d1, v1, fd, rfl, rfl, o1, n1, s1⟩ := P.one
  have h : sumD d1 = some d := h
  unfold sumD at h
  split at h
  · rw [Option.map_eq_some_iff] at h
    obtain ⟨ns, h2, rfl⟩ := h
    obtain ⟨a, ws, F', rfl, ea, oa, ef, _⟩ := o1.lstAt P.gb P.bh
    obtain rfl := oa.ints h2
    exact ⟨a, ns, rfl, SqL.of ea, q.now P ⟨rfl, rfl⟩⟩
  · cases h
theorem v_all (P : Opd C G B H F [e] ds vs U) (h : un1 allD ds = some d) (q : Res C G B H F pl U d Q) : ∃ (a : Addr) (bs : List Bool), vs = [.ref a] ∧ SqL C.K H a (bs.map V.bl) ∧ Q (.bl (bs.all id)) H := by
  obtain ⟨d1, v1, fd, rfl, rfl, o1, n1, s1⟩ := P.one
  have h : allD d1 = some d := h
  unfold allD at h
  split at h
  · rw [Option.map_eq_some_iff] at h
    obtain ⟨ns, h2, rfl⟩ := h
    obtain ⟨a, ws, F', rfl, ea, oa, ef, _⟩ := o1.lstAt P.gb P.bh
    obtain rfl := oa.bls h2
    exact ⟨a, ns, rfl, SqL.of ea, q.now P ⟨rfl, rfl⟩⟩
  · cases h
theorem v_any (P : Opd C G B H F [e] ds vs U) (h : un1 anyD ds = some d) (q : Res C G B H F pl U d Q) : ∃ (a : Addr) (bs : List Bool), vs = [.ref a] ∧ SqL C.K H a (bs.map V.bl) ∧ Q (.bl (bs.any id)) H := by
  obtain ⟨d1, v1, fd, rfl, rfl, o1, n1, s1⟩ := P.one
  have h : anyD d1 = some d := h
  unfold anyD at h
  split at h
  · rw [Option.map_eq_some_iff] at h
    obtain ⟨ns, h2, rfl⟩ := h
    obtain ⟨a, ws, F', rfl, ea, oa, ef, _⟩ := o1.lstAt P.gb P.bh
    obtain rfl := oa.bls h2
    exact ⟨a, ns, rfl, SqL.of ea, q.now P ⟨rfl, rfl⟩⟩
  · cases h
theorem v_min2 (P : Opd C G B H F [e, f] ds vs U) (h : bi2 minD ds = some d) (q : Res C G B H F pl U d Q) : ∃ i j, vs = [.int i, .int j] ∧ Q (.int (if j < i then j else i)) H := by
  obtain ⟨x, y, rfl, i, j, rfl, rfl, _, z⟩ := v_int2 (Cc := fun _ _ => True) (k := fun i j => .int (if j < i then j else i)) (fun d1 d2 d h => by
    unfold minD at h
    split at h <;> cases h
    exact ⟨_, _, rfl, rfl, trivial, fun _ _ _ => ⟨rfl, rfl⟩⟩) P h q
  exact ⟨_, _, rfl, z⟩
theorem v_max2 (P : Opd C G B H F [e, f] ds vs U) (h : bi2 maxD ds = some d) (q : Res C G B H F pl U d Q) : ∃ i j, vs = [.int i, .int j] ∧ Q (.int (if j > i then j else i)) H := by
  obtain ⟨x, y, rfl, i, j, rfl, rfl, _, z⟩ := v_int2 (Cc := fun _ _ => True) (k := fun i j => .int (if j > i then j else i)) (fun d1 d2 d h => by
    unfold maxD at h
    split at h <;> cases h
    exact ⟨_, _, rfl, rfl, trivial, fun _ _ _ => ⟨rfl, rfl⟩⟩) P h q
  exact ⟨_, _, rfl, z⟩
theorem v_sl {x : D} {v : V} {fd : List Addr} {lo hi : Option Int} (gb : Sb G B) (bh : Sb B H) (P : Opd C G B H F es ds vs U) (o : Own C G B H x v fd) (h : slD x lo hi = some d) (q : Res C G B H F false U d Q) :
    (rSlL C.K v lo hi H Q ∨ (rSlA C.K v lo hi H Q ∨ rSlS v lo hi H Q)) := by
  unfold slD at h
  split at h
  · split at h <;> cases h
    rename_i hs
    obtain ⟨a, ws, F', rfl, ea, oa, ef, _⟩ := o.lstAt gb bh
    obtain rfl := oa.nil hs.1
    exact .inl ⟨a, ws, rfl, SqL.of ea, fun p hp => q.lst P hp (oa.cut lo hi) List.nodup_nil fun _ z => nomatch z⟩
  · cases h
    obtain ⟨a, ws, F', rfl, ea, oa, ef, hk⟩ := id (o.tupAt gb bh)
    obtain rfl := oa.nil hk.1
    have hl := oa.length
    refine .inr (.inl ⟨a, ws, rfl, ea, fun hw => ?_, fun _ p hp => q.tupS P hp ⟨?_, ?_⟩ (oa.cut lo hi)⟩)
    · obtain rfl := o.sc (fl := .shr)
      rename_i xs
      have : cut xs lo hi = xs := by
        unfold cut
        rw [hl, hw.1, hw.2, List.drop_zero, Nat.sub_zero, ← hl, List.take_length]
      rw [this] at q
      exact q.now P o
    · rw [noOwns_iff]
      intro y hy
      exact noOwns_iff.1 hk.1 y (List.mem_of_mem_drop (List.mem_of_mem_take hy))
    · rw [noBors_iff]
      intro y hy
      exact noBors_iff.1 hk.2 y (List.mem_of_mem_drop (List.mem_of_mem_take hy))
  · cases h
    obtain ⟨⟨a, rfl, ea⟩, rfl⟩ := o
    rename_i ns
    refine .inl ⟨a, _, rfl, (gb.trans bh).seqL ea, fun p hp => ?_⟩
    have : cutV (ns.map V.int) lo hi = (cut ns lo hi).map V.int := by
      unfold cutV cut
      rw [List.length_map, List.map_take, List.map_drop]
    rw [this]
    exact q.lst P hp (owns_ints _) List.nodup_nil fun _ z => nomatch z
  · split at h <;> cases h
    rename_i hs
    obtain ⟨rfl, rfl⟩ := o
    exact .inr (.inr ⟨_, rfl, hs, q.now P ⟨rfl, rfl⟩⟩)
  · cases h
end
end TT
namespace TT
open PySem PySem.Spec PyProof.Rows L2
/-! ### the look at a text: does an E (S) have the shape of an expression (statement) -/
structure Gam where
  N : List Str
  sc : Scope
  bn : List Str
  lv : Nat
  m : Bool
  st : Option Scope
def locB (sc : Scope) (x : Str) : Bool := match sc.names.lookup x with
  | some .local => true
  | some .cell => true
  | _ => false
/-- what a block may store -/
def stOk (Γ : Gam) (x : Str) : Bool := match Γ.st with
  | none => true
  | some sc => locB sc x
structure CxOk (C : Gl0) (Γ : Gam) (X : Cx) : Prop where
  K : X.K = C.K
  N : X.N = Γ.N
  nd : Γ.N.Nodup
  sc : X.env.scope = Γ.sc
  calm : X.calm = true
  room : Room Γ.lv X.A
  bn : ∀ x ∈ Γ.bn, X.mg x = none
  fn : ∀ x, Loc X.env.scope x → stOk Γ x = true → X.fn x = true ∨ X.env.scope.names.lookup x = some .local
/-- .. in a def's own block -/
structure CxS (C : Gl0) (Γ : Gam) (X : Cx) : Prop extends CxOk C Γ X where
  fa : ∀ x, Loc X.env.scope x → X.fn x = true ∨ X.env.scope.names.lookup x = some .local
  po : PassesOwn (model X.prog X.w) X.A X.env X.xe
  st : X.stack = X.env :: X.outer
  fr : X.env.frame = some X.env.locals
  ex : X.ex = []
def dbgB (x : Str) : Bool := !(x == ("__debug__" : Str)) && !(x == ("__classdict__" : Str))
def visB (sc : Scope) (x : Str) : Bool := match sc.names.lookup x with
  | some .local => true
  | some .cell => true
  | some .free => true
  | _ => false
def glB (sc : Scope) (x : Str) : Bool := (match sc.names.lookup x with
  | some .globalImplicit => true
  | _ => false) && dbgB x
def nmB (Γ : Gam) (i : Nat) (e : Expr) : Bool := match e with
  | .Name x _ => decide (Γ.N[i]? = some x) && visB Γ.sc x && dbgB x
  | _ => false
/-- a name that is the built-in one -/
def btB (Γ : Gam) (n x : Str) : Bool := decide (x = n) && glB Γ.sc x && decide (n ∈ Γ.bn)
def notStar : Expr → Bool
  | .Starred _ _ => false
  | _ => true
def notCall : Expr → Bool
  | .Call _ _ _ _ => false
  | _ => true
def notSlice : Expr → Bool
  | .Slice _ _ _ _ => false
  | _ => true
def notSet : Expr → Bool
  | .Set _ _ _ => false
  | _ => true
/-- what may stand as a test -/
def tstB (a : Expr) : Bool := match a with
  | .IfExp _ _ _ _ => false
  | _ => true
def cstB (d : D) (c : Const) : Bool := match d, c with
  | .int i, .int j => decide (i = j)
  | .str x, .str y => decide (x = y)
  | .bl a, .bool b => a == b
  | .non, .none => true
  | _, _ => false
/-- a call of a built-in by its name -/
def btCall (Γ : Gam) (n : Str) (e : Expr) : Option (List Expr) := match e with
  | .Call (.Name x _) as [] _ => if btB Γ n x then some as else none
  | _ => none
def tyB (Γ : Gam) (t : Ty) (x : Str) (e : Expr) : Bool := match e with
  | .Name y _ => decide (y = x) && glB Γ.sc y && (match t with
    | .b n => decide (y ∈ Γ.bn) && decide (y = Str.ofString n) && decide (n ∈ ["int", "bool", "str", "tuple", "list", "dict", "ValueError"])
    | .c _ => true)
  | _ => false
def binB (o : Operator) (e : Expr) : Option (List Expr) := match e with
  | .BinOp a o' b _ => if o' == o then some [a, b] else none
  | _ => none
def cmpB (o : CmpOp) (e : Expr) : Option (List Expr) := match e with
  | .Compare a [o'] [b] _ => if o' == o && notSet b then some [a, b] else none
  | _ => none
def nonB (o : CmpOp) (e : Expr) : Option (List Expr) := match e with
  | .Compare a [o'] [.Constant .none _ _] _ => if o' == o then some [a] else none
  | _ => none
/-- o.m(x), on one line -/
def mthN : Op → Option Str
  | .part => some "partition"
  | .find => some "find"
  | .join => some "join"
  | _ => none
def mthB (o : Op) (e : Expr) : Option (Expr × List Expr) := match e with
  | .Call (.Attribute x m ap) as [] cp => if decide (mthN o = some m) && notCall x && (ap.endLine == cp.line) then some (x, as) else none
  | _ => none
def shape (Γ : Gam) (o : Op) (e : Expr) : Option (List Expr) := match o with
  | .add => binB .Add e
  | .sub => binB .Sub e
  | .mul => binB .Mult e
  | .fdiv => binB .FloorDiv e
  | .mod => binB .Mod e
  | .pow => binB .Pow e
  | .neg => (match e with | .UnaryOp .USub a _ => some [a] | _ => none)
  | .eq => cmpB .Eq e
  | .ne => cmpB .NotEq e
  | .lt => cmpB .Lt e
  | .le => cmpB .LtE e
  | .gt => cmpB .Gt e
  | .ge => cmpB .GtE e
  | .isN => nonB .Is e
  | .notN => nonB .IsNot e
  | .in_ => cmpB .In e
  | .nin => cmpB .NotIn e
  | .not => (match e with | .UnaryOp .Not a _ => some [a] | _ => none)
  | .tup => (match e with | .Tuple es _ _ => some es | _ => none)
  | .lst => (match e with | .List es _ => some es | _ => none)
  | .dnk => (match e with | .Dict [] [] _ => some [] | _ => none)
  | .dnt => (match e with | .Dict [] [] _ => some [] | _ => none)
  | .ix => (match e with | .Subscript a b _ => if notSlice b then some [a, b] else none | _ => none)
  | .sl lo hi => (match e with | .Subscript a (.Slice l h none _) _ => if l.isSome == lo && h.isSome == hi && !(lo && hi) then some (a :: (l.toList ++ h.toList)) else none | _ => none)
  | .rev => (match e with | .Subscript a (.Slice none none (some (.UnaryOp .USub (.Constant (.int 1) _ _) _)) _) _ => some [a] | _ => none)
  | .len => btCall Γ "len" e
  | .list => btCall Γ "list" e
  | .tuple => btCall Γ "tuple" e
  | .int => btCall Γ "int" e
  | .strI => btCall Γ "str" e
  | .sum => btCall Γ "sum" e
  | .all => btCall Γ "all" e
  | .any => btCall Γ "any" e
  | .divmod => btCall Γ "divmod" e
  | .intT => btCall Γ "int" e
  | .rep => binB .Mult e
  | .min2 => btCall Γ "min" e
  | .max2 => btCall Γ "max" e
  | .isi t x _ => (match btCall Γ "isinstance" e with
    | some [a, b] => if tyB Γ t x b then some [a] else none
    | _ => none)
  | _ => none
/-- operands that are stored must not be looks -/
def opSt (o : Op) (es : List E) : Bool := match o with
  | .tup => es.all fun e => !isPl e
  | .lst => es.all fun e => !isPl e
  | _ => true
/-- .. and what not is asked of may stand as a test -/
def opSt' (o : Op) (es : List E) (as : List Expr) : Bool := match o with
  | .not => as.all tstB
  | o => opSt o es
/-- a plain expression as a test -/
def tstPlain (a : Expr) : Bool := match a with
  | .UnaryOp .Not _ _ => false
  | .BoolOp _ _ _ => false
  | .IfExp _ _ _ _ => false
  | .Compare _ _ _ _ => false
  | _ => true
/-- not a list comprehension -/
def notComp : Expr → Bool
  | .ListComp _ _ _ _ => false
  | .SetComp _ _ _ _ => false
  | .DictComp _ _ _ _ _ => false
  | _ => true
/-- a place of a name that may be stored -/
def stB (Γ : Gam) (i : Nat) (e : Expr) : Bool := match e with
  | .Name x _ => decide (Γ.N[i]? = some x) && locB Γ.sc x && stOk Γ x && !(Γ.m && decide (i = 0))
  | _ => false
def stBs (Γ : Gam) : List Nat → List Expr → Bool
  | [], [] => true
  | i :: is, e :: es => stB Γ i e && stBs Γ is es
  | _, _ => false
def isTup : Expr → Bool
  | .Tuple _ _ _ => true
  | _ => false
def tgB (Γ : Gam) (t : Tg) (e : Expr) : Bool := match t, e with
  | .nm i, e => stB Γ i e
  | .tup is, .Tuple es _ _ => stBs Γ is es
  | _, _ => false
/-- a target's slots are the comprehension's own -/
def tgIn (own : List Nat) : Tg → Bool
  | .nm i => decide (i ∈ own)
  | .tup is => is.all fun i => decide (i ∈ own)
/-- a walk's shape: its operands' texts -/
def itShape (Γ : Gam) (tg : Expr) (k : ItK) (a : Expr) : Option (List Expr) := match k with
  | .seq => if notSet a && notStar a then some [a] else none
  | .rng1 => (match btCall Γ "range" a with | some [x] => some [x] | _ => none)
  | .rng2 => (match btCall Γ "range" a with | some [x, y] => some [x, y] | _ => none)
  | .rng3 => (match btCall Γ "range" a with | some [x, y, z] => some [x, y, z] | _ => none)
  | .enum => (match btCall Γ "enumerate" a with | some [x] => if isTup tg then some [x] else none | _ => none)
  | .zip => (match btCall Γ "zip" a with | some [x, y] => if isTup tg then some [x, y] else none | _ => none)
def itSt (k : ItK) (es : List E) : Bool := match k with
  | .enum => es.all fun e => !isPl e
  | .zip => es.all fun e => !isPl e
  | _ => true
def Gam.blk (Γ : Gam) (scope : Scope) : Gam := { Γ with sc := relS scope Γ.sc, st := some scope }
def ownOf (Γ : Gam) (own : List Nat) : List (Str × Nat) := own.map fun i => (Γ.N.getD i "", i)
def ordO : Op → Option CmpOp
  | .lt => some .Lt
  | .le => some .LtE
  | .gt => some .Gt
  | .ge => some .GtE
  | _ => none
def isLC : Expr → Bool
  | .ListComp _ [⟨_, _, _, 0⟩] _ _ => true
  | _ => false
mutual
def mE : Gam → E → Expr → Bool
  | _, .c d, e => (match e with | .Constant c _ _ => cstB d c | _ => false)
  | Γ, .nm i, e => nmB Γ i e
  | Γ, .mv i, e => nmB Γ i e
  | Γ, .fz i, e => nmB Γ i e
  | Γ, .cp a, e => mE Γ a e && tstPlain e
  | Γ, .tf a, e => mE Γ a e && tstPlain e && !isPl a
  | Γ, .gl x _, e => (match e with | .Name y _ => decide (y = x) && glB Γ.sc y | _ => false)
  | Γ, .op o es, e => (match shape Γ o e with | some as => mEs Γ es as && opSt' o es as | none => false)
  | Γ, .mth o a es, e => (match mthB o e with | some (x, as) => mE Γ a x && !isPl a && mEs Γ es as && decide (as.length = 1) | none => false)
  | Γ, .band es, e => (match e with | .BoolOp .And as _ => mEs Γ es as && as.all tstB && es.all fun e => !isPl e | _ => false)
  | Γ, .bor es, e => (match e with | .BoolOp .Or as _ => mEs Γ es as && as.all tstB && es.all fun e => !isPl e | _ => false)
  | Γ, .ite c a b, e => (match e with | .IfExp x y z _ => mE Γ c x && tstB x && mE Γ a y && mE Γ b z && !isPl a && !isPl b | _ => false)
  | Γ, .chain o1 o2 a b c, e => (match e with
    | .Compare x [p1, p2] [y, z] _ => decide (ordO o1 = some p1) && decide (ordO o2 = some p2) && notSet y && notSet z && mE Γ a x && mE Γ b y && mE Γ c z && !isPl a && !isPl b && !isPl c
    | _ => false)
  | Γ, .call f es, e => (match e with
    | .Call (.Name x _) as [] _ => decide (x = f.name) && glB Γ.sc x && decide (f.lv ≤ Γ.lv) && !f.m && decide (es.length ≤ f.np) && decide (f.np ≤ es.length + f.dfl.length) && mEs Γ es as
    | _ => false)
  | Γ, .comp own t k es co elt, e => (match e with
    | .ListComp el [⟨tg, iter, ifs, 0⟩] scope _ =>
      (match itShape Γ tg k iter with
        | some as => mEs Γ es as && itSt k es
        | none => false) && notSet iter && blkC Γ.N Γ.sc scope (ownOf Γ own) && tgB (Γ.blk scope) t tg && tgIn own t && mEs (Γ.blk scope) co ifs && ifs.all tstB && decide (ifs.length ≤ 1) && mE (Γ.blk scope) elt el && !isPl elt &&
        own.all (fun i => decide (i < Γ.N.length)) && !(Γ.m && own.any fun i => decide (i = 0)) && decide own.Nodup
    | _ => false)
def mEs : Gam → List E → List Expr → Bool
  | _, [], [] => true
  | Γ, e :: es, a :: as => notStar a && mE Γ e a && (!isPl e || !effs es) && mEs Γ es as
  | _, _, _ => false
end
def notTup : Expr → Bool
  | .Tuple _ _ _ => false
  | _ => true
/-- a, b = e1, e2: the names are local ones, on one line, not the same, not all written out -/
def parB (Γ : Gam) (i j : Nat) (t e : Expr) : Bool := match t, e with
  | .Tuple [.Name x px, .Name y py] _ _, .Tuple [a, b] _ _ =>
    decide (Γ.sc.kind = .function) && decide (Γ.N[i]? = some x) && decide (Γ.N[j]? = some y) && decide (i ≠ j) && decide (Γ.sc.names.lookup x = some .local) && decide (Γ.sc.names.lookup y = some .local) && decide (px.line = py.line) && decide (x ≠ y) &&
      notStar a && notStar b && !([a, b].all (foldedForSure 8)) && !([a, b].all (constantsAlone 8)) && !(Γ.m && (decide (i = 0) || decide (j = 0)))
  | _, _ => false
/-- what a for walks; tg is its target -/
def mI (Γ : Gam) (tg : Expr) (it : It) (a : Expr) : Bool := match itShape Γ tg it.k a with
  | some as => mEs Γ it.es as && itSt it.k it.es
  | none => false
def suB (Γ : Gam) (su : Su) (nmi : Option Nat) (e : Stmt) : Bool := match su, e with
  | .exn i, .Assign [.Name x p] (.Name y q) _ => (match nmi with
    | some n => stB Γ i (.Name x p) && decide (Γ.N[n]? = some y) && dbgB y && visB Γ.sc y && decide (i ≠ n)
    | none => false)
  | .c i d, .Assign [.Name x p] (.Constant c _ _) _ => stB Γ i (.Name x p) && cstB d c && decide (nmi ≠ some i)
  | .nil i, .Assign [.Name x p] (.List [] _) _ => stB Γ i (.Name x p) && decide (nmi ≠ some i)
  | _, _ => false
/-- the name of an except clause -/
def nmiB (Γ : Gam) (nmi : Option Nat) (n : Option Str) : Bool := match nmi, n with
  | some i, some n => decide (Γ.N[i]? = some n) && decide (Γ.sc.names.lookup n = some .local) && !(Γ.m && decide (i = 0))
  | none, none => true
  | _, _ => false
mutual
def mS (Γ : Gam) : S → Stmt → Bool
  | .asg i e, a => (match a with | .Assign [t] v _ => stB Γ i t && mE Γ e v && !isPl e && (notComp v || isLC v) | _ => false)
  | .par i j e f, a => (match a with | .Assign [t] v _ => parB Γ i j t v && (match v with | .Tuple as _ _ => mEs Γ [e, f] as && !isPl e && !isPl f | _ => false) | _ => false)
  | .app i e, a => (match a with | .Expr (.Call (.Attribute v m ap) [x] [] cp) _ => decide (m = "append") && nmB Γ i v && mE Γ e x && !isPl e && notStar x && (ap.endLine == cp.line) | _ => false)
  | .asgT is e, a => (match a with | .Assign [.Tuple ts _ _] v _ => stBs Γ is ts && mE Γ e v && !isPl e && notComp v && notTup v | _ => false)
  | .aug i o e, a => (match a with
    | .AugAssign t o' v _ => stB Γ i t && mE Γ e v && !isPl e && (match o, o' with | .add, .Add => true | .mul, .Mult => true | _, _ => false)
    | _ => false)
  | .ex e, a => (match a with | .Expr v _ => mE Γ e v && notComp v | _ => false)
  | .ret e, a => (match a with | .Return (some v) _ => mE Γ e v && !isPl e | _ => false)
  | .ift c x y, a => (match a with | .If t b1 b2 _ => mE Γ c t && tstB t && mSs Γ x b1 && mSs Γ y b2 | _ => false)
  | .for_ t it b, a => (match a with | .For tg i bd [] _ => tgB Γ t tg && mI Γ tg it i && notSet i && mSs Γ b bd | _ => false)
  | .whl _ c b, a => (match a with | .While t bd [] _ => mE Γ c t && tstB t && mSs Γ b bd | _ => false)
  | .raise0 _ x, a => (match a with | .Raise (some (.Call (.Name y _) [.Constant (.str _) _ _] [] _)) none _ => decide (y = x) && glB Γ.sc y | _ => false)
  | .try1 b _ x _ nmi su, a => (match a with
    | .Try bd [.ExceptHandler (some (.Name y _)) n [s1] _] [] [] _ => decide (y = x) && glB Γ.sc y && nmiB Γ nmi n && suB Γ su nmi s1 && mSs Γ b bd
    | _ => false)
  | .pass, a => (match a with | .Pass _ => true | _ => false)
  | .cont, a => (match a with | .Continue _ => true | _ => false)
def mSs (Γ : Gam) : List S → List Stmt → Bool
  | [], [] => true
  | x :: xs, a :: as => mS Γ x a && mSs Γ xs as
  | _, _ => false
end
/-! ### what the top has made -/
def ArgsOk (C : Gl0) (G B H : Hp) (m : Bool) (ds : List D) (vs : List V) (fs : List Addr) : Prop :=
  if m = true then ∃ d0 dr v0 vr, ds = d0 :: dr ∧ vs = v0 :: vr ∧ Own C G B H d0 v0 fs ∧ fs.Nodup ∧ Owns C G B H dr vr [] else Owns C G B H ds vs [] ∧ fs = []
/-- the first argument's data, behind the call -/
def Self (C : Gl0) (G B H : Hp) (m : Bool) (d0 : D) (vs : List V) (fs fr : List Addr) : Prop :=
  if m = true then (∃ v0 vr, vs = v0 :: vr ∧ Own C G B H d0 v0 fs) ∧ fs.Nodup ∧ ∀ a ∈ fs, a ∉ fr else fs = []
def outF (C : Gl0) (m : Bool) (G B H : Hp) (vs : List V) (fs : List Addr) (r : FR) (Q : VK) (E : XK) : Prop :=
  match r with
  | .ok r d0 => noBor r = true ∧ isDead r = false ∧ ∀ v G' B' H' fr fs', Ext G B H (fun a => a ∈ fs) G' B' H' (fun a => a ∈ fs' ∨ a ∈ fr) → Sb G' B' → Sb B' H' → Own C G' B' H' r v fr → fr.Nodup → Self C G' B' H' m d0 vs fs' fr → Q v H'
  | .exc c xf xs d0 => ∀ cls dd G' B' H' fs', Ext G B H (fun a => a ∈ fs) G' B' H' (fun a => a ∈ fs') → Sb G' B' → Sb B' H' → ExR C G' c xf xs cls dd → Self C G' B' H' m d0 vs fs' [] → E cls dd H'
  | .bad => False
/-- a def's promise, by what it gives -/
def spec (C : Gl0) (f : FE) : Sp := fun vs H Q E => vs.length = f.np ∧ ∃ ds G B fs, Sb G B ∧ Sb B H ∧ ArgsOk C G B H f.m ds vs fs ∧ outF C f.m G B H vs fs (f.g ds) Q E
structure FOk (C : Gl0) (X : Cx) (f : FE) (a : Addr) (fd : FuncData) (ps : List Str) (dV : List V) (dv : List Value) : Prop where
  ln : ps.length = f.np
  dl : dV.length = f.dfl.length
  dr : Vals dV dv
  do_ : ∀ G B H, Owns C G B H f.dfl dV []
  bd : ∀ j, Binds X.K fd ps (dv.drop j)
  ok : FnOk X.prog X.w X.K X.mg X.base (L2.CX X.prog X.w) f.lv a fd ps (spec C f)
/-- what a text leans on -/
inductive Nd where
  | fe (f : FE)
  | gl (x : Str) (d : D)
  | isi (t : Ty) (x : Str) (tab : List (Nat × Bool))
  | exc (c : Nat) (x : Str)
  | tr (c : Nat) (x : Str) (tab : List (Nat × Bool))
def tyVal (C : Gl0) : Ty → Value
  | .b n => .type n
  | .c k => .ref (C.ca k)
/-- an own exception class without own __init__ -/
structure ExC (C : Gl0) (X : Cx) (c : Nat) (x : Str) : Prop where
  g : X.mg x = some (.ref (C.ca c))
  x : PySem.W.excIn X.K (C.ca c) [.type "ValueError", .type "Exception", .type "BaseException", .type "object"] "ValueError.__new__" = true
  k : PySem.W.keepIn X.K (.ref (C.ca c)) = true
  b : PySem.W.subIn X.K (.ref (C.ca c)) (.type "BaseException") = some true
  t : PySem.W.typeIn X.K (.ref (C.ca c)) = some (.type "type")
def NdOk (C : Gl0) (X : Cx) : Nd → Prop
  | .fe f => ∃ a fd ps dV dv, X.mg f.name = some (.ref a) ∧ PySem.W.keepIn X.K (.ref a) = true ∧ FOk C X f a fd ps dV dv
  | .gl x d => noOwn d = true ∧ isDead d = false ∧ ∃ v u, X.mg x = some u ∧ RelV v u ∧ ∀ G B H, Own C G B H d v []
  | .isi t x tab => (∀ k, t = .c k → X.mg x = some (.ref (C.ca k)) ∧ ∀ n ∈ ["NoneType", "int", "bool", "str", "tuple", "list", "dict"], PySem.W.kitOne X.K (.type n) (.ref (C.ca k)) = some false) ∧
      ∀ p ∈ tab, PySem.W.kitOne X.K (.ref (C.ca p.1)) (tyVal C t) = some p.2 ∧ ExcC X.K (C.ca p.1)
  | .exc c x => ExC C X c x
  | .tr c x tab => X.mg x = some (.ref (C.ca c)) ∧ ∀ p ∈ tab, PySem.W.exmOne X.K (.ref (C.ca p.1)) (.ref (C.ca c)) = some p.2
def AllNd (C : Gl0) (X : Cx) : List Nd → Prop
  | [] => True
  | n :: ns => NdOk C X n ∧ AllNd C X ns
theorem AllNd.app {C : Gl0} {X : Cx} : ∀ {a b : List Nd}, AllNd C X (a ++ b) → AllNd C X a ∧ AllNd C X b
  | [], _, h => ⟨trivial, h⟩
  | _ :: a, _, h => ⟨⟨h.1, (AllNd.app h.2).1⟩, (AllNd.app h.2).2⟩
mutual
def nE : E → List Nd
  | .cp a => nE a
  | .tf a => nE a
  | .gl x d => [.gl x d]
  | .op (.isi t x tab) es => .isi t x tab :: nEs es
  | .op _ es => nEs es
  | .mth _ a es => nE a ++ nEs es
  | .band es => nEs es
  | .bor es => nEs es
  | .ite c a b => nE c ++ (nE a ++ nE b)
  | .chain _ _ a b c => nE a ++ (nE b ++ nE c)
  | .call f es => .fe f :: nEs es
  | .comp _ _ _ es co elt => nEs es ++ (nEs co ++ nE elt)
  | _ => []
def nEs : List E → List Nd
  | [] => []
  | e :: es => nE e ++ nEs es
end
def nI (it : It) : List Nd := nEs it.es
mutual
def nS : S → List Nd
  | .asg _ e => nE e
  | .par _ _ e f => nEs [e, f]
  | .asgT _ e => nE e
  | .app _ e => nE e
  | .aug _ _ e => nE e
  | .ex e => nE e
  | .ret e => nE e
  | .ift c x y => nE c ++ (nSs x ++ nSs y)
  | .for_ _ it b => nI it ++ nSs b
  | .whl _ c b => nE c ++ nSs b
  | .raise0 c x => [.exc c x]
  | .try1 b c x tab _ _ => .tr c x tab :: nSs b
  | _ => []
def nSs : List S → List Nd
  | [] => []
  | x :: xs => nS x ++ nSs xs
end
/-! ### operands' terms -/
section
variable {X : Cx} {C : Gl0} {W : WX}
def PEL (X : Cx) (C : Gl0) (W : WX) : List E → List Expr → Prop
  | [], as => as = []
  | e :: es, as => ∃ a ar, as = a :: ar ∧ notStar a = true ∧ (isPl e = true → effs es = false) ∧ PE X a (tE C W e) ∧ PEL X C W es ar
theorem star_ok {a : Expr} {as : List Expr} {env : Env} (h : notStar a = true) : starEach (a :: as) env = (false, eval a env) :: starEach as env := by
  cases a <;> first | rfl | (simp [notStar] at h)
theorem stars_ok {as : List Expr} : ∀ {es : List E}, PEL X C W es as → ∀ (pos : Pos) (env : Env), (backTo pos (starEach as env)).any (·.1) = false := by
  induction as with
  | nil => intro es h pos env; rfl
  | cons a as ih =>
    intro es h pos env
    cases es with
    | nil => cases h
    | cons e es =>
      obtain ⟨_, _, q, n, _, _, h⟩ := h
      obtain ⟨rfl, rfl⟩ := List.cons.inj q
      rw [star_ok n]
      show (false || (backTo pos (starEach _ env)).any (·.1)) = false
      rw [ih h pos env]; rfl
theorem pa_of : ∀ {es : List E} {as : List Expr}, PEL X C W es as → PA X as (tL C W es)
  | [], _, h => by
    obtain rfl : _ = [] := h
    exact ⟨fun pos pins s σ H Q I z => pa_nil.run pos pins s σ H Q I z.nil⟩
  | e :: es, _, h => by
    obtain ⟨a, ar, rfl, n, p, h1, h2⟩ := h
    have q := pa_cons h1 (pa_of h2) (star_ok n)
    exact ⟨fun pos pins s σ H Q I z => q.run pos pins s σ H Q I (tL.cons p z)⟩
theorem t_one {e : E} {σ : L2.St} {H : Hp} {Q : V → Hp → Prop} (h : tL C W [e] σ H fun vs H1 => ∃ x, vs = [x] ∧ Q x H1) : tE C W e σ H Q := by
  refine (tL.cons (fun _ => rfl) h).mono fun x H1 z => ?_
  obtain ⟨y, e, q⟩ := z.nil
  obtain ⟨rfl, _⟩ := List.cons.inj e
  exact q
theorem t_two {e f : E} {σ : L2.St} {H : Hp} {Q : V → V → Hp → Prop} (p : isPl e = true → effs [f] = false) (h : tL C W [e, f] σ H fun vs H1 => ∃ x y, vs = [x, y] ∧ Q x y H1) : tE C W e σ H fun x H1 => tE C W f σ H1 fun y H2 => Q x y H2 := by
  refine (tL.cons p h).mono fun x H1 z => ?_
  refine (tL.cons (fun _ => rfl) z).mono fun y H2 z => ?_
  obtain ⟨x', y', e, q⟩ := z.nil
  simp only [List.cons.injEq, and_true] at e
  obtain ⟨e1, e2⟩ := e
  rw [e1, e2]
  exact q
theorem one_of {es : List E} {a : Expr} (h : PEL X C W es [a]) : ∃ e, es = [e] ∧ PE X a (tE C W e) := by
  cases es with
  | nil => cases h
  | cons e es =>
    obtain ⟨_, _, q, n, _, p, h⟩ := h
    obtain ⟨rfl, rfl⟩ := List.cons.inj q
    cases es with
    | nil => exact ⟨e, rfl, p⟩
    | cons _ _ => obtain ⟨_, _, q, _⟩ := h; cases q
theorem two_of {es : List E} {a b : Expr} (h : PEL X C W es [a, b]) : ∃ e f, es = [e, f] ∧ PE X a (tE C W e) ∧ PE X b (tE C W f) ∧ (isPl e = true → effs [f] = false) := by
  cases es with
  | nil => cases h
  | cons e es =>
    obtain ⟨_, _, q, n, k, p, h⟩ := h
    obtain ⟨rfl, rfl⟩ := List.cons.inj q
    obtain ⟨f, rfl, p2⟩ := one_of h
    exact ⟨e, f, rfl, p, p2, k⟩
end
end TT
namespace TT
open PySem PySem.Spec PyProof.Rows L2
section
variable {X : Cx} {C : Gl0} {W : WX} {Γ : Gam}
theorem CxOk.gl (k : CxOk C Γ X) {x : Str} (h : glB Γ.sc x = true) : Gl X x ∧ (x == ("__debug__" : Str)) = false := by
  unfold glB dbgB at h
  simp only [Bool.and_eq_true, Bool.not_eq_true'] at h
  refine ⟨?_, h.2.1⟩
  unfold Gl Env.kindOf
  rw [k.sc]
  have h1 := h.1
  split at h1
  · assumption
  · cases h1
theorem CxOk.bt (k : CxOk C Γ X) {n x : Str} (h : btB Γ n x = true) : x = n ∧ Gl X x ∧ (x == ("__debug__" : Str)) = false ∧ X.mg x = none := by
  unfold btB at h
  simp only [Bool.and_eq_true, decide_eq_true_eq] at h
  obtain ⟨⟨rfl, h2⟩, h3⟩ := h
  exact ⟨rfl, (k.gl h2).1, (k.gl h2).2, k.bn _ h3⟩
theorem btCall_some {n : Str} {e : Expr} {as : List Expr} (h : btCall Γ n e = some as) : ∃ x p pos, e = .Call (.Name x p) as [] pos ∧ btB Γ n x = true := by
  unfold btCall at h
  split at h
  · split at h <;> cases h
    rename_i hs
    exact ⟨_, _, _, rfl, hs⟩
  · cases h
theorem binB_some {o : Operator} {e : Expr} {as : List Expr} (h : binB o e = some as) : ∃ a b pos, e = .BinOp a o b pos ∧ as = [a, b] := by
  unfold binB at h
  split at h
  · split at h <;> cases h
    rename_i hs
    have hs := eq_of_beq hs
    subst hs
    exact ⟨_, _, _, rfl, rfl⟩
  · cases h
theorem cmpB_some {o : CmpOp} {e : Expr} {as : List Expr} (h : cmpB o e = some as) : ∃ a b pos, e = .Compare a [o] [b] pos ∧ as = [a, b] ∧ notSet b = true := by
  unfold cmpB at h
  split at h
  · split at h <;> cases h
    rename_i hs
    rw [Bool.and_eq_true] at hs
    have h1 := eq_of_beq hs.1
    subst h1
    exact ⟨_, _, _, rfl, rfl, hs.2⟩
  · cases h
theorem nonB_some {o : CmpOp} {e : Expr} {as : List Expr} (h : nonB o e = some as) : ∃ a j p pos, e = .Compare a [o] [.Constant .none j p] pos ∧ as = [a] := by
  unfold nonB at h
  split at h
  · split at h <;> cases h
    rename_i hs
    have h1 := eq_of_beq hs
    subst h1
    exact ⟨_, _, _, _, rfl, rfl⟩
  · cases h
theorem noset {b : Expr} {op : CmpOp} (h : notSet b = true) : behindInMarks op b = false := by
  cases b <;> first | rfl | (simp [notSet] at h)
theorem bin_ok {es : List E} {as : List Expr} {o : Op} {ao : Operator} {e : Expr} {r : R2} (hs : binB ao e = some as) (hp : PEL X C W es as) (ho : OpR X (binaryOp ao) r)
    (hl : isLook o = false) (hv : ∀ {G B H F U ds vs d Q} {e f : E}, Opd C G B H F [e, f] ds vs U → opD o ds = some d → Res C G B H F false U d Q → Two vs r H Q) : PE X e (tE C W (.op o es)) := by
  obtain ⟨a, b, pos, rfl, rfl⟩ := binB_some hs
  obtain ⟨e, f, rfl, p1, p2, k⟩ := two_of hp
  refine pe_imp (pe_op ho p1 p2) fun σ H Q h => ?_
  refine t_two k (op_step h fun ds vs G1 B1 H1 F1 U d P e1 q => ?_)
  rw [show isPl (.op o [e, f]) = false from by simp [isPl, hl]] at q
  exact hv P e1 q
theorem cmp_ok {es : List E} {as : List Expr} {o : Op} {ao : CmpOp} {e : Expr} {r : R2} (hs : cmpB ao e = some as) (hp : PEL X C W es as) (ho : OpR X (compareOp ao) r)
    (hl : isLook o = false) (hv : ∀ {G B H F U ds vs d Q} {e f : E}, Opd C G B H F [e, f] ds vs U → opD o ds = some d → Res C G B H F false U d Q → Two vs r H Q) : PE X e (tE C W (.op o es)) := by
  obtain ⟨a, b, pos, rfl, rfl, ns⟩ := cmpB_some hs
  obtain ⟨e, f, rfl, p1, p2, k⟩ := two_of hp
  refine pe_imp (pe_cmpR ho p1 p2 (noset ns)) fun σ H Q h => ?_
  refine t_two k (op_step h fun ds vs G1 B1 H1 F1 U d P e1 q => ?_)
  rw [show isPl (.op o [e, f]) = false from by simp [isPl, hl]] at q
  exact hv P e1 q
theorem non_ok {es : List E} {as : List Expr} {o : Op} {ao : CmpOp} {e : Expr} {r : R2} (hs : nonB ao e = some as) (hp : PEL X C W es as) (ho : OpR X (compareOp ao) r) (hm : ao ≠ .In ∧ ao ≠ .NotIn)
    (hl : isLook o = false) (hv : ∀ {G B H F U ds vs d Q} {e : E}, Opd C G B H F [e] ds vs U → opD o ds = some d → Res C G B H F false U d Q → One vs (fun x H Q => r x .non H Q) H Q) : PE X e (tE C W (.op o es)) := by
  obtain ⟨a, j, p, pos, rfl, rfl⟩ := nonB_some hs
  obtain ⟨e, rfl, p1⟩ := one_of hp
  refine pe_imp (pe_cmpR ho p1 pe_non (nomark _ hm.1 hm.2)) fun σ H Q h => ?_
  refine t_one (op_step h fun ds vs G1 B1 H1 F1 U d P e1 q => ?_)
  rw [show isPl (.op o [e]) = false from by simp [isPl, hl]] at q
  exact hv P e1 q
/-- a call of a built-in function, of a built-in class -/
theorem fn_ok {n : Str} {es : List E} {a0 : Expr} {as : List Expr} {o : Op} {e : Expr} {bid : String} {r : List V → Hp → VK → Prop} (k : CxOk C Γ X) (hs : btCall Γ n e = some (a0 :: as)) (hp : PEL X C W es (a0 :: as)) (ho : CallR X (.builtin bid) r)
    (hv : bootBuiltins n = some (.builtin bid)) (hn : n ≠ "__name__") (hl : isLook o = false) (hr : ∀ {G B H F U ds vs d Q}, Opd C G B H F es ds vs U → opD o ds = some d → Res C G B H F false U d Q → r vs H Q) : PE X e (tE C W (.op o es)) := by
  obtain ⟨x, p, pos, rfl, hb⟩ := btCall_some hs
  obtain ⟨rfl, hg, hd, hm⟩ := k.bt hb
  obtain ⟨e, es', ns⟩ : ∃ e es', es = e :: es' := by
    cases es with
    | nil => cases hp
    | cons e es => exact ⟨e, es, rfl⟩
  subst ns
  obtain ⟨_, _, q, n1, _, _, h2⟩ := id hp
  obtain ⟨rfl, rfl⟩ := List.cons.inj q
  refine pe_imp (pe_callB ho hg hm hv (pa_of hp) hn hd (star_ok n1) (stars_ok h2 _ _)) fun σ H Q h => ?_
  refine (op_step h fun ds vs G1 B1 H1 F1 U d P e1 q => ?_)
  rw [show isPl (.op o (e :: es')) = false from by simp [isPl, hl]] at q
  exact hr P e1 q
theorem ty_ok {n : Str} {es : List E} {a0 : Expr} {as : List Expr} {o : Op} {e : Expr} {bid : String} {r : List V → Hp → VK → Prop} (k : CxOk C Γ X) (hs : btCall Γ n e = some (a0 :: as)) (hp : PEL X C W es (a0 :: as)) (ho : CallR X (.type bid) r)
    (hv : bootBuiltins n = some (.type bid)) (hn : n ≠ "__name__") (hl : isLook o = false) (hr : ∀ {G B H F U ds vs d Q}, Opd C G B H F es ds vs U → opD o ds = some d → Res C G B H F false U d Q → r vs H Q) : PE X e (tE C W (.op o es)) := by
  obtain ⟨x, p, pos, rfl, hb⟩ := btCall_some hs
  obtain ⟨rfl, hg, hd, hm⟩ := k.bt hb
  obtain ⟨e, es', ns⟩ : ∃ e es', es = e :: es' := by
    cases es with
    | nil => cases hp
    | cons e es => exact ⟨e, es, rfl⟩
  subst ns
  obtain ⟨_, _, q, n1, _, _, h2⟩ := id hp
  obtain ⟨rfl, rfl⟩ := List.cons.inj q
  refine pe_imp (pe_callTy ho hg hm hv (pa_of hp) hn hd (star_ok n1) (stars_ok h2 _ _)) fun σ H Q h => ?_
  refine (op_step h fun ds vs G1 B1 H1 F1 U d P e1 q => ?_)
  rw [show isPl (.op o (e :: es')) = false from by simp [isPl, hl]] at q
  exact hr P e1 q
/-! ### a[b], len, displays, isinstance -/
theorem ix_dict (hu : X.A.units + 1 < cLine) : IxR X (fun x y H Q => ∃ a v, x = .ref a ∧ DGet H a y (some v) ∧ Q v H) := by
  intro value slice pins s σ H x y v u Q I rx ry h hs
  obtain ⟨a, w, rfl, g, q⟩ := h
  obtain rfl : v = Value.ref a := rx
  have hT := dict_typeIs I g
  unfold subscriptTail
  refine wpAny_bind ?_
  rw [getitemInPython_of_ne hT.not_modules]
  refine wpAny_bind (wpAny_specialOf hT PySem.F.slot_dict_getitem.lookup ?_)
  have fin : wpAny (model X.prog X.w) X.A (subscripted slice false (.ref a) u) (fun r s₃ => wpAny (model X.prog X.w) X.A (letTemporaryGo value (.ref a) r >>= fun _ => pure r) (EP X pins σ Q) X.xe s₃) X.xe s := by
    rw [hs]
    exact wpAny_operating (wpAny_mono (d_getItem hu I g ry (Q := fun r s3 => EP X pins σ Q r s3) fun w' s3 I3 rw' => ⟨w, H, I3, rw', q⟩) (fun r s₃ h₃ => wpAny_bind (wpAny_letTemporaryGo (wpAny_pure h₃))) fun _ _ x => x)
  first
    | exact wpAny_pure (wpAny_bind fin)
    | exact wpAny_bind (wpAny_pure (wpAny_bind fin))
    | exact wpAny_bind fin
theorem plainIx {b : Expr} (h : notSlice b = true) : PlainIx b := by
  intro o i
  cases b <;> first | rfl | (simp [notSlice] at h)
theorem ix_ok {es : List E} {as : List Expr} {e : Expr} (k : CxOk C Γ X) (hs : shape Γ .ix e = some as) (hp : PEL X C W es as) : PE X e (tE C W (.op .ix es)) := by
  unfold shape at hs
  simp only at hs
  split at hs
  · split at hs <;> cases hs
    rename_i ns
    obtain ⟨e, f, rfl, p1, p2, k2⟩ := two_of hp
    have hu : X.A.units + 1 < cLine := hu_of k.room
    refine pe_imp (pe_ix (ix_seq.or (ix_dict hu)) p1 p2 (plainIx ns)) fun σ H Q h => ?_
    refine t_two k2 (op_step h fun ds vs G1 B1 H1 F1 U d P e1 q => ?_)
    rw [show isPl (.op .ix [e, f]) = isPl e from by simp [isPl, isPl0, isLook]] at q
    rcases v_ix P e1 q with ⟨x, y, rfl, z⟩ | ⟨x, y, a, v, rfl, z⟩
    · rw [k.K]; exact ⟨x, y, rfl, .inl z⟩
    · exact ⟨x, y, rfl, .inr ⟨a, v, z⟩⟩
  · cases hs
theorem call_lenR : CallR X (.builtin "len") (fun xs H Q => ∃ a kvs, xs = [.ref a] ∧ Rd H a (.dK kvs) ∧ Q (.int kvs.length) H) := by
  intro pins s σ H xs us Q I r h
  obtain ⟨a, kvs, rfl, e, q⟩ := h
  obtain ⟨u, rfl, rx⟩ := vals1 r
  cases (show u = Value.ref a from rx)
  exact d_len I e fun t s' I' => ⟨.int kvs.length, H, I', ⟨_, rfl⟩, q⟩
theorem rIsi_own {x : D} {v : V} {fd : List Addr} {n : String} {G B H : Hp} (gb : Sb G B) (bh : Sb B H) (h : tyName x = some n) (o : Own C G B H x v fd) : TyX C.K H v (.type n) := by
  cases x <;> simp [tyName] at h <;> subst h
  · obtain ⟨rfl, _⟩ := o; exact .base .non
  · obtain ⟨rfl, _⟩ := o; exact .base (.bl _)
  · obtain ⟨rfl, _⟩ := o; exact .base (.int _)
  · obtain ⟨rfl, _⟩ := o; exact .base (.str _)
  · obtain ⟨a, ws, F', rfl, ea, _⟩ := o.tupAt gb bh
    rcases ea with (ea | ⟨ob, ea⟩) | ⟨ob, its, n, e1, e2, _⟩
    · exact .base (.tup ea)
    · exact .fTuple ea
    · exact .kTuple e1 e2
  · obtain ⟨a, ws, F', rfl, ea, _⟩ := o.lstAt gb bh
    exact .base (.lst ea)
  · obtain ⟨a, ws, F', rfl, h1, _⟩ := o
    rcases h1.viewD gb bh with ea | ⟨ob, ea⟩
    · exact .base (.dK ea)
    · exact .fDict ea
theorem call_isExn : CallR X (.builtin "isinstance") (fun xs H Q => ∃ (D a : Addr) (c : V) (cv : Value) (b : Bool), xs = [.ref a, c] ∧ H a = some (exH (.ref D) none a) ∧ ExcC X.K D ∧ ClsV c cv ∧ PySem.W.kitOne X.K (.ref D) cv = some b ∧ Q (.bl b) H) := by
  intro pins s σ H xs us Q I r h
  obtain ⟨D, a, c, cv, b, rfl, ha, C, k, e, q⟩ := h
  obtain ⟨u1, u2, rfl, r1, r2⟩ := vals2 r
  have e2 := k.eq r2
  subst e2
  cases (show u1 = Value.ref a from r1)
  obtain ⟨⟨oe, vs, hget, hz, hv⟩, _⟩ := (show ObjOk X.prog X.w H s.heap a (exH (.ref D) none a) from I.hok a _ ha)
  have J : PySem.W.InstAt s.heap a oe D none := by
    obtain ⟨oc, od, oda, osl⟩ := oe
    obtain ⟨h1, h2⟩ := hz
    dsimp only at h1 h2 hv
    subst h1 h2 hv
    exact ⟨hget, rfl, rfl, trivial⟩
  exact PySem.W.kia_one (PySem.W.handS_kitx_exc C.hg C.hk C.hs C.hd C.ha C.hn C.ht C.hm) I.kIn J e (fun z => nomatch z) fun tk => ⟨.bl b, H, I.kept (t' := tk) fun _ _ z => z, rfl, q⟩
theorem lookup_mem {α : Type} [BEq α] [LawfulBEq α] {β : Type} : ∀ {l : List (α × β)} {k : α} {v : β}, l.lookup k = some v → (k, v) ∈ l
  | [], _, _, h => by simp at h
  | (k', v') :: l, k, v, h => by
    rw [List.lookup_cons] at h
    split at h
    · rename_i e
      have e := eq_of_beq e
      cases h
      subst e
      exact List.mem_cons_self
    · exact List.mem_cons_of_mem _ (lookup_mem h)
theorem boot_ty {n : String} (h : n ∈ ["int", "bool", "str", "tuple", "list", "dict", "ValueError"]) : bootBuiltins (Str.ofString n) = some (.type n) ∧ Str.ofString n ≠ "__name__" := by
  simp only [List.mem_cons, List.not_mem_nil, or_false] at h
  rcases h with rfl | rfl | rfl | rfl | rfl | rfl | rfl <;> exact ⟨by decide +kernel, by decide +kernel⟩
theorem tyName_mem {x : D} {n : String} (h : tyName x = some n) : n ∈ ["NoneType", "int", "bool", "str", "tuple", "list", "dict"] := by
  cases x <;> simp [tyName] at h <;> subst h <;> simp
theorem isi_ok {es : List E} {as : List Expr} {e : Expr} {t : Ty} {x : Str} {tab : List (Nat × Bool)} (k : CxOk C Γ X) (hn : NdOk C X (.isi t x tab)) (hs : shape Γ (.isi t x tab) e = some as) (hp : PEL X C W es as) : PE X e (tE C W (.op (.isi t x tab) es)) := by
  unfold shape at hs
  simp only at hs
  split at hs
  · rename_i a b hc
    split at hs <;> cases hs
    rename_i ht
    obtain ⟨f, p, pos, rfl, hb⟩ := btCall_some hc
    obtain ⟨rfl, hg, hd, hm⟩ := k.bt hb
    obtain ⟨h1, h2⟩ := hn
    -- the type's name
    obtain ⟨cv, cw, nb, hcv, hpe⟩ : ∃ (cv : V) (cw : Value), notStar b = true ∧ (ClsV cv cw ∧ cw = tyVal C t) ∧ PE X b (tC cv) := by
      unfold tyB at ht
      split at ht
      · rename_i y py
        simp only [Bool.and_eq_true, decide_eq_true_eq] at ht
        obtain ⟨⟨rfl, hgy⟩, ht⟩ := ht
        obtain ⟨g1, g2⟩ := k.gl hgy
        cases t with
        | b n =>
          simp only [Bool.and_eq_true, decide_eq_true_eq] at ht
          obtain ⟨⟨hy, hy2⟩, hy3⟩ := ht
          subst hy2
          exact ⟨.ty n, .type n, rfl, ⟨.ty n, rfl⟩, pe_bltn g1 (k.bn _ hy) (boot_ty hy3).1 rfl (boot_ty hy3).2 g2⟩
        | c m => exact ⟨.ref (C.ca m), .ref (C.ca m), rfl, ⟨.own _, rfl⟩, pe_glob g1 (h1 m rfl).1 rfl g2⟩
      · cases ht
    obtain ⟨hcl, rfl⟩ := hcv
    obtain ⟨e, es', ns⟩ : ∃ e es', es = e :: es' := by
      cases es with
      | nil => cases hp
      | cons e es => exact ⟨e, es, rfl⟩
    obtain ⟨_, _, q, n1, _, _, _⟩ := ns ▸ hp
    obtain ⟨rfl, rfl⟩ := List.cons.inj q
    obtain ⟨e, rfl, p1⟩ := one_of hp
    refine pe_imp (pe_callB (call_isi.or call_isExn) hg hm PyProof.Rows.boot_isinstance (pa_cons p1 (pa_cons hpe pa_nil (star_ok nb)) (star_ok n1)) (by decide) hd (star_ok n1) (by rw [star_ok nb]; rfl)) fun σ H Q h => ?_
    refine t_one (op_step h fun ds vs G1 B1 H1 F1 U d P e1 q => ?_)
    rw [show isPl (.op (.isi t x tab) [e]) = false from rfl] at q
    obtain ⟨d1, v1, fd, rfl, rfl, o1, _, _⟩ := P.one
    refine ⟨v1, rfl, ?_⟩
    have e1 : (isiD t tab d1).map D.bl = some d := e1
    rw [Option.map_eq_some_iff] at e1
    obtain ⟨r, e2, rfl⟩ := e1
    unfold isiD at e2
    split at e2
    · rename_i c
      have hm := lookup_mem e2
      obtain ⟨z1, z2⟩ := h2 _ hm
      obtain ⟨a, ws, rfl, rfl, _, _, _, hh⟩ := o1
      rcases hh with ⟨_, hh⟩ | ⟨ne, _⟩
      · refine .inr ⟨C.ca c, a, cv, _, r, rfl, (P.gb.trans P.bh).plain hh (fun z => z), z2, hcl, z1, q.now P ⟨rfl, rfl⟩⟩
      · exact absurd rfl ne
    · cases hty : tyName d1 with
      | none => rw [hty] at e2; simp at e2
      | some n =>
        rw [hty] at e2
        have tyx := rIsi_own P.gb P.bh hty o1
        cases t with
        | b m => exact .inl ⟨v1, cv, .type n, .type m, r, rfl, hcl, by rw [k.K]; exact tyx, kit_ty e2, q.now P ⟨rfl, rfl⟩⟩
        | c m =>
          cases e2
          exact .inl ⟨v1, cv, .type n, .ref (C.ca m), false, rfl, hcl, by rw [k.K]; exact tyx, (h1 m rfl).2 n (tyName_mem hty), q.now P ⟨rfl, rfl⟩⟩
  · cases hs
end
end TT
namespace TT
open PySem PySem.Spec PyProof.Rows L2
/-! ### data that are not borrowed do not hang on B -/
section
variable {C : Gl0} {G B H B' H' : Hp}
mutual
theorem Own.reB : ∀ {d : D} {v : V} {F : List Addr}, noBor d = true → (∀ a ∈ F, B' a = none ∧ H' a = H a) → Own C G B H d v F → Own C G B' H' d v F
  | .dead, _, _, _, _, h => h
  | .non, _, _, _, _, h => h
  | .bl _, _, _, _, _, h => h
  | .int _, _, _, _, _, h => h
  | .str _, _, _, _, _, h => h
  | .fn _, _, _, _, _, h => h
  | .scr _, _, _, _, _, h => h
  | .tup fl xs, v, F, n, k, h => by
    obtain ⟨a, vs, F', rfl, h1, h2, rfl, h3⟩ := h
    simp only [noBor, Bool.and_eq_true, bne_iff_ne] at n
    refine ⟨a, vs, F', rfl, ?_, Owns.reB n.2 (fun c hc => k c (mem_fcons.2 (.inr hc))) h2, rfl, h3⟩
    cases fl with
    | shr => exact h1
    | bor => exact absurd rfl n.1
    | own => exact ⟨(k a (mem_fcons.2 (.inl ⟨rfl, rfl⟩))).2.trans h1.1, (k a (mem_fcons.2 (.inl ⟨rfl, rfl⟩))).1⟩
  | .lst fl xs, v, F, n, k, h => by
    obtain ⟨a, vs, F', rfl, h1, h2, rfl, h3⟩ := h
    simp only [noBor, Bool.and_eq_true, bne_iff_ne] at n
    refine ⟨a, vs, F', rfl, ?_, Owns.reB n.2 (fun c hc => k c (mem_fcons.2 (.inr hc))) h2, rfl, h3⟩
    cases fl with
    | shr => exact h1
    | bor => exact absurd rfl n.1
    | own => exact ⟨(k a (mem_fcons.2 (.inl ⟨rfl, rfl⟩))).2.trans h1.1, (k a (mem_fcons.2 (.inl ⟨rfl, rfl⟩))).1⟩
  | .dk fl ks xs, v, F, n, k, h => by
    obtain ⟨a, vs, F', rfl, h1, h2, rfl, h3⟩ := h
    simp only [noBor, Bool.and_eq_true, bne_iff_ne] at n
    refine ⟨a, vs, F', rfl, ?_, Owns.reB n.2 (fun c hc => k c (mem_fcons.2 (.inr hc))) h2, rfl, h3⟩
    cases fl with
    | shr => exact h1
    | bor => exact absurd rfl n.1
    | own => exact ⟨(k a (mem_fcons.2 (.inl ⟨rfl, rfl⟩))).2.trans h1.1, (k a (mem_fcons.2 (.inl ⟨rfl, rfl⟩))).1⟩
  | .dt fl ks xs, v, F, n, k, h => by
    obtain ⟨a, vs, F', rfl, h1, h2, rfl, h3⟩ := h
    simp only [noBor, Bool.and_eq_true, bne_iff_ne] at n
    refine ⟨a, vs, F', rfl, ?_, Owns.reB n.2 (fun c hc => k c (mem_fcons.2 (.inr hc))) h2, rfl, h3⟩
    cases fl with
    | shr => exact h1
    | bor => exact absurd rfl n.1
    | own => exact ⟨(k a (mem_fcons.2 (.inl ⟨rfl, rfl⟩))).2.trans h1.1, (k a (mem_fcons.2 (.inl ⟨rfl, rfl⟩))).1⟩
  | .ins fl c fs xs, v, F, n, k, h => by
    obtain ⟨a, dx, vs, F', rfl, h1, h2, rfl, h3⟩ := h
    simp only [noBor, Bool.and_eq_true, bne_iff_ne] at n
    refine ⟨a, dx, vs, F', rfl, ?_, Owns.reB n.2 (fun c hc => k c (mem_fcons.2 (.inr hc))) h2, rfl, h3⟩
    cases fl with
    | shr => exact h1
    | bor => exact absurd rfl n.1
    | own => exact ⟨(k a (mem_fcons.2 (.inl ⟨rfl, rfl⟩))).2.trans h1.1, (k a (mem_fcons.2 (.inl ⟨rfl, rfl⟩))).1⟩
  | .exn c fs xs, v, F, n, k, h => by
    obtain ⟨a, vs, rfl, rfl, h1, h2, h3⟩ := h
    simp only [noBor] at n
    exact ⟨a, vs, rfl, rfl, h1, Owns.reB n (fun c hc => by cases hc) h2, h3⟩
theorem Owns.reB : ∀ {xs : List D} {vs : List V} {F : List Addr}, noBors xs = true → (∀ a ∈ F, B' a = none ∧ H' a = H a) → Owns C G B H xs vs F → Owns C G B' H' xs vs F
  | [], _, _, _, _, h => h
  | x :: xs, _, _, n, k, h => by
    obtain ⟨v, vr, F1, F2, rfl, rfl, h1, h2⟩ := h
    simp only [noBors, Bool.and_eq_true] at n
    exact ⟨v, vr, F1, F2, rfl, rfl, Own.reB n.1 (fun a ha => k a (List.mem_append_left _ ha)) h1, Owns.reB n.2 (fun a ha => k a (List.mem_append_right _ ha)) h2⟩
end
/-- B over H -/
def ovl (B H : Hp) : Hp := fun a => match B a with
  | some o => some o
  | none => H a
theorem ovl_some {a : Addr} {o : HO} (h : B a = some o) : ovl B H a = some o := by unfold ovl; rw [h]
theorem ovl_none {a : Addr} (h : B a = none) : ovl B H a = H a := by unfold ovl; rw [h]
theorem ovl_sb (bh : Sb B H) : Sb (ovl B H) H := fun a o h => by
  cases e : B a with
  | some u => rw [ovl_some e] at h; cases h; exact bh a _ e
  | none => rw [ovl_none e] at h; exact .inl h
theorem sb_ovl (gb : Sb G B) : Sb G (ovl B H) := fun a o h => by
  rcases gb a o h with q | ⟨l, ob, q⟩
  · exact .inl (ovl_some q)
  · exact .inr ⟨l, ob, ovl_some q⟩
theorem VL.views : ∀ {F : Fp} {es : List E} {ds : List D} {vs : List V} {U : List Addr}, VL C G B H F es ds vs U → ∃ U', Owns C G B H ds vs U'
  | _, [], _, _, _, h => by obtain ⟨rfl, rfl, _⟩ := h; exact ⟨[], rfl, rfl⟩
  | _, _ :: _, _, _, _, h => by
    obtain ⟨d, dr, v, vr, fd, U', rfl, rfl, o, _, h, _⟩ := h
    obtain ⟨U2, h⟩ := h.views
    exact ⟨fd ++ U2, v, vr, fd, U2, rfl, rfl, o, h⟩
theorem VL.length : ∀ {F : Fp} {es : List E} {ds : List D} {vs : List V} {U : List Addr}, VL C G B H F es ds vs U → ds.length = es.length
  | _, [], _, _, _, h => by obtain ⟨rfl, rfl, _⟩ := h; rfl
  | _, _ :: _, _, _, _, h => by
    obtain ⟨d, dr, v, vr, fd, U', rfl, rfl, o, _, h, _⟩ := h
    simp [h.length]
theorem owns_drop : ∀ {xs : List D} {vs : List V} (n : Nat), Owns C G B H xs vs [] → Owns C G B H (xs.drop n) (vs.drop n) [] := fun n h => h.dropN n
/-- a call that changes no argument, from the caller -/
theorem call_step {f : FE} {es : List E} {W : WX} {σ : L2.St} {Q : VK} {dV : List V} (hm : f.m = false) (hl : es.length ≤ f.np) (hl2 : f.np ≤ es.length + f.dfl.length) (hdl : dV.length = f.dfl.length)
    (hdo : ∀ G B H, Owns C G B H f.dfl dV []) (h : tE C W (.call f es) σ H Q) :
    tL C W es σ H fun vs H1 => spec C f (vs ++ dV.drop (f.dfl.length - (f.np - es.length))) H1 Q (WE W σ) := by
  obtain ⟨s, G, B, F, g, h⟩ := h
  refine ⟨s, G, B, F, g, ?_⟩
  have h : outE C W σ (.call f es) G B H F s ((evEs es s).bind fun ds s1 => match f.g (fillD f ds) with
    | .ok r _ => if noBor r && !isDead r then .ok r s1 else .bad
    | .exc c fs xs _ => .exc c fs xs s1
    | .bad => .bad) Q := by unfold evE at h; exact h
  cases e1 : evEs es s with
  | bad => rw [e1] at h; exact h
  | exc c fs xs s' => rw [e1] at h; exact h
  | ok ds s1 =>
    rw [e1] at h
    intro vs G1 B1 H1 F1 U p
    have hlen := p.vl.length
    obtain ⟨U', ov⟩ := p.vl.views
    have ol := Owns.lend (G' := G1) (B' := ovl B1 H1) (H' := H1) (fun _ _ z => z) (fun _ _ z => ovl_some z) (fun a ha => ovl_none (ov.fp a ha).2) ov
    have od := hdo G1 (ovl B1 H1) H1
    have vl := ov.length
    refine ⟨?_, fillD f ds, G1, ovl B1 H1, [], sb_ovl p.good.gb, ovl_sb p.good.bh, ?_, ?_⟩
    · rw [List.length_append, List.length_drop, hdl]; omega
    · unfold ArgsOk
      rw [hm, if_neg (by decide)]
      refine ⟨?_, rfl⟩
      unfold fillD
      rw [hlen]
      exact ol.app (od.dropN _)
    · have h : outE C W σ (.call f es) G B H F s (match f.g (fillD f ds) with
        | .ok r _ => if noBor r && !isDead r then .ok r s1 else .bad
        | .exc c fs xs _ => .exc c fs xs s1
        | .bad => .bad) Q := h
      cases e2 : f.g (fillD f ds) with
      | bad => rw [e2] at h; exact h
      | exc c fs xs d0 =>
        rw [e2] at h
        intro cls dd G' B' H' fs' x gb' bh' xr sf
        have x0 : Ext G1 B1 H1 (fun _ => False) G' (ovl B1 G') H' (fun _ => False) := by
          refine ⟨fun a o e _ => x.keep a o e (fun z => nomatch z), x.g, fun a o e => ovl_some e, fun a z => (x.gn a z).imp id fun z => .inr (z.elim (fun z => nomatch z) id), fun a z => ?_, fun _ z => z.elim⟩
          cases e : B1 a with
          | some o => exact .inl (by simp)
          | none =>
            rw [ovl_none e] at z
            rcases x.gn a z with q | q | q
            · exact absurd e (p.good.gb.ne q)
            · cases q
            · exact .inr (.inr q)
        have sb1 : Sb G' (ovl B1 G') := fun a o e => by
          cases e3 : B1 a with
          | none => exact .inl (by rw [ovl_none e3]; exact e)
          | some u =>
            rcases x.gn a (by rw [e]; simp) with q | q | q
            · cases e4 : G1 a with
              | none => exact absurd e4 q
              | some w =>
                have := x.g a w e4
                rw [e] at this; cases this
                exact sb_ovl p.good.gb a o e4
            · cases q
            · exact absurd q (p.good.bh.ne (by rw [e3]; simp))
        have sb2 : Sb (ovl B1 G') H' := fun a o e => by
          cases e3 : B1 a with
          | none => rw [ovl_none e3] at e; exact (gb'.trans bh') a o e
          | some u =>
            rw [ovl_some e3] at e; cases e
            rcases p.good.bh a _ e3 with q | ⟨l, ob, q⟩
            · exact .inl (x0.keep a _ q fun z => z)
            · exact .inr ⟨l, ob, x0.keep a _ q fun z => z⟩
        refine h cls dd G' (ovl B1 G') H' F1 (p.good.alloc x0 sb1 sb2) ((p.ext.trans (Alloc.ext x0)).imp (fun _ z => z) fun a z => .inl (.inl z)) xr
      | ok r d0 =>
        rw [e2] at h
        by_cases hr : (noBor r && !isDead r) = true
        · have h : outE C W σ (.call f es) G B H F s (if (noBor r && !isDead r) = true then .ok r s1 else .bad) Q := h
          rw [if_pos hr] at h
          simp only [Bool.and_eq_true, Bool.not_eq_true'] at hr
          refine ⟨hr.1, hr.2, fun v G' B' H' fr fs' x gb' bh' own nd sf => ?_⟩
          have x0 : Ext G1 B1 H1 (fun _ => False) G' (ovl B1 G') H' (fun _ => False) := by
            refine ⟨fun a o e _ => x.keep a o e (fun z => nomatch z), x.g, fun a o e => ovl_some e, fun a z => (x.gn a z).imp id fun z => .inr (z.elim (fun z => nomatch z) id), fun a z => ?_, fun _ z => z.elim⟩
            cases e : B1 a with
            | some o => exact .inl (by simp)
            | none =>
              rw [ovl_none e] at z
              rcases x.gn a z with q | q | q
              · exact absurd e (p.good.gb.ne q)
              · cases q
              · exact .inr (.inr q)
          have sb1 : Sb G' (ovl B1 G') := fun a o e => by
            cases e3 : B1 a with
            | none => exact .inl (by rw [ovl_none e3]; exact e)
            | some u =>
              rcases x.gn a (by rw [e]; simp) with q | q | q
              · cases e4 : G1 a with
                | none => exact absurd e4 q
                | some w =>
                  have := x.g a w e4
                  rw [e] at this; cases this
                  exact sb_ovl p.good.gb a o e4
              · cases q
              · exact absurd q (p.good.bh.ne (by rw [e3]; simp))
          have sb2 : Sb (ovl B1 G') H' := fun a o e => by
            cases e3 : B1 a with
            | none => rw [ovl_none e3] at e; exact (gb'.trans bh') a o e
            | some u =>
              rw [ovl_some e3] at e; cases e
              rcases p.good.bh a _ e3 with q | ⟨l, ob, q⟩
              · exact .inl (x0.keep a _ q fun z => z)
              · exact .inr ⟨l, ob, x0.keep a _ q fun z => z⟩
          -- the result's own things are new
          have fresh : ∀ a ∈ fr, H1 a = none := fun a ha => by
            rcases x.pn a (.inr ha) with q | q
            · cases q
            · exact q
          have nB : ∀ a ∈ fr, ovl B1 G' a = none := fun a ha => by
            have hb := (own.fp a ha).2
            have b1 : B1 a = none := none_of_ne fun z => p.good.bh.ne z (fresh a ha)
            rw [ovl_none b1]
            exact none_of_ne fun z => gb'.ne z hb
          refine h v G' (ovl B1 G') H' F1 fr { good := p.good.alloc x0 sb1 sb2, ext := p.ext.trans (Alloc.to x0 fun a z => ?_), own := own.reB hr.1 fun a ha => ⟨nB a ha, rfl⟩, nd := nd, pl := fun q => by simp [isPl] at q, np := fun _ a ha z => (p.good.inF z).1 (fresh a ha), pure := fun q => ?_ }
          · rcases z with z | z
            · exact .inl (.inl z)
            · exact .inr (fresh a z)
          · obtain ⟨e1, e2, k⟩ := p.pure q
            exact ⟨e1, e2, fun a o z => x0.keep a o (k a o z) fun z => z⟩
        · have h : outE C W σ (.call f es) G B H F s (if (noBor r && !isDead r) = true then .ok r s1 else .bad) Q := h
          rw [if_neg hr] at h
          exact h.elim
end
end TT
namespace TT
open PySem PySem.Spec PyProof.Rows L2
/-! ### tests -/
def outT (C : Gl0) (W : WX) (σ : L2.St) (e : E) (G B H : Hp) (F : Fp) (s : List D) (r : R D) (Q : Bool → Hp → Prop) : Prop :=
  match r with
  | .ok d s' => ∃ b, truth d = some b ∧ ∀ v G' B' H' F' fd, PostE C σ e G B H F s d s' v G' B' H' F' fd → Q b H'
  | .exc c fs xs s' => outX C W σ G B H F c fs xs s'
  | .bad => False
def tTst (C : Gl0) (W : WX) (e : E) : L2.TT := fun σ H Q => ∃ s G B F, Good C G B H F s σ ∧ outT C W σ e G B H F s (evE e s) Q
section
variable {C : Gl0} {W : WX} {σ : L2.St} {G B H : Hp} {F : Fp}
theorem emp_eq {xs : List D} {ws : List V} (h : xs.length = ws.length) : (!xs.isEmpty) = !ws.isEmpty := by
  cases xs <;> cases ws <;> simp_all
theorem truth_v {d : D} {v : V} {fd : List Addr} {b : Bool} (gb : Sb G B) (bh : Sb B H) (h : truth d = some b) (o : Own C G B H d v fd) : TruV C.K v H b := by
  unfold truth at h
  split at h
  · cases h; obtain ⟨rfl, _⟩ := o; exact rfl
  · cases h; obtain ⟨rfl, _⟩ := o; exact rfl
  · cases h; obtain ⟨rfl, _⟩ := o; exact rfl
  · split at h <;> cases h
    rename_i hs
    obtain ⟨rfl, _⟩ := o; exact ⟨hs, rfl⟩
  · cases h
    obtain ⟨a, ws, F', rfl, ea, oa, _⟩ := o.lstAt gb bh
    refine .inl ⟨ws, SqL.of ea, ?_⟩
    exact emp_eq oa.length
  · cases h
    obtain ⟨a, ws, F', rfl, ea, oa, _⟩ := o.tupAt gb bh
    refine .inr (.inl ⟨ws, ea, ?_⟩)
    exact emp_eq oa.length
  · cases h
theorem tTst.te {e : E} {Q : Bool → Hp → Prop} (h : tTst C W e σ H Q) : tE C W e σ H fun x H1 => ∃ k, TruV C.K x H1 k ∧ Q k H1 := by
  obtain ⟨s, G, B, F, g, h⟩ := h
  refine ⟨s, G, B, F, g, ?_⟩
  cases e1 : evE e s with
  | bad => rw [e1] at h; exact h
  | exc c fs xs s' => rw [e1] at h; exact h
  | ok d s' =>
    rw [e1] at h
    obtain ⟨b, hb, h⟩ := h
    exact fun v G' B' H' F' fd p => ⟨b, truth_v p.good.gb p.good.bh hb p.own, h v G' B' H' F' fd p⟩
theorem tTst.bl {e : E} {Q : Bool → Hp → Prop} (hb : ∀ s d s', evE e s = .ok d s' → ∃ b, d = .bl b) (h : tTst C W e σ H Q) : tE C W e σ H fun x H1 => ∃ k, x = .bl k ∧ Q k H1 := by
  obtain ⟨s, G, B, F, g, h⟩ := h
  refine ⟨s, G, B, F, g, ?_⟩
  cases e1 : evE e s with
  | bad => rw [e1] at h; exact h
  | exc c fs xs s' => rw [e1] at h; exact h
  | ok d s' =>
    rw [e1] at h
    obtain ⟨b, hb', h⟩ := h
    obtain ⟨b', rfl⟩ := hb s d s' e1
    cases hb'
    exact fun v G' B' H' F' fd p => ⟨b, p.own.1, h v G' B' H' F' fd p⟩
theorem tTst.mono {e : E} {Q Q' : Bool → Hp → Prop} (h : tTst C W e σ H Q) (q : ∀ v H, Q v H → Q' v H) : tTst C W e σ H Q' := by
  obtain ⟨s, G, B, F, g, h⟩ := h
  refine ⟨s, G, B, F, g, ?_⟩
  cases e1 : evE e s with
  | ok d s' =>
    rw [e1] at h
    obtain ⟨b, hb, h⟩ := h
    exact ⟨b, hb, fun v G' B' H' F' fd p => q _ _ (h v G' B' H' F' fd p)⟩
  | exc c fs xs s' => rw [e1] at h; exact h
  | bad => rw [e1] at h; exact h
/-! ### names and constants -/
theorem tE_now {e : E} {Q : VK} {d : D} {v : V} (hv : ∀ s, evE e s = .ok d s) (hp : isPl e = false) (o : ∀ G B H, Own C G B H d v []) (h : tE C W e σ H Q) : Q v H := by
  obtain ⟨s, G, B, F, g, h⟩ := h
  rw [hv] at h
  refine h v G B H F [] { good := g, ext := (Ext.refl (P := inF F)).imp (fun _ z => z) fun a z => .inl (z.elim id fun z => (nomatch z)), own := o G B H, nd := List.nodup_nil, pl := (fun q => by rw [hp] at q; cases q), np := (fun _ _ z => (nomatch z)), pure := fun _ => ⟨rfl, rfl, fun _ _ z => z⟩ }
theorem getD_some {s : List D} {i : Nat} (h : s.getD i .dead ≠ .dead) : i < s.length := by
  rw [List.getD_eq_getElem?_getD] at h
  cases e : s[i]? with
  | none => rw [e] at h; exact absurd rfl h
  | some d => exact (List.getElem?_eq_some_iff.1 e).1
theorem getD_set (s : List D) (i j : Nat) (d : D) : (s.set i d).getD j .dead = if j = i ∧ i < s.length then d else s.getD j .dead := by
  rw [List.getD_eq_getElem?_getD, List.getD_eq_getElem?_getD, List.getElem?_set]
  by_cases h : i = j
  · subst h
    by_cases hl : i < s.length
    · simp [hl]
    · simp [hl, List.getElem?_eq_none (Nat.le_of_not_lt hl)]
  · have : ¬ (j = i ∧ i < s.length) := fun z => h z.1.symm
    simp [h, this]
theorem not_dead {d : D} (h : isDead d = false) : d ≠ .dead := fun z => by subst z; simp [isDead] at h
theorem tE_nm {i : Nat} {Q : VK} (h : tE C W (.nm i) σ H Q) : tVar i σ H Q := by
  obtain ⟨s, G, B, F, g, h⟩ := h
  unfold evE at h
  split at h
  · exact h.elim
  · rename_i hd
    have hd := not_dead (by simpa using hd)
    obtain ⟨v, e, o⟩ := g.sl i hd
    refine ⟨v, e, h v G B H F (F i) { good := g, ext := (Ext.refl (P := inF F)).imp (fun _ z => z) fun a z => .inl (z.elim id fun z => ⟨i, z⟩), own := o, nd := g.nd i, pl := fun _ a ha => ⟨i, ha⟩, np := fun q => by simp [isPl] at q, pure := fun _ => ⟨rfl, rfl, fun _ _ z => z⟩ }⟩
theorem tE_mv {i : Nat} {Q : VK} (h : tE C W (.mv i) σ H Q) : tVar i σ H Q := by
  obtain ⟨s, G, B, F, g, h⟩ := h
  unfold evE at h
  split at h
  · exact h.elim
  · rename_i hd
    have hd := not_dead (by simpa using hd)
    obtain ⟨v, e, o⟩ := g.sl i hd
    have hl := getD_some hd
    have hin : ∀ a, inF (fun j => if j = i then [] else F j) a → inF F a := fun a ⟨j, z⟩ => by
      by_cases q : j = i
      · simp [q] at z
      · simp [q] at z; exact ⟨j, z⟩
    refine ⟨v, e, h v G B H (fun j => if j = i then [] else F j) (F i) { good := ⟨g.gb, g.bh, by rw [List.length_set]; exact g.len, fun j hj => ?_, fun j hj => ?_, fun j => ?_, fun j k a h1 h2 => ?_⟩, ext := (Ext.refl (P := inF F)).imp (fun _ z => z) fun a z => .inl (z.elim (hin a) fun z => ⟨i, z⟩), own := o, nd := g.nd i, pl := fun q => by simp [isPl] at q, np := fun _ a ha z => ?_, pure := fun q => by simp [eff] at q }⟩
    · rw [getD_set] at hj ⊢
      by_cases q : j = i
      · rw [if_pos ⟨q, hl⟩] at hj; exact absurd rfl hj
      · have q' : ¬ (j = i ∧ i < s.length) := fun z => q z.1
        rw [if_neg q'] at hj ⊢
        rw [if_neg q]; exact g.sl j hj
    · by_cases q : j = i
      · exact if_pos q
      · rw [getD_set, if_neg fun z => q z.1] at hj
        show (if j = i then [] else F j) = []
        rw [if_neg q]; exact g.nf j hj
    · by_cases q : j = i
      · show (if j = i then [] else F j).Nodup
        rw [if_pos q]; exact List.nodup_nil
      · show (if j = i then [] else F j).Nodup
        rw [if_neg q]; exact g.nd j
    · by_cases q : j = i <;> by_cases q2 : k = i <;> simp [q, q2] at h1 h2
      exact g.dj j k a h1 h2
    · obtain ⟨j, z⟩ := z
      by_cases q : j = i
      · simp [q] at z
      · simp [q] at z
        exact q (g.dj j i a z ha)
/-- the footprint of slot i is frozen -/
def frzH (A H : Hp) (L : List Addr) : Hp := fun a => if a ∈ L then H a else A a
theorem frzH_in {A H : Hp} {L : List Addr} {a : Addr} (h : a ∈ L) : frzH A H L a = H a := if_pos h
theorem frzH_out {A H : Hp} {L : List Addr} {a : Addr} (h : a ∉ L) : frzH A H L a = A a := if_neg h
theorem tE_fz {i : Nat} {Q : VK} (h : tE C W (.fz i) σ H Q) : tVar i σ H Q := by
  obtain ⟨s, G, B, F, g, h⟩ := h
  unfold evE at h
  split at h
  · exact h.elim
  · rename_i hd
    simp only [Bool.or_eq_true, Bool.not_eq_true', not_or, Bool.not_eq_true] at hd
    have nb : noBor (s.getD i .dead) = true := by simpa using hd.2
    have hd := not_dead hd.1
    obtain ⟨v, e, o⟩ := g.sl i hd
    have hl := getD_some hd
    have nB : ∀ a ∈ F i, B a = none := fun a ha => (o.fp a ha).2
    have nG : ∀ a ∈ F i, G a = none := fun a ha => none_of_ne fun z => g.gb.ne z (nB a ha)
    have gg : ∀ b u, G b = some u → frzH G H (F i) b = some u := fun b u z => by
      rw [frzH_out fun q => by rw [nG b q] at z; cases z]; exact z
    have bb : ∀ b u, B b = some u → frzH B H (F i) b = some u := fun b u z => by
      rw [frzH_out fun q => by rw [nB b q] at z; cases z]; exact z
    have o2 : Own C (frzH G H (F i)) (frzH B H (F i)) H (frz (s.getD i .dead)) v [] := o.frz gg nb fun a ha => frzH_in ha
    have hin : ∀ a, inF (fun j => if j = i then [] else F j) a → inF F a ∧ a ∉ F i := fun a ⟨j, z⟩ => by
      by_cases q : j = i
      · simp [q] at z
      · simp [q] at z; exact ⟨⟨j, z⟩, fun w => q (g.dj j i a z w)⟩
    have x : Ext G B H (inF F) (frzH G H (F i)) (frzH B H (F i)) H (inF F) := ⟨fun _ _ z _ => z, gg, bb, fun a z => by
      by_cases q : a ∈ F i
      · exact .inr (.inl ⟨i, q⟩)
      · rw [frzH_out q] at z; exact .inl z, fun a z => by
      by_cases q : a ∈ F i
      · exact .inr (.inl ⟨i, q⟩)
      · rw [frzH_out q] at z; exact .inl z, fun _ z => .inl z⟩
    have up : ∀ {A A' : Hp}, Sb A A' → Sb (frzH A H (F i)) (frzH A' H (F i)) := fun {A A'} y a u z => by
      by_cases q : a ∈ F i
      · rw [frzH_in q] at z ⊢; exact .inl z
      · rw [frzH_out q] at z ⊢; exact y a u z
    have up2 : Sb (frzH B H (F i)) H := fun a u z => by
      by_cases q : a ∈ F i
      · rw [frzH_in q] at z; exact .inl z
      · rw [frzH_out q] at z; exact g.bh a u z
    have fd : isDead (frz (s.getD i .dead)) = isDead (s.getD i .dead) := by
      cases (s.getD i .dead) <;> rfl
    refine ⟨v, e, h v _ _ H (fun j => if j = i then [] else F j) [] { good := ⟨up g.gb, up2, by rw [List.length_set]; exact g.len, fun j hj => ?_, fun j hj => ?_, fun j => ?_, fun j k a h1 h2 => ?_⟩, ext := x.imp (fun _ z => z) fun a z => .inl (z.elim (fun z => (hin a z).1) fun z => (nomatch z)), own := o2, nd := List.nodup_nil, pl := (fun q => by simp [isPl] at q), np := (fun _ a ha => (nomatch ha)), pure := fun q => by simp [eff] at q }⟩
    · rw [getD_set] at hj ⊢
      by_cases q : j = i
      · rw [if_pos ⟨q, hl⟩, q]
        exact ⟨v, e, by show Own _ _ _ _ _ _ (if i = i then [] else F i); rw [if_pos rfl]; exact o2⟩
      · have q' : ¬ (j = i ∧ i < s.length) := fun z => q z.1
        rw [if_neg q'] at hj ⊢
        obtain ⟨w, ew, ow⟩ := g.sl j hj
        refine ⟨w, ew, ?_⟩
        show Own _ _ _ _ _ _ (if j = i then [] else F j)
        rw [if_neg q]
        exact ow.mono gg bb fun a ha => ⟨rfl, by rw [frzH_out fun w => q (g.dj j i a ha w)]; exact (ow.fp a ha).2⟩
    · by_cases q : j = i
      · exact if_pos q
      · rw [getD_set, if_neg fun z => q z.1] at hj
        show (if j = i then [] else F j) = []
        rw [if_neg q]; exact g.nf j hj
    · by_cases q : j = i
      · show (if j = i then [] else F j).Nodup
        rw [if_pos q]; exact List.nodup_nil
      · show (if j = i then [] else F j).Nodup
        rw [if_neg q]; exact g.nd j
    · by_cases q : j = i <;> by_cases q2 : k = i <;> simp [q, q2] at h1 h2
      exact g.dj j k a h1 h2
theorem tE_tf {e : E} {Q : VK} (hp : isPl e = false) (h : tE C W (.tf e) σ H Q) : tE C W e σ H Q := by
  obtain ⟨s, G, B, F, g, h⟩ := h
  refine ⟨s, G, B, F, g, ?_⟩
  have h : outE C W σ (.tf e) G B H F s ((evE e s).bind fun d s1 => if noBor d then .ok (frz d) s1 else .bad) Q := by unfold evE at h; exact h
  cases e1 : evE e s with
  | bad => rw [e1] at h; exact h
  | exc c fs xs s' => rw [e1] at h; exact h
  | ok d s1 =>
    rw [e1] at h
    intro v G1 B1 H1 F1 fd p
    have h : outE C W σ (.tf e) G B H F s (if noBor d then .ok (frz d) s1 else .bad) Q := h
    by_cases nb : noBor d = true
    · rw [if_pos nb] at h
      have np := p.np hp
      have nB : ∀ a ∈ fd, B1 a = none := fun a ha => (p.own.fp a ha).2
      have nG : ∀ a ∈ fd, G1 a = none := fun a ha => none_of_ne fun z => p.good.gb.ne z (nB a ha)
      have gg : ∀ b u, G1 b = some u → frzH G1 H1 fd b = some u := fun b u z => by
        rw [frzH_out fun q => by rw [nG b q] at z; cases z]; exact z
      have bb : ∀ b u, B1 b = some u → frzH B1 H1 fd b = some u := fun b u z => by
        rw [frzH_out fun q => by rw [nB b q] at z; cases z]; exact z
      have o2 : Own C (frzH G1 H1 fd) (frzH B1 H1 fd) H1 (frz d) v [] := p.own.frz gg nb fun a ha => frzH_in ha
      have x : Ext G1 B1 H1 (fun a => inF F1 a ∨ a ∈ fd) (frzH G1 H1 fd) (frzH B1 H1 fd) H1 (fun a => inF F1 a ∨ a ∈ ([] : List Addr)) := ⟨fun _ _ z _ => z, gg, bb, fun a z => by
        by_cases q : a ∈ fd
        · exact .inr (.inl (.inr q))
        · rw [frzH_out q] at z; exact .inl z, fun a z => by
        by_cases q : a ∈ fd
        · exact .inr (.inl (.inr q))
        · rw [frzH_out q] at z; exact .inl z, fun a z => .inl (z.elim .inl fun z => (nomatch z))⟩
      have up : ∀ {A A' : Hp}, Sb A A' → Sb (frzH A H1 fd) (frzH A' H1 fd) := fun {A A'} y a u z => by
        by_cases q : a ∈ fd
        · rw [frzH_in q] at z ⊢; exact .inl z
        · rw [frzH_out q] at z ⊢; exact y a u z
      have up2 : Sb (frzH B1 H1 fd) H1 := fun a u z => by
        by_cases q : a ∈ fd
        · rw [frzH_in q] at z; exact .inl z
        · rw [frzH_out q] at z; exact p.good.bh a u z
      refine h v _ _ H1 F1 [] { good := ⟨up p.good.gb, up2, p.good.len, fun j hj => ?_, p.good.nf, p.good.nd, p.good.dj⟩, ext := p.ext.trans x, own := o2, nd := List.nodup_nil, pl := fun q => by simp [isPl] at q, np := (fun _ _ z => (nomatch z)), pure := fun q => p.pure (by simpa [eff] using q) }
      obtain ⟨w, ew, ow⟩ := p.good.sl j hj
      exact ⟨w, ew, ow.mono gg bb fun a ha => ⟨rfl, by rw [frzH_out fun q => np a q ⟨j, ha⟩]; exact (ow.fp a ha).2⟩⟩
    · rw [if_neg nb] at h; exact h.elim
theorem tE_cp {e : E} {Q : VK} (h : tE C W (.cp e) σ H Q) : tE C W e σ H Q := by
  obtain ⟨s, G, B, F, g, h⟩ := h
  refine ⟨s, G, B, F, g, ?_⟩
  have h : outE C W σ (.cp e) G B H F s ((evE e s).bind fun d s1 => if noOwn d then .ok d s1 else .bad) Q := by unfold evE at h; exact h
  cases e1 : evE e s with
  | bad => rw [e1] at h; exact h
  | exc c fs xs s' => rw [e1] at h; exact h
  | ok d s1 =>
    rw [e1] at h
    intro v G1 B1 H1 F1 fd p
    have h : outE C W σ (.cp e) G B H F s (if noOwn d then .ok d s1 else .bad) Q := h
    by_cases n : noOwn d = true
    · rw [if_pos n] at h
      obtain rfl := p.own.nil n
      exact h v G1 B1 H1 F1 [] { good := p.good, ext := p.ext, own := p.own, nd := p.nd, pl := fun q => by simp [isPl] at q, np := (fun _ _ z => (nomatch z)), pure := fun q => p.pure (by simpa [eff] using q) }
    · rw [if_neg n] at h; exact h.elim
end
end TT
namespace TT
open PySem PySem.Spec PyProof.Rows L2
/-! ### in -/
section
variable {C : Gl0} {G B H : Hp} {F : Fp} {U : List Addr} {ds : List D} {vs : List V} {d : D} {Q : VK} {e f : E} {pl : Bool}
theorem flat_v {x : D} {v : V} {fd : List Addr} (h : flatD x = true) (o : Own C G B H x v fd) : flatV v = true := by
  cases x <;> simp [flatD] at h <;> (obtain ⟨rfl, _⟩ := o; rfl)
theorem flat_eq {x y : D} {v w : V} {fd fd2 : List Addr} (hx : flatD x = true) (hy : flatD y = true) (o : Own C G B H x v fd) (o2 : Own C G B H y w fd2) : eqV w v = eqv y x := by
  cases x <;> simp [flatD] at hx <;> cases y <;> simp [flatD] at hy <;> (obtain ⟨rfl, _⟩ := o; obtain ⟨rfl, _⟩ := o2; simp [eqV, eqv])
theorem flats_v : ∀ {xs : List D} {ws : List V} {U : List Addr}, xs.all flatD = true → Owns C G B H xs ws U → ws.all flatV = true
  | [], _, _, _, o => by obtain ⟨rfl, _⟩ := o; rfl
  | x :: xs, _, _, h, o => by
    obtain ⟨v, vr, F1, F2, rfl, rfl, o1, o2⟩ := o
    simp only [List.all_cons, Bool.and_eq_true] at h ⊢
    exact ⟨flat_v h.1 o1, flats_v h.2 o2⟩
theorem flats_in {x : D} {v : V} {fd : List Addr} (hx : flatD x = true) (o : Own C G B H x v fd) : ∀ {xs : List D} {ws : List V} {U : List Addr}, xs.all flatD = true → Owns C G B H xs ws U → inV v ws = xs.any fun y => eqv y x
  | [], _, _, _, o => by obtain ⟨rfl, _⟩ := o; rfl
  | y :: xs, _, _, h, o3 => by
    obtain ⟨w, vr, F1, F2, rfl, rfl, o1, o2⟩ := o3
    simp only [List.all_cons, Bool.and_eq_true] at h
    unfold inV
    rw [List.any_cons, List.any_cons, flat_eq hx h.1 o o1]
    have := flats_in hx o h.2 o2
    unfold inV at this
    rw [this]
theorem zip_any {κ : Type} [DecidableEq κ] (k : κ) : ∀ {ks : List κ} {ws : List V}, ks.length = ws.length → ((ks.zip ws).any fun p => decide (p.1 = k)) = ks.any fun q => decide (q = k)
  | [], _, _ => by simp
  | _ :: _, [], h => by simp at h
  | q :: ks, w :: ws, h => by
    simp only [List.zip_cons_cons, List.any_cons]
    rw [zip_any k (by simpa using h)]
abbrev rInD' (K : PySem.W.Frag) : R2 := fun y x H Q => rIn K false y x H Q ∨ ((∃ (c : Nat) (z : Str), y = V.str ⟨#[c]⟩ ∧ x = V.str z ∧ Q (.bl (decide (c ∈ z.cps.toList))) H) ∨ ∃ a o, x = .ref a ∧ DGet H a y o ∧ Q (.bl o.isSome) H)
abbrev rNinD' (K : PySem.W.Frag) : R2 := fun y x H Q => rIn K true y x H Q ∨ ((∃ (c : Nat) (z : Str), y = V.str ⟨#[c]⟩ ∧ x = V.str z ∧ Q (.bl (!decide (c ∈ z.cps.toList))) H) ∨ ∃ a o, x = .ref a ∧ DGet H a y o ∧ Q (.bl (!o.isSome)) H)
theorem op_inD' {X : Cx} (hu : X.A.units + 1 < cLine) : OpR X (compareOp .In) (rInD' X.K) := by
  refine op_in_seq.or (op_in_sign.or ?_)
  intro pins s σ H x y v u Q I rx ry h
  obtain ⟨a, o, rfl, g, q⟩ := h
  obtain rfl : u = Value.ref a := ry
  exact d_in hu I g rx fun s' I' => ⟨.bl o.isSome, H, I', rfl, q⟩
theorem op_ninD' {X : Cx} (hu : X.A.units + 1 < cLine) : OpR X (compareOp .NotIn) (rNinD' X.K) := by
  refine op_notIn_seq.or (op_notIn_sign.or ?_)
  intro pins s σ H x y v u Q I rx ry h
  obtain ⟨a, o, rfl, g, q⟩ := h
  obtain rfl : u = Value.ref a := ry
  exact d_notIn hu I g rx fun s' I' => ⟨.bl (!o.isSome), H, I', rfl, q⟩
theorem str_one {x : Str} (h : x.cps.size = 1) : x = ⟨#[x.cps.getD 0 0]⟩ := by
  obtain ⟨⟨l⟩⟩ := x
  match l, h with
  | [c], _ => rfl
/-- what in finds -/
theorem in_cases {x y : D} {v w : V} {fd fd2 : List Addr} {b : Bool} (gb : Sb G B) (bh : Sb B H) (h : inD x y = some b) (o : Own C G B H x v fd) (o2 : Own C G B H y w fd2) :
    (∃ p ws, w = .ref p ∧ (SqL C.K H p ws ∨ SqT C.K H p ws) ∧ flatV v = true ∧ ws.all flatV = true ∧ inV v ws = b) ∨ (∃ (c : Nat) (z : Str), v = V.str ⟨#[c]⟩ ∧ w = V.str z ∧ decide (c ∈ z.cps.toList) = b) ∨ ∃ a r, w = .ref a ∧ DGet H a v r ∧ r.isSome = b := by
  unfold inD at h
  split at h
  · split at h <;> cases h
    rename_i hs
    obtain ⟨a, ws, F', rfl, ea, oa, _⟩ := o2.lstAt gb bh
    exact .inl ⟨a, ws, rfl, .inl (SqL.of ea), flat_v hs.1 o, flats_v hs.2 oa, flats_in hs.1 o hs.2 oa⟩
  · split at h <;> cases h
    rename_i hs
    obtain ⟨a, ws, F', rfl, ea, oa, _⟩ := o2.tupAt gb bh
    exact .inl ⟨a, ws, rfl, .inr ea, flat_v hs.1 o, flats_v hs.2 oa, flats_in hs.1 o hs.2 oa⟩
  · split at h <;> cases h
    rename_i hs
    obtain ⟨rfl, _⟩ := o
    obtain ⟨rfl, _⟩ := o2
    exact .inr (.inl ⟨_, _, congrArg V.str (str_one hs), rfl, rfl⟩)
  · rw [Option.map_eq_some_iff] at h
    obtain ⟨k, hk, rfl⟩ := h
    obtain ⟨a, ws, F', rfl, h1, oa, ef, _, hl, nd⟩ := o2
    have g := dget_rd (k := k) (h1.viewD gb bh)
    rw [← keyOf_v hk o] at g
    exact .inr (.inr ⟨a, _, rfl, g, by rw [← valV_any, zip_any k (by rw [hl, oa.length])]⟩)
  · cases h
theorem v_in (P : Opd C G B H F [e, f] ds vs U) (h : bi2 (fun x y => (inD x y).map D.bl) ds = some d) (q : Res C G B H F pl U d Q) : Two vs (rInD' C.K) H Q := by
  obtain ⟨d1, d2, v1, v2, fd, fd2, rfl, rfl, o1, n1, s1, o2, n2⟩ := P.two
  have h : (inD d1 d2).map D.bl = some d := h
  rw [Option.map_eq_some_iff] at h
  obtain ⟨b, hb, rfl⟩ := h
  have q := q.now P (v := .bl b) ⟨rfl, rfl⟩
  refine ⟨v1, v2, rfl, ?_⟩
  rcases in_cases P.gb P.bh hb o1 o2 with ⟨p, ws, rfl, z1, z2, z3, rfl⟩ | ⟨c, z, rfl, rfl, rfl⟩ | ⟨a, r, rfl, z1, rfl⟩
  · exact .inl ⟨p, ws, rfl, z1, z2, z3, q⟩
  · exact .inr (.inl ⟨c, z, rfl, rfl, q⟩)
  · exact .inr (.inr ⟨a, r, rfl, z1, q⟩)
theorem v_nin (P : Opd C G B H F [e, f] ds vs U) (h : bi2 (fun x y => (inD x y).map fun b => D.bl (!b)) ds = some d) (q : Res C G B H F pl U d Q) : Two vs (rNinD' C.K) H Q := by
  obtain ⟨d1, d2, v1, v2, fd, fd2, rfl, rfl, o1, n1, s1, o2, n2⟩ := P.two
  have h : (inD d1 d2).map (fun b => D.bl (!b)) = some d := h
  rw [Option.map_eq_some_iff] at h
  obtain ⟨b, hb, rfl⟩ := h
  have q := q.now P (v := .bl (!b)) ⟨rfl, rfl⟩
  refine ⟨v1, v2, rfl, ?_⟩
  rcases in_cases P.gb P.bh hb o1 o2 with ⟨p, ws, rfl, z1, z2, z3, rfl⟩ | ⟨c, z, rfl, rfl, rfl⟩ | ⟨a, r, rfl, z1, rfl⟩
  · exact .inl ⟨p, ws, rfl, z1, z2, z3, q⟩
  · exact .inr (.inl ⟨c, z, rfl, rfl, q⟩)
  · exact .inr (.inr ⟨a, r, rfl, z1, q⟩)
end
/-! ### operations as values, as tests -/
section
variable {X : Cx} {C : Gl0} {W : WX} {Γ : Gam}
theorem pt_default {a : Expr} {e : E} (k : CxOk C Γ X) (h : PE X a (tE C W e)) (p : tstPlain a = true) : PT X a (tTst C W e) := by
  refine pt_imp (pt_truth h ?_) fun σ H Q z => by rw [k.K]; exact z.te
  intro whole
  cases a <;> first
    | rfl
    | (simp [tstPlain] at p; done)
    | (rename_i op _ _; cases op <;> first | rfl | (simp [tstPlain] at p))
theorem cmp_okT {es : List E} {as : List Expr} {o : Op} {ao : CmpOp} {a : Expr} {r : R2} (hs : cmpB ao a = some as) (hp : PEL X C W es as) (ho : OpR X (compareOp ao) r)
    (hl : isLook o = false) (hb : ∀ ds d, opD o ds = some d → ∃ b, d = .bl b) (hv : ∀ {G B H F U ds vs d Q} {e f : E}, Opd C G B H F [e, f] ds vs U → opD o ds = some d → Res C G B H F false U d Q → Two vs r H Q) : PE X a (tE C W (.op o es)) ∧ PT X a (tTst C W (.op o es)) := by
  refine ⟨cmp_ok hs hp ho hl hv, ?_⟩
  obtain ⟨a, b, pos, rfl, rfl, ns⟩ := cmpB_some hs
  obtain ⟨e, f, rfl, p1, p2, k⟩ := two_of hp
  refine pt_imp (pt_cmpR ho p1 p2 (noset ns)) fun σ H Q h => ?_
  have h := h.bl fun s d s' e1 => by
    unfold evE at e1
    cases e2 : evEs [e, f] s with
    | bad => rw [e2] at e1; cases e1
    | exc _ _ _ _ => rw [e2] at e1; cases e1
    | ok ds s1 =>
      rw [e2] at e1
      have e1 : R.of (opD o ds) s1 = .ok d s' := e1
      cases e3 : opD o ds with
      | none => rw [e3] at e1; cases e1
      | some d0 =>
        rw [e3] at e1
        cases e1
        exact hb ds d e3
  refine t_two k (op_step h fun ds vs G1 B1 H1 F1 U d P e1 q => ?_)
  rw [show isPl (.op o [e, f]) = false from by simp [isPl, hl]] at q
  exact hv P e1 q
theorem non_okT {es : List E} {as : List Expr} {o : Op} {ao : CmpOp} {a : Expr} {r : R2} (hs : nonB ao a = some as) (hp : PEL X C W es as) (ho : OpR X (compareOp ao) r) (hm : ao ≠ .In ∧ ao ≠ .NotIn)
    (hl : isLook o = false) (hb : ∀ ds d, opD o ds = some d → ∃ b, d = .bl b) (hv : ∀ {G B H F U ds vs d Q} {e : E}, Opd C G B H F [e] ds vs U → opD o ds = some d → Res C G B H F false U d Q → One vs (fun x H Q => r x .non H Q) H Q) : PE X a (tE C W (.op o es)) ∧ PT X a (tTst C W (.op o es)) := by
  refine ⟨non_ok hs hp ho hm hl hv, ?_⟩
  obtain ⟨a, j, p, pos, rfl, rfl⟩ := nonB_some hs
  obtain ⟨e, rfl, p1⟩ := one_of hp
  refine pt_imp (pt_cmpR ho p1 pe_non (nomark _ hm.1 hm.2)) fun σ H Q h => ?_
  have h := h.bl fun s d s' e1 => by
    unfold evE at e1
    cases e2 : evEs [e] s with
    | bad => rw [e2] at e1; cases e1
    | exc _ _ _ _ => rw [e2] at e1; cases e1
    | ok ds s1 =>
      rw [e2] at e1
      have e1 : R.of (opD o ds) s1 = .ok d s' := e1
      cases e3 : opD o ds with
      | none => rw [e3] at e1; cases e1
      | some d0 =>
        rw [e3] at e1
        cases e1
        exact hb ds d e3
  refine t_one (op_step h fun ds vs G1 B1 H1 F1 U d P e1 q => ?_)
  rw [show isPl (.op o [e]) = false from by simp [isPl, hl]] at q
  exact hv P e1 q
theorem bi2_bl {g : D → D → Option D} (h : ∀ x y d, g x y = some d → ∃ b, d = .bl b) (ds : List D) (d : D) (k : bi2 g ds = some d) : ∃ b, d = .bl b := by
  unfold bi2 at k
  split at k
  · exact h _ _ _ k
  · cases k
theorem un1_bl {g : D → Option D} (h : ∀ x d, g x = some d → ∃ b, d = .bl b) (ds : List D) (d : D) (k : un1 g ds = some d) : ∃ b, d = .bl b := by
  unfold un1 at k
  split at k
  · exact h _ _ k
  · cases k
theorem cmpD_bl {p : Int → Int → Bool} (x y d : D) (h : cmpD p x y = some d) : ∃ b, d = .bl b := by
  unfold cmpD at h
  split at h <;> cases h
  exact ⟨_, rfl⟩
theorem eqD_bl (x y d : D) (h : eqD x y = some d) : ∃ b, d = .bl b := by
  unfold eqD at h
  split at h <;> cases h
  exact ⟨_, rfl⟩
theorem neD_bl (x y d : D) (h : neD x y = some d) : ∃ b, d = .bl b := by
  unfold neD at h
  split at h
  · cases h
    exact ⟨_, rfl⟩
  · split at h <;> cases h
    exact ⟨_, rfl⟩
theorem noneD_bl {n : Bool} (x d : D) (h : noneD n x = some d) : ∃ b, d = .bl b := by
  unfold noneD at h
  split at h <;> cases h
  exact ⟨_, rfl⟩
theorem optmap_bl {α : Type} {o : Option α} {g : α → Bool} {d : D} (h : (o.map fun b => D.bl (g b)) = some d) : ∃ b, d = .bl b := by
  rw [Option.map_eq_some_iff] at h
  obtain ⟨a, _, rfl⟩ := h
  exact ⟨_, rfl⟩
theorem some1 {es : List E} {as : List Expr} (h : PEL X C W es as) {ds : List D} {d : D} {G B H : Hp} {F : Fp} {vs : List V} {U : List Addr} (P : Opd C G B H F es ds vs U) (k : ds ≠ []) : as ≠ [] := by
  intro z
  subst z
  cases es with
  | nil => obtain ⟨rfl, _⟩ := P.vl; exact k rfl
  | cons e es => obtain ⟨_, _, q, _⟩ := h; cases q
/-- a call's arguments, known to be one or more -/
theorem cons_of {es : List E} {as : List Expr} (h : PEL X C W es as) (n : es ≠ []) : ∃ a0 ar, as = a0 :: ar := by
  cases es with
  | nil => exact absurd rfl n
  | cons e es => obtain ⟨a, ar, q, _⟩ := h; exact ⟨a, ar, q⟩
end
end TT
namespace PySem
open Builtin Builtin.Str SeqAt
theorem dict_ne_tup (l b : Addr) (es : Array DictEntry) (ep : Nat) (items2 : Array Value) (n2 : Nat) (dd dd2 : Option Addr) (sl sl2 : Array (Option Value)) :
    Meets (Builtin.«dict.__ne__» ⟨[.ref l, .ref b], []⟩) (fun _ R s => s.heap.get? l = some { cls := .type "dict", dict := dd, data := .dict es ep, slots := sl } ∧ s.heap.get? b = some { cls := .type "tuple", dict := dd2, data := .seq items2 n2, slots := sl2 } ∧ R (.ok (.ret .notImplemented)) s) :=
  .of_wp fun prog w A R s h => by obtain ⟨hp, g, d, tk, os⟩ := s; obtain ⟨hl, hb, h⟩ := h; have f1 := F.sub_tuple_dict; wp_walk using wpAny_loadPart' hl, wpAny_loadPart' hb; exact ⟨_, rfl, h⟩
theorem tup_ne_dict (l b : Addr) (es : Array DictEntry) (ep : Nat) (items : Array Value) (n : Nat) (dd dd2 : Option Addr) (sl sl2 : Array (Option Value)) :
    Meets (Builtin.«tuple.__ne__» ⟨[.ref l, .ref b], []⟩) (fun _ R s => s.heap.get? l = some { cls := .type "tuple", dict := dd, data := .seq items n, slots := sl } ∧ s.heap.get? b = some { cls := .type "dict", dict := dd2, data := .dict es ep, slots := sl2 } ∧ R (.ok (.ret .notImplemented)) s) :=
  .of_wp fun prog w A R s h => by obtain ⟨hp, g, d, tk, os⟩ := s; obtain ⟨hl, hb, h⟩ := h; have f1 := F.sub_dict_tuple; wp_walk using wpAny_loadPart' hl, wpAny_loadPart' hb; exact ⟨_, rfl, h⟩
section
variable {A : Around} {s : Shared}
theorem rc_ne_dict_tup {l b : Addr} {ob : Obj} {es : Array DictEntry} {ep : Nat} {items2 : Array Value} (ho : s.heap.get? l = some ob) (hc : ob.cls = .type "dict") (hd : ob.data = .dict es ep) (hb : s.heap.IsTuple b items2) (hu : A.units < cLine) : RcNeAt A s (.ref l) (.ref b) true := fun prog w E Q h => by
  obtain ⟨⟨cls2, dd2, data2, sl2⟩, ho2, hc2, n2, hd2⟩ := id hb
  obtain ⟨cls, dd, data, sl⟩ := ob
  simp only at hc hd hc2 hd2
  subst hc hd hc2 hd2
  have hne : l ≠ b := fun e => by
    rw [e, ho2] at ho
    exact absurd (congrArg (fun o : Option Obj => o.map (·.cls)) ho) (by simp)
  exact (rc_ne_decline_or (k := false) ⟨_, ho, rfl⟩ ⟨_, ho2, rfl⟩ (by decide) F.sub_tuple_dict F.slot_dict_ne F.slot_tuple_ne_refl
    (fun _ hq => call_meets F.slot_dict_ne ⟨_, ho, rfl⟩ F.entry_dict_ne (F.args_dict_ne_2 _ _) (dict_ne_tup l b es ep items2 n2 dd dd2 sl sl2) ⟨ho, ho2, hq⟩)
    (fun _ hq => call_meets F.slot_tuple_ne_refl ⟨_, ho2, rfl⟩ F.entry_tuple_ne (F.args_tuple_ne_2 _ _) (tup_ne_dict b l es ep items2 n2 dd2 dd sl2 sl) ⟨ho2, ho, hq⟩)
    (fun _ hq => wpAny_isSame_ref_other hne ho ho2 (by simp) hq) (.inr hu) h)
end
end PySem
namespace TT
open PySem PySem.Spec PyProof.Rows L2
theorem op_neE {X : Cx} (hu : X.A.units + 64 < cLine) : OpR X (compareOp .NotEq) (fun x y H Q => ∃ a b xs, x = V.ref a ∧ y = V.ref b ∧ H a = some (.dK []) ∧ SqT X.K H b xs ∧ Q (.bl true) H) := by
  intro pins s σ H x y v u Q I rx ry h
  obtain ⟨a, b, xs, rfl, rfl, ha, hb, q⟩ := h
  cases rx
  cases ry
  obtain ⟨_, _, _, _, o, es, ep, e, ex, hd, _⟩ := I.hok a _ ha
  obtain ⟨its, rv, p, hz⟩ := I.tuple hb
  exact rc_ne_dict_tup e ex.1 hd p (by omega) _ _ _ _ ⟨.bl true, H, I, rfl, q⟩
end TT
namespace TT
open PySem PySem.Spec PyProof.Rows L2
section
variable {X : Cx} {C : Gl0} {W : WX} {Γ : Gam}
theorem opD_ne {o : Op} {es : List E} {ds : List D} {G B H : Hp} {F : Fp} {vs : List V} {U : List Addr} (P : Opd C G B H F es ds vs U) : ds.length = es.length := P.vl.length
/-- a call of a built-in: no argument is a fault -/
theorem fn_okT {n : Str} {es : List E} {as : List Expr} {o : Op} {a : Expr} {bid : String} {r : List V → Hp → VK → Prop} (k : CxOk C Γ X) (hs : btCall Γ n a = some as) (hp : PEL X C W es as) (ho : CallR X (.builtin bid) r)
    (hv : bootBuiltins n = some (.builtin bid)) (hn : n ≠ "__name__") (hl : isLook o = false) (h0 : opD o [] = none) (hr : ∀ {G B H F U ds vs d Q}, Opd C G B H F es ds vs U → opD o ds = some d → Res C G B H F false U d Q → r vs H Q) : PE X a (tE C W (.op o es)) ∧ PT X a (tTst C W (.op o es)) := by
  have main : PE X a (tE C W (.op o es)) ∧ tstPlain a = true := by
    obtain ⟨x, p, pos, rfl, hb⟩ := btCall_some hs
    refine ⟨?_, rfl⟩
    cases as with
    | nil =>
      cases es with
      | nil =>
        refine ⟨fun pins s σ H Q I h => ?_⟩
        obtain ⟨s0, G, B, F, g, h⟩ := h
        unfold evE evEs at h
        have h : outE C W σ (.op o []) G B H F s0 (R.of (opD o []) s0) Q := h
        rw [h0] at h
        exact h.elim
      | cons e es => obtain ⟨_, _, q, _⟩ := hp; cases q
    | cons a0 as => exact fn_ok k hs hp ho hv hn hl hr
  exact ⟨main.1, pt_default k main.1 main.2⟩
theorem ty_okT {n : Str} {es : List E} {as : List Expr} {o : Op} {a : Expr} {bid : String} {r : List V → Hp → VK → Prop} (k : CxOk C Γ X) (hs : btCall Γ n a = some as) (hp : PEL X C W es as) (ho : CallR X (.type bid) r)
    (hv : bootBuiltins n = some (.type bid)) (hn : n ≠ "__name__") (hl : isLook o = false) (h0 : opD o [] = none) (hr : ∀ {G B H F U ds vs d Q}, Opd C G B H F es ds vs U → opD o ds = some d → Res C G B H F false U d Q → r vs H Q) : PE X a (tE C W (.op o es)) ∧ PT X a (tTst C W (.op o es)) := by
  have main : PE X a (tE C W (.op o es)) ∧ tstPlain a = true := by
    obtain ⟨x, p, pos, rfl, hb⟩ := btCall_some hs
    refine ⟨?_, rfl⟩
    cases as with
    | nil =>
      cases es with
      | nil =>
        refine ⟨fun pins s σ H Q I h => ?_⟩
        obtain ⟨s0, G, B, F, g, h⟩ := h
        unfold evE evEs at h
        have h : outE C W σ (.op o []) G B H F s0 (R.of (opD o []) s0) Q := h
        rw [h0] at h
        exact h.elim
      | cons e es => obtain ⟨_, _, q, _⟩ := hp; cases q
    | cons a0 as => exact ty_ok k hs hp ho hv hn hl hr
  exact ⟨main.1, pt_default k main.1 main.2⟩
theorem bin_okT {es : List E} {as : List Expr} {o : Op} {ao : Operator} {a : Expr} {r : R2} (k : CxOk C Γ X) (hs : binB ao a = some as) (hp : PEL X C W es as) (ho : OpR X (binaryOp ao) r)
    (hl : isLook o = false) (hv : ∀ {G B H F U ds vs d Q} {e f : E}, Opd C G B H F [e, f] ds vs U → opD o ds = some d → Res C G B H F false U d Q → Two vs r H Q) : PE X a (tE C W (.op o es)) ∧ PT X a (tTst C W (.op o es)) := by
  have main := bin_ok hs hp ho hl hv
  obtain ⟨_, _, _, rfl, _⟩ := binB_some hs
  exact ⟨main, pt_default k main rfl⟩
/-- one operand from many -/
theorem one_vs {vs : List V} {es : List E} {ds : List D} {d : D} {g : D → Option D} {G B H : Hp} {F : Fp} {U : List Addr} (P : Opd C G B H F es ds vs U) (h : un1 g ds = some d) : ∃ e, es = [e] := by
  have hl := P.vl.length
  unfold un1 at h
  split at h
  · match es, hl with
    | [e], _ => exact ⟨e, rfl⟩
  · cases h
theorem two_vs {vs : List V} {es : List E} {ds : List D} {d : D} {g : D → D → Option D} {G B H : Hp} {F : Fp} {U : List Addr} (P : Opd C G B H F es ds vs U) (h : bi2 g ds = some d) : ∃ e f, es = [e, f] := by
  have hl := P.vl.length
  unfold bi2 at h
  split at h
  · match es, hl with
    | [e, f], _ => exact ⟨e, f, rfl⟩
  · cases h
theorem both {a : Expr} {e : E} (k : CxOk C Γ X) (h : PE X a (tE C W e)) (p : tstPlain a = true) : PE X a (tE C W e) ∧ PT X a (tTst C W e) := ⟨h, pt_default k h p⟩
theorem hr_units (k : CxOk C Γ X) : X.A.units + 64 < cLine := k.room.units
theorem len2 {α : Type} {l : List α} (h : l.length = 2) : ∃ a b, l = [a, b] := by
  match l, h with
  | [a, b], _ => exact ⟨a, b, rfl⟩
theorem len3 {α : Type} {l : List α} (h : l.length = 3) : ∃ a b c, l = [a, b, c] := by
  match l, h with
  | [a, b, c], _ => exact ⟨a, b, c, rfl⟩
theorem pel_len : ∀ {es : List E} {as : List Expr}, PEL X C W es as → as.length = es.length
  | [], _, h => by obtain rfl : _ = [] := h; rfl
  | _ :: _, _, h => by
    obtain ⟨_, _, rfl, _, _, _, h2⟩ := h
    simp [pel_len h2]
theorem vl_one {e : E} {d : D} {vs : List V} {G B H : Hp} {F : Fp} {U : List Addr} (h : VL C G B H F [e] [d] vs U) : ∃ v fd, vs = [v] ∧ Own C G B H d v fd := by
  obtain ⟨d1, dr, v1, vr, fd1, U1, e1, rfl, o1, _, h, _⟩ := h
  obtain ⟨rfl, rfl⟩ := List.cons.inj e1
  obtain ⟨_, rfl, _⟩ := h
  exact ⟨v1, fd1, rfl, o1⟩
theorem vl_two {e f : E} {d d' : D} {vs : List V} {G B H : Hp} {F : Fp} {U : List Addr} (h : VL C G B H F [e, f] [d, d'] vs U) : ∃ v v' fd fd', vs = [v, v'] ∧ Own C G B H d v fd ∧ Own C G B H d' v' fd' := by
  obtain ⟨d1, dr, v1, vr, fd1, U1, e1, rfl, o1, _, h, _⟩ := h
  obtain ⟨rfl, rfl⟩ := List.cons.inj e1
  obtain ⟨v, fd, rfl, o⟩ := vl_one h
  exact ⟨v1, v, fd1, fd, rfl, o1, o⟩
theorem vl_three {e f g : E} {d d' d'' : D} {vs : List V} {G B H : Hp} {F : Fp} {U : List Addr} (h : VL C G B H F [e, f, g] [d, d', d''] vs U) : ∃ v v' v'' fd fd' fd'', vs = [v, v', v''] ∧ Own C G B H d v fd ∧ Own C G B H d' v' fd' ∧ Own C G B H d'' v'' fd'' := by
  obtain ⟨d1, dr, v1, vr, fd1, U1, e1, rfl, o1, _, h, _⟩ := h
  obtain ⟨rfl, rfl⟩ := List.cons.inj e1
  obtain ⟨v, v', fd, fd', rfl, o, o'⟩ := vl_two h
  exact ⟨v1, v, v', fd1, fd, fd', rfl, o1, o, o'⟩
theorem vl_len : ∀ {es : List E} {ds : List D} {vs : List V} {G B H : Hp} {F : Fp} {U : List Addr}, VL C G B H F es ds vs U → ds.length = es.length
  | [], _, _, _, _, _, _, _, h => by obtain ⟨rfl, _⟩ := h; rfl
  | _ :: _, _, _, _, _, _, _, _, h => by
    obtain ⟨_, _, _, _, _, _, rfl, _, _, _, h, _⟩ := h
    simp [vl_len h]
abbrev rSlAll (K : PySem.W.Frag) : V → Option Int → Option Int → Hp → VK → Prop := fun x lo hi H Q => rSlL K x lo hi H Q ∨ (rSlA K x lo hi H Q ∨ rSlS x lo hi H Q)
theorem part_int {d : D} {i : Int} (h : partD d = some i) : d = .int i := by
  unfold partD at h
  split at h <;> cases h
  rfl
theorem sl_ok {lo hi : Bool} {es : List E} {as : List Expr} {a : Expr} (k : CxOk C Γ X) (hs : shape Γ (.sl lo hi) a = some as) (hp : PEL X C W es as) : PE X a (tE C W (.op (.sl lo hi) es)) := by
  have hr : SlR X (rSlAll C.K) := by
    have := (sl_list (X := X)).or ((sl_tupA (X := X)).or (sl_str (X := X)))
    rw [k.K] at this
    exact this
  unfold shape at hs
  simp only at hs
  split at hs
  · rename_i x l h p p2
    split at hs <;> cases hs
    rename_i hb
    simp only [Bool.and_eq_true, beq_iff_eq, Bool.not_eq_true'] at hb
    obtain ⟨⟨rfl, rfl⟩, hb2⟩ := hb
    cases l with
    | none =>
      cases h with
      | none =>
        obtain ⟨e, rfl, p1⟩ := one_of hp
        refine pe_imp (pe_slice hr p1 po_none po_none) fun σ H Q z => t_one (op_step z fun ds vs G1 B1 H1 F1 U d P e1 q => ?_)
        obtain ⟨d0, v0, fd, rfl, rfl, o, _, _⟩ := P.one
        exact ⟨v0, rfl, v_sl P.gb P.bh P o e1 q⟩
      | some j =>
        obtain ⟨e, f, rfl, p1, p2, pp⟩ := two_of hp
        refine pe_imp (pe_slice hr p1 po_none (po_some p2)) fun σ H Q z => t_two (Q := fun x y H2 => ∃ i, y = .int i ∧ rSlAll C.K x none (some i) H2 Q) pp (op_step z fun ds vs G1 B1 H1 F1 U d P e1 q => ?_)
        obtain ⟨d0, d1, rfl⟩ := len2 (vl_len P.vl)
        obtain ⟨v0, v1, fd, fd1, rfl, o, o1⟩ := vl_two P.vl
        replace e1 : ((partD d1).bind fun j => slD d0 none (some j)) = some d := e1
        cases e2 : partD d1 with
        | none => rw [e2] at e1; cases e1
        | some i =>
          rw [e2] at e1
          obtain rfl := part_int e2
          exact ⟨v0, v1, rfl, i, o1.1, v_sl P.gb P.bh P o e1 q⟩
    | some j =>
      cases h with
      | none =>
        obtain ⟨e, f, rfl, p1, p2, pp⟩ := two_of hp
        refine pe_imp (pe_slice hr p1 (po_some p2) po_none) fun σ H Q z => t_two (Q := fun x y H2 => ∃ i, y = .int i ∧ rSlAll C.K x (some i) none H2 Q) pp (op_step z fun ds vs G1 B1 H1 F1 U d P e1 q => ?_)
        obtain ⟨d0, d1, rfl⟩ := len2 (vl_len P.vl)
        obtain ⟨v0, v1, fd, fd1, rfl, o, o1⟩ := vl_two P.vl
        replace e1 : ((partD d1).bind fun j => slD d0 (some j) none) = some d := e1
        cases e2 : partD d1 with
        | none => rw [e2] at e1; cases e1
        | some i =>
          rw [e2] at e1
          obtain rfl := part_int e2
          exact ⟨v0, v1, rfl, i, o1.1, v_sl P.gb P.bh P o e1 q⟩
      | some j2 => simp at hb2
  · cases hs
theorem owns_rev {G B H : Hp} : ∀ {xs : List D} {ws : List V}, Owns C G B H xs ws [] → Owns C G B H xs.reverse ws.reverse [] := by
  have snoc : ∀ {ys : List D} {vs : List V} {y : D} {v : V}, Own C G B H y v [] → Owns C G B H ys vs [] → Owns C G B H (ys ++ [y]) (vs ++ [v]) [] := by
    intro ys
    induction ys with
    | nil =>
      intro vs y v o2 o
      obtain ⟨rfl, _⟩ := o
      exact ⟨v, [], [], [], rfl, rfl, o2, rfl, rfl⟩
    | cons x xs ih =>
      intro vs y v o2 o
      obtain ⟨w, vr, F1, F2, rfl, e, o1, o3⟩ := o
      obtain ⟨rfl, rfl⟩ := List.append_eq_nil_iff.1 e.symm
      exact ⟨w, vr ++ [v], [], [], rfl, rfl, o1, ih o2 o3⟩
  intro xs
  induction xs with
  | nil =>
    intro ws o
    obtain ⟨rfl, _⟩ := o
    exact ⟨rfl, rfl⟩
  | cons x xs ih =>
    intro ws o
    obtain ⟨w, vr, F1, F2, rfl, e, o1, o3⟩ := o
    obtain ⟨rfl, rfl⟩ := List.append_eq_nil_iff.1 e.symm
    rw [List.reverse_cons, List.reverse_cons]
    exact snoc o1 (ih o3)
theorem rev_ok {es : List E} {as : List Expr} {a : Expr} (k : CxOk C Γ X) (hs : shape Γ .rev a = some as) (hp : PEL X C W es as) : PE X a (tE C W (.op .rev es)) := by
  unfold shape at hs
  simp only at hs
  split at hs <;> cases hs
  obtain ⟨e, rfl, p1⟩ := one_of hp
  refine pe_imp (pe_revL p1) fun σ H Q z => t_one (op_step z fun ds vs G1 B1 H1 F1 U d P e1 q => ?_)
  obtain ⟨d0, v0, fd, rfl, rfl, o, _, _⟩ := P.one
  refine ⟨v0, rfl, ?_⟩
  replace e1 : revD d0 = some d := e1
  unfold revD at e1
  split at e1
  · split at e1 <;> cases e1
    rename_i hs
    obtain ⟨a, ws, F', rfl, ea, oa, ef, _⟩ := o.lstAt P.gb P.bh
    obtain rfl := oa.nil hs.1
    exact ⟨a, ws, rfl, .inl (.inl ea), fun p hp => q.lst P hp (owns_rev oa) List.nodup_nil fun _ z => nomatch z⟩
  · cases e1
/-! methods of texts, of one operand -/
theorem pel_tail0 {e : E} {es : List E} {a : Expr} {as : List Expr} (h : PEL X C W (e :: es) (a :: as)) : notStar a = true ∧ PEL X C W es as := by
  obtain ⟨_, _, q, n1, _, _, h2⟩ := h
  obtain ⟨rfl, rfl⟩ := List.cons.inj q
  exact ⟨n1, h2⟩
theorem PostL.nil {σ : L2.St} {G B H : Hp} {F : Fp} {s : List D} (g : Good C G B H F s σ) : PostL C σ [] G B H F s [] s [] G B H F [] :=
  { good := g, ext := (Ext.refl (P := inF F)).imp (fun _ z => z) (fun a z => .inl (z.elim id fun z => nomatch z)), vl := ⟨rfl, rfl, rfl⟩, nd := List.nodup_nil, np := (fun _ z => nomatch z), pure := fun _ => ⟨rfl, rfl, fun _ _ z => z⟩ }
/-- behind the operands of a method -/
theorem mth_res {o : Op} {e : E} {es : List E} {σ : L2.St} {Q : VK} {G B H G1 B1 H1 : Hp} {F F1 : Fp} {s s1 : List D} {ds : List D} {d : D} {vs : List V} {U : List Addr} (p : PostL C σ (e :: es) G B H F s ds s1 vs G1 B1 H1 F1 U)
    (h : ∀ v G' B' H' F' fd, PostE C σ (.mth o e es) G B H F s d s1 v G' B' H' F' fd → Q v H') : Res C G1 B1 H1 F1 false U d Q := fun v G' B' H' fd x gb bh own nd src => h v G' B' H' F1 fd (by
      rw [if_neg (by decide)] at src
      refine { good := p.good.alloc x gb bh, ext := p.ext.trans (x.to fun a z => ?_), own := own, nd := nd, pl := fun q => by simp [isPl] at q, np := fun q a ha z => ?_, pure := fun q => ?_ }
      · rcases z with z | z
        · exact .inl (.inl z)
        · rcases src a z with z | z
          · exact .inr z
          · exact .inl (.inr z)
      · rcases src a ha with y | y
        · exact (p.good.inF z).1 y
        · exact p.np a y z
      · obtain ⟨e1, e2, k⟩ := p.pure (by simpa [eff, effs] using q)
        exact ⟨e1, e2, fun a o z => x.keep a o (k a o z) fun z => z⟩)
/-- a method of one operand -/
theorem bm1 {o : Op} {e f : E} {T : String} {r : V → List V → Hp → VK → Prop} {σ : L2.St} {H : Hp} {Q : VK} (hp : isPl e = false) (h : tE C W (.mth o e [f]) σ H Q)
    (hty : ∀ d0, rcvOk o d0 = true → ∀ v fd G B H, Sb G B → Sb B H → Own C G B H d0 v fd → tyV C.K T v H)
    (hr : ∀ {ds vs G1 B1 H1 F1 U d}, Opd C G1 B1 H1 F1 [e, f] ds vs U → opD o ds = some d → Res C G1 B1 H1 F1 false U d Q → ∃ x y, vs = [x, y] ∧ r x [y] H1 Q) : tBM C.K T r (tE C W e) (tCons (tE C W f) tNil) σ H Q := by
  obtain ⟨s, G, B, F, g, h⟩ := h
  replace h : outE C W σ (.mth o e [f]) G B H F s ((evE e s).bind fun d0 s1 => if rcvOk o d0 then (evEs [f] s1).bind fun ds s2 => R.of (opD o (d0 :: ds)) s2 else .bad) Q := by unfold evE at h; exact h
  refine ⟨s, G, B, F, g, ?_⟩
  cases e1 : evE e s with
  | bad => rw [e1] at h; exact h
  | exc c fs xs s' => rw [e1] at h; exact h
  | ok d0 s1 =>
    rw [e1] at h
    replace h : outE C W σ (.mth o e [f]) G B H F s (if rcvOk o d0 then (evEs [f] s1).bind fun ds s2 => R.of (opD o (d0 :: ds)) s2 else .bad) Q := h
    split at h
    case isFalse => exact h.elim
    rename_i hk
    intro v G1 B1 H1 F1 fd p
    refine ⟨hty d0 hk v fd G1 B1 H1 p.good.gb p.good.bh p.own, s1, G1, B1, F1, p.good, ?_⟩
    have hE : evEs [f] s1 = (evE f s1).bind fun d s2 => .ok [d] s2 := by
      unfold evEs evEs
      cases evE f s1 <;> rfl
    rw [hE] at h
    cases e2 : evE f s1 with
    | bad => rw [e2] at h; exact h.elim
    | exc c fs xs s' =>
      rw [e2] at h
      exact outX.from p.ext (fun a z => .inl z) h
    | ok d1 s2 =>
      rw [e2] at h
      replace h : outE C W σ (.mth o e [f]) G B H F s (R.of (opD o [d0, d1]) s2) Q := h
      cases e3 : opD o [d0, d1] with
      | none => rw [e3] at h; exact h.elim
      | some d =>
        rw [e3] at h
        intro w G2 B2 H2 F2 fd2 q
        obtain ⟨U1, q1⟩ := PostL.cons (fun _ => rfl) q (PostL.nil q.good)
        obtain ⟨U2, q2⟩ := PostL.cons (fun z => by rw [hp] at z; cases z) p q1
        obtain ⟨x, y, e4, z⟩ := hr ⟨q2.good.gb, q2.good.bh, q2.vl, q2.nd⟩ e3 (mth_res q2 h)
        simp only [List.cons.injEq, and_true] at e4
        obtain ⟨rfl, rfl⟩ := e4
        exact z
theorem rcv_str {o : Op} {d : D} (ho : o = .part ∨ o = .find ∨ o = .join) (h : rcvOk o d = true) {v : V} {fd : List Addr} {G B H : Hp} (w : Own C G B H d v fd) : tyV C.K "str" v H := by
  rcases ho with rfl | rfl | rfl <;> (cases d <;> first | (simp [rcvOk] at h; done) | (obtain ⟨rfl, _⟩ := w; rfl))
theorem strs_own {G B H : Hp} : ∀ {xs : List D} {ws : List V} {U : List Addr} {ys : List Str}, strsOf xs = some ys → Owns C G B H xs ws U → ws = ys.map V.str
  | [], _, _, _, h, o => by
    cases h
    obtain ⟨rfl, _⟩ := o
    rfl
  | x :: xs, _, _, _, h, o => by
    obtain ⟨w, vr, F1, F2, rfl, e, o1, o3⟩ := o
    unfold strsOf at h
    split at h
    · rename_i q; cases q
    · rename_i b xs' q
      cases q
      cases e2 : strsOf xs with
      | none => rw [e2] at h; cases h
      | some zs =>
        rw [e2] at h
        cases h
        rw [o1.1, strs_own e2 o3]
        rfl
    · cases h
theorem mth_ok {o : Op} {e : E} {es : List E} {x a : Expr} {as : List Expr} (k : CxOk C Γ X) (hs : mthB o a = some (x, as)) (hl : as.length = 1) (pe : PE X x (tE C W e)) (hpl : isPl e = false) (hp : PEL X C W es as) : PE X a (tE C W (.mth o e es)) ∧ tstPlain a = true := by
  unfold mthB at hs
  split at hs
  · rename_i x' m ap as' cp
    split at hs <;> cases hs
    rename_i hc
    simp only [Bool.and_eq_true, decide_eq_true_eq] at hc
    obtain ⟨⟨hm, hn⟩, hline⟩ := hc
    refine ⟨?_, rfl⟩
    obtain ⟨y, rfl⟩ := List.length_eq_one_iff.1 hl
    obtain ⟨f, rfl, p2⟩ := one_of hp
    have ns := (pel_tail0 hp).1
    have hb : ∀ (m : Str) env, attributeBase x m env (eval x env) = eval x env := fun m env => by
      cases x <;> first | rfl | exact (Bool.false_ne_true hn).elim
    unfold mthN at hm
    split at hm <;> cases hm
    · refine pe_imp (pe_bm PySem.F.plainAttrs_str PySem.F.slot_str_partition PySem.F.type_str_partition mt_partition pe (pa_cons p2 pa_nil (star_ok ns)) (hb _ _) (by rw [star_ok ns]; rfl) hline (star_ok ns) (by rfl)) fun σ H Q z => ?_
      rw [k.K]
      refine bm1 hpl z (fun d0 h v fd G B H _ _ w => rcv_str (.inl rfl) h w) fun {ds vs G1 B1 H1 F1 U d} P e3 q => ?_
      replace e3 : bi2 txtPart ds = some d := e3
      obtain ⟨d0, d1, rfl⟩ := len2 (vl_len P.vl)
      obtain ⟨v, w, fd, fd1, rfl, o0, o1⟩ := vl_two P.vl
      replace e3 : txtPart d0 d1 = some d := e3
      unfold txtPart at e3
      split at e3
      · split at e3 <;> cases e3
        rename_i hh
        obtain ⟨rfl, _⟩ := o0
        obtain ⟨rfl, _⟩ := o1
        exact ⟨_, _, rfl, _, _, rfl, rfl, hh.1, hh.2, fun p hp => q.tupS P hp ⟨rfl, rfl⟩ ⟨_, _, [], [], rfl, rfl, ⟨rfl, rfl⟩, _, _, [], [], rfl, rfl, ⟨rfl, rfl⟩, _, _, [], [], rfl, rfl, ⟨rfl, rfl⟩, rfl, rfl⟩⟩
      · cases e3
    · refine pe_imp (pe_bm PySem.F.plainAttrs_str PySem.F.slot_str_find PySem.F.type_str_find mt_find pe (pa_cons p2 pa_nil (star_ok ns)) (hb _ _) (by rw [star_ok ns]; rfl) hline (star_ok ns) (by rfl)) fun σ H Q z => ?_
      rw [k.K]
      refine bm1 hpl z (fun d0 h v fd G B H _ _ w => rcv_str (.inr (.inl rfl)) h w) fun {ds vs G1 B1 H1 F1 U d} P e3 q => ?_
      obtain ⟨d0, d1, rfl⟩ := len2 (vl_len P.vl)
      obtain ⟨v, w, fd, fd1, rfl, o0, o1⟩ := vl_two P.vl
      replace e3 : txtFind d0 d1 = some d := e3
      unfold txtFind at e3
      split at e3
      · cases e3
        obtain ⟨rfl, _⟩ := o0
        obtain ⟨rfl, _⟩ := o1
        exact ⟨_, _, rfl, _, _, rfl, rfl, q.now P ⟨rfl, rfl⟩⟩
      · cases e3
    · refine pe_imp (pe_bm PySem.F.plainAttrs_str PySem.F.slot_str_join PySem.F.type_str_join mt_join pe (pa_cons p2 pa_nil (star_ok ns)) (hb _ _) (by rw [star_ok ns]; rfl) hline (star_ok ns) (by rfl)) fun σ H Q z => ?_
      rw [k.K]
      refine bm1 hpl z (fun d0 h v fd G B H _ _ w => rcv_str (.inr (.inr rfl)) h w) fun {ds vs G1 B1 H1 F1 U d} P e3 q => ?_
      obtain ⟨d0, d1, rfl⟩ := len2 (vl_len P.vl)
      obtain ⟨v, w, fd, fd1, rfl, o0, o1⟩ := vl_two P.vl
      replace e3 : txtJoin d0 d1 = some d := e3
      unfold txtJoin at e3
      split at e3
      · rename_i a0 fl xs
        cases e4 : strsOf xs with
        | none => rw [e4] at e3; cases e3
        | some ys =>
          rw [e4] at e3
          replace e3 : (if (ys.map (·.length)).sum + ys.length * a0.length ≤ 16777216 then some (D.str (Txt.join a0 ys)) else none) = some d := e3
          split at e3 <;> cases e3
          rename_i hh
          obtain ⟨rfl, _⟩ := o0
          obtain ⟨b, ws, F', rfl, ha, oo, _, _⟩ := o1.lstAt P.gb P.bh
          obtain rfl := strs_own e4 oo
          exact ⟨_, _, rfl, _, b, ys, rfl, rfl, .inl (.inl (.inl ha)), hh, q.now P ⟨rfl, rfl⟩⟩
      · cases e3
  · cases hs
theorem op_mul_str {X : Cx} : OpR X (binaryOp .Mult) (fun x y H Q => ∃ (a : Str) (k : Int), x = .str a ∧ y = .int k ∧ 0 ≤ k ∧ k ≤ 1000000 ∧ a.length * k.toNat ≤ 1000000 ∧ Q (.str (repS a k)) H) := by
  intro pins s σ H x y v u Q I rx ry h
  obtain ⟨a, k, rfl, rfl, h0, h1, h2, q⟩ := h
  obtain ⟨t, rfl⟩ := rx
  obtain ⟨t', rfl⟩ := ry
  have hz : sizeLine = 16777216 := PySem.sizeLine_eq
  have fl : ∀ (l : List (Array Nat)) (b : Array Nat), l.foldl (· ++ ·) b = ⟨b.toList ++ (l.map Array.toList).flatten⟩ := by
    intro l
    induction l with
    | nil => intro b; simp
    | cons c l ih => intro b; rw [List.foldl_cons, ih]; simp
  have len : ∀ n : Nat, ((List.replicate n a.cps.toList).flatten).length = n * a.length := fun n => by
    simp [List.length_flatten, Str.length]
  have hr : (decide (k < -(2 ^ 63 : Int)) || decide (k ≥ 2 ^ 63)) = false := by
    rw [decide_eq_false (by omega), decide_eq_false (by omega)]; rfl
  have hsz : a.cps.size = a.length := rfl
  refine PySem.P.mul_str hr (fun q1 q2 => ?_) (fun q1 q2 => ?_) ?_
  · have w1 : (a.length : Int) * k ≤ 2 ^ 63 - 1 := by
      have : (a.length : Int) * k = ((a.length * k.toNat : Nat) : Int) := by
        rw [Int.natCast_mul, Int.toNat_of_nonneg h0]
      omega
    have w2 := Int.le_ediv_of_mul_le (by omega) w1
    omega
  · have : a.length * k.toNat ≤ 16777216 := by omega
    show decide (a.length * k.toNat > 16777216) = false
    simp
    omega
  · split
    · rename_i hk
      have : k = 0 := by omega
      subst this
      exact ⟨by decide, .str (repS a 0), H, I.tok _, ⟨_, rfl⟩, q⟩
    · split
      · rename_i hk
        have e : repS a k = a := by
          rw [Bool.or_eq_true] at hk
          rcases hk with hk | hk
          · have : k = 1 := by simpa using hk
            subst this
            show (⟨(List.replicate 1 a.cps.toList).flatten.toArray⟩ : Str) = a
            simp
          · have h0 : a.cps.toList = [] := by
              have : a.cps.size = 0 := by simpa [hsz] using hk
              exact List.eq_nil_of_length_eq_zero (by simpa using this)
            have h00 : a = ⟨#[]⟩ := by
              cases a with
              | mk c => cases c with
                | mk l => cases l with
                  | nil => rfl
                  | cons _ _ => cases h0
            rw [h00]
            show (⟨(List.replicate k.toNat ([] : List Nat)).flatten.toArray⟩ : Str) = _
            simp
        rw [e] at q
        exact ⟨.str a, H, I, ⟨_, rfl⟩, q⟩
      · have e : repS a k = ⟨(List.replicate k.toNat a.cps).foldl (· ++ ·) #[]⟩ := by
          rw [fl]
          show (⟨(List.replicate k.toNat a.cps.toList).flatten.toArray⟩ : Str) = _
          simp
        refine ⟨?_, ?_⟩
        · rw [← e, hz]
          show (List.replicate k.toNat a.cps.toList).flatten.toArray.size ≤ 16777216
          rw [List.size_toArray, len, Nat.mul_comm]
          omega
        · rw [e] at q
          exact ⟨.str _, H, I.tok _, ⟨_, rfl⟩, q⟩
theorem v_rep {e f : E} {G B H : Hp} {F : Fp} {ds : List D} {vs : List V} {U : List Addr} {d : D} {Q : VK} (P : Opd C G B H F [e, f] ds vs U) (h : bi2 repD ds = some d) (q : Res C G B H F false U d Q) : Two vs (fun x y H Q => ∃ (a : Str) (k : Int), x = .str a ∧ y = .int k ∧ 0 ≤ k ∧ k ≤ 1000000 ∧ a.length * k.toNat ≤ 1000000 ∧ Q (.str (repS a k)) H) H Q := by
  obtain ⟨d0, d1, rfl⟩ := len2 (vl_len P.vl)
  obtain ⟨v, w, fd, fd1, rfl, o0, o1⟩ := vl_two P.vl
  replace h : repD d0 d1 = some d := h
  unfold repD at h
  split at h
  · split at h <;> cases h
    rename_i hh
    obtain ⟨rfl, _⟩ := o0
    obtain ⟨rfl, _⟩ := o1
    exact ⟨_, _, rfl, _, _, rfl, rfl, hh.1, hh.2.1, hh.2.2, q.now P ⟨rfl, rfl⟩⟩
  · cases h
theorem op_all {o : Op} {es : List E} {as : List Expr} {a : Expr} (k : CxOk C Γ X) (hn : ∀ t x tab, o = .isi t x tab → NdOk C X (.isi t x tab)) (hs : shape Γ o a = some as) (hst : opSt o es = true) (hp : PEL X C W es as) (hnot : o ≠ .not) :
    PE X a (tE C W (.op o es)) ∧ PT X a (tTst C W (.op o es)) := by
  have hu : X.A.units + 1 < cLine := hu_of k.room
  have eK := k.K
  cases o with
  | add => exact bin_okT k hs hp op_add' rfl fun P h q => by rw [eK]; exact v_add P h q
  | sub => exact bin_okT k hs hp op_sub rfl fun P h q => v_sub P h q
  | mul => exact bin_okT k hs hp op_mul' rfl fun P h q => v_mul P h q
  | fdiv => exact bin_okT k hs hp op_fdivW rfl fun P h q => v_fdiv P h q
  | mod => exact bin_okT k hs hp op_mod rfl fun P h q => v_mod P h q
  | pow => exact bin_okT k hs hp op_pow rfl fun P h q => v_pow P h q
  | neg =>
    unfold shape at hs
    simp only at hs
    split at hs <;> cases hs
    obtain ⟨e, rfl, p1⟩ := one_of hp
    exact both k (pe_imp (pe_un un_neg p1) fun σ H Q h => t_one (op_step h fun ds vs G1 B1 H1 F1 U d P e1 q => v_neg P e1 q)) rfl
  | eq => exact cmp_okT hs hp (op_eqD (hr_units k)) rfl (bi2_bl eqD_bl) fun P h q => by rw [eK]; exact v_eq P h q
  | ne => exact cmp_okT hs hp ((op_neD (hr_units k)).or (op_neE (hr_units k))) rfl (bi2_bl neD_bl) fun P h q => by rw [eK]; exact v_ne P h q
  | lt => exact cmp_okT hs hp op_lt rfl (bi2_bl cmpD_bl) fun P h q => v_cmp P h q
  | le => exact cmp_okT hs hp op_le rfl (bi2_bl cmpD_bl) fun P h q => v_cmp P h q
  | gt => exact cmp_okT hs hp op_gt rfl (bi2_bl cmpD_bl) fun P h q => v_cmp P h q
  | ge => exact cmp_okT hs hp op_ge rfl (bi2_bl cmpD_bl) fun P h q => v_cmp P h q
  | isN => exact non_okT hs hp op_isN ⟨by decide, by decide⟩ rfl (un1_bl noneD_bl) fun P h q => let ⟨x, e, z⟩ := v_isN P h q; ⟨x, e, rfl, z⟩
  | notN => exact non_okT hs hp op_notN ⟨by decide, by decide⟩ rfl (un1_bl noneD_bl) fun P h q => let ⟨x, e, z⟩ := v_notN P h q; ⟨x, e, rfl, z⟩
  | in_ => exact cmp_okT hs hp (op_inD' hu) rfl (bi2_bl fun x y d h => optmap_bl h) fun P h q => by rw [eK]; exact v_in P h q
  | nin => exact cmp_okT hs hp (op_ninD' hu) rfl (bi2_bl fun x y d h => optmap_bl h) fun P h q => by rw [eK]; exact v_nin P h q
  | not => exact absurd rfl hnot
  | tup =>
    unfold shape at hs
    simp only at hs
    split at hs <;> cases hs
    have hpl : ∀ e ∈ es, isPl e = false := by simpa [opSt] using hst
    exact both k (pe_imp (pe_tup (pa_of hp)) fun σ H Q h => op_step h fun ds vs G1 B1 H1 F1 U d P e1 q => v_tup P hpl e1 q) rfl
  | lst =>
    unfold shape at hs
    simp only at hs
    split at hs <;> cases hs
    have hpl : ∀ e ∈ es, isPl e = false := by simpa [opSt] using hst
    exact both k (pe_imp (pe_lst (pa_of hp)) fun σ H Q h => op_step h fun ds vs G1 B1 H1 F1 U d P e1 q => v_lst P hpl e1 q) rfl
  | dnk =>
    unfold shape at hs
    simp only at hs
    split at hs <;> cases hs
    refine both k (pe_imp pe_dnewK fun σ H Q h => ?_) rfl
    · cases es with
      | cons e es => obtain ⟨_, _, q, _⟩ := hp; cases q
      | nil =>
        obtain ⟨s, G, B, F, g, h⟩ := h
        intro p hp'
        obtain ⟨x, b1, bp⟩ := alloc_own (G := G) (o := .dK []) g.bh hp'
        refine h (.ref p) G B _ F [p] { good := g.alloc x g.gb b1, ext := Alloc.to x fun a z => ?_, own := ⟨p, [], [], rfl, ⟨upd_same, bp⟩, ⟨rfl, rfl⟩, rfl, trivial, rfl, List.nodup_nil⟩, nd := by simp, pl := fun q => by simp [isPl, isLook] at q, np := fun _ a ha z => ?_, pure := fun _ => ⟨rfl, rfl, fun a o z => x.keep a o z fun z => z⟩ }
        · rcases z with z | z
          · exact .inl z
          · rw [List.mem_singleton.1 z]; exact .inr hp'
        · rw [List.mem_singleton.1 ha] at z; exact (g.inF z).1 hp'
  | dnt =>
    unfold shape at hs
    simp only at hs
    split at hs <;> cases hs
    refine both k (pe_imp pe_dnewT fun σ H Q h => ?_) rfl
    · cases es with
      | cons e es => obtain ⟨_, _, q, _⟩ := hp; cases q
      | nil =>
        obtain ⟨s, G, B, F, g, h⟩ := h
        intro p hp'
        obtain ⟨x, b1, bp⟩ := alloc_own (G := G) (o := .dT []) g.bh hp'
        refine h (.ref p) G B _ F [p] { good := g.alloc x g.gb b1, ext := Alloc.to x fun a z => ?_, own := ⟨p, [], [], rfl, ⟨upd_same, bp⟩, ⟨rfl, rfl⟩, rfl, trivial, rfl, List.nodup_nil⟩, nd := by simp, pl := fun q => by simp [isPl, isLook] at q, np := fun _ a ha z => ?_, pure := fun _ => ⟨rfl, rfl, fun a o z => x.keep a o z fun z => z⟩ }
        · rcases z with z | z
          · exact .inl z
          · rw [List.mem_singleton.1 z]; exact .inr hp'
        · rw [List.mem_singleton.1 ha] at z; exact (g.inF z).1 hp'
  | ix =>
    have main := ix_ok k hs hp
    unfold shape at hs
    simp only at hs
    split at hs
    · exact ⟨main, pt_default k main rfl⟩
    · cases hs
  | sl lo hi =>
    have main := sl_ok k hs hp
    unfold shape at hs
    simp only at hs
    split at hs
    · exact ⟨main, pt_default k main rfl⟩
    · cases hs
  | rev =>
    have main := rev_ok k hs hp
    unfold shape at hs
    simp only at hs
    split at hs
    · exact ⟨main, pt_default k main rfl⟩
    · cases hs
  | fld _ => cases hs
  | len =>
    exact fn_okT k hs hp (call_len.or call_lenR) PySem.boot_len (by decide) rfl rfl fun P h q => by
      obtain ⟨e, rfl⟩ := one_vs P h
      rw [eK]
      exact v_len P h q
  | list =>
    exact ty_okT k hs hp call_list_of PyProof.Rows.boot_list (by decide) rfl rfl fun P h q => by
      obtain ⟨e, rfl⟩ := one_vs P h
      rw [eK]
      exact v_list P h q
  | tuple =>
    exact ty_okT k hs hp call_tuple_of PyProof.Rows.boot_tuple (by decide) rfl rfl fun P h q => by
      obtain ⟨e, rfl⟩ := one_vs P h
      rw [eK]
      exact v_tuple P h q
  | int =>
    exact ty_okT k hs hp call_int1 PyProof.Rows.boot_int (by decide) rfl rfl fun P h q => by
      obtain ⟨e, rfl⟩ := one_vs P h
      exact v_int P h q
  | strI =>
    exact ty_okT k hs hp call_str_int PyProof.Rows.boot_str (by decide) rfl rfl fun P h q => by
      obtain ⟨e, rfl⟩ := one_vs P h
      exact v_strI P h q
  | sum =>
    exact fn_okT k hs hp (cr_sum k.calm) (by decide +kernel) (by decide) rfl rfl fun P h q => by
      obtain ⟨e, rfl⟩ := one_vs P h
      rw [eK]
      exact v_sum P h q
  | min2 =>
    exact fn_okT k hs hp (call_min2 k.calm) (by decide +kernel) (by decide) rfl rfl fun P h q => by
      obtain ⟨e, f, rfl⟩ := two_vs P h
      exact v_min2 P h q
  | max2 =>
    exact fn_okT k hs hp (call_max2 k.calm) (by decide +kernel) (by decide) rfl rfl fun P h q => by
      obtain ⟨e, f, rfl⟩ := two_vs P h
      exact v_max2 P h q
  | all =>
    exact fn_okT k hs hp (cr_all k.calm) (by decide +kernel) (by decide) rfl rfl fun P h q => by
      obtain ⟨e, rfl⟩ := one_vs P h
      rw [eK]
      exact v_all P h q
  | any =>
    exact fn_okT k hs hp (cr_any k.calm) (by decide +kernel) (by decide) rfl rfl fun P h q => by
      obtain ⟨e, rfl⟩ := one_vs P h
      rw [eK]
      exact v_any P h q
  | part => cases hs
  | find => cases hs
  | join => cases hs
  | divmod =>
    exact fn_okT k hs hp call_divmodW (by decide +kernel) (by decide) rfl rfl fun {G B H F U ds vs d Q} P h q => by
      obtain ⟨e, f, rfl⟩ := two_vs P h
      obtain ⟨d0, d1, rfl⟩ := len2 (vl_len P.vl)
      obtain ⟨v, w, fd, fd1, rfl, o0, o1⟩ := vl_two P.vl
      replace h : divmodD d0 d1 = some d := h
      unfold divmodD at h
      split at h
      · split at h <;> cases h
        rename_i hh
        obtain ⟨rfl, _⟩ := o0
        obtain ⟨rfl, _⟩ := o1
        exact ⟨_, _, rfl, divp_ok hh.1 hh.2, fun p hp => q.tupS P hp ⟨rfl, rfl⟩ ⟨_, _, [], [], rfl, rfl, ⟨rfl, rfl⟩, _, _, [], [], rfl, rfl, ⟨rfl, rfl⟩, rfl, rfl⟩⟩
      · cases h
  | intT =>
    exact ty_okT k hs hp call_int_str PyProof.Rows.boot_int (by decide) rfl rfl fun {G B H F U ds vs d Q} P h q => by
      obtain ⟨e, rfl⟩ := one_vs P h
      obtain ⟨d0, v, fd, rfl, rfl, o, _, _⟩ := P.one
      replace h : intTD d0 = some d := h
      unfold intTD at h
      split at h
      · rename_i a
        cases e2 : PySem.intText? a with
        | none => rw [e2] at h; cases h
        | some n =>
          rw [e2] at h
          replace h : (if a.length ≤ 640 then some (D.int n) else none) = some d := h
          split at h <;> cases h
          obtain ⟨rfl, _⟩ := o
          exact ⟨a, n, rfl, e2, ‹_›, q.now P ⟨rfl, rfl⟩⟩
      · cases h
  | rep => exact bin_okT k hs hp op_mul_str rfl fun P h q => v_rep P h q
  | isi t x tab =>
    have main := isi_ok k (hn t x tab rfl) hs hp
    unfold shape at hs
    simp only at hs
    split at hs
    · rename_i a' b' hc
      obtain ⟨_, _, _, rfl, _⟩ := btCall_some hc
      exact ⟨main, pt_default k main rfl⟩
    · cases hs
end
end TT
namespace TT
open PySem PySem.Spec PyProof.Rows L2
/-! ### calls of a def of the text, with what is raised wished for at the slots -/
section
variable {X : Cx} {CX : CXT} {k : Nat} {f : Addr} {fd : FuncData} {ps : List Str} {sp : Sp} {E : L2.St → XK} {x : Str} {p pos : Pos} {e : Expr} {es : List Expr} {ta : TE} {t : TA} {dvs : List V} {ds : List Value}
theorem run_fnD {pins : List (Addr × Obj)} {σ : L2.St} {H : Hp} {s : Shared} {Q : VK} {us : List Value} {vs : List V} (F : FnOk X.prog X.w X.K X.mg X.base CX k f fd ps sp) (hr : Room k X.A) (hb : Binds X.K fd ps ds) (hd : Vals dvs ds) (hx : PassesAt CX X σ (E σ))
    (I : Inv X pins σ H s) (r : Vals vs us) (h : sp (vs ++ dvs) H Q (E σ)) : wpAny (model X.prog X.w) X.A (call (.ref f) us) (EP X pins σ Q) X.xe s := by
  have r2 : Vals (vs ++ dvs) (us ++ ds) := r.append hd
  have hl : (us ++ ds).length = ps.length := by rw [← r2.length]; exact F.len _ _ _ _ h
  refine wpAny_call (codeAny_mono (F.run X.A X.stack s H ⟨us, []⟩ (us ++ ds) (vs ++ dvs) Q (E σ) hr I.env0 (hb s us I.kIn hl) r2 h) fun r s' hq => ?_)
  cases r with
  | error e => exact hx pins H s e s' I hq
  | ok fl =>
    cases fl with
    | ret u => exact I.after hq
    | next => exact False.elim hq
    | brk => exact False.elim hq
    | cont => exact False.elim hq
def tCallD (sp : Sp) (dvs : List V) (E : L2.St → XK) (t : TA) : TE := fun σ H Q => t σ H fun vs H1 => sp (vs ++ dvs) H1 Q (E σ)
theorem pe_callD (F : FnOk X.prog X.w X.K X.mg X.base CX k f fd ps sp) (hr : Room k X.A) (hg : Gl X x) (hm : X.mg x = some (.ref f)) (hk : PySem.W.keepIn X.K (.ref f) = true) (hb : Binds X.K fd ps ds) (hd : Vals dvs ds) (hx : ∀ σ, PassesAt CX X σ (E σ))
    (ha : PA X (e :: es) t) (hdb : (x == ("__debug__" : Str)) = false) (he : starEach (e :: es) X.env = (false, eval e X.env) :: starEach es X.env) (hpl : (backTo pos (starEach es X.env)).any (·.1) = false) :
    PE X (.Call (.Name x p) (e :: es) [] pos) (tCallD sp dvs E t) := by
  refine ⟨fun pins s σ H Q I h => ?_⟩
  refine wpAny_Call_Name_kw (ld_glob I hg hm ?_ hdb)
  refine PySem.W.callWith_K (h₀ := X.base) I.ok.mod.kin hk (thn (ha.run pos pins s σ H _ I h) fun us s1 ⟨vs, H1, I1, r, q⟩ => ⟨I1.kIn, ?_⟩) he hpl
  exact run_fnD F hr hb hd (hx σ) I1 r q
theorem pe_callD0 (F : FnOk X.prog X.w X.K X.mg X.base CX k f fd ps sp) (hr : Room k X.A) (hg : Gl X x) (hm : X.mg x = some (.ref f)) (hk : PySem.W.keepIn X.K (.ref f) = true) (hb : Binds X.K fd ps ds) (hd : Vals dvs ds) (hx : ∀ σ, PassesAt CX X σ (E σ))
    (hdb : (x == ("__debug__" : Str)) = false) : PE X (.Call (.Name x p) [] [] pos) (tCallD sp dvs E tNil) := by
  refine ⟨fun pins s σ H Q I h => ?_⟩
  refine wpAny_Call_Name_kw (ld_glob I hg hm ?_ hdb)
  exact PySem.W.callWith_K0 I.kIn hk (run_fnD (us := []) (vs := []) F hr hb hd (hx σ) I .nil h)
end
section
variable {X : Cx} {C : Gl0} {W : WX} {Γ : Gam}
theorem nm_pv (k : CxOk C Γ X) {i : Nat} {a : Expr} (h : nmB Γ i a = true) : PE X a (tVar i) := by
  unfold nmB at h
  split at h
  · rename_i x pos
    unfold dbgB at h
    simp only [Bool.and_eq_true, decide_eq_true_eq, Bool.not_eq_true'] at h
    obtain ⟨⟨h1, h2⟩, h3, h4⟩ := h
    refine pe_var (by rw [k.N]; exact h1) ?_ h3 h4
    unfold Vis
    rw [k.sc]
    unfold visB at h2
    split at h2
    · exact .inl ‹_›
    · exact .inr (.inl ‹_›)
    · exact .inr (.inr ‹_›)
    · cases h2
  · cases h
theorem nm_plain {Γ : Gam} {i : Nat} {a : Expr} (h : nmB Γ i a = true) : tstPlain a = true := by
  unfold nmB at h
  split at h
  · rfl
  · cases h
theorem call_ok {f : FE} {es : List E} {as : List Expr} {x : Str} {p pos : Pos} (k : CxOk C Γ X) (tk : Takes X W) (hn : NdOk C X (.fe f)) (hx : x = f.name) (hg : glB Γ.sc x = true) (hlv : f.lv ≤ Γ.lv) (hm : f.m = false) (hl : es.length ≤ f.np) (hl2 : f.np ≤ es.length + f.dfl.length) (hp : PEL X C W es as) :
    PE X (.Call (.Name x p) as [] pos) (tE C W (.call f es)) := by
  obtain ⟨a, fd, ps, dV, dv, h1, h2, F⟩ := hn
  subst hx
  obtain ⟨g1, g2⟩ := k.gl hg
  have hd : Vals (dV.drop (f.dfl.length - (f.np - es.length))) (dv.drop (f.dfl.length - (f.np - es.length))) := F.dr.drop _
  cases es with
  | nil =>
    obtain rfl : as = [] := hp
    refine pe_imp (pe_callD0 F.ok (k.room.mono hlv) g1 h1 h2 (F.bd _) hd (passAt tk) g2) fun σ H Q h => ?_
    exact (call_step hm hl hl2 F.dl F.do_ h).nil
  | cons e es =>
    obtain ⟨a0, ar, rfl, n1, _, _, h3⟩ := id hp
    exact pe_imp (pe_callD F.ok (k.room.mono hlv) g1 h1 h2 (F.bd _) hd (passAt tk) (pa_of hp) g2 (star_ok n1) (stars_ok h3 _ _)) fun σ H Q h => call_step hm hl hl2 F.dl F.do_ h
/-! ### and, or -/
theorem evE_and1 (e : E) (s : List D) : evE (.band [e]) s = evE e s := rfl
theorem evE_or1 (e : E) (s : List D) : evE (.bor [e]) s = evE e s := rfl
theorem same_run {e e' : E} {σ : L2.St} {H : Hp} {Q : VK} (hr : ∀ s, evE e s = evE e' s) (h1 : isPl e = false) (h2 : isPl e' = false) (h3 : eff e = eff e') (h : tE C W e σ H Q) : tE C W e' σ H Q := by
  obtain ⟨s, G, B, F, g, h⟩ := h
  refine ⟨s, G, B, F, g, ?_⟩
  rw [← hr]
  cases e1 : evE e s with
  | bad => rw [e1] at h; exact h
  | exc c fs xs s' => rw [e1] at h; exact h
  | ok d s1 =>
    rw [e1] at h
    exact fun v G1 B1 H1 F1 fd p => h v G1 B1 H1 F1 fd { good := p.good, ext := p.ext, own := p.own, nd := p.nd, pl := (fun q => by rw [h1] at q; cases q), np := (fun _ => p.np h2), pure := fun q => p.pure (by rw [← h3]; exact q) }
theorem same_tst {e e' : E} {σ : L2.St} {H : Hp} {Q : Bool → Hp → Prop} (hr : ∀ s, evE e s = evE e' s) (h1 : isPl e = false) (h2 : isPl e' = false) (h3 : eff e = eff e') (h : tTst C W e σ H Q) : tTst C W e' σ H Q := by
  obtain ⟨s, G, B, F, g, h⟩ := h
  refine ⟨s, G, B, F, g, ?_⟩
  rw [← hr]
  cases e1 : evE e s with
  | bad => rw [e1] at h; exact h
  | exc c fs xs s' => rw [e1] at h; exact h
  | ok d s1 =>
    rw [e1] at h
    obtain ⟨b, hb, h⟩ := h
    exact ⟨b, hb, fun v G1 B1 H1 F1 fd p => h v G1 B1 H1 F1 fd { good := p.good, ext := p.ext, own := p.own, nd := p.nd, pl := (fun q => by rw [h1] at q; cases q), np := (fun _ => p.np h2), pure := fun q => p.pure (by rw [← h3]; exact q) }⟩
/-- one expression, then what stands behind it: the second is run from the first one's end -/
theorem PostE.trans {σ : L2.St} {a b e : E} {G B H G1 B1 H1 G2 B2 H2 : Hp} {F F1 F2 : Fp} {s s1 s2 : List D} {d d2 : D} {v v2 : V} {fd fd2 : List Addr} (p : PostE C σ a G B H F s d s1 v G1 B1 H1 F1 fd) (q : PostE C σ b G1 B1 H1 F1 s1 d2 s2 v2 G2 B2 H2 F2 fd2)
    (hb : isPl b = false) (he : isPl e = false) (hf : eff e = false → eff a = false ∧ eff b = false) : PostE C σ e G B H F s d2 s2 v2 G2 B2 H2 F2 fd2 where
  good := q.good
  ext := (p.ext.imp (fun _ z => z) fun a z => .inl (.inl z)).trans q.ext
  own := q.own
  nd := q.nd
  pl := fun z => by rw [he] at z; cases z
  np := fun _ => q.np hb
  pure := fun z => by
    obtain ⟨e1, e2, k1⟩ := p.pure (hf z).1
    obtain ⟨e3, e4, k2⟩ := q.pure (hf z).2
    exact ⟨e3.trans e1, e4.trans e2, fun a o w => k2 a o (k1 a o w)⟩
theorem bl_now {σ : L2.St} {a e : E} {G B H G1 B1 H1 : Hp} {F F1 : Fp} {s s1 : List D} {d : D} {v : V} {fd : List Addr} {c : Bool} (p : PostE C σ a G B H F s d s1 v G1 B1 H1 F1 fd) (he : isPl e = false) (hf : eff e = false → eff a = false) : PostE C σ e G B H F s (.bl c) s1 (.bl c) G1 B1 H1 F1 [] where
  good := p.good
  ext := p.ext.imp (fun _ z => z) fun a z => .inl (z.elim .inl fun z => nomatch z)
  own := ⟨rfl, rfl⟩
  nd := List.nodup_nil
  pl := fun z => by rw [he] at z; cases z
  np := fun _ _ z => nomatch z
  pure := fun z => p.pure (hf z)
theorem effs_two {e f : E} {es : List E} (z : effs (e :: f :: es) = false) : eff e = false ∧ effs (f :: es) = false := by
  simp only [effs, Bool.or_eq_false_iff] at z ⊢
  exact ⟨z.1, z.2⟩
theorem and_cs {e f : E} {es : List E} {σ : L2.St} {H : Hp} {Q : VK} (h : tE C W (.band (e :: f :: es)) σ H Q) : tAndV (tE C W e) (tE C W (.band (f :: es))) σ H Q := by
  obtain ⟨s, G, B, F, g, h⟩ := h
  refine ⟨s, G, B, F, g, ?_⟩
  have h : outE C W σ (.band (e :: f :: es)) G B H F s ((evE e s).bind fun d s1 => match d with
    | .bl true => evAnd (f :: es) s1
    | .bl false => .ok (.bl false) s1
    | _ => .bad) Q := by unfold evE evAnd at h; exact h
  cases e1 : evE e s with
  | bad => rw [e1] at h; exact h
  | exc c fs xs s' => rw [e1] at h; exact h
  | ok d s1 =>
    rw [e1] at h
    intro v G1 B1 H1 F1 fd p
    have h : outE C W σ (.band (e :: f :: es)) G B H F s (match (generalizing := false) d with
      | .bl true => evAnd (f :: es) s1
      | .bl false => .ok (.bl false) s1
      | _ => .bad) Q := h
    split at h
    · refine ⟨true, p.own.1, ?_⟩
      rw [if_pos rfl]
      refine ⟨s1, G1, B1, F1, p.good, ?_⟩
      show outE C W σ (.band (f :: es)) G1 B1 H1 F1 s1 (evAnd (f :: es) s1) Q
      cases e2 : evAnd (f :: es) s1 with
      | bad => rw [e2] at h; exact h
      | exc c fs xs s' => rw [e2] at h; exact outX.from p.ext (fun a z => .inl z) h
      | ok d2 s2 =>
        rw [e2] at h
        exact fun v2 G2 B2 H2 F2 fd2 q => h v2 G2 B2 H2 F2 fd2 (p.trans q rfl rfl fun z => effs_two z)
    · refine ⟨false, p.own.1, ?_⟩
      rw [if_neg (by decide)]
      exact h (.bl false) G1 B1 H1 F1 [] (bl_now p rfl fun z => (effs_two z).1)
    · exact h.elim
theorem or_cs {e f : E} {es : List E} {σ : L2.St} {H : Hp} {Q : VK} (h : tE C W (.bor (e :: f :: es)) σ H Q) : tOrV (tE C W e) (tE C W (.bor (f :: es))) σ H Q := by
  obtain ⟨s, G, B, F, g, h⟩ := h
  refine ⟨s, G, B, F, g, ?_⟩
  have h : outE C W σ (.bor (e :: f :: es)) G B H F s ((evE e s).bind fun d s1 => match d with
    | .bl false => evOr (f :: es) s1
    | .bl true => .ok (.bl true) s1
    | _ => .bad) Q := by unfold evE evOr at h; exact h
  cases e1 : evE e s with
  | bad => rw [e1] at h; exact h
  | exc c fs xs s' => rw [e1] at h; exact h
  | ok d s1 =>
    rw [e1] at h
    intro v G1 B1 H1 F1 fd p
    have h : outE C W σ (.bor (e :: f :: es)) G B H F s (match (generalizing := false) d with
      | .bl false => evOr (f :: es) s1
      | .bl true => .ok (.bl true) s1
      | _ => .bad) Q := h
    split at h
    · refine ⟨false, p.own.1, ?_⟩
      rw [if_neg (by decide)]
      refine ⟨s1, G1, B1, F1, p.good, ?_⟩
      show outE C W σ (.bor (f :: es)) G1 B1 H1 F1 s1 (evOr (f :: es) s1) Q
      cases e2 : evOr (f :: es) s1 with
      | bad => rw [e2] at h; exact h
      | exc c fs xs s' => rw [e2] at h; exact outX.from p.ext (fun a z => .inl z) h
      | ok d2 s2 =>
        rw [e2] at h
        exact fun v2 G2 B2 H2 F2 fd2 q => h v2 G2 B2 H2 F2 fd2 (p.trans q rfl rfl fun z => effs_two z)
    · refine ⟨true, p.own.1, ?_⟩
      rw [if_pos rfl]
      exact h (.bl true) G1 B1 H1 F1 [] (bl_now p rfl fun z => (effs_two z).1)
    · exact h.elim
theorem and_csT {e f : E} {es : List E} {σ : L2.St} {H : Hp} {Q : Bool → Hp → Prop} (h : tTst C W (.band (e :: f :: es)) σ H Q) : tAnd (tTst C W e) (tTst C W (.band (f :: es))) σ H Q := by
  obtain ⟨s, G, B, F, g, h⟩ := h
  refine ⟨s, G, B, F, g, ?_⟩
  have h : outT C W σ (.band (e :: f :: es)) G B H F s ((evE e s).bind fun d s1 => match d with
    | .bl true => evAnd (f :: es) s1
    | .bl false => .ok (.bl false) s1
    | _ => .bad) Q := by unfold evE evAnd at h; exact h
  cases e1 : evE e s with
  | bad => rw [e1] at h; exact h
  | exc c fs xs s' => rw [e1] at h; exact h
  | ok d s1 =>
    rw [e1] at h
    have h : outT C W σ (.band (e :: f :: es)) G B H F s (match (generalizing := false) d with
      | .bl true => evAnd (f :: es) s1
      | .bl false => .ok (.bl false) s1
      | _ => .bad) Q := h
    split at h
    · refine ⟨true, rfl, fun v G1 B1 H1 F1 fd p => ?_⟩
      refine iteT ?_
      refine ⟨s1, G1, B1, F1, p.good, ?_⟩
      show outT C W σ (.band (f :: es)) G1 B1 H1 F1 s1 (evAnd (f :: es) s1) Q
      cases e2 : evAnd (f :: es) s1 with
      | bad => rw [e2] at h; exact h
      | exc c fs xs s' => rw [e2] at h; exact outX.from p.ext (fun a z => .inl z) h
      | ok d2 s2 =>
        rw [e2] at h
        obtain ⟨b, hb, h⟩ := h
        exact ⟨b, hb, fun v2 G2 B2 H2 F2 fd2 q => h v2 G2 B2 H2 F2 fd2 (p.trans q rfl rfl fun z => effs_two z)⟩
    · obtain ⟨b, hb, h⟩ := h
      cases hb
      refine ⟨false, rfl, fun v G1 B1 H1 F1 fd p => ?_⟩
      refine iteF ?_
      exact h (.bl false) G1 B1 H1 F1 [] (bl_now p rfl fun z => (effs_two z).1)
    · exact h.elim
theorem or_csT {e f : E} {es : List E} {σ : L2.St} {H : Hp} {Q : Bool → Hp → Prop} (h : tTst C W (.bor (e :: f :: es)) σ H Q) : tOr (tTst C W e) (tTst C W (.bor (f :: es))) σ H Q := by
  obtain ⟨s, G, B, F, g, h⟩ := h
  refine ⟨s, G, B, F, g, ?_⟩
  have h : outT C W σ (.bor (e :: f :: es)) G B H F s ((evE e s).bind fun d s1 => match d with
    | .bl false => evOr (f :: es) s1
    | .bl true => .ok (.bl true) s1
    | _ => .bad) Q := by unfold evE evOr at h; exact h
  cases e1 : evE e s with
  | bad => rw [e1] at h; exact h
  | exc c fs xs s' => rw [e1] at h; exact h
  | ok d s1 =>
    rw [e1] at h
    have h : outT C W σ (.bor (e :: f :: es)) G B H F s (match (generalizing := false) d with
      | .bl false => evOr (f :: es) s1
      | .bl true => .ok (.bl true) s1
      | _ => .bad) Q := h
    split at h
    · refine ⟨false, rfl, fun v G1 B1 H1 F1 fd p => ?_⟩
      refine iteF ?_
      refine ⟨s1, G1, B1, F1, p.good, ?_⟩
      show outT C W σ (.bor (f :: es)) G1 B1 H1 F1 s1 (evOr (f :: es) s1) Q
      cases e2 : evOr (f :: es) s1 with
      | bad => rw [e2] at h; exact h
      | exc c fs xs s' => rw [e2] at h; exact outX.from p.ext (fun a z => .inl z) h
      | ok d2 s2 =>
        rw [e2] at h
        obtain ⟨b, hb, h⟩ := h
        exact ⟨b, hb, fun v2 G2 B2 H2 F2 fd2 q => h v2 G2 B2 H2 F2 fd2 (p.trans q rfl rfl fun z => effs_two z)⟩
    · obtain ⟨b, hb, h⟩ := h
      cases hb
      refine ⟨true, rfl, fun v G1 B1 H1 F1 fd p => ?_⟩
      refine iteT ?_
      exact h (.bl true) G1 B1 H1 F1 [] (bl_now p rfl fun z => (effs_two z).1)
    · exact h.elim
end
end TT
namespace TT
open PySem PySem.Spec PyProof.Rows L2
section
variable {X : Cx} {C : Gl0} {W : WX} {Γ : Gam}
abbrev Both (X : Cx) (C : Gl0) (W : WX) (e : E) (a : Expr) : Prop := PE X a (tE C W e) ∧ (tstB a = true → PT X a (tTst C W e))
theorem Both.of {e : E} {a : Expr} (k : CxOk C Γ X) (h : PE X a (tE C W e)) (p : tstPlain a = true) : Both X C W e a := ⟨h, fun _ => pt_default k h p⟩
def BL (X : Cx) (C : Gl0) (W : WX) : List E → List Expr → Prop
  | [], as => as = []
  | e :: es, as => ∃ a ar, as = a :: ar ∧ notStar a = true ∧ (isPl e = true → effs es = false) ∧ Both X C W e a ∧ BL X C W es ar
theorem BL.pel : ∀ {es : List E} {as : List Expr}, BL X C W es as → PEL X C W es as
  | [], _, h => h
  | _ :: _, _, h => by
    obtain ⟨a, ar, rfl, n, p, b, h⟩ := h
    exact ⟨a, ar, rfl, n, p, b.1, h.pel⟩
theorem c_ok {a : Expr} {d : D} {v : V} (o : ∀ G B H, Own C G B H d v []) (p : PE X a (tC v)) : PE X a (tE C W (.c d)) :=
  pe_imp p fun σ H Q z => tE_now (e := .c d) (d := d) (fun _ => rfl) rfl o z
theorem cst_ok {d : D} {c : Const} {j : Nat} {pos : Pos} (h : cstB d c = true) : PE X (.Constant c j pos) (tE C W (.c d)) := by
  unfold cstB at h
  split at h
  · simp only [decide_eq_true_eq] at h; subst h
    exact c_ok (v := .int _) (fun _ _ _ => ⟨rfl, rfl⟩) pe_int
  · simp only [decide_eq_true_eq] at h; subst h
    exact c_ok (v := .str _) (fun _ _ _ => ⟨rfl, rfl⟩) pe_str
  · have h := eq_of_beq h; subst h
    exact c_ok (v := .bl _) (fun _ _ _ => ⟨rfl, rfl⟩) pe_bl
  · exact c_ok (v := .non) (fun _ _ _ => ⟨rfl, rfl⟩) pe_non
  · cases h
theorem tstB_not {a : Expr} {pos : Pos} : tstB (.UnaryOp .Not a pos) = true := rfl
theorem not_cs {e : E} {σ : L2.St} {H : Hp} {Q : Bool → Hp → Prop} (h : tTst C W (.op .not [e]) σ H Q) : tNot (tTst C W e) σ H Q := by
  obtain ⟨s, G, B, F, g, h⟩ := h
  refine ⟨s, G, B, F, g, ?_⟩
  have h : outT C W σ (.op .not [e]) G B H F s ((evEs [e] s).bind fun ds s1 => R.of (opD .not ds) s1) Q := by unfold evE at h; exact h
  unfold evEs evEs at h
  cases e1 : evE e s with
  | bad => rw [e1] at h; exact h
  | exc c fs xs s' => rw [e1] at h; exact h
  | ok d s1 =>
    rw [e1] at h
    have h : outT C W σ (.op .not [e]) G B H F s (R.of (notD d) s1) Q := h
    unfold notD at h
    split at h
    · rename_i b _
      obtain ⟨b', hb, h⟩ := h
      cases hb
      refine ⟨b, rfl, fun v G1 B1 H1 F1 fd p => h (.bl (!b)) G1 B1 H1 F1 [] (bl_now p rfl fun z => by simpa [eff, effs] using z)⟩
    · exact h.elim
theorem not_pe {e : E} {a : Expr} {pos : Pos} (h : PE X a (tE C W e)) : PE X (.UnaryOp .Not a pos) (tE C W (.op .not [e])) :=
  pe_imp (pe_not h) fun σ H Q z => t_one (op_step z fun ds vs G1 B1 H1 F1 U d P e1 q => v_not P e1 q)
theorem ite_cs {c a b : E} {σ : L2.St} {H : Hp} {Q : VK} (ha : isPl a = false) (hb : isPl b = false) (h : tE C W (.ite c a b) σ H Q) : tIf (tTst C W c) (tE C W a) (tE C W b) σ H Q := by
  obtain ⟨s, G, B, F, g, h⟩ := h
  refine ⟨s, G, B, F, g, ?_⟩
  have h : outE C W σ (.ite c a b) G B H F s ((evE c s).bind fun d s1 => match truth d with
    | some true => evE a s1
    | some false => evE b s1
    | none => .bad) Q := by unfold evE at h; exact h
  cases e1 : evE c s with
  | bad => rw [e1] at h; exact h
  | exc c fs xs s' => rw [e1] at h; exact h
  | ok d s1 =>
    rw [e1] at h
    have h : outE C W σ (.ite c a b) G B H F s (match (generalizing := false) truth d with
      | some true => evE a s1
      | some false => evE b s1
      | none => .bad) Q := h
    cases e2 : truth d with
    | none => rw [e2] at h; exact h.elim
    | some t =>
      rw [e2] at h
      refine ⟨t, e2, fun v G1 B1 H1 F1 fd p => ?_⟩
      have ef : eff (.ite c a b) = false → eff c = false ∧ eff a = false ∧ eff b = false := fun z => by
        simp only [eff, Bool.or_eq_false_iff] at z
        exact ⟨z.1.1, z.1.2, z.2⟩
      cases t with
      | true =>
        refine iteT ?_
        refine ⟨s1, G1, B1, F1, p.good, ?_⟩
        have h : outE C W σ (.ite c a b) G B H F s (evE a s1) Q := h
        cases e3 : evE a s1 with
        | bad => rw [e3] at h; exact h
        | exc c fs xs s' => rw [e3] at h; exact outX.from p.ext (fun a z => .inl z) h
        | ok d2 s2 =>
          rw [e3] at h
          exact fun v2 G2 B2 H2 F2 fd2 q => h v2 G2 B2 H2 F2 fd2 (p.trans q ha rfl fun z => ⟨(ef z).1, (ef z).2.1⟩)
      | false =>
        refine iteF ?_
        refine ⟨s1, G1, B1, F1, p.good, ?_⟩
        have h : outE C W σ (.ite c a b) G B H F s (evE b s1) Q := h
        cases e3 : evE b s1 with
        | bad => rw [e3] at h; exact h
        | exc c fs xs s' => rw [e3] at h; exact outX.from p.ext (fun a z => .inl z) h
        | ok d2 s2 =>
          rw [e3] at h
          exact fun v2 G2 B2 H2 F2 fd2 q => h v2 G2 B2 H2 F2 fd2 (p.trans q hb rfl fun z => ⟨(ef z).1, (ef z).2.2⟩)
/-- a < b < c -/
theorem chain_cs {o1 o2 : Op} {a b c : E} {p1 p2 : Int → Int → Bool} {σ : L2.St} {H : Hp} {Q : VK} (h1 : ordP o1 = some p1) (h2 : ordP o2 = some p2) (ha : isPl a = false) (hb : isPl b = false) (hc : isPl c = false) (h : tE C W (.chain o1 o2 a b c) σ H Q) :
    tChain (rI0 fun i j => .bl (p1 i j)) (rI0 fun i j => .bl (p2 i j)) (tE C W a) (tE C W b) (tE C W c) σ H Q := by
  obtain ⟨s, G, B, F, g, h⟩ := h
  refine ⟨s, G, B, F, g, ?_⟩
  replace h : outE C W σ (.chain o1 o2 a b c) G B H F s ((evE a s).bind fun x s1 => (evE b s1).bind fun y s2 => match ordD o1 x y with
    | some true => (evE c s2).bind fun z s3 => R.of ((ordD o2 y z).map .bl) s3
    | some false => .ok (.bl false) s2
    | none => .bad) Q := by unfold evE at h; exact h
  cases e1 : evE a s with
  | bad => rw [e1] at h; exact h
  | exc c fs xs s' => rw [e1] at h; exact h
  | ok x s1 =>
    rw [e1] at h
    intro v G1 B1 H1 F1 fd p
    refine ⟨s1, G1, B1, F1, p.good, ?_⟩
    replace h : outE C W σ (.chain o1 o2 a b c) G B H F s ((evE b s1).bind fun y s2 => match ordD o1 x y with
      | some true => (evE c s2).bind fun z s3 => R.of ((ordD o2 y z).map .bl) s3
      | some false => .ok (.bl false) s2
      | none => .bad) Q := h
    cases e2 : evE b s1 with
    | bad => rw [e2] at h; exact h
    | exc c fs xs s' => rw [e2] at h; exact outX.from p.ext (fun a z => .inl z) h
    | ok y s2 =>
      rw [e2] at h
      intro w G2 B2 H2 F2 fd2 q
      have pq : PostE C σ (.chain o1 o2 a b c) G B H F s y s2 w G2 B2 H2 F2 fd2 := p.trans q hb rfl fun z => by
        simp only [eff, Bool.or_eq_false_iff] at z
        exact ⟨z.1, z.2.1⟩
      replace h : outE C W σ (.chain o1 o2 a b c) G B H F s (match (generalizing := false) ordD o1 x y with
        | some true => (evE c s2).bind fun z s3 => R.of ((ordD o2 y z).map .bl) s3
        | some false => .ok (.bl false) s2
        | none => .bad) Q := h
      cases x <;> (try (simp only [ordD, h1] at h; exact h.elim))
      rename_i i
      cases y <;> (try (simp only [ordD, h1] at h; exact h.elim))
      rename_i j
      refine ⟨i, j, p.own.1, q.own.1, p1 i j, rfl, ?_⟩
      have eo : ordD o1 (.int i) (.int j) = some (p1 i j) := by simp only [ordD, h1]
      rw [eo] at h
      cases hp : p1 i j with
      | false =>
        rw [hp] at h
        rw [if_neg (by decide)]
        exact h (.bl false) G2 B2 H2 F2 [] (bl_now pq rfl id)
      | true =>
        rw [hp] at h
        rw [if_pos rfl]
        refine ⟨s2, G2, B2, F2, q.good, ?_⟩
        replace h : outE C W σ (.chain o1 o2 a b c) G B H F s ((evE c s2).bind fun z s3 => R.of ((ordD o2 (.int j) z).map .bl) s3) Q := h
        cases e3 : evE c s2 with
        | bad => rw [e3] at h; exact h
        | exc c fs xs s' => rw [e3] at h; exact outX.from pq.ext (fun a z => .inl z) h
        | ok z s3 =>
          rw [e3] at h
          intro u G3 B3 H3 F3 fd3 r
          replace h : outE C W σ (.chain o1 o2 a b c) G B H F s (R.of ((ordD o2 (.int j) z).map .bl) s3) Q := h
          cases z <;> (try (simp only [ordD, h2] at h; exact h.elim))
          rename_i k
          have eo2 : ordD o2 (.int j) (.int k) = some (p2 j k) := by simp only [ordD, h2]
          rw [eo2] at h
          have pqr : PostE C σ (.chain o1 o2 a b c) G B H F s (.int k) s3 u G3 B3 H3 F3 fd3 := pq.trans r hc rfl fun z => by
            have z' := z
            simp only [eff, Bool.or_eq_false_iff] at z'
            exact ⟨z, z'.2.2⟩
          exact ⟨j, k, q.own.1, r.own.1, h _ G3 B3 H3 F3 [] (bl_now pqr rfl id)⟩
theorem ord_okR {o : Op} {p : CmpOp} (h : ordO o = some p) : ∃ f, ordP o = some f ∧ OpR X (compareOp p) (rI0 fun i j => .bl (f i j)) := by
  cases o <;> simp only [ordO] at h <;> cases h
  · exact ⟨_, rfl, op_lt⟩
  · exact ⟨_, rfl, op_le⟩
  · exact ⟨_, rfl, op_gt⟩
  · exact ⟨_, rfl, op_ge⟩
theorem chain_bl {o1 o2 : Op} {a b c : E} (s : List D) (d : D) (s' : List D) (h : evE (.chain o1 o2 a b c) s = .ok d s') : ∃ b, d = .bl b := by
  unfold evE at h
  cases e1 : evE a s with
  | bad => rw [e1] at h; cases h
  | exc c fs xs s' => rw [e1] at h; cases h
  | ok x s1 =>
    rw [e1] at h
    replace h : ((evE b s1).bind fun y s2 => match ordD o1 x y with
      | some true => (evE c s2).bind fun z s3 => R.of ((ordD o2 y z).map D.bl) s3
      | some false => R.ok (D.bl false) s2
      | none => R.bad) = R.ok d s' := h
    cases e2 : evE b s1 with
    | bad => rw [e2] at h; cases h
    | exc c fs xs s' => rw [e2] at h; cases h
    | ok y s2 =>
      rw [e2] at h
      replace h : (match ordD o1 x y with
        | some true => (evE c s2).bind fun z s3 => R.of ((ordD o2 y z).map D.bl) s3
        | some false => R.ok (D.bl false) s2
        | none => R.bad) = R.ok d s' := h
      split at h
      · cases e3 : evE c s2 with
        | bad => rw [e3] at h; cases h
        | exc c fs xs s' => rw [e3] at h; cases h
        | ok z s3 =>
          rw [e3] at h
          replace h : R.of ((ordD o2 y z).map D.bl) s3 = R.ok d s' := h
          cases e4 : ordD o2 y z with
          | none => rw [e4] at h; cases h
          | some b => rw [e4] at h; cases h; exact ⟨b, rfl⟩
      · cases h; exact ⟨false, rfl⟩
      · cases h
theorem chain_ok {o1 o2 : Op} {a b c : E} {x y z : Expr} {p1 p2 : CmpOp} {pos : Pos} (h1 : ordO o1 = some p1) (h2 : ordO o2 = some p2) (ny : notSet y = true) (nz : notSet z = true) (ha : PE X x (tE C W a)) (hb : PE X y (tE C W b)) (hc : PE X z (tE C W c)) (la : isPl a = false) (lb : isPl b = false) (lc : isPl c = false) :
    PE X (.Compare x [p1, p2] [y, z] pos) (tE C W (.chain o1 o2 a b c)) ∧ PT X (.Compare x [p1, p2] [y, z] pos) (tTst C W (.chain o1 o2 a b c)) := by
  obtain ⟨f1, e1, r1⟩ := ord_okR (X := X) h1
  obtain ⟨f2, e2, r2⟩ := ord_okR (X := X) h2
  have hm : lastMarks [p1, p2] [y, z] = false := by cases o2 <;> simp only [ordO] at h2 <;> cases h2 <;> (unfold lastMarks lastMarks behindInMarks; cases z <;> first | rfl | exact (Bool.false_ne_true nz).elim)
  exact ⟨pe_imp (pe_chain r1 r2 ha hb hc (hm := hm)) fun σ H Q q => chain_cs e1 e2 la lb lc q, pt_imp (pt_chain r1 r2 ha hb hc (hm := hm)) fun σ H Q q => chain_cs e1 e2 la lb lc (q.bl chain_bl)⟩
theorem tstB_mem {es : List E} {as : List Expr} (h : BL X C W es as) : True := trivial
theorem and_ok {pos : Pos} : ∀ {es : List E} {as : List Expr}, es ≠ [] → (∀ e ∈ es, isPl e = false) → (∀ a ∈ as, tstB a = true) → BL X C W es as → PE X (.BoolOp .And as pos) (tE C W (.band es)) ∧ PW X (.BoolOp .And as pos) (tTst C W (.band es))
  | [], _, n, _, _, _ => absurd rfl n
  | [e], _, _, k, t, h => by
    obtain ⟨a, ar, rfl, _, _, b, h⟩ := h
    obtain rfl : ar = [] := h
    have he := k e List.mem_cons_self
    refine ⟨pe_imp (pe_one b.1) fun σ H Q z => same_run (e := .band [e]) (e' := e) (fun s => rfl) rfl he (by simp [eff, effs]) z, ?_⟩
    have q := pw_and1 (pos := pos) (b.2 (t a List.mem_cons_self))
    exact ⟨fun wh pins s σ H Q I z => q.run wh pins s σ H Q I (same_tst (e := .band [e]) (e' := e) (fun s => rfl) rfl he (by simp [eff, effs]) z)⟩
  | e :: f :: es, _, _, k, t, h => by
    obtain ⟨a, ar, rfl, _, _, b, h⟩ := h
    have r := and_ok (pos := pos) (by simp) (fun x hx => k x (List.mem_cons_of_mem _ hx)) (fun x hx => t x (List.mem_cons_of_mem _ hx)) h
    obtain ⟨a2, ar2, rfl, _⟩ := id h
    refine ⟨pe_imp (pe_and b.1 r.1) fun σ H Q z => and_cs z, ?_⟩
    have q := pw_and (pos := pos) (b.2 (t a List.mem_cons_self)) r.2
    exact ⟨fun wh pins s σ H Q I z => q.run wh pins s σ H Q I (and_csT z)⟩
theorem or_ok {pos : Pos} : ∀ {es : List E} {as : List Expr}, es ≠ [] → (∀ e ∈ es, isPl e = false) → (∀ a ∈ as, tstB a = true) → BL X C W es as → PE X (.BoolOp .Or as pos) (tE C W (.bor es)) ∧ PW X (.BoolOp .Or as pos) (tTst C W (.bor es))
  | [], _, n, _, _, _ => absurd rfl n
  | [e], _, _, k, t, h => by
    obtain ⟨a, ar, rfl, _, _, b, h⟩ := h
    obtain rfl : ar = [] := h
    have he := k e List.mem_cons_self
    refine ⟨pe_imp (pe_one b.1) fun σ H Q z => same_run (e := .bor [e]) (e' := e) (fun s => rfl) rfl he (by simp [eff, effs]) z, ?_⟩
    have q := pw_or1 (pos := pos) (b.2 (t a List.mem_cons_self))
    exact ⟨fun wh pins s σ H Q I z => q.run wh pins s σ H Q I (same_tst (e := .bor [e]) (e' := e) (fun s => rfl) rfl he (by simp [eff, effs]) z)⟩
  | e :: f :: es, _, _, k, t, h => by
    obtain ⟨a, ar, rfl, _, _, b, h⟩ := h
    have r := or_ok (pos := pos) (by simp) (fun x hx => k x (List.mem_cons_of_mem _ hx)) (fun x hx => t x (List.mem_cons_of_mem _ hx)) h
    obtain ⟨a2, ar2, rfl, _⟩ := id h
    refine ⟨pe_imp (pe_or b.1 r.1) fun σ H Q z => or_cs z, ?_⟩
    have q := pw_or (pos := pos) (b.2 (t a List.mem_cons_self)) r.2
    exact ⟨fun wh pins s σ H Q I z => q.run wh pins s σ H Q I (or_csT z)⟩
theorem all_tst {as : List Expr} (h : as.all tstB = true) : ∀ a ∈ as, tstB a = true := by simpa using h
theorem nmB_all {i : Nat} {a : Expr} (k : CxOk C Γ X) (h : nmB Γ i a = true) : PE X a (tVar i) ∧ tstPlain a = true := ⟨nm_pv k h, nm_plain h⟩
/-- THE LOOK IS SOUND: expressions -/
theorem gl_ok {x : Str} {d : D} {pos : Pos} (k : CxOk C Γ X) (hn : NdOk C X (.gl x d)) (hg : glB Γ.sc x = true) : PE X (.Name x pos) (tE C W (.gl x d)) := by
  obtain ⟨h0, h1, v, u, hm, r, o⟩ := hn
  obtain ⟨g1, g2⟩ := k.gl hg
  exact pe_imp (pe_glob g1 hm r g2) fun σ H Q z => tE_now (e := .gl x d) (fun _ => rfl) rfl o z
end
end TT
namespace TT
open PySem PySem.Spec PyProof.Rows L2
/-- the first parameter's slot stays -/
def Prot (m : Bool) (σ σ' : L2.St) : Prop := m = true → σ'[0]? = σ[0]?
theorem Prot.refl {m : Bool} {σ : L2.St} : Prot m σ σ := fun _ => rfl
theorem Prot.trans {m : Bool} {σ σ1 σ2 : L2.St} (a : Prot m σ σ1) (b : Prot m σ1 σ2) : Prot m σ σ2 := fun h => (b h).trans (a h)
theorem Prot.set {m : Bool} {σ : L2.St} {i : Nat} {v : Option V} (h : (m && decide (i = 0)) = false) : Prot m σ (σ.set i v) := fun hm => by
  subst hm
  have : i ≠ 0 := by simpa using h
  rw [List.getElem?_set_ne this]
structure PostS (C : Gl0) (m : Bool) (σ : L2.St) (G B H : Hp) (F : Fp) (s' : List D) (σ' : L2.St) (G' B' H' : Hp) (F' : Fp) : Prop where
  good : Good C G' B' H' F' s' σ'
  ext : Ext G B H (inF F) G' B' H' (inF F')
  pr : Prot m σ σ'
structure PostV (C : Gl0) (m : Bool) (σ : L2.St) (G B H : Hp) (F : Fp) (d : D) (s' : List D) (v : V) (σ' : L2.St) (G' B' H' : Hp) (F' : Fp) (fd : List Addr) : Prop where
  good : Good C G' B' H' F' s' σ'
  ext : Ext G B H (inF F) G' B' H' (fun a => inF F' a ∨ a ∈ fd)
  own : Own C G' B' H' d v fd
  nd : fd.Nodup
  np : ∀ a ∈ fd, ¬ inF F' a
  pr : Prot m σ σ'
def outS (C : Gl0) (W : WX) (m : Bool) (σ : L2.St) (G B H : Hp) (F : Fp) (o : O) (De : Ends) : Prop :=
  match o with
  | .nx s' => ∀ σ' G' B' H' F', PostS C m σ G B H F s' σ' G' B' H' F' → De.nx σ' H'
  | .bk s' => ∀ σ' G' B' H' F', PostS C m σ G B H F s' σ' G' B' H' F' → De.bk σ' H'
  | .ct s' => ∀ σ' G' B' H' F', PostS C m σ G B H F s' σ' G' B' H' F' → De.ct σ' H'
  | .rt d s' => ∀ v σ' G' B' H' F' fd, PostV C m σ G B H F d s' v σ' G' B' H' F' fd → De.rt v H'
  | .exc c fs xs s' => ∀ cls dd σ' G' B' H' F', PostS C m σ G B H F s' σ' G' B' H' F' → ExR C G' c fs xs cls dd → W cls dd σ' H'
  | .bad => False
def tS (C : Gl0) (W : WX) (m : Bool) (x : S) : TS := fun De σ H => ∃ s G B F, Good C G B H F s σ ∧ outS C W m σ G B H F (exS x s) De
def tSs (C : Gl0) (W : WX) (m : Bool) (x : List S) : TS := fun De σ H => ∃ s G B F, Good C G B H F s σ ∧ outS C W m σ G B H F (exSs x s) De
section
variable {C : Gl0} {W : WX} {m : Bool} {σ σ1 : L2.St} {G B H G1 B1 H1 : Hp} {F F1 : Fp} {s s1 : List D}
theorem PostS.trans {s2 : List D} {σ2 : L2.St} {G2 B2 H2 : Hp} {F2 : Fp} (p : PostS C m σ G B H F s1 σ1 G1 B1 H1 F1) (q : PostS C m σ1 G1 B1 H1 F1 s2 σ2 G2 B2 H2 F2) : PostS C m σ G B H F s2 σ2 G2 B2 H2 F2 :=
  ⟨q.good, p.ext.trans q.ext, p.pr.trans q.pr⟩
theorem PostS.transV {s2 : List D} {d : D} {v : V} {σ2 : L2.St} {G2 B2 H2 : Hp} {F2 : Fp} {fd : List Addr} (p : PostS C m σ G B H F s1 σ1 G1 B1 H1 F1) (q : PostV C m σ1 G1 B1 H1 F1 d s2 v σ2 G2 B2 H2 F2 fd) : PostV C m σ G B H F d s2 v σ2 G2 B2 H2 F2 fd :=
  ⟨q.good, p.ext.trans q.ext, q.own, q.nd, q.np, p.pr.trans q.pr⟩
/-- from a later state -/
theorem outS.from {o : O} {De : Ends} (p : PostS C m σ G B H F s1 σ1 G1 B1 H1 F1) (h : outS C W m σ G B H F o De) : outS C W m σ1 G1 B1 H1 F1 o De := by
  cases o with
  | nx s' => exact fun σ' G' B' H' F' q => h σ' G' B' H' F' (p.trans q)
  | bk s' => exact fun σ' G' B' H' F' q => h σ' G' B' H' F' (p.trans q)
  | ct s' => exact fun σ' G' B' H' F' q => h σ' G' B' H' F' (p.trans q)
  | rt d s' => exact fun v σ' G' B' H' F' fd q => h v σ' G' B' H' F' fd (p.transV q)
  | exc c fs xs s' => exact fun cls dd σ' G' B' H' F' q r => h cls dd σ' G' B' H' F' (p.trans q) r
  | bad => exact h
theorem PostE.toS {e : E} {d : D} {v : V} {fd : List Addr} (p : PostE C σ e G B H F s d s1 v G1 B1 H1 F1 fd) : PostS C m σ G B H F s1 σ G1 B1 H1 F1 :=
  ⟨p.good, p.ext.imp (fun _ z => z) fun a z => .inl (.inl z), .refl⟩
theorem outS.x {c : Nat} {fs : List Str} {xs s' : List D} {De : Ends} (h : outS C W m σ G B H F (.exc c fs xs s') De) : outX C W σ G B H F c fs xs s' :=
  fun cls dd G' B' H' F' g x r => h cls dd σ G' B' H' F' ⟨g, x, .refl⟩ r
/-- an expression, then more -/
theorem then_te {e : E} {De : Ends} {k : D → List D → O} {Q : VK} (g : Good C G B H F s σ) (h : outS C W m σ G B H F ((evE e s).then k) De)
    (hk : ∀ d s1 v G1 B1 H1 F1 fd, PostE C σ e G B H F s d s1 v G1 B1 H1 F1 fd → outS C W m σ G B H F (k d s1) De → Q v H1) : tE C W e σ H Q := by
  refine ⟨s, G, B, F, g, ?_⟩
  cases e1 : evE e s with
  | bad => rw [e1] at h; exact h
  | exc c fs xs s' => rw [e1] at h; exact outS.x h
  | ok d s1 =>
    rw [e1] at h
    exact fun v G1 B1 H1 F1 fd p => hk d s1 v G1 B1 H1 F1 fd p h
theorem then_tst {e : E} {De : Ends} {a b : List D → O} {Q : Bool → Hp → Prop} (g : Good C G B H F s σ) (h : outS C W m σ G B H F ((evE e s).then fun d s1 => match truth d with | some true => a s1 | some false => b s1 | none => .bad) De)
    (h1 : ∀ d s1 v G1 B1 H1 F1 fd, PostE C σ e G B H F s d s1 v G1 B1 H1 F1 fd → outS C W m σ G1 B1 H1 F1 (a s1) De → Q true H1)
    (h2 : ∀ d s1 v G1 B1 H1 F1 fd, PostE C σ e G B H F s d s1 v G1 B1 H1 F1 fd → outS C W m σ G1 B1 H1 F1 (b s1) De → Q false H1) : tTst C W e σ H Q := by
  refine ⟨s, G, B, F, g, ?_⟩
  cases e1 : evE e s with
  | bad => rw [e1] at h; exact h
  | exc c fs xs s' => rw [e1] at h; exact outS.x h
  | ok d s1 =>
    rw [e1] at h
    have h : outS C W m σ G B H F (match (generalizing := false) truth d with | some true => a s1 | some false => b s1 | none => .bad) De := h
    cases e2 : truth d with
    | none => rw [e2] at h; exact h.elim
    | some t =>
      rw [e2] at h
      refine ⟨t, e2, fun v G1 B1 H1 F1 fd p => ?_⟩
      cases t with
      | true => exact h1 d s1 v G1 B1 H1 F1 fd p (outS.from p.toS h)
      | false => exact h2 d s1 v G1 B1 H1 F1 fd p (outS.from p.toS h)
/-- a slot is given a value -/
theorem Good.set {i : Nat} {d : D} {v : V} {fd : List Addr} (g : Good C G B H F s σ) (o : Own C G B H d v fd) (n : fd.Nodup) (np : ∀ a ∈ fd, ¬ TT.inF F a) :
    ∃ F', Good C G B H F' (s.set i d) (σ.set i (some v)) ∧ ∀ a, TT.inF F' a → TT.inF F a ∨ a ∈ fd := by
  by_cases hi : i < s.length
  · refine ⟨fun j => if j = i then fd else F j, ⟨g.gb, g.bh, by rw [List.length_set, List.length_set]; exact g.len, fun j hj => ?_, fun j hj => ?_, fun j => ?_, fun j k a h1 h2 => ?_⟩, fun a ⟨j, z⟩ => ?_⟩
    · rw [getD_set] at hj ⊢
      by_cases q : j = i
      · rw [if_pos ⟨q, hi⟩]
        subst q
        refine ⟨v, by rw [List.getElem?_set_self (by rw [← g.len]; exact hi)], ?_⟩
        show Own C G B H d v (if j = j then fd else F j)
        rw [if_pos rfl]; exact o
      · have q' : ¬ (j = i ∧ i < s.length) := fun z => q z.1
        rw [if_neg q'] at hj ⊢
        obtain ⟨w, ew, ow⟩ := g.sl j hj
        refine ⟨w, by rw [List.getElem?_set_ne (Ne.symm q)]; exact ew, ?_⟩
        show Own C G B H _ w (if j = i then fd else F j)
        rw [if_neg q]; exact ow
    · by_cases q : j = i
      · rw [getD_set, if_pos ⟨q, hi⟩] at hj
        subst hj
        show (if j = i then fd else F j) = []
        rw [if_pos q]; exact o
      · rw [getD_set, if_neg fun z => q z.1] at hj
        show (if j = i then fd else F j) = []
        rw [if_neg q]; exact g.nf j hj
    · show (if j = i then fd else F j).Nodup
      by_cases q : j = i
      · rw [if_pos q]; exact n
      · rw [if_neg q]; exact g.nd j
    · by_cases q : j = i <;> by_cases q2 : k = i <;> simp only [q, q2, if_true, if_false] at h1 h2
      · rw [q, q2]
      · exact absurd ⟨k, h2⟩ (np a h1)
      · exact absurd ⟨j, h1⟩ (np a h2)
      · exact g.dj j k a h1 h2
    · by_cases q : j = i <;> simp only [q, if_true, if_false] at z
      · exact .inr z
      · exact .inl ⟨j, z⟩
  · refine ⟨F, ?_, fun a z => .inl z⟩
    rw [List.set_eq_of_length_le (Nat.le_of_not_lt hi), List.set_eq_of_length_le (by rw [← g.len]; exact Nat.le_of_not_lt hi)]
    exact g
/-- a slot is forgotten -/
theorem Good.drop {i : Nat} {v : Option V} (g : Good C G B H F s σ) : ∃ F', Good C G B H F' (s.set i .dead) (σ.set i v) ∧ ∀ a, TT.inF F' a → TT.inF F a := by
  by_cases hi : i < s.length
  · refine ⟨fun j => if j = i then [] else F j, ⟨g.gb, g.bh, by rw [List.length_set, List.length_set]; exact g.len, fun j hj => ?_, fun j hj => ?_, fun j => ?_, fun j k a h1 h2 => ?_⟩, fun a ⟨j, z⟩ => ?_⟩
    · rw [getD_set] at hj ⊢
      by_cases q : j = i
      · rw [if_pos ⟨q, hi⟩] at hj; exact absurd rfl hj
      · have q' : ¬ (j = i ∧ i < s.length) := fun z => q z.1
        rw [if_neg q'] at hj ⊢
        obtain ⟨w, ew, ow⟩ := g.sl j hj
        refine ⟨w, by rw [List.getElem?_set_ne (Ne.symm q)]; exact ew, ?_⟩
        show Own C G B H _ w (if j = i then [] else F j)
        rw [if_neg q]; exact ow
    · show (if j = i then [] else F j) = []
      by_cases q : j = i
      · rw [if_pos q]
      · rw [getD_set, if_neg fun z => q z.1] at hj
        rw [if_neg q]; exact g.nf j hj
    · show (if j = i then [] else F j).Nodup
      by_cases q : j = i
      · rw [if_pos q]; exact List.nodup_nil
      · rw [if_neg q]; exact g.nd j
    · by_cases q : j = i <;> by_cases q2 : k = i <;> simp [q, q2] at h1 h2
      exact g.dj j k a h1 h2
    · by_cases q : j = i <;> simp [q] at z
      exact ⟨j, z⟩
  · refine ⟨F, ?_, fun a z => z⟩
    rw [List.set_eq_of_length_le (Nat.le_of_not_lt hi), List.set_eq_of_length_le (by rw [← g.len]; exact Nat.le_of_not_lt hi)]
    exact g
/-- several slots are given the parts of a value -/
theorem Good.sets : ∀ {is : List Nat} {ds : List D} {vs : List V} {U : List Addr} {F : Fp} {s s' : List D} {σ : L2.St}, Good C G B H F s σ → Owns C G B H ds vs U → U.Nodup → (∀ a ∈ U, ¬ TT.inF F a) → setAll is ds s = some s' →
    ∃ σ' F', Good C G B H F' s' σ' ∧ (∀ a, TT.inF F' a → TT.inF F a ∨ a ∈ U) ∧ σ' = (is.zip vs).foldl (fun t p => t.set p.1 (some p.2)) σ
  | [], [], vs, U, F, s, s', σ, g, o, n, np, h => by
    cases h
    exact ⟨σ, F, g, fun a z => .inl z, rfl⟩
  | [], _ :: _, _, _, _, _, _, _, _, _, _, _, h => by simp [setAll] at h
  | _ :: _, [], _, _, _, _, _, _, _, _, _, _, h => by simp [setAll] at h
  | i :: is, d :: ds, vs, U, F, s, s', σ, g, o, n, np, h => by
    obtain ⟨v, vr, U1, U2, rfl, rfl, o1, o2⟩ := o
    obtain ⟨n1, n2, n3⟩ := List.nodup_append.1 n
    obtain ⟨F1, g1, k1⟩ := g.set (i := i) o1 n1 fun a ha => np a (List.mem_append_left _ ha)
    obtain ⟨σ', F2, g2, k2, e⟩ := Good.sets g1 o2 n2 (fun a ha z => by
      rcases k1 a z with z | z
      · exact np a (List.mem_append_right _ ha) z
      · exact n3 a z a ha rfl) h
    refine ⟨σ', F2, g2, fun a z => ?_, e⟩
    rcases k2 a z with z | z
    · exact (k1 a z).imp id fun z => List.mem_append_left _ z
    · exact .inr (List.mem_append_right _ z)
theorem prot_fold : ∀ {is : List Nat} {vs : List V} {σ : L2.St}, (m = true → 0 ∉ is) → Prot m σ ((is.zip vs).foldl (fun t p => t.set p.1 (some p.2)) σ)
  | [], _, σ, _ => by simp [Prot]
  | _ :: _, [], σ, _ => by simp [Prot]
  | i :: is, v :: vs, σ, h => by
    refine Prot.trans (Prot.set (i := i) (v := some v) ?_) (prot_fold fun hm z => h hm (List.mem_cons_of_mem _ z))
    cases m with
    | false => rfl
    | true =>
      have : i ≠ 0 := fun z => h rfl (by rw [z]; exact List.mem_cons_self)
      simp [this]
/-- behind an expression its value goes to a slot -/
theorem PostE.set {e : E} {d : D} {v : V} {fd : List Addr} {i : Nat} (p : PostE C σ e G B H F s d s1 v G1 B1 H1 F1 fd) (hp : isPl e = false) (hi : (m && decide (i = 0)) = false) : ∃ F2, PostS C m σ G B H F (s1.set i d) (σ.set i (some v)) G1 B1 H1 F2 := by
  obtain ⟨F2, g2, k2⟩ := p.good.set (i := i) p.own p.nd (p.np hp)
  exact ⟨F2, g2, p.ext.imp (fun _ z => z) fun a z => .inl (k2 a z), Prot.set hi⟩
end
section
variable {X : Cx} {C : Gl0} {W : WX} {Γ : Gam}
theorem ps_imp {a : Stmt} {t t' : TS} (h : PS X a t) (k : ∀ De σ H, t' De σ H → t De σ H) : PS X a t' := ⟨fun pins s σ H De I z => h.run pins s σ H De I (k De σ H z)⟩
theorem pss_imp {a : List Stmt} {t t' : TS} (h : PSs X a t) (k : ∀ De σ H, t' De σ H → t De σ H) : PSs X a t' := ⟨fun pins s σ H De I z => h.run pins s σ H De I (k De σ H z)⟩
theorem st_ok (k : CxOk C Γ X) {i : Nat} {t : Expr} (h : stB Γ i t = true) : ∃ x p, t = .Name x p ∧ X.N[i]? = some x ∧ L2.Loc X.env.scope x ∧ (X.fn x = true ∨ X.env.scope.names.lookup x = some .local) ∧ (Γ.m && decide (i = 0)) = false := by
  unfold stB at h
  split at h
  · rename_i x0 p0
    simp only [Bool.and_eq_true, decide_eq_true_eq, Bool.not_eq_true'] at h
    obtain ⟨⟨⟨h1, h2⟩, h4⟩, h3⟩ := h
    have hL : L2.Loc X.env.scope x0 := by
      unfold L2.Loc
      rw [k.sc]
      unfold locB at h2
      split at h2
      · exact .inl ‹_›
      · exact .inr ‹_›
      · cases h2
    exact ⟨_, _, rfl, by rw [k.N]; exact h1, hL, k.fn _ hL h4, by simpa using h3⟩
  · cases h
theorem nd_of (k : CxOk C Γ X) : X.N.Nodup := by rw [k.N]; exact k.nd
theorem swaps_no {v : Expr} {t : Option Expr} {l : Nat} {env : Env} (h : notComp v = true) : swapsWith v t l env = pure false := by
  cases v <;> first | rfl | (simp [notComp] at h)
theorem s_asg {i : Nat} {e : E} {t v : Expr} {pos : Pos} (k : CxOk C Γ X) (h1 : stB Γ i t = true) (h2 : PE X v (tE C W e)) (h3 : isPl e = false) (h4 : notComp v = true) : PS X (.Assign [t] v pos) (tS C W Γ.m (.asg i e)) := by
  obtain ⟨x, p, rfl, hN, hL, hF, hm⟩ := st_ok k h1
  refine ps_imp (ps_set (nd_of k) hN hL h2 (swaps_no h4) hF) fun De σ H z => ?_
  obtain ⟨s, G, B, F, g, z⟩ := z
  unfold exS at z
  refine then_te g z fun d s1 v G1 B1 H1 F1 fd p z => ?_
  obtain ⟨F2, q⟩ := p.set (m := Γ.m) (i := i) h3 hm
  exact z _ G1 B1 H1 F2 q
theorem s_ex {e : E} {v : Expr} {pos : Pos} (h2 : PE X v (tE C W e)) (h4 : notComp v = true) : PS X (.Expr v pos) (tS C W Γ.m (.ex e)) := by
  refine ps_imp (ps_expr h2 (swaps_no h4)) fun De σ H z => ?_
  obtain ⟨s, G, B, F, g, z⟩ := z
  unfold exS at z
  refine then_te g z fun d s1 v G1 B1 H1 F1 fd p z => ?_
  exact z σ G1 B1 H1 F1 p.toS
theorem s_ret {e : E} {v : Expr} {pos : Pos} (h2 : PE X v (tE C W e)) (h3 : isPl e = false) : PS X (.Return (some v) pos) (tS C W Γ.m (.ret e)) := by
  refine ps_imp (ps_ret h2) fun De σ H z => ?_
  obtain ⟨s, G, B, F, g, z⟩ := z
  unfold exS at z
  refine then_te g z fun d s1 v G1 B1 H1 F1 fd p z => ?_
  exact z v σ G1 B1 H1 F1 fd ⟨p.good, p.ext, p.own, p.nd, p.np h3, .refl⟩
theorem s_pass {pos : Pos} : PS X (.Pass pos) (tS C W Γ.m .pass) := ps_imp ps_pass fun De σ H z => by
  obtain ⟨s, G, B, F, g, z⟩ := z
  exact z σ G B H F ⟨g, Ext.refl, .refl⟩
theorem s_cont {pos : Pos} : PS X (.Continue pos) (tS C W Γ.m .cont) := ps_imp ps_continue fun De σ H z => by
  obtain ⟨s, G, B, F, g, z⟩ := z
  exact z σ G B H F ⟨g, Ext.refl, .refl⟩
theorem s_ift {c : E} {x y : List S} {t : Expr} {a b : List Stmt} {pos : Pos} (h1 : PT X t (tTst C W c)) (h2 : PSs X a (tSs C W Γ.m x)) (h3 : PSs X b (tSs C W Γ.m y)) : PS X (.If t a b pos) (tS C W Γ.m (.ift c x y)) := by
  refine ps_imp (ps_if h1 h2 h3) fun De σ H z => ?_
  obtain ⟨s, G, B, F, g, z⟩ := z
  unfold exS at z
  refine then_tst g z (fun d s1 v G1 B1 H1 F1 fd p z => ?_) fun d s1 v G1 B1 H1 F1 fd p z => ?_
  · exact iteT ⟨s1, G1, B1, F1, p.good, z⟩
  · exact iteF ⟨s1, G1, B1, F1, p.good, z⟩
theorem ss_nil : PSs X [] (tSs C W Γ.m []) := pss_imp pss_nil fun De σ H z => by
  obtain ⟨s, G, B, F, g, z⟩ := z
  exact z σ G B H F ⟨g, Ext.refl, .refl⟩
theorem ss_cons {x : S} {xs : List S} {a : Stmt} {as : List Stmt} (h1 : PS X a (tS C W Γ.m x)) (h2 : PSs X as (tSs C W Γ.m xs)) : PSs X (a :: as) (tSs C W Γ.m (x :: xs)) := by
  refine pss_imp (pss_cons h1 h2) fun De σ H z => ?_
  obtain ⟨s, G, B, F, g, z⟩ := z
  refine ⟨s, G, B, F, g, ?_⟩
  have z : outS C W Γ.m σ G B H F ((exS x s).bind fun s1 => exSs xs s1) De := by unfold exSs at z; exact z
  cases e1 : exS x s with
  | nx s1 =>
    rw [e1] at z
    exact fun σ' G' B' H' F' p => ⟨s1, G', B', F', p.good, outS.from p z⟩
  | bk s1 => rw [e1] at z; exact z
  | ct s1 => rw [e1] at z; exact z
  | rt d s1 => rw [e1] at z; exact z
  | exc c fs xs' s1 => rw [e1] at z; exact z
  | bad => rw [e1] at z; exact z
theorem iop_mulW' {X : Cx} : OpR X (inplaceOp .Mult) (rI CMulO fun i j => .int (i * j)) := opI fun _ _ _ _ _ _ _ hc q => imul_int q (mulOk_ok hc)
theorem ip_all {X : Cx} {o : Op} {ao : Operator} (h : (match o, ao with | .add, .Add => true | .mul, .Mult => true | _, _ => false) = true) : ∃ r : R2, OpR X (inplaceOp ao) r ∧
    ∀ {C : Gl0} {G B H : Hp} {d1 d2 d : D} {v1 v2 : V} {fd1 fd2 : List Addr} {Q : VK}, Own C G B H d1 v1 fd1 → Own C G B H d2 v2 fd2 → augD o d1 d2 = some d → (∀ v, (∀ G B H, Own C G B H d v []) → Q v H) → r v1 v2 H Q := by
  split at h
  · refine ⟨_, iop_add.or iop_add_str, fun {C G B H d1 d2 d v1 v2 fd1 fd2 Q} o1 o2 e q => ?_⟩
    unfold augD at e
    split at e
    · cases e
      exact .inl ⟨_, _, o1.1, o2.1, q _ fun _ _ _ => ⟨rfl, rfl⟩⟩
    · split at e
      · cases e
        exact .inr ⟨_, _, o1.1, o2.1, ‹_›, q _ fun _ _ _ => ⟨rfl, rfl⟩⟩
      · cases e
    · rename_i h1; cases h1
    · cases e
  · refine ⟨_, iop_mulW', fun {C G B H d1 d2 d v1 v2 fd1 fd2 Q} o1 o2 e q => ?_⟩
    unfold augD at e
    split at e
    · rename_i h1; cases h1
    · rename_i h1; cases h1
    · split at e
      · cases e
        exact ⟨_, _, o1.1, o2.1, ‹_›, q _ fun _ _ _ => ⟨rfl, rfl⟩⟩
      · cases e
    · cases e
  · cases h
theorem s_aug {i : Nat} {o : Op} {ao : Operator} {e : E} {t v : Expr} {pos : Pos} (k : CxOk C Γ X) (h1 : stB Γ i t = true) (h2 : PE X v (tE C W e)) (h3 : isPl e = false)
    (h : (match o, ao with | .add, .Add => true | .mul, .Mult => true | _, _ => false) = true) : PS X (.AugAssign t ao v pos) (tS C W Γ.m (.aug i o e)) := by
  obtain ⟨x, p, rfl, hN, hL, hF, hm⟩ := st_ok k h1
  obtain ⟨r, hr, hv⟩ := ip_all (X := X) h
  refine ps_imp (ps_aug (nd_of k) hN hL h2 hr hF) fun De σ H z => ?_
  obtain ⟨s, G, B, F, g, z⟩ := z
  unfold exS at z
  split at z
  · exact z.elim
  · rename_i hd
    obtain ⟨w, ew, _⟩ := g.sl i (fun q => hd (by rw [q]; rfl))
    refine ⟨w, ew, then_te g z fun d s1 v G1 B1 H1 F1 fd p z => ?_⟩
    have z : outS C W Γ.m σ G B H F (match (generalizing := false) augD o (s1.getD i .dead) d with | some r => .nx (s1.set i r) | none => .bad) De := z
    cases e2 : augD o (s1.getD i .dead) d with
    | none => rw [e2] at z; exact z.elim
    | some d' =>
      rw [e2] at z
      have hd1 : s1.getD i .dead ≠ .dead := fun q => by rw [q] at e2; cases o <;> cases e2
      obtain ⟨w1, ew1, ow⟩ := p.good.sl i hd1
      rw [ew] at ew1
      cases ew1
      refine hv ow p.own e2 fun v' o' => ?_
      obtain ⟨F2, g2, k2⟩ := p.good.set (i := i) (o' G1 B1 H1) List.nodup_nil (fun _ q => nomatch q)
      refine z _ G1 B1 H1 F2 ⟨g2, p.ext.imp (fun _ z => z) fun a q => ?_, Prot.set hm⟩
      rcases k2 a q with q | q
      · exact .inl (.inl q)
      · cases q
theorem fm2 {f : Expr → Option Str} {a b : Expr} {x y : Str} (h1 : f a = some x) (h2 : f b = some y) : [a, b].filterMap f = [x, y] := by simp [h1, h2]
theorem swap_par {i j : Nat} {t e : Expr} (k : CxOk C Γ X) (h : parB Γ i j t e = true) : ∃ x y px py kt pt a b k2 pt2, t = .Tuple [.Name x px, .Name y py] kt pt ∧ e = .Tuple [a, b] k2 pt2 ∧ X.N[i]? = some x ∧ X.N[j]? = some y ∧ i ≠ j ∧
    X.env.scope.names.lookup x = some .local ∧ X.env.scope.names.lookup y = some .local ∧ swappedStores [t] e X.env = pure (some [x, y]) ∧ notStar a = true ∧ notStar b = true ∧ (Γ.m && (decide (i = 0) || decide (j = 0))) = false := by
  unfold parB at h
  split at h
  · rename_i x px y py kt pt a b k2 pt2
    simp only [Bool.and_eq_true, decide_eq_true_eq, Bool.not_eq_true'] at h
    obtain ⟨⟨⟨⟨⟨⟨⟨⟨⟨⟨⟨⟨h0, h1⟩, h2⟩, h3⟩, h4⟩, h5⟩, h6⟩, h7⟩, h8⟩, h9⟩, h10⟩, h11⟩, h12⟩ := h
    rw [← k.sc] at h0 h4 h5
    rw [← k.N] at h1 h2
    refine ⟨x, y, px, py, kt, pt, a, b, k2, pt2, rfl, rfl, h1, h2, h3, h4, h5, ?_, h8, h9, h12⟩
    have e1 : X.env.kindOf x = some .local := h4
    have e2 : X.env.kindOf y = some .local := h5
    have e3 : X.env.blockKind = .function := by unfold Env.blockKind; rw [h0]; rfl
    have e4 : [a, b].any (fun | .Starred .. => true | _ => false) = false := by
      cases a <;> cases b <;> first | rfl | exact (Bool.false_ne_true h8).elim | exact (Bool.false_ne_true h9).elim
    have e5 : ([x, y].eraseDups.length != [x, y].length) = false := by
      have : (y == x) = false := by
        cases q : y == x with
        | false => rfl
        | true => exact absurd (eq_of_beq q).symm h7
      simp [List.eraseDups_cons, this]
    have e6 : ([Expr.Name x px, Expr.Name y py].filterMap fun
      | .Name id pos => if X.env.kindOf id == some .local && pos.line == (([Expr.Name x px, Expr.Name y py].head?.map (·.pos.line)).getD 0) then some id else none
      | _ => none) = [x, y] := by
      refine fm2 ?_ ?_
      · show (if X.env.kindOf x == some .local && px.line == px.line then some x else none) = some x
        rw [e1]; simp
      · show (if X.env.kindOf y == some .local && py.line == px.line then some y else none) = some y
        rw [e2, h6]; simp
    unfold swappedStores
    show (do
      if !([Expr.Name x px, Expr.Name y py].length == 2 || [Expr.Name x px, Expr.Name y py].length == 3) || [a, b].length != [Expr.Name x px, Expr.Name y py].length || X.env.blockKind != .function then return none
      if [a, b].any fun | .Starred .. => true | _ => false then return none
      let line := ([Expr.Name x px, Expr.Name y py].head?.map (·.pos.line)).getD 0
      let names := [Expr.Name x px, Expr.Name y py].filterMap fun
        | .Name id pos => if X.env.kindOf id == some .local && pos.line == line then some id else none
        | _ => none
      if names.length != [Expr.Name x px, Expr.Name y py].length || names.eraseDups.length != names.length then return none
      if [a, b].all (foldedForSure 8) then return none
      if [a, b].all (constantsAlone 8) then unsupported "assign.tuple-of-constant-expressions:order-of-the-stores"
      return some names : Sem (Option (List Str))) = _
    simp only [e3, e4, e5, e6, h10, h11]
    rfl
  · cases h
theorem asg_name {x : Str} {p : Pos} {es : List Expr} {env : Env} : assignEach (.Name x p :: es) env = (false, assign (.Name x p) env) :: assignEach es env := rfl
def gNames : List Nat → TGs := fun is vs σ H Q => vs.length = is.length ∧ Q ((is.zip vs).foldl (fun t p => t.set p.1 (some p.2)) σ) H
theorem sts_ok (k : CxOk C Γ X) : ∀ {is : List Nat} {ts : List Expr}, stBs Γ is ts = true → PGs X ts (gNames is) ∧ (assignEach ts X.env).length = is.length ∧ (assignEach ts X.env).findIdx? (·.1) = none ∧ (Γ.m = true → 0 ∉ is)
  | [], [], _ => ⟨⟨fun pins s σ H vs us Q I r h => pgs_nil.run pins s σ H vs us Q I r ⟨by
      have := h.1
      cases vs with
      | nil => rfl
      | cons => simp at this, by
      have := h.2
      cases vs <;> exact this⟩⟩, rfl, rfl, fun _ z => nomatch z⟩
  | [], _ :: _, h => by simp [stBs] at h
  | _ :: _, [], h => by simp [stBs] at h
  | i :: is, t :: ts, h => by
    simp only [stBs, Bool.and_eq_true] at h
    obtain ⟨h1, h2⟩ := h
    obtain ⟨x, p, rfl, hN, hL, hF, hm⟩ := st_ok k h1
    obtain ⟨a, b, c, d⟩ := sts_ok k h2
    refine ⟨⟨fun pins s σ H vs us Q I r h => (pgs_cons (pg_name (nd_of k) hN hL hF) a).run pins s σ H vs us Q I r ?_⟩, ?_, ?_, fun m z => ?_⟩
    · obtain ⟨l, q⟩ := h
      cases vs with
      | nil => simp at l
      | cons v vr => exact ⟨v, vr, rfl, by simpa using l, q⟩
    · rw [asg_name, List.length_cons, b, List.length_cons]
    · rw [asg_name, List.findIdx?_cons, c]; rfl
    · rcases List.mem_cons.1 z with z | z
      · rw [m, ← z] at hm; cases hm
      · exact d m z
theorem setAll_len : ∀ {is : List Nat} {xs s s' : List D}, setAll is xs s = some s' → xs.length = is.length
  | [], [], _, _, _ => rfl
  | [], _ :: _, _, _, h => by simp [setAll] at h
  | _ :: _, [], _, _, h => by simp [setAll] at h
  | i :: is, x :: xs, s, s', h => by
    have := setAll_len (is := is) (xs := xs) h
    simp [this]
theorem owns_len {G B H : Hp} : ∀ {ds : List D} {vs : List V} {U : List Addr}, Owns C G B H ds vs U → vs.length = ds.length
  | [], _, _, h => by
    obtain ⟨rfl, _⟩ := h
    rfl
  | _ :: _, _, _, h => by
    obtain ⟨v, vr, U1, U2, rfl, rfl, o1, o2⟩ := h
    simp [owns_len o2]
/-- a tuple's parts go to slots -/
theorem tg_tup {is : List Nat} {d : D} {v : V} {fd : List Addr} {G B H : Hp} {F : Fp} {s s2 : List D} {σ : L2.St} (g : Good C G B H F s σ) (o : Own C G B H d v fd) (n : fd.Nodup) (np : ∀ a ∈ fd, ¬ TT.inF F a) (h : tgSet (.tup is) d s = some s2) :
    ∃ a vs F', v = .ref a ∧ SqT C.K H a vs ∧ vs.length = is.length ∧ Good C G B H F' s2 ((is.zip vs).foldl (fun t p => t.set p.1 (some p.2)) σ) ∧ ∀ a, TT.inF F' a → TT.inF F a ∨ a ∈ fd := by
  unfold tgSet at h
  split at h
  · rename_i h1; cases h1
  · rename_i is' fl xs s' h1
    cases h1
    obtain ⟨a, ws, U, rfl, hq, oo, hf, _⟩ := o.tupAt g.gb g.bh
    obtain ⟨σ', F', g', k', e⟩ := g.sets oo (nodup_kids hf n) (fun b hb => np b (mem_kids hf b hb)) h
    subst e
    refine ⟨a, ws, F', rfl, hq, by rw [owns_len oo, setAll_len h], g', fun b z => (k' b z).imp id fun z => mem_kids hf b z⟩
  · cases h
theorem swap_no {ts : List Expr} {v : Expr} {env : Env} (h : notTup v = true) : swappedStores ts v env = pure none := by
  cases v <;> first | exact (Bool.false_ne_true h).elim | skip
  all_goals (unfold swappedStores; split <;> rename_i q <;> (split at q <;> simp_all))
theorem s_asgT {is : List Nat} {e : E} {ts : List Expr} {j : Nat} {p : Pos} {v : Expr} {pos : Pos} (k : CxOk C Γ X) (h1 : stBs Γ is ts = true) (h2 : PE X v (tE C W e)) (h3 : isPl e = false) (h4 : notComp v = true) (h5 : notTup v = true) : PS X (.Assign [.Tuple ts j p] v pos) (tS C W Γ.m (.asgT is e)) := by
  obtain ⟨hg, hl, hst, hm⟩ := sts_ok k h1
  refine ps_imp (ps_asg h2 (pg_tup k.calm hg hl hst) (by unfold swapsWithSole; exact swaps_no h4) (swap_no h5)) fun De σ H z => ?_
  obtain ⟨s, G, B, F, g, z⟩ := z
  unfold exS at z
  refine then_te g z fun d s1 v G1 B1 H1 F1 fd p z => ?_
  have z : outS C W Γ.m σ G B H F (match (generalizing := false) tgSet (.tup is) d s1 with | some s2 => .nx s2 | none => .bad) De := z
  cases e2 : tgSet (.tup is) d s1 with
  | none => rw [e2] at z; exact z.elim
  | some s2 =>
    rw [e2] at z
    obtain ⟨a, vs, F', rfl, hq, hle, g', k'⟩ := tg_tup p.good p.own p.nd (p.np h3) e2
    rw [k.K]
    exact ⟨a, vs, rfl, hq, hle, hle, z _ G1 B1 H1 F' ⟨g', p.ext.imp (fun _ z => z) fun a q => .inl (k' a q), prot_fold hm⟩⟩
theorem s_par {i j : Nat} {e f : E} {t v : Expr} {as : List Expr} {n : Nat} {pp pos : Pos} (k : CxOk C Γ X) (hv : v = .Tuple as n pp) (h1 : parB Γ i j t v = true) (h2 : PEL X C W [e, f] as) (h3 : isPl e = false) (h4 : isPl f = false) : PS X (.Assign [t] v pos) (tS C W Γ.m (.par i j e f)) := by
  obtain ⟨x, y, px, py, kt, pt, a, b, k2, pt2, rfl, rfl, hi, hj, hij, hx, hy, hw, n1, n2, hm⟩ := swap_par k h1
  obtain ⟨rfl, _, _⟩ := Expr.Tuple.inj hv
  refine ps_imp (ps_par k.calm (nd_of k) hi hj hij hx hy (pa_of h2) hw) fun De σ H z => ?_
  obtain ⟨s, G, B, F, g, z⟩ := z
  unfold exS at z
  refine ⟨s, G, B, F, g, ?_⟩
  cases e1 : evEs [e, f] s with
  | bad => rw [e1] at z; exact z
  | exc c fs xs s' => rw [e1] at z; exact outS.x z
  | ok ds s1 =>
    rw [e1] at z
    intro vs G1 B1 H1 F1 U p
    obtain ⟨d1, dr, v1, vr, fd1, U1, rfl, rfl, o1, nd1, vl, q1⟩ := p.vl
    obtain ⟨d2, dr2, v2, vr2, fd2, U2, rfl, rfl, o2, nd2, vl2, q2⟩ := vl
    obtain ⟨rfl, rfl, rfl⟩ := vl2
    rw [h3] at q1
    rw [h4] at q2
    obtain ⟨⟨q, _⟩⟩ | ⟨_, q1, rfl⟩ := q1
    · cases q
    obtain ⟨⟨q, _⟩⟩ | ⟨_, q2, rfl⟩ := q2
    · cases q
    rw [List.append_nil] at *
    have hm1 : (Γ.m && decide (i = 0)) = false := by revert hm; cases Γ.m <;> cases decide (i = 0) <;> simp
    have hm2 : (Γ.m && decide (j = 0)) = false := by revert hm; cases Γ.m <;> cases decide (j = 0) <;> cases decide (i = 0) <;> simp
    obtain ⟨F2, g2, k2⟩ := p.good.set (i := i) o1 nd1 fun a ha => (q1 a ha).1
    obtain ⟨F3, g3, k3⟩ := g2.set (i := j) o2 nd2 fun a ha z => by
      rcases k2 a z with z | z
      · exact (q2 a ha).1 z
      · exact (q1 a z).2 ha
    refine ⟨v1, v2, rfl, ?_⟩
    refine z _ G1 B1 H1 F3 ⟨g3, p.ext.imp (fun _ z => z) fun a q => .inl ?_, (Prot.set hm1).trans (Prot.set hm2)⟩
    rcases k3 a q with q | q
    · rcases k2 a q with q | q
      · exact .inl q
      · exact .inr (List.mem_append_left _ q)
    · exact .inr (List.mem_append_right _ (by simpa using q))
end
end TT
namespace TT
open PySem PySem.Spec PyProof.Rows L2
/-! ### walks -/
def Yd (C : Gl0) (G B : Hp) (xs : List D) : Nat → Hp → V → Hp → Prop := fun i H x H' =>
  ∀ G1 B1, (∀ a o, G a = some o → G1 a = some o) → (∀ a o, B a = some o → B1 a = some o) → Sb G1 B1 → Sb B1 H → ∃ d G2 B2, xs[i]? = some d ∧ Alloc G1 B1 H G2 B2 H' ∧ Sb G2 B2 ∧ Sb B2 H' ∧ Own C G2 B2 H' d x []
def outI (C : Gl0) (W : WX) (σ : L2.St) (es : List E) (G B H : Hp) (F : Fp) (s : List D) (r : R (List D)) (Q : L2.It → Hp → Prop) : Prop :=
  match r with
  | .ok xs s' => ∀ J G' B' H' F', Good C G' B' H' F' s' σ → Ext G B H (inF F) G' B' H' (inF F') → (effs es = false → s' = s ∧ F' = F ∧ ∀ a o, H a = some o → H' a = some o) → Walk J xs.length (fun H => Sb B' H) (Yd C G' B' xs) → Q J H'
  | .exc c fs xs s' => outX C W σ G B H F c fs xs s'
  | .bad => False
def tI (C : Gl0) (W : WX) (it : It) : TI := fun σ H Q => ∃ s G B F, Good C G B H F s σ ∧ outI C W σ it.es G B H F s (evIt it s) Q
section
variable {C : Gl0} {W : WX} {σ : L2.St} {G B H G1 B1 H1 : Hp} {F F1 : Fp} {s s1 : List D}
theorem alloc_bor {p : Addr} {o : HO} (gb : Sb G B) (bh : Sb B H) (hp : H p = none) : Alloc G B H G (upd B p o) (upd H p o) ∧ Sb G (upd B p o) ∧ Sb (upd B p o) (upd H p o) := by
  obtain ⟨x, g1, b1⟩ := alloc_shr (o := o) gb bh hp
  have bp : B p = none := none_of_ne fun z => bh.ne z hp
  have gp : G p = none := none_of_ne fun z => gb.ne z bp
  refine ⟨⟨x.keep, fun _ _ z => z, x.b, fun _ z => .inl z, x.bn, x.pn⟩, fun a u e => ?_, b1⟩
  rw [upd_ne (ne_of_none e gp)]
  exact gb a u e
theorem Own.still {d : D} {v : V} (o : Own C G B H d v []) (g : ∀ a o, G a = some o → G1 a = some o) (b : ∀ a o, B a = some o → B1 a = some o) : Own C G1 B1 H1 d v [] := o.mono g b fun _ z => nomatch z
theorem Owns.still {d : List D} {v : List V} (o : Owns C G B H d v []) (g : ∀ a o, G a = some o → G1 a = some o) (b : ∀ a o, B a = some o → B1 a = some o) : Owns C G1 B1 H1 d v [] := o.mono g b fun _ z => nomatch z
theorem pair_own {x y : D} {v w : V} {T : Addr} (gb : Sb G B) (bh : Sb B H) (nx : noOwn x = true) (ny : noOwn y = true) (ox : Own C G B H x v []) (oy : Own C G B H y w []) (hT : H T = none) :
    ∃ G2 B2, Alloc G B H G2 B2 (upd H T (.tup [v, w])) ∧ Sb G2 B2 ∧ Sb B2 (upd H T (.tup [v, w])) ∧ Own C G2 B2 (upd H T (.tup [v, w])) (pairD x y) (.ref T) [] := by
  unfold pairD
  split
  · rename_i h
    simp only [allShr, Bool.and_eq_true] at h
    obtain ⟨x1, g1, b1⟩ := alloc_shr (o := .tup [v, w]) gb bh hT
    refine ⟨_, _, x1, g1, b1, T, [v, w], [], rfl, .inl (.inl upd_same), ⟨v, [w], [], [], rfl, rfl, ox.still x1.g x1.b, w, [], [], [], rfl, rfl, oy.still x1.g x1.b, rfl, rfl⟩, rfl, ?_, ?_⟩
    · simp [noOwns, h.1.1, h.2.1]
    · simp [noBors, h.1.2, h.2.2]
  · obtain ⟨x1, g1, b1⟩ := alloc_bor (o := .tup [v, w]) gb bh hT
    refine ⟨_, _, x1, g1, b1, T, [v, w], [], rfl, .inl (.inl upd_same), ⟨v, [w], [], [], rfl, rfl, ox.still x1.g x1.b, w, [], [], [], rfl, rfl, oy.still x1.g x1.b, rfl, rfl⟩, rfl, ?_⟩
    show noOwns [x, y] = true
    simp [noOwns, nx, ny]
/-- an item as it lies -/
theorem yd_at {xs : List D} {vs : List V} {i : Nat} {H' : Hp} {x : V} (o : Owns C G B H xs vs []) (h : vs[i]? = some x) : Yd C G B xs i H' x H' := fun G1 B1 g b gb bh => by
  have hl := o.length
  have hi : i < xs.length := by rw [hl]; exact (List.getElem?_eq_some_iff.1 h).1
  obtain ⟨v, fd, e, ov, _, z⟩ := o.get (i := i) (d := xs[i]) (by simp [hi])
  rw [h] at e; cases e
  have : fd = [] := by
    cases fd with
    | nil => rfl
    | cons a r => cases (z a List.mem_cons_self)
  subst this
  exact ⟨xs[i], G1, B1, by simp [hi], Ext.refl, gb, bh, ov.still g b⟩
theorem yd_int {xs : List D} {i : Nat} {k : Int} {H' : Hp} (h : xs[i]? = some (.int k)) : Yd C G B xs i H' (.int k) H' := fun G1 B1 _ _ gb bh => ⟨_, G1, B1, h, Ext.refl, gb, bh, rfl, rfl⟩
theorem yd_str {xs : List D} {i : Nat} {k : Str} {H' : Hp} (h : xs[i]? = some (.str k)) : Yd C G B xs i H' (.str k) H' := fun G1 B1 _ _ gb bh => ⟨_, G1, B1, h, Ext.refl, gb, bh, rfl, rfl⟩
theorem rngD_get {lo c : Int} {n i : Nat} (h : i < n) : (rngD lo n c)[i]? = some (.int (lo + (i : Int) * c)) := by simp [rngD, h]
theorem rngD_len {lo c : Int} {n : Nat} : (rngD lo n c).length = n := by simp [rngD]
theorem small62_iff {i : Int} : small62 i = true ↔ -(2 ^ 62) ≤ i ∧ i < 2 ^ 62 := by simp [small62]
theorem rgC {i j k : Int} (h1 : small62 i = true) (h2 : small62 j = true) (h3 : 0 < k) (h4 : k < 1073741824) : RgC i j k ((j - i + (k - 1)) / k).toNat := by
  rw [small62_iff] at h1 h2
  have hs : Builtin.Range.rangeSize i j k = ((((j - i + (k - 1)) / k).toNat : Nat) : Int) := by
    unfold Builtin.Range.rangeSize
    rw [if_pos h3]
    split
    · have e : j - i + (k - 1) = (j - i - 1) + k := by omega
      rw [e, Int.add_ediv_of_dvd_right ⟨1, by omega⟩, Int.ediv_self (by omega)]
      have : 0 ≤ (j - i - 1) / k := Int.ediv_nonneg (by omega) (by omega)
      omega
    · have h : (j - i + (k - 1)) / k ≤ 0 := by
        have : (j - i + (k - 1)) / k < 1 := Int.ediv_lt_of_lt_mul h3 (by omega)
        omega
      omega
  refine ⟨by omega, by omega, ?_, hs⟩
  have hb : Builtin.Range.rangeSize i j k ≤ 2 ^ 63 - 1 := by
    unfold Builtin.Range.rangeSize
    rw [if_pos h3]
    split
    · have : (j - i - 1) / k ≤ j - i - 1 := Int.ediv_le_self _ (by omega)
      omega
    · omega
  have hb0 : 0 ≤ Builtin.Range.rangeSize i j k := by rw [hs]; omega
  unfold Builtin.Range.small
  simp only [Builtin.Range.rangeFitsLong, Bool.and_eq_true, Bool.or_eq_true, decide_eq_true_eq, beq_iff_eq, if_pos h3]
  omega
end
/-! ### what is walked -/
section
variable {X : Cx} {C : Gl0} {W : WX} {Γ : Gam}
theorem pi_imp {tg e : Expr} {t t' : TI} (h : PI X tg e t) (k : ∀ σ H Q, t' σ H Q → t σ H Q) : PI X tg e t' := ⟨fun pins s σ H Q I z => h.run pins s σ H Q I (k σ H Q z)⟩
/-- a list, a tuple, a text -/
def iSeq (K : PySem.W.Frag) (te : TE) : TI := fun σ H R => te σ H fun x H1 => (∃ a, x = .ref a ∧ (∃ xs, SqL K H1 a xs) ∧ R (Itl K a) H1) ∨ (∃ a, x = .ref a ∧ (∃ xs, SqT K H1 a xs) ∧ R (Itt K a) H1) ∨ ∃ z, x = .str z ∧ R (Its z) H1
theorem pi_seq {tg l : Expr} {tl : TE} (hl : PE X l tl) : PI X tg l (iSeq X.K tl) := by
  refine ⟨fun pins s σ H R I h => ?_⟩
  refine thn (hl.run pins s σ H _ I h) fun v s1 ⟨x, H1, I1, r1, q1⟩ => ?_
  rcases q1 with ⟨a, e, ⟨xs, hq⟩, q⟩ | ⟨a, e, ⟨xs, hq⟩, q⟩ | ⟨x, ex, q⟩
  · subst e
    cases r1
    obtain ⟨its, rv, p, hz⟩ := I1.list hq
    refine wpAny_pyIter_list p.isList ?_
    refine ⟨s1.heap.objs.size, [s1.heap.objs.size], _, _, H1, rfl, I1.kept (t' := s1.toks) fun b o e => Heap.get?_push_of_some _ e, turn_list a _, ⟨_, Heap.get?_push_size _ rfl, rfl, rfl⟩, fun b hb => ?_, q⟩
    have e : b = s1.heap.objs.size := by simpa using hb
    subst e
    exact I1.fpOk (Nat.le_refl _) (I1.hok.fresh (Nat.le_refl _))
  · subst e
    cases r1
    obtain ⟨its, rv, p, hz⟩ := I1.tuple hq
    refine wpAny_pyIter_tuple (show s1.heap.IsTuple a its.toArray from p) ?_
    refine ⟨s1.heap.objs.size, [s1.heap.objs.size], _, _, H1, rfl, I1.kept (t' := s1.toks) fun b o e => Heap.get?_push_of_some _ e, turn_tuple a _, ⟨_, Heap.get?_push_size _ rfl, rfl, rfl⟩, fun b hb => ?_, q⟩
    have e : b = s1.heap.objs.size := by simpa using hb
    subst e
    exact I1.fpOk (Nat.le_refl _) (I1.hok.fresh (Nat.le_refl _))
  · subst ex
    obtain ⟨t, rfl⟩ := r1
    cases ha : x.cps.all (· < 128)
    · exact wpAny_pyIter_wide ha (pi_one (tk := s1.toks) I1 _ (turn_str _ x t "str_iterator" (.inr rfl)) ⟨_, Heap.get?_push_size _ rfl, rfl, rfl⟩ q)
    · exact wpAny_pyIter_ascii ha (pi_one (tk := s1.toks) I1 _ (turn_str _ x t "str_ascii_iterator" (.inl rfl)) ⟨_, Heap.get?_push_size _ rfl, rfl, rfl⟩ q)
theorem PostE.xI {σ : L2.St} {e : E} {d : D} {v : V} {fd : List Addr} {G B H G1 B1 H1 : Hp} {F F1 : Fp} {s s1 : List D} (p : PostE C σ e G B H F s d s1 v G1 B1 H1 F1 fd) : Ext G B H (inF F) G1 B1 H1 (inF F1) :=
  p.ext.imp (fun _ z => z) fun a z => .inl (.inl z)
theorem PostL.xI {σ : L2.St} {es : List E} {ds : List D} {vs : List V} {U : List Addr} {G B H G1 B1 H1 : Hp} {F F1 : Fp} {s s1 : List D} (p : PostL C σ es G B H F s ds s1 vs G1 B1 H1 F1 U) : Ext G B H (inF F) G1 B1 H1 (inF F1) :=
  p.ext.imp (fun _ z => z) fun a z => .inl (.inl z)
/-- a list, by what never moves -/
theorem lst_fix {fl : Fl} {xs : List D} {v : V} {fd : List Addr} {G B H : Hp} (gb : Sb G B) (o : Own C G B H (.lst fl xs) v fd) (h1 : (fl != .own) = true) (h2 : noOwns xs = true) : ∃ a vs, v = .ref a ∧ (∀ H', Sb B H' → SqL C.K H' a vs) ∧ Owns C G B H xs vs [] := by
  obtain ⟨a, vs, F', rfl, h, oo, e, k⟩ := o
  have := oo.nil h2
  subst this
  refine ⟨a, vs, rfl, fun H' b => .inl (.inl ?_), oo⟩
  cases fl with
  | own => cases h1
  | bor => exact b.plain h (fun z => z)
  | shr => exact (gb.trans b).plain h (fun z => z)
theorem tup_fix {fl : Fl} {xs : List D} {v : V} {fd : List Addr} {G B H : Hp} (gb : Sb G B) (o : Own C G B H (.tup fl xs) v fd) (h1 : (fl != .own) = true) (h2 : noOwns xs = true) : ∃ a vs, v = .ref a ∧ (∀ H', Sb B H' → SqT C.K H' a vs) ∧ Owns C G B H xs vs [] := by
  obtain ⟨a, vs, F', rfl, h, oo, e, k⟩ := o
  have := oo.nil h2
  subst this
  refine ⟨a, vs, rfl, fun H' b => ?_, oo⟩
  cases fl with
  | own => cases h1
  | bor => exact b.seqT h
  | shr => exact (gb.trans b).seqT h
theorem scr_fix {ns : List Int} {v : V} {fd : List Addr} {G B H : Hp} (gb : Sb G B) (o : Own C G B H (.scr ns) v fd) : ∃ a, v = .ref a ∧ (∀ H', Sb B H' → SqL C.K H' a (ns.map V.int)) := by
  obtain ⟨⟨a, rfl, h⟩, _⟩ := o
  exact ⟨a, rfl, fun H' b => (gb.trans b).seqL h⟩
/-- what may be walked as a list -/
theorem lstD_fix {d : D} {xs : List D} {v : V} {fd : List Addr} {G B H : Hp} (gb : Sb G B) (o : Own C G B H d v fd) (h : lstD d = some xs) : ∃ a vs, v = .ref a ∧ (∀ H', Sb B H' → SqL C.K H' a vs) ∧ Owns C G B H xs vs [] ∧ noOwns xs = true := by
  unfold lstD at h
  split at h
  · split at h <;> cases h
    rename_i q
    simp only [Bool.and_eq_true] at q
    obtain ⟨a, vs, h1, h2, h3⟩ := lst_fix gb o q.1.1 q.1.2
    exact ⟨a, vs, h1, h2, h3, q.1.2⟩
  · cases h
    obtain ⟨a, h1, h2⟩ := scr_fix gb o
    refine ⟨a, _, h1, h2, owns_ints _, ?_⟩
    rw [noOwns_iff]
    intro x hx
    obtain ⟨n, _, rfl⟩ := List.mem_map.1 hx
    rfl
  · cases h
theorem i_seq {tg a : Expr} {e : E} (k : CxOk C Γ X) (h : PE X a (tE C W e)) : PI X tg a (tI C W ⟨.seq, [e]⟩) := pi_imp (pi_seq h) fun σ H Q z => by
  obtain ⟨s, G, B, F, g, z⟩ := z
  refine ⟨s, G, B, F, g, ?_⟩
  replace z : outI C W σ [e] G B H F s ((evE e s).bind fun d s1 => R.of (seqD d) s1) Q := by
    have hz : evIt ⟨.seq, [e]⟩ s = (evE e s).bind fun d s1 => R.of (seqD d) s1 := by
      unfold evIt
      show (evEs [e] s).bind _ = _
      unfold evEs evEs
      cases evE e s <;> rfl
    rw [hz] at z
    exact z
  cases e1 : evE e s with
  | bad => rw [e1] at z; exact z
  | exc c fs xs s' => rw [e1] at z; exact z
  | ok d s1 =>
    rw [e1] at z
    replace z : outI C W σ [e] G B H F s (R.of (seqD d) s1) Q := z
    intro v G1 B1 H1 F1 fd p
    cases e2 : seqD d with
    | none => rw [e2] at z; exact z.elim
    | some xs =>
      rw [e2] at z
      replace z : ∀ J G' B' H' F', Good C G' B' H' F' s1 σ → Ext G B H (inF F) G' B' H' (inF F') → (effs [e] = false → s1 = s ∧ F' = F ∧ ∀ a o, H a = some o → H' a = some o) → Walk J xs.length (fun H => Sb B' H) (Yd C G' B' xs) → Q J H' := z
      have pu : effs [e] = false → s1 = s ∧ F1 = F ∧ ∀ a o, H a = some o → H1 a = some o := fun q => p.pure (by simpa [effs] using q)
      rw [k.K]
      unfold seqD at e2
      split at e2
      · split at e2 <;> cases e2
        rename_i q
        simp only [Bool.and_eq_true] at q
        obtain ⟨a, vs, rfl, h2, h3⟩ := lst_fix p.good.gb p.own q.1.1 q.1.2
        refine .inl ⟨a, rfl, ⟨vs, h2 _ p.good.bh⟩, z _ G1 B1 H1 F1 p.good p.xI pu ?_⟩
        rw [h3.length]
        exact walk_list.mono (fun H' b => h2 H' b) fun i H x H' _ _ y => by obtain ⟨rfl, y⟩ := y; exact yd_at h3 y
      · split at e2 <;> cases e2
        rename_i q
        simp only [Bool.and_eq_true] at q
        obtain ⟨a, vs, rfl, h2, h3⟩ := tup_fix p.good.gb p.own q.1.1 q.1.2
        refine .inr (.inl ⟨a, rfl, ⟨vs, h2 _ p.good.bh⟩, z _ G1 B1 H1 F1 p.good p.xI pu ?_⟩)
        rw [h3.length]
        exact walk_tup.mono (fun H' b => h2 H' b) fun i H x H' _ _ y => by obtain ⟨rfl, y⟩ := y; exact yd_at h3 y
      · cases e2
        rename_i x
        obtain ⟨rfl, _⟩ := p.own
        refine .inr (.inr ⟨x, rfl, z _ G1 B1 H1 F1 p.good p.xI pu ?_⟩)
        have hl : (x.cps.toList.map fun c => D.str ⟨#[c]⟩).length = x.cps.size := by simp
        rw [hl]
        exact walk_str.mono (fun _ _ => trivial) fun i H v H' _ _ y => by
          obtain ⟨rfl, c, e, rfl⟩ := y
          exact yd_str (by simp [e])
      · cases e2
        obtain ⟨a, rfl, h2⟩ := scr_fix p.good.gb p.own
        rename_i ns
        refine .inl ⟨a, rfl, ⟨_, h2 _ p.good.bh⟩, z _ G1 B1 H1 F1 p.good p.xI pu ?_⟩
        have hl : (ns.map D.int).length = (ns.map V.int).length := by simp
        rw [hl]
        exact walk_list.mono (fun H' b => h2 H' b) fun i H x H' _ _ y => by obtain ⟨rfl, y⟩ := y; exact yd_at (owns_ints (H := H1) _) y
      · cases e2
end
end TT
namespace TT
open PySem PySem.Spec PyProof.Rows L2
section
variable {X : Cx} {C : Gl0} {W : WX} {Γ : Gam}
theorem pel_tail {e : E} {es : List E} {a : Expr} {as : List Expr} (h : PEL X C W (e :: es) (a :: as)) : notStar a = true ∧ PEL X C W es as := by
  obtain ⟨_, _, q, n1, _, _, h2⟩ := h
  obtain ⟨rfl, rfl⟩ := List.cons.inj q
  exact ⟨n1, h2⟩
/-- operands, then a walk -/
theorem outI_L {es : List E} {σ : L2.St} {G B H : Hp} {F : Fp} {s : List D} {k : List D → List D → R (List D)} {Q : L2.It → Hp → Prop} {K : List V → Hp → Prop} (g : Good C G B H F s σ) (h : outI C W σ es G B H F s ((evEs es s).bind k) Q)
    (hk : ∀ ds s1 vs G1 B1 H1 F1 U, PostL C σ es G B H F s ds s1 vs G1 B1 H1 F1 U → outI C W σ es G B H F s (k ds s1) Q → K vs H1) : tL C W es σ H K := by
  refine ⟨s, G, B, F, g, ?_⟩
  cases e1 : evEs es s with
  | bad => rw [e1] at h; exact h
  | exc c fs xs s' => rw [e1] at h; exact h
  | ok ds s1 =>
    rw [e1] at h
    exact fun vs G1 B1 H1 F1 U p => hk ds s1 vs G1 B1 H1 F1 U p h
theorem evI_one {e : E} {s : List D} {k : D → List D → R (List D)} : ((evE e s).bind k) = (evEs [e] s).bind fun ds s1 => match ds with | [d] => k d s1 | _ => .bad := by
  unfold evEs evEs
  cases evE e s <;> rfl
theorem walk_rng {lo c : Int} {n : Nat} {G B : Hp} : Walk (Itc lo c n) (rngD lo n c).length (fun H => Sb B H) (Yd C G B (rngD lo n c)) := by
  rw [rngD_len]
  exact walk_rangeC.mono (fun _ _ => trivial) fun i H x H' hi _ y => by obtain ⟨rfl, rfl⟩ := y; exact yd_int (rngD_get hi)
theorem walk_rng1 {lo : Int} {n : Nat} {G B : Hp} : Walk (Itr lo n) (rngD lo n 1).length (fun H => Sb B H) (Yd C G B (rngD lo n 1)) := by
  rw [rngD_len]
  exact walk_range.mono (fun _ _ => trivial) fun i H x H' hi _ y => by
    obtain ⟨rfl, rfl⟩ := y
    exact yd_int (by rw [rngD_get hi, Int.mul_one])
theorem i_rng1 {tg a : Expr} {as : List Expr} {e : E} (k : CxOk C Γ X) (hs : btCall Γ "range" a = some as) (h : PEL X C W [e] as) : PI X tg a (tI C W ⟨.rng1, [e]⟩) := by
  obtain ⟨x, p, pos, rfl, hb⟩ := btCall_some hs
  obtain ⟨rfl, hg, hd, hm⟩ := k.bt hb
  obtain ⟨a, rfl⟩ := List.length_eq_one_iff.1 (pel_len h)
  refine pi_imp (pi_range1 hg hm (pa_of h) (star_ok (pel_tail h).1)) fun σ H Q z => ?_
  obtain ⟨s, G, B, F, g, z⟩ := z
  simp only [evIt] at z
  refine outI_L g z fun ds s1 vs G1 B1 H1 F1 U p z => ?_
  obtain ⟨d, rfl⟩ := List.length_eq_one_iff.1 (vl_len p.vl)
  obtain ⟨v, fd, rfl, o⟩ := vl_one p.vl
  cases d <;> first | exact z.elim | skip
  rename_i j
  replace z : outI C W σ _ G B H F s (R.of (if small62 j then some (rngD 0 j.toNat 1) else none) s1) Q := z
  split at z
  · rename_i q
    rw [small62_iff] at q
    exact ⟨j, by rw [o.1], q.1, q.2, z _ G1 B1 H1 F1 p.good p.xI p.pure walk_rng1⟩
  · exact z.elim
theorem i_rng2 {tg a : Expr} {as : List Expr} {e f : E} (k : CxOk C Γ X) (hs : btCall Γ "range" a = some as) (h : PEL X C W [e, f] as) : PI X tg a (tI C W ⟨.rng2, [e, f]⟩) := by
  obtain ⟨x, p, pos, rfl, hb⟩ := btCall_some hs
  obtain ⟨rfl, hg, hd, hm⟩ := k.bt hb
  obtain ⟨a, b, rfl⟩ := len2 (pel_len h)
  obtain ⟨n1, h2⟩ := pel_tail h
  obtain ⟨n2, _⟩ := pel_tail h2
  refine pi_imp (pi_range2 hg hm (pa_of h) (by rw [star_ok n1, star_ok n2]; rfl) (star_ok n2)) fun σ H Q z => ?_
  obtain ⟨s, G, B, F, g, z⟩ := z
  simp only [evIt] at z
  refine outI_L g z fun ds s1 vs G1 B1 H1 F1 U p z => ?_
  obtain ⟨d, d', rfl⟩ := len2 (vl_len p.vl)
  obtain ⟨v, v', fd, fd', rfl, o, o'⟩ := vl_two p.vl
  cases d <;> first | exact z.elim | skip
  cases d' <;> first | exact z.elim | skip
  rename_i i j
  replace z : outI C W σ _ G B H F s (R.of (if small62 i && small62 j then some (rngD i (j - i).toNat 1) else none) s1) Q := z
  split at z
  · rename_i q
    rw [Bool.and_eq_true, small62_iff, small62_iff] at q
    exact ⟨i, j, by rw [o.1, o'.1], ⟨q.1.1, q.1.2, q.2.1, q.2.2⟩, z _ G1 B1 H1 F1 p.good p.xI p.pure walk_rng1⟩
  · exact z.elim
theorem i_rng3 {tg a : Expr} {as : List Expr} {e f f3 : E} (k : CxOk C Γ X) (hs : btCall Γ "range" a = some as) (h : PEL X C W [e, f, f3] as) : PI X tg a (tI C W ⟨.rng3, [e, f, f3]⟩) := by
  obtain ⟨x, p, pos, rfl, hb⟩ := btCall_some hs
  obtain ⟨rfl, hg, hd, hm⟩ := k.bt hb
  obtain ⟨a, b, c, rfl⟩ := len3 (pel_len h)
  obtain ⟨n1, h2⟩ := pel_tail h
  refine pi_imp (pi_range3 hg hm (pa_of h) (star_ok n1) (stars_ok h2 _ _)) fun σ H Q z => ?_
  obtain ⟨s, G, B, F, g, z⟩ := z
  simp only [evIt] at z
  refine outI_L g z fun ds s1 vs G1 B1 H1 F1 U p z => ?_
  obtain ⟨d, d', d'', rfl⟩ := len3 (vl_len p.vl)
  obtain ⟨v, v', v'', fd, fd', fd'', rfl, o, o', o''⟩ := vl_three p.vl
  cases d <;> first | exact z.elim | skip
  cases d' <;> first | exact z.elim | skip
  cases d'' <;> first | exact z.elim | skip
  rename_i i j l
  replace z : outI C W σ _ G B H F s (R.of (if small62 i && small62 j && decide (0 < l) && decide (l < 1073741824) then some (rngD i ((j - i + (l - 1)) / l).toNat l) else none) s1) Q := z
  split at z
  · rename_i q
    simp only [Bool.and_eq_true, decide_eq_true_eq] at q
    exact ⟨i, j, l, _, by rw [o.1, o'.1, o''.1], rgC q.1.1.1 q.1.1.2 q.1.2 q.2, z _ G1 B1 H1 F1 p.good p.xI p.pure walk_rng⟩
  · exact z.elim
theorem yd_pair {xs ys zs : List D} {vs ws : List V} {i : Nat} {T : Addr} {v w : V} {G B H : Hp} (ox : Owns C G B H xs vs []) (oy : Owns C G B H ys ws []) (nx : noOwns xs = true) (ny : noOwns ys = true) (hv : vs[i]? = some v) (hw : ws[i]? = some w) {H1 : Hp} (hT : H1 T = none)
    (hz : ∀ x y, xs[i]? = some x → ys[i]? = some y → zs[i]? = some (pairD x y)) : Yd C G B zs i H1 (.ref T) (upd H1 T (.tup [v, w])) := fun G1 B1 g b gb bh => by
  obtain ⟨x, G', B', ex, x1, gb1, bh1, o1⟩ := yd_at (H' := H1) ox hv G1 B1 g b gb bh
  obtain ⟨y, G'', B'', ey, x2, gb2, bh2, o2⟩ := yd_at (H' := H1) oy hw G' B' (fun a o z => x1.g a o (g a o z)) (fun a o z => x1.b a o (b a o z)) gb1 bh1
  obtain ⟨G2, B2, x3, gb3, bh3, o3⟩ := pair_own gb2 bh2 (noOwns_iff.1 nx x (List.mem_of_getElem? ex)) (noOwns_iff.1 ny y (List.mem_of_getElem? ey)) (o1.still x2.g x2.b) o2 hT
  exact ⟨_, G2, B2, hz x y ex ey, (x1.trans x2).trans x3, gb3, bh3, o3⟩
theorem i_enum {tg a : Expr} {as : List Expr} {e : E} (k : CxOk C Γ X) (hs : btCall Γ "enumerate" a = some as) (h : PEL X C W [e] as) (ht : isTup tg = true) : PI X tg a (tI C W ⟨.enum, [e]⟩) := by
  obtain ⟨x, p, pos, rfl, hb⟩ := btCall_some hs
  obtain ⟨rfl, hg, hd, hm⟩ := k.bt hb
  obtain ⟨a, rfl⟩ := List.length_eq_one_iff.1 (pel_len h)
  obtain ⟨elts, kk, tpos, rfl⟩ : ∃ elts kk tpos, tg = .Tuple elts kk tpos := by
    cases tg <;> first | exact ⟨_, _, _, rfl⟩ | cases ht
  refine pi_imp (pi_enum hg hm (pa_of h) (star_ok (pel_tail h).1)) fun σ H Q z => ?_
  obtain ⟨s, G, B, F, g, z⟩ := z
  simp only [evIt] at z
  refine outI_L g z fun ds s1 vs G1 B1 H1 F1 U p z => ?_
  obtain ⟨d, rfl⟩ := List.length_eq_one_iff.1 (vl_len p.vl)
  obtain ⟨v, fd, rfl, o⟩ := vl_one p.vl
  replace z : outI C W σ _ G B H F s (R.of ((lstD d).map fun xs => (xs.zipIdx.map fun p => pairD (.int (p.2 : Nat)) p.1)) s1) Q := z
  cases e2 : lstD d with
  | none => rw [e2] at z; exact z.elim
  | some xs =>
    rw [e2] at z
    obtain ⟨a, vs, rfl, h2, h3, h4⟩ := lstD_fix p.good.gb o e2
    rw [k.K]
    refine ⟨a, vs, rfl, h2 _ p.good.bh, z _ G1 B1 H1 F1 p.good p.xI p.pure ?_⟩
    have hl : (xs.zipIdx.map fun p => pairD (.int (p.2 : Nat)) p.1).length = vs.length := by simp [h3.length]
    rw [hl]
    refine walk_enum.mono (fun H' b => h2 H' b) fun i H x H' hi _ y => ?_
    obtain ⟨T, x, y, rfl, hT, rfl, e1, e3⟩ := y
    cases e1
    refine yd_pair (H := H1) (xs := (List.range vs.length).map fun (i : Nat) => D.int (i : Nat)) (vs := ((List.range vs.length).map fun (i : Nat) => (i : Int)).map V.int) (by rw [show ((List.range vs.length).map fun (i : Nat) => D.int (i : Nat)) = ((List.range vs.length).map fun (i : Nat) => (i : Int)).map D.int from by simp]; exact owns_ints _) h3 (noOwns_iff.2 fun d hd => ?_) h4 (by simp [hi]) e3 hT fun x y ex ey => ?_
    · obtain ⟨_, _, rfl⟩ := List.mem_map.1 hd
      rfl
    · simp [hi] at ex
      simp [ey, ← ex]
theorem i_zip {tg a : Expr} {as : List Expr} {e f : E} (k : CxOk C Γ X) (hs : btCall Γ "zip" a = some as) (h : PEL X C W [e, f] as) (ht : isTup tg = true) : PI X tg a (tI C W ⟨.zip, [e, f]⟩) := by
  obtain ⟨x, p, pos, rfl, hb⟩ := btCall_some hs
  obtain ⟨rfl, hg, hd, hm⟩ := k.bt hb
  obtain ⟨a, b, rfl⟩ := len2 (pel_len h)
  obtain ⟨n1, h2⟩ := pel_tail h
  obtain ⟨elts, kk, tpos, rfl⟩ : ∃ elts kk tpos, tg = .Tuple elts kk tpos := by
    cases tg <;> first | exact ⟨_, _, _, rfl⟩ | cases ht
  refine pi_imp (pi_zip hg hm (pa_of h) (star_ok n1) (stars_ok h2 _ _)) fun σ H Q z => ?_
  obtain ⟨s, G, B, F, g, z⟩ := z
  simp only [evIt] at z
  refine outI_L g z fun ds s1 vs G1 B1 H1 F1 U p z => ?_
  obtain ⟨d, d', rfl⟩ := len2 (vl_len p.vl)
  obtain ⟨v, v', fd, fd', rfl, o, o'⟩ := vl_two p.vl
  replace z : outI C W σ _ G B H F s (R.of ((lstD d).bind fun xs => (lstD d').map fun ys => (xs.zip ys).map fun p => pairD p.1 p.2) s1) Q := z
  cases e2 : lstD d with
  | none => rw [e2] at z; exact z.elim
  | some xs =>
    cases e3 : lstD d' with
    | none => rw [e2, e3] at z; exact z.elim
    | some ys =>
      rw [e2, e3] at z
      obtain ⟨a, vs, rfl, q2, q3, q4⟩ := lstD_fix p.good.gb o e2
      obtain ⟨b, ws, rfl, r2, r3, r4⟩ := lstD_fix p.good.gb o' e3
      rw [k.K]
      refine ⟨a, b, vs, ws, rfl, q2 _ p.good.bh, r2 _ p.good.bh, z _ G1 B1 H1 F1 p.good p.xI p.pure ?_⟩
      refine (walk_zip (n := ((xs.zip ys).map fun p => pairD p.1 p.2).length) (by simp [q3.length, r3.length])).mono (fun H' b => ⟨q2 H' b, r2 H' b⟩) fun i H x H' hi _ y => ?_
      obtain ⟨T, x, y, rfl, hT, rfl, e1, e3⟩ := y
      exact yd_pair q3 r3 q4 r4 e1 e3 hT fun x y ex ey => by
        have q : (xs.zip ys)[i]? = some (x, y) := List.getElem?_zip_eq_some.2 ⟨ex, ey⟩
        rw [List.getElem?_map, q]
        rfl
/-! ### for, while -/
theorem tg_ok (k : CxOk C Γ X) {t : Tg} {e : Expr} (h : tgB Γ t e = true) : ∃ g, PG X e g ∧ ∀ {s s2 : List D} {d : D} {v : V} {G B H : Hp} {F : Fp} {σ : L2.St} {Q : L2.St → Hp → Prop}, Good C G B H F s σ → Own C G B H d v [] → tgSet t d s = some s2 →
    (∀ σ2 F2, Good C G B H F2 s2 σ2 → (∀ a, TT.inF F2 a → TT.inF F a) → Prot Γ.m σ σ2 → Q σ2 H) → g v σ H Q := by
  cases t with
  | nm i =>
    obtain ⟨x, p, rfl, hN, hL, hF, hm⟩ := st_ok k (by unfold tgB at h; exact h)
    refine ⟨_, pg_name (nd_of k) hN hL hF, fun {s s2 d v G B H F σ Q} g o e q => ?_⟩
    cases e
    obtain ⟨F2, g2, k2⟩ := g.set (i := i) o List.nodup_nil fun _ z => nomatch z
    exact q _ F2 g2 (fun a z => (k2 a z).elim id fun z => nomatch z) (Prot.set hm)
  | tup is =>
    unfold tgB at h
    split at h
    · rename_i q; cases q
    · rename_i q
      cases q
      obtain ⟨hg, hl, hst, hm⟩ := sts_ok k h
      refine ⟨_, pg_tup k.calm hg hl hst, fun {s s2 d v G B H F σ Q} g o e q => ?_⟩
      obtain ⟨a, vs, F2, rfl, hq, hle, g2, k2⟩ := tg_tup g o List.nodup_nil (fun _ z => nomatch z) e
      rw [k.K]
      exact ⟨a, vs, rfl, hq, hle, hle, q _ F2 g2 (fun a z => (k2 a z).elim id fun z => nomatch z) (prot_fold hm)⟩
    · cases h
end
end TT
namespace TT
open PySem PySem.Spec PyProof.Rows L2
/-! ### list comprehensions -/
section
variable {X : Cx} {C : Gl0} {W : WX} {Γ : Gam}
/-- in a comprehension's block nothing is raised -/
abbrev never : WX := fun _ _ _ _ => False
theorem takes_blk {s : Shared} {H : Hp} {scope : Scope} {cenv : Env} {fp : List Addr} : Takes (X.blk s H scope cenv fp) never := fun u s' ⟨_, _, _, _, _, _, _, _, _, _, _, _, _, _, _, _, w⟩ => w.elim
theorem cx_blk (k : CxOk C Γ X) {s : Shared} {H : Hp} {scope : Scope} {a : Addr} {cl : List (Str × Addr)} {fp : List Addr} : CxOk C (Γ.blk scope) (X.blk s H scope (compEnvC scope cl a X.env) fp) where
  K := k.K
  N := k.N
  nd := k.nd
  sc := by
    show relS scope X.env.scope = relS scope Γ.sc
    rw [k.sc]
  calm := k.calm
  room := k.room
  bn := k.bn
  fn := fun x _ h2 => by
    have h2 : locB scope x = true := h2
    unfold locB at h2
    split at h2
    · exact .inr (lookup_relS_keep (by decide) ‹_›)
    · rename_i e
      refine .inl ?_
      show (scope.names.lookup x == some .cell) = true
      rw [e]; rfl
    · cases h2
theorem nd_blk {nd : Nd} {s : Shared} {H : Hp} {scope : Scope} {cenv : Env} {fp : List Addr} (h : NdOk C X nd) : NdOk C (X.blk s H scope cenv fp) nd := by
  cases nd with
  | fe f =>
    obtain ⟨a, fd, ps, dV, dv, h1, h2, h3⟩ := h
    exact ⟨a, fd, ps, dV, dv, h1, h2, ⟨h3.ln, h3.dl, h3.dr, h3.do_, h3.bd, h3.ok⟩⟩
  | gl x d => exact h
  | isi t x tab => exact h
  | exc c x => exact ⟨h.g, h.x, h.k, h.b, h.t⟩
  | tr c x tab => exact h
theorem all_blk {s : Shared} {H : Hp} {scope : Scope} {cenv : Env} {fp : List Addr} : ∀ {l : List Nd}, AllNd C X l → AllNd C (X.blk s H scope cenv fp) l
  | [], _ => trivial
  | _ :: _, h => ⟨nd_blk h.1, all_blk h.2⟩
/-! slots put aside -/
theorem clr_len (s : List D) : ∀ is : List Nat, (clr is s).length = s.length
  | [] => rfl
  | i :: is => by unfold clr; rw [List.length_set, clr_len s is]
theorem rst_len (s0 s : List D) : ∀ is : List Nat, (rst s0 is s).length = s.length
  | [] => rfl
  | i :: is => by unfold rst; rw [List.length_set, rst_len s0 s is]
theorem clr_get (s : List D) (j : Nat) : ∀ is : List Nat, (clr is s).getD j .dead = if j ∈ is then .dead else s.getD j .dead
  | [] => by simp [clr]
  | i :: is => by
    unfold clr
    rw [getD_set, clr_get s j is, clr_len]
    by_cases h : j = i
    · by_cases hl : i < s.length
      · simp [h, hl]
      · have : s.getD j .dead = .dead := by
          rw [List.getD_eq_getElem?_getD, List.getElem?_eq_none (by omega)]; rfl
        simp [h, hl]
    · simp [h]
theorem rst_get (s0 s : List D) (hl : s.length = s0.length) (j : Nat) : ∀ is : List Nat, (rst s0 is s).getD j .dead = if j ∈ is then s0.getD j .dead else s.getD j .dead
  | [] => by simp [rst]
  | i :: is => by
    unfold rst
    rw [getD_set, rst_get s0 s hl j is, rst_len]
    by_cases h : j = i
    · by_cases hh : i < s.length
      · simp [h, hh]
      · have e1 : s.getD j .dead = .dead := by
          rw [List.getD_eq_getElem?_getD, List.getElem?_eq_none (by omega)]; rfl
        have e2 : s0.getD j .dead = .dead := by
          rw [List.getD_eq_getElem?_getD, List.getElem?_eq_none (by omega)]; rfl
        rw [h] at e1 e2
        simp only [h, hh, and_false, if_false, List.mem_cons, true_or, if_true]
        split
        · rfl
        · rw [e1, e2]
    · simp [h]
theorem wipe_at {σ : L2.St} {j : Nat} : ∀ {vs : List Nat}, j ∉ vs → (wipe σ vs)[j]? = σ[j]?
  | [], _ => rfl
  | v :: vs, h => by
    unfold wipe
    rw [List.getElem?_set_ne (fun e => h (by rw [e]; exact List.mem_cons_self)), wipe_at fun z => h (List.mem_cons_of_mem _ z)]
theorem wipe_in {σ : L2.St} {j : Nat} : ∀ {vs : List Nat}, j ∈ vs → j < σ.length → (wipe σ vs)[j]? = some none
  | v :: vs, h, hl => by
    unfold wipe
    by_cases e : v = j
    · rw [e, List.getElem?_set_self (by rw [wipe_length]; exact hl)]
    · rw [List.getElem?_set_ne e]
      rcases List.mem_cons.1 h with z | z
      · exact absurd z.symm e
      · exact wipe_in z hl
/-- a slot that is stored is among the own ones: forgotten, all are alike -/
theorem wipe_set {σ : L2.St} {i : Nat} {v : Option V} : ∀ {vs : List Nat}, i ∈ vs → wipe (σ.set i v) vs = wipe σ vs
  | u :: vs, h => by
    unfold wipe
    by_cases e : i ∈ vs
    · rw [wipe_set e]
    · have q : i = u := by
        rcases List.mem_cons.1 h with z | z
        · exact z
        · exact absurd z e
      subst q
      have : ∀ (ws : List Nat), i ∉ ws → wipe (σ.set i v) ws = (wipe σ ws).set i v := fun ws => by
        induction ws with
        | nil => intro _; rfl
        | cons w ws ih =>
          intro hw
          unfold wipe
          rw [ih fun z => hw (List.mem_cons_of_mem _ z), List.set_comm _ _ (fun z => hw (by rw [z]; exact List.mem_cons_self))]
      rw [this vs e, List.set_set]
theorem wipe_sets {vs : List Nat} : ∀ {is : List Nat} {ws : List V} {σ : L2.St}, (∀ i ∈ is, i ∈ vs) → wipe ((is.zip ws).foldl (fun t p => t.set p.1 (some p.2)) σ) vs = wipe σ vs
  | [], _, σ, _ => by simp
  | _ :: _, [], σ, _ => by simp
  | i :: is, w :: ws, σ, h => by
    show wipe ((is.zip ws).foldl _ (σ.set i (some w))) vs = _
    rw [wipe_sets fun j hj => h j (List.mem_cons_of_mem _ hj), wipe_set (h i List.mem_cons_self)]
theorem wipe_wipe {σ : L2.St} {vs : List Nat} : wipe (wipe σ vs) vs = wipe σ vs := by
  apply List.ext_getElem?
  intro j
  by_cases h : j ∈ vs
  · by_cases hl : j < σ.length
    · rw [wipe_in h (by rw [wipe_length]; exact hl), wipe_in h hl]
    · rw [List.getElem?_eq_none (by rw [wipe_length, wipe_length]; omega), List.getElem?_eq_none (by rw [wipe_length]; omega)]
  · rw [wipe_at h]
end
end TT
namespace TT
open PySem PySem.Spec PyProof.Rows L2
section
variable {X : Cx} {C : Gl0} {W : WX} {Γ : Gam}
theorem all_out {own : List Nat} {j : Nat} (hj : j ∉ own) : ∀ {is : List Nat} {xs s s2 : List D}, (∀ i ∈ is, i ∈ own) → setAll is xs s = some s2 → s2.getD j .dead = s.getD j .dead
  | [], [], _, _, _, e => by cases e; rfl
  | [], _ :: _, _, _, _, e => by simp [setAll] at e
  | _ :: _, [], _, _, _, e => by simp [setAll] at e
  | i :: is, x :: xs, s, s2, hi, e => by
    have := all_out hj (fun i hh => hi i (List.mem_cons_of_mem _ hh)) (show setAll is xs (s.set i x) = some s2 from e)
    rw [this, getD_set, if_neg fun z => hj (by rw [z.1]; exact hi i List.mem_cons_self)]
theorem sets_out {own : List Nat} {j : Nat} {is : List Nat} {d : D} {s s2 : List D} (hi : ∀ i ∈ is, i ∈ own) (hj : j ∉ own) (e : tgSet (.tup is) d s = some s2) : s2.getD j .dead = s.getD j .dead := by
  cases d <;> first | (simp [tgSet] at e; done) | skip
  exact all_out hj hi e
/-- a target whose slots are a comprehension's own -/
def gOf (C : Gl0) : Tg → TG
  | .nm i => gName i
  | .tup is => gTup C.K is.length (gNames is)
theorem tg_okP {Y : Cx} (k : CxOk C Γ Y) {t : Tg} {e : Expr} (h : tgB Γ t e = true) : PG Y e (gOf C t) := by
  cases t with
  | nm i =>
    obtain ⟨x, p, rfl, hN, hL, hF, hm⟩ := st_ok k (by unfold tgB at h; exact h)
    exact pg_name (nd_of k) hN hL hF
  | tup is =>
    unfold tgB at h
    split at h
    · rename_i q; cases q
    · rename_i q
      cases q
      obtain ⟨hg, hl, hst, hm⟩ := sts_ok k h
      have := pg_tup k.calm hg hl hst (k := ‹Nat›) (pos := ‹Pos›)
      rw [k.K] at this
      exact this
    · cases h
theorem tg_okW {t : Tg} {own : List Nat} (hin : tgIn own t = true) {s s2 : List D} {d : D} {v : V} {G B H : Hp} {F : Fp} {σ : L2.St} {Q : L2.St → Hp → Prop} (g : Good C G B H F s σ) (o : Own C G B H d v []) (e : tgSet t d s = some s2)
    (q : ∀ σ2 F2, Good C G B H F2 s2 σ2 → (∀ a, TT.inF F2 a → TT.inF F a) → wipe σ2 own = wipe σ own → (∀ j, j ∉ own → s2.getD j .dead = s.getD j .dead) → Q σ2 H) : gOf C t v σ H Q := by
  cases t with
  | nm i =>
    have hi : i ∈ own := by simpa [tgIn] using hin
    cases e
    obtain ⟨F2, g2, k2⟩ := g.set (i := i) o List.nodup_nil fun _ z => nomatch z
    refine q _ F2 g2 (fun a z => (k2 a z).elim id fun z => nomatch z) (wipe_set hi) fun j hj => ?_
    rw [getD_set, if_neg fun z => hj (by rw [z.1]; exact hi)]
  | tup is =>
    have hi : ∀ i ∈ is, i ∈ own := by simpa [tgIn] using hin
    obtain ⟨a, vs, F2, rfl, hq, hle, g2, k2⟩ := tg_tup g o List.nodup_nil (fun _ z => nomatch z) e
    refine ⟨a, vs, rfl, hq, hle, hle, q _ F2 g2 (fun a z => (k2 a z).elim id fun z => nomatch z) (wipe_sets hi) fun j hj => ?_⟩
    exact sets_out hi hj e
/-- a comprehension's tests -/
def tTs (C : Gl0) : List E → L2.TT
  | [] => tYes
  | [e] => tTst C never e
  | _ => fun _ _ _ => False
abbrev stepC (t : Tg) (co : List E) (elt : E) : D → List D → R (Option D) := fun d s => match tgSet t d s with
  | some s2 => (evTs co s2).bind fun b s3 => if b then (evE elt s3).bind fun y s4 => .ok (some y) s4 else .ok none s3
  | none => .bad
structure Acc (C : Gl0) (own : List Nat) (σ : L2.St) (pu : Bool) (s1 all s2 : List D) (f : D → List D → R (Option D)) (xs : List D) (G0 B0 H0 : Hp) (F0 : Fp) (Ad : Addr) (i : Nat) (H : Hp) (sI : List D) (G B : Hp) (F : Fp) (ys : List D) (acc : List V) (U : List Addr) (zs : List D) : Prop where
  good : Good C G B H F sI (wipe σ own)
  ext : Ext G0 B0 H0 (inF F0) G B H (fun a => inF F a ∨ a = Ad ∨ a ∈ U)
  at_ : H Ad = some (.lst acc)
  bn : B Ad = none
  owns : Owns C G B H ys acc U
  nd : U.Nodup
  nD : Ad ∉ U
  fD : ¬ inF F Ad
  fU : ∀ a ∈ U, ¬ inF F a
  run : loopC own f (xs.drop i) sI = .ok zs s2
  all_ : all = ys ++ zs
  pure : pu = true → (∀ j, j ∉ own → sI.getD j .dead = s1.getD j .dead) ∧ Alloc G0 B0 H0 G B H ∧ ∀ a ∈ U, H0 a = none
theorem PostE.alloc {σ : L2.St} {e : E} {G B H G' B' H' : Hp} {F F' : Fp} {s s' : List D} {d : D} {v : V} {fd : List Addr} (p : PostE C σ e G B H F s d s' v G' B' H' F' fd) (h : eff e = false) : Alloc G B H G' B' H' := by
  obtain ⟨_, e2, k⟩ := p.pure h
  have hb : ∀ a, TT.inF F a → B' a = none := fun a z => (p.good.inF (by rw [e2]; exact z)).2
  exact ⟨fun a o h _ => k a o h, p.ext.g, p.ext.b, fun a h => by
    rcases p.ext.gn a h with q | q | q
    · exact .inl q
    · exact absurd (hb a q) (p.good.gb.ne h)
    · exact .inr (.inr q), fun a h => by
    rcases p.ext.bn a h with q | q | q
    · exact .inl q
    · exact absurd (hb a q) h
    · exact .inr (.inr q), fun _ z => z.elim⟩
theorem Good.clr {G B H : Hp} {F : Fp} {s : List D} {σ : L2.St} {own : List Nat} (g : Good C G B H F s σ) (h : chk own s = true) : Good C G B H F (TT.clr own s) (wipe σ own) := by
  have hn : ∀ j ∈ own, F j = [] := fun j hj => by
    by_cases e : s.getD j .dead = .dead
    · exact g.nf j e
    · obtain ⟨v, _, o⟩ := g.sl j e
      exact o.nil (by simp only [chk, List.all_eq_true] at h; exact h j hj)
  refine ⟨g.gb, g.bh, by rw [clr_len, wipe_length]; exact g.len, fun j hj => ?_, fun j hj => ?_, g.nd, g.dj⟩
  · rw [clr_get] at hj ⊢
    by_cases q : j ∈ own
    · rw [if_pos q] at hj; exact absurd rfl hj
    · rw [if_neg q] at hj ⊢
      obtain ⟨v, e, o⟩ := g.sl j hj
      exact ⟨v, by rw [wipe_at q]; exact e, o⟩
  · rw [clr_get] at hj
    by_cases q : j ∈ own
    · exact hn j q
    · rw [if_neg q] at hj; exact g.nf j hj
theorem Good.rst {G B H G2 B2 H2 : Hp} {F F2 : Fp} {s s2 : List D} {σ : L2.St} {own : List Nat} (g : Good C G B H F s σ) (h : chk own s = true) (g2 : Good C G2 B2 H2 F2 s2 (wipe σ own)) (hg : ∀ a o, G a = some o → G2 a = some o) (hb : ∀ a o, B a = some o → B2 a = some o) :
    Good C G2 B2 H2 (fun j => if j ∈ own then [] else F2 j) (TT.rst s own s2) σ := by
  have hl : s2.length = s.length := by rw [g2.len, wipe_length, g.len]
  refine ⟨g2.gb, g2.bh, by rw [rst_len, hl]; exact g.len, fun j hj => ?_, fun j hj => ?_, fun j => ?_, fun j k a h1 h2 => ?_⟩
  · rw [rst_get s s2 hl] at hj ⊢
    by_cases q : j ∈ own
    · rw [if_pos q] at hj ⊢
      obtain ⟨v, e, o⟩ := g.sl j hj
      have n : F j = [] := o.nil (by simp only [chk, List.all_eq_true] at h; exact h j q)
      refine ⟨v, e, ?_⟩
      show Own C G2 B2 H2 _ v (if j ∈ own then [] else F2 j)
      rw [if_pos q]
      rw [n] at o
      exact o.mono hg hb fun _ z => nomatch z
    · rw [if_neg q] at hj ⊢
      obtain ⟨v, e, o⟩ := g2.sl j hj
      rw [wipe_at q] at e
      refine ⟨v, e, ?_⟩
      show Own C G2 B2 H2 _ v (if j ∈ own then [] else F2 j)
      rw [if_neg q]; exact o
  · rw [rst_get s s2 hl] at hj
    show (if j ∈ own then [] else F2 j) = []
    by_cases q : j ∈ own
    · rw [if_pos q]
    · rw [if_neg q] at hj ⊢; exact g2.nf j hj
  · show (if j ∈ own then [] else F2 j).Nodup
    by_cases q : j ∈ own
    · rw [if_pos q]; exact List.nodup_nil
    · rw [if_neg q]; exact g2.nd j
  · by_cases q : j ∈ own <;> by_cases q2 : k ∈ own <;> simp [q, q2] at h1 h2
    exact g2.dj j k a h1 h2
theorem owns_snoc {G B H : Hp} {y : D} {v : V} {fd : List Addr} (o2 : Own C G B H y v fd) : ∀ {ys : List D} {vs : List V} {U : List Addr}, Owns C G B H ys vs U → Owns C G B H (ys ++ [y]) (vs ++ [v]) (U ++ fd)
  | [], vs, U, o => by
    obtain ⟨rfl, rfl⟩ := o
    exact ⟨v, [], fd, [], rfl, by simp, o2, rfl, rfl⟩
  | x :: xs, vs, U, o => by
    obtain ⟨w, vr, F1, F2, rfl, rfl, o1, o3⟩ := o
    exact ⟨w, vr ++ [v], F1, F2 ++ fd, rfl, by simp, o1, owns_snoc o2 o3⟩
theorem Ext.updAt {G B H : Hp} {P : Addr → Prop} {a : Addr} {o : HO} (h : P a) : Ext G B H P G B (upd H a o) P :=
  ⟨fun b u e np => by rw [upd_ne (fun z => np (by rw [z]; exact h))]; exact e, fun _ _ z => z, fun _ _ z => z, fun _ z => .inl z, fun _ z => .inl z, fun _ z => .inl z⟩
theorem Good.updAt {G B H : Hp} {F : Fp} {s : List D} {σ : L2.St} {a : Addr} {o : HO} (g : Good C G B H F s σ) (h : ¬ TT.inF F a) (hb : B a = none) : Good C G B (upd H a o) F s σ :=
  ⟨g.gb, fun b u e => by rw [upd_ne (fun z => by rw [z, hb] at e; cases e)]; exact g.bh b u e, g.len, fun j hj => by
    obtain ⟨v, e, ow⟩ := g.sl j hj
    exact ⟨v, e, ow.mono (fun _ _ z => z) (fun _ _ z => z) fun b z => ⟨upd_ne (fun q => h (by rw [← q]; exact ⟨j, z⟩)), (ow.fp b z).2⟩⟩, g.nf, g.nd, g.dj⟩
end
end TT
namespace TT
open PySem PySem.Spec PyProof.Rows L2
section
variable {C : Gl0} {W : WX}
abbrev PvC (C : Gl0) (own : List Nat) (σ : L2.St) (pu : Bool) (s1 all s2 : List D) (f : D → List D → R (Option D)) (xs : List D) (G0 B0 H0 : Hp) (F0 : Fp) (Ad : Addr) (i : Nat) (H : Hp) : Prop :=
  ∃ sI G B F ys acc U zs, Acc C own σ pu s1 all s2 f xs G0 B0 H0 F0 Ad i H sI G B F ys acc U zs
/-- what comes behind a turn's test -/
def aftC (own : List Nat) (f : D → List D → R (Option D)) (ds : List D) : R (Option D) → R (List D)
  | .ok (some y) s1 => if chk own s1 then (loopC own f ds (clr own s1)).bind fun ys s2 => .ok (y :: ys) s2 else .bad
  | .ok none s1 => if chk own s1 then loopC own f ds (clr own s1) else .bad
  | _ => .bad
theorem loopC_cons {own : List Nat} {f : D → List D → R (Option D)} {d : D} {ds s : List D} : loopC own f (d :: ds) s = aftC own f ds (f d s) := by
  rw [loopC]
  cases f d s with
  | ok o s1 => cases o <;> rfl
  | exc c fs xs s1 => rfl
  | bad => rfl
section
variable {own : List Nat} {σ : L2.St} {pu : Bool} {s1 all s2 : List D} {f : D → List D → R (Option D)} {xs : List D} {G0 B0 H0 : Hp} {F0 : Fp} {Ad : Addr} {i : Nat}
/-- a turn that keeps nothing -/
theorem acc_skip {H2 H5 G2 B2 G5 B5 : Hp} {F2 F5 : Fp} {sI s5 : List D} {σ5 : L2.St} {ys zs : List D} {acc : List V} {U : List Addr} (A : Acc C own σ pu s1 all s2 f xs G0 B0 H0 F0 Ad i H2 sI G2 B2 F2 ys acc U zs)
    (g5 : Good C G5 B5 H5 F5 s5 σ5) (w5 : wipe σ5 own = wipe σ own) (x : Ext G2 B2 H2 (inF F2) G5 B5 H5 (inF F5)) (hc : chk own s5 = true) (r : loopC own f (xs.drop (i + 1)) (TT.clr own s5) = .ok zs s2)
    (p5 : pu = true → (∀ j, j ∉ own → s5.getD j .dead = sI.getD j .dead) ∧ Alloc G2 B2 H2 G5 B5 H5) : PvC C own σ pu s1 all s2 f xs G0 B0 H0 F0 Ad (i + 1) H5 := by
  have hA : H2 Ad ≠ none := by rw [A.at_]; simp
  have out : ∀ a, ¬ inF F2 a → H2 a ≠ none → ¬ inF F5 a := fun a h1 h2 z => (x.pn a z).elim h1 h2
  have h5A : H5 Ad = some (.lst acc) := x.keep _ _ A.at_ A.fD
  refine ⟨TT.clr own s5, G5, B5, F5, ys, acc, U, zs, ?_, ?_, h5A, ?_, ?_, A.nd, A.nD, out Ad A.fD hA, fun a ha => out a (A.fU a ha) (A.owns.fp a ha).1, r, A.all_, fun hp => ?_⟩
  · rw [← w5]; exact g5.clr hc
  · exact A.ext.trans x.frame
  · exact x.bnone A.bn A.fD hA
  · exact x.owns A.owns A.fU
  · obtain ⟨q1, q2, q3⟩ := A.pure hp
    obtain ⟨r1, r2⟩ := p5 hp
    exact ⟨fun j hj => by rw [clr_get, if_neg hj, r1 j hj, q1 j hj], q2.trans r2, q3⟩
/-- a turn that keeps its value -/
theorem acc_put {H2 H5 H6 G2 B2 G5 B5 G6 B6 : Hp} {F2 F5 F6 : Fp} {sI s5 s6 : List D} {σ5 : L2.St} {ys zs : List D} {acc : List V} {U fd : List Addr} {elt : E} {y : D} {v : V} (hp : isPl elt = false) (hA0 : H0 Ad = none) (A : Acc C own σ pu s1 all s2 f xs G0 B0 H0 F0 Ad i H2 sI G2 B2 F2 ys acc U (y :: zs))
    (g5 : Good C G5 B5 H5 F5 s5 σ5) (w5 : wipe σ5 own = wipe σ own) (x : Ext G2 B2 H2 (inF F2) G5 B5 H5 (inF F5)) (p5 : pu = true → eff elt = false ∧ (∀ j, j ∉ own → s5.getD j .dead = sI.getD j .dead) ∧ Alloc G2 B2 H2 G5 B5 H5)
    (p : PostE C σ5 elt G5 B5 H5 F5 s5 y s6 v G6 B6 H6 F6 fd) (hc : chk own s6 = true) (r : loopC own f (xs.drop (i + 1)) (TT.clr own s6) = .ok zs s2) :
    H6 Ad = some (.lst acc) ∧ acc.length + 1 ≤ all.length ∧ PvC C own σ pu s1 all s2 f xs G0 B0 H0 F0 Ad (i + 1) (upd H6 Ad (.lst (acc ++ [v]))) := by
  have hA : H2 Ad ≠ none := by rw [A.at_]; simp
  have out : ∀ a, ¬ inF F2 a → H2 a ≠ none → ¬ inF F5 a := fun a h1 h2 z => (x.pn a z).elim h1 h2
  have h5A : H5 Ad = some (.lst acc) := x.keep _ _ A.at_ A.fD
  have f5A := out Ad A.fD hA
  have n5A : H5 Ad ≠ none := by rw [h5A]; simp
  have b5A : B5 Ad = none := x.bnone A.bn A.fD hA
  have o5 := x.owns A.owns A.fU
  have f5U : ∀ a ∈ U, ¬ inF F5 a := fun a ha => out a (A.fU a ha) (A.owns.fp a ha).1
  have h6A : H6 Ad = some (.lst acc) := p.ext.keep _ _ h5A f5A
  have out6 : ∀ a, ¬ inF F5 a → H5 a ≠ none → ¬ inF F6 a ∧ a ∉ fd := fun a h1 h2 => ⟨fun z => (p.ext.pn a (.inl z)).elim h1 h2, fun z => (p.ext.pn a (.inr z)).elim h1 h2⟩
  have q6A := out6 Ad f5A n5A
  have b6A : B6 Ad = none := p.ext.bnone b5A f5A n5A
  have o6 := p.ext.owns o5 f5U
  have q6U : ∀ a ∈ U, ¬ inF F6 a ∧ a ∉ fd := fun a ha => out6 a (f5U a ha) (o5.fp a ha).1
  have np := p.np hp
  refine ⟨h6A, ?_, TT.clr own s6, G6, B6, F6, ys ++ [y], acc ++ [v], U ++ fd, zs, ?_, ?_, upd_same, b6A, ?_, ?_, ?_, q6A.1, ?_, r, ?_, fun hpu => ?_⟩
  · rw [A.all_, ← A.owns.length]; simp
  · rw [← w5]; exact (p.good.updAt q6A.1 b6A).clr hc
  · refine ((A.ext.trans x.frame).trans (p.ext.frame (R := fun a => a = Ad ∨ a ∈ U))).trans ?_
    refine (Ext.updAt (P := fun a => (inF F6 a ∨ a ∈ fd) ∨ (a = Ad ∨ a ∈ U)) (.inr (.inl rfl))).imp (fun _ z => z) fun a z => .inl ?_
    rcases z with z | z | z
    · exact .inl (.inl z)
    · exact .inr (.inl z)
    · rcases List.mem_append.1 z with z | z
      · exact .inr (.inr z)
      · exact .inl (.inr z)
  · refine (owns_snoc p.own o6).mono (fun _ _ z => z) (fun _ _ z => z) fun a ha => ?_
    have : a ≠ Ad := fun e => by
      rw [e] at ha
      rcases List.mem_append.1 ha with z | z
      · exact A.nD z
      · exact q6A.2 z
    refine ⟨upd_ne this, ?_⟩
    rcases List.mem_append.1 ha with z | z
    · exact (o6.fp a z).2
    · exact (p.own.fp a z).2
  · refine List.nodup_append.2 ⟨A.nd, p.nd, fun a ha b hb e => ?_⟩
    subst e
    exact (q6U a ha).2 hb
  · intro z
    rcases List.mem_append.1 z with z | z
    · exact A.nD z
    · exact q6A.2 z
  · intro a ha
    rcases List.mem_append.1 ha with z | z
    · exact (q6U a z).1
    · exact np a z
  · rw [A.all_]; simp
  · obtain ⟨q1, q2, q3⟩ := A.pure hpu
    obtain ⟨r0, r1, r2⟩ := p5 hpu
    obtain ⟨e1, e2, _⟩ := p.pure r0
    have al := (q2.trans r2).trans (p.alloc r0)
    refine ⟨fun j hj => by rw [clr_get, if_neg hj, e1, r1 j hj, q1 j hj], ?_, fun a ha => ?_⟩
    · exact ⟨fun a o e _ => by rw [upd_ne (ne_of_none e hA0)]; exact al.keep a o e (fun z => z), al.g, al.b, al.gn, al.bn, fun _ z => z.elim⟩
    · rcases List.mem_append.1 ha with z | z
      · exact q3 a z
      · rcases p.ext.pn a (.inr z) with w | w
        · exact absurd (by rw [e2]; exact w) (np a z)
        · cases e0 : H0 a with
          | none => rfl
          | some o => rw [(q2.trans r2).keep a o e0 (fun z => z)] at w; cases w
end
/-- a comprehension, by the layer's rule -/
theorem comp_cs {own : List Nat} {t : Tg} {kk : ItK} {es co : List E} {elt : E} {g : TG} {σ : L2.St} {H : Hp} {Q : VK} (hp : isPl elt = false) (hco : co.length ≤ 1)
    (hg : ∀ {s s2 : List D} {d : D} {v : V} {G B H : Hp} {F : Fp} {σ : L2.St} {Q : L2.St → Hp → Prop}, Good C G B H F s σ → Own C G B H d v [] → tgSet t d s = some s2 →
      (∀ σ2 F2, Good C G B H F2 s2 σ2 → (∀ a, TT.inF F2 a → TT.inF F a) → wipe σ2 own = wipe σ own → (∀ j, j ∉ own → s2.getD j .dead = s.getD j .dead) → Q σ2 H) → g v σ H Q)
    (h : tE C W (.comp own t kk es co elt) σ H Q) : tLc (tI C W ⟨kk, es⟩) g (tTs C co) (tE C never elt) own σ H Q := by
  obtain ⟨s, G, B, F, g0, z⟩ := h
  replace z : outE C W σ (.comp own t kk es co elt) G B H F s ((evEs es s).bind fun ds s1 => match itD kk ds with
    | some xs => if chk own s1 then compE own s1 (loopC own (stepC t co elt) xs (TT.clr own s1)) else .bad
    | none => .bad) Q := by unfold evE at z; exact z
  refine ⟨s, G, B, F, g0, ?_⟩
  show outI C W σ es G B H F s ((evEs es s).bind fun ds s1 => R.of (itD kk ds) s1) _
  cases e1 : evEs es s with
  | bad => rw [e1] at z; exact z
  | exc c fs xs s' => rw [e1] at z; exact z
  | ok ds s1 =>
    rw [e1] at z
    replace z : outE C W σ (.comp own t kk es co elt) G B H F s (match itD kk ds with
      | some xs => if chk own s1 then compE own s1 (loopC own (stepC t co elt) xs (TT.clr own s1)) else .bad
      | none => .bad) Q := z
    show outI C W σ es G B H F s (R.of (itD kk ds) s1) _
    cases e2 : itD kk ds with
    | none => rw [e2] at z; exact z.elim
    | some xs =>
      rw [e2] at z
      intro J G' B' H' F' g1 x1 pu w Ad hA
      replace z : outE C W σ (.comp own t kk es co elt) G B H F s (if chk own s1 then compE own s1 (loopC own (stepC t co elt) xs (TT.clr own s1)) else .bad) Q := z
      split at z
      case isFalse => exact z.elim
      rename_i hown
      cases er : loopC own (stepC t co elt) xs (TT.clr own s1) with
      | exc c fs xs s' => rw [er] at z; exact z.elim
      | bad => rw [er] at z; exact z.elim
      | ok all s2 =>
      rw [er] at z
      replace z : outE C W σ (.comp own t kk es co elt) G B H F s (if goodKids all && decide (all.length ≤ sizeLine) then .ok (.lst .own all) (TT.rst s1 own s2) else .bad) Q := z
      split at z
      case isFalse => exact z.elim
      rename_i hk
      rw [Bool.and_eq_true, decide_eq_true_eq] at hk
      replace z : ∀ v G2 B2 H2 F2 fd, PostE C σ (.comp own t kk es co elt) G B H F s (.lst .own all) (TT.rst s1 own s2) v G2 B2 H2 F2 fd → Q v H2 := z
      have nF : ¬ inF F' Ad := fun q => (g1.inF q).1 hA
      obtain ⟨xa, ba, bA⟩ := alloc_own (G := G') (o := .lst []) g1.bh hA
      refine lc_it w (PvC C own σ (!(effs co || eff elt)) s1 all s2 (stepC t co elt) xs G' B' H' F' Ad) ?_ ?_ ?_ ?_
      · refine ⟨TT.clr own s1, G', B', F', [], [], [], all, ⟨(g1.alloc xa g1.gb ba).clr hown, xa.to fun a q => ?_, upd_same, bA, ⟨rfl, rfl⟩, List.nodup_nil, List.not_mem_nil, nF, (fun _ q => nomatch q), er, rfl, fun _ => ⟨fun j hj => by rw [clr_get, if_neg hj], xa, (fun _ q => nomatch q)⟩⟩⟩
        rcases q with q | q | q
        · exact .inl q
        · rw [q]; exact .inr hA
        · cases q
      · rintro i H2 _ ⟨sI, G2, B2, F2, ys, acc, U, zs, A⟩
        exact fun a o e => A.good.bh a o (A.ext.b a o e)
      · rintro i x H2 H3 hi ⟨sI, G2, B2, F2, ys, acc, U, zs, A⟩ y
        obtain ⟨d, G3, B3, ed, x3, gb3, bh3, o3⟩ := y G2 B2 A.ext.g A.ext.b A.good.gb A.good.bh
        have hd : xs.drop i = d :: xs.drop (i + 1) := by
          obtain ⟨hlt, e⟩ := List.getElem?_eq_some_iff.1 ed
          rw [← e]
          exact (List.getElem_cons_drop (h := hlt)).symm
        have run := A.run
        rw [hd, loopC_cons] at run
        have g3 := A.good.alloc x3 gb3 bh3
        cases e3 : tgSet t d sI with
        | none =>
          have : stepC t co elt d sI = .bad := by show (match tgSet t d sI with | some s2 => _ | none => _) = _; rw [e3]
          rw [this] at run; cases run
        | some s4 =>
          have st : stepC t co elt d sI = (evTs co s4).bind fun b s3 => if b then (evE elt s3).bind fun y s4 => .ok (some y) s4 else .ok none s3 := by
            show (match tgSet t d sI with | some s2 => _ | none => _) = _; rw [e3]
          rw [st] at run
          refine hg g3 o3 e3 fun σ4 F4 g4 k4 w4 out4 => ⟨by rw [w4, wipe_wipe], ?_⟩
          rw [wipe_wipe] at w4
          have x4 : Ext G2 B2 H2 (inF F2) G3 B3 H3 (inF F4) := (x3.ext (P := inF F2)).imp (fun _ q => q) fun a q => .inl (k4 a q)
          have cont : ∀ (b : Bool) (s5 : List D) (G5 B5 H5 : Hp) (F5 : Fp), Good C G5 B5 H5 F5 s5 σ4 → Ext G3 B3 H3 (inF F4) G5 B5 H5 (inF F5) → (effs co = false → s5 = s4 ∧ Alloc G3 B3 H3 G5 B5 H5) →
              aftC own (stepC t co elt) (xs.drop (i + 1)) (if b then (evE elt s5).bind fun y s4 => .ok (some y) s4 else .ok none s5) = .ok zs s2 →
              if b = true then tE C never elt σ4 H5 (fun y H6 => ∃ acc', H6 Ad = some (.lst acc') ∧ acc'.length < sizeLine ∧ PvC C own σ (!(effs co || eff elt)) s1 all s2 (stepC t co elt) xs G' B' H' F' Ad (i + 1) (upd H6 Ad (.lst (acc' ++ [y])))) else PvC C own σ (!(effs co || eff elt)) s1 all s2 (stepC t co elt) xs G' B' H' F' Ad (i + 1) H5 := by
            intro b s5 G5 B5 H5 F5 g5 x5 p5 r5
            have x25 := x4.trans x5
            cases b with
            | false =>
              simp only [Bool.false_eq_true, if_false] at r5 ⊢
              replace r5 : (if chk own s5 then loopC own (stepC t co elt) (xs.drop (i + 1)) (TT.clr own s5) else .bad) = .ok zs s2 := r5
              split at r5
              · rename_i hc
                refine acc_skip A g5 w4 x25 hc r5 fun q => ?_
                simp only [Bool.not_eq_true', Bool.or_eq_false_iff] at q
                obtain ⟨q1, q2⟩ := p5 q.1
                exact ⟨fun j hj => by rw [q1, out4 j hj], x3.trans q2⟩
              · cases r5
            | true =>
              simp only [if_true] at r5 ⊢
              refine ⟨s5, G5, B5, F5, g5, ?_⟩
              cases e5 : evE elt s5 with
              | bad => rw [e5] at r5; cases r5
              | exc c fs xs s' => rw [e5] at r5; cases r5
              | ok y s6 =>
                rw [e5] at r5
                replace r5 : (if chk own s6 then (loopC own (stepC t co elt) (xs.drop (i + 1)) (TT.clr own s6)).bind fun ys s2 => .ok (y :: ys) s2 else .bad) = R.ok zs s2 := r5
                split at r5
                · rename_i hc
                  cases e6 : loopC own (stepC t co elt) (xs.drop (i + 1)) (TT.clr own s6) with
                  | bad => rw [e6] at r5; cases r5
                  | exc c fs xs s' => rw [e6] at r5; cases r5
                  | ok zs' s2' =>
                    rw [e6] at r5
                    cases r5
                    intro v G6 B6 H6 F6 fd p
                    obtain ⟨q1, q2, q3⟩ := acc_put hp hA A g5 w4 x25 (fun q => by
                      simp only [Bool.not_eq_true', Bool.or_eq_false_iff] at q
                      obtain ⟨r1, r2⟩ := p5 q.1
                      exact ⟨q.2, fun j hj => by rw [r1, out4 j hj], x3.trans r2⟩) p hc e6
                    exact ⟨acc, q1, by omega, q3⟩
                · cases r5
          rcases co with _ | ⟨c, _ | ⟨c2, cr⟩⟩
          · have hts : evTs [] s4 = .ok true s4 := by unfold evTs; rfl
            rw [hts] at run
            exact cont true s4 G3 B3 H3 F4 g4 Ext.refl (fun _ => ⟨rfl, Ext.refl⟩) run
          · have hts : evTs [c] s4 = (evE c s4).bind fun d s1 => match truth d with | some b => .ok b s1 | none => .bad := by unfold evTs; rfl
            rw [hts] at run
            refine ⟨s4, G3, B3, F4, g4, ?_⟩
            cases ec : evE c s4 with
            | bad => rw [ec] at run; cases run
            | exc cc fs xs s' => rw [ec] at run; cases run
            | ok dt s5 =>
              rw [ec] at run
              replace run : aftC own (stepC t [c] elt) (xs.drop (i + 1)) ((match truth dt with | some b => R.ok b s5 | none => .bad).bind fun b s3 => if b then (evE elt s3).bind fun y s4 => .ok (some y) s4 else .ok none s3) = .ok zs s2 := run
              cases et : truth dt with
              | none => rw [et] at run; cases run
              | some b =>
                rw [et] at run
                exact ⟨b, et, fun v G5 B5 H5 F5 fd p => cont b s5 G5 B5 H5 F5 p.good p.xI (fun q => by
                  have q : eff c = false := by simpa [effs] using q
                  exact ⟨(p.pure q).1, p.alloc q⟩) run⟩
          · simp at hco
      · rintro H2 ⟨sI, G2, B2, F2, ys, acc, U, zs, A⟩
        have run := A.run
        rw [List.drop_of_length_le (Nat.le_refl _)] at run
        cases run
        have hall : all = ys := by rw [A.all_, List.append_nil]
        have x2 : Ext G B H (inF F) G2 B2 H2 (fun a => inF F2 a ∨ a = Ad ∨ a ∈ U) := x1.trans A.ext
        have ow : Own C G2 B2 H2 (.lst .own all) (.ref Ad) (Ad :: U) := ⟨Ad, acc, U, rfl, ⟨A.at_, A.bn⟩, by rw [hall]; exact A.owns, rfl, trivial⟩
        have nd : (Ad :: U).Nodup := List.nodup_cons.2 ⟨A.nD, A.nd⟩
        have l2 : s2.length = s1.length := by rw [A.good.len, wipe_length, g1.len]
        cases pe : eff (.comp own t kk es co elt) with
        | false =>
          have pe' := pe
          simp only [eff, Bool.or_eq_false_iff] at pe'
          obtain ⟨rfl, rfl, k1⟩ := pu pe'.1
          obtain ⟨q1, q2, q3⟩ := A.pure (by simp [pe'.2.1, pe'.2.2])
          have es' : TT.rst s1 own s2 = s1 := by
            apply List.ext_getElem (by rw [rst_len, l2])
            intro n h1 h2
            have e : (TT.rst s1 own s2).getD n .dead = s1.getD n .dead := by
              rw [rst_get s1 s2 l2]
              split
              · rfl
              · exact q1 n ‹_›
            simpa [List.getD_eq_getElem?_getD, List.getElem?_eq_getElem, h1, h2] using e
          refine z _ G2 B2 H2 F' (Ad :: U) { good := by rw [es']; exact g1.alloc q2 A.good.gb A.good.bh, ext := x2.imp (fun _ q => q) fun a q => ?_, own := ow, nd := nd, pl := fun q => by simp [isPl] at q, np := fun _ a ha q => ?_, pure := fun _ => ⟨es', rfl, fun a o e => q2.keep a o (k1 a o e) fun z => z⟩ }
          · rcases q with q | q
            · exact .inr (.inl q)
            · exact .inl (.inr (List.mem_cons.1 q))
          · rcases List.mem_cons.1 ha with e | e
            · rw [e] at q; exact nF q
            · exact (g1.inF q).1 (q3 a e)
        | true =>
          have hin : ∀ a, inF (fun j => if j ∈ own then [] else F2 j) a → inF F2 a := fun a ⟨j, q⟩ => by
            by_cases w : j ∈ own <;> simp [w] at q
            exact ⟨j, q⟩
          refine z _ G2 B2 H2 _ (Ad :: U) { good := g1.rst hown A.good A.ext.g A.ext.b, ext := x2.imp (fun _ q => q) fun a q => .inl ?_, own := ow, nd := nd, pl := fun q => by simp [isPl] at q, np := fun _ a ha q => ?_, pure := fun q => by rw [pe] at q; cases q }
          · rcases q with q | q
            · exact .inl (hin a q)
            · exact .inr (List.mem_cons.1 q)
          · rcases List.mem_cons.1 ha with e | e
            · rw [e] at q; exact A.fD (hin _ q)
            · exact A.fU a e (hin _ q)
end
end TT
namespace TT
open PySem PySem.Spec PyProof.Rows L2
section
variable {X : Cx} {C : Gl0} {W : WX} {Γ : Gam}
/-- a walk, by its operands -/
theorem i_ok (k : CxOk C Γ X) {tg a : Expr} {kk : ItK} {es : List E} {as : List Expr} (h : itShape Γ tg kk a = some as) (b : PEL X C W es as) : PI X tg a (tI C W ⟨kk, es⟩) := by
  have l := pel_len b
  unfold itShape at h
  cases kk with
  | seq =>
    simp only at h
    split at h <;> cases h
    obtain ⟨e, rfl⟩ := List.length_eq_one_iff.1 l.symm
    obtain ⟨_, _, q, _, _, p, _⟩ := b
    obtain ⟨rfl, _⟩ := List.cons.inj q
    exact i_seq k p
  | rng1 =>
    simp only at h
    split at h <;> cases h
    obtain ⟨e, rfl⟩ := List.length_eq_one_iff.1 l.symm
    exact i_rng1 k ‹_› b
  | rng2 =>
    simp only at h
    split at h <;> cases h
    obtain ⟨e, f, rfl⟩ := len2 l.symm
    exact i_rng2 k ‹_› b
  | rng3 =>
    simp only at h
    split at h <;> cases h
    obtain ⟨e, f, g, rfl⟩ := len3 l.symm
    exact i_rng3 k ‹_› b
  | enum =>
    simp only at h
    split at h
    · split at h <;> cases h
      obtain ⟨e, rfl⟩ := List.length_eq_one_iff.1 l.symm
      exact i_enum k ‹_› b ‹_›
    · cases h
  | zip =>
    simp only at h
    split at h
    · split at h <;> cases h
      obtain ⟨e, f, rfl⟩ := len2 l.symm
      exact i_zip k ‹_› b ‹_›
    · cases h
theorem set_folded {e : Expr} (h : notSet e = true) (env : Env) (x : Value) : foldedSetIterable e env x = pure x := by
  cases e <;> first | rfl | exact (Bool.false_ne_true h).elim
theorem ownOf_snd {own : List Nat} : (ownOf Γ own).map (·.2) = own := by
  unfold ownOf
  rw [List.map_map]
  exact List.map_id _
/-- a comprehension's parts -/
structure LcP (X : Cx) (C : Gl0) (W : WX) (e : E) (a : Expr) : Prop where
  ex : ∃ el tg iter ifs scope pos own g tt te wi, a = .ListComp el [⟨tg, iter, ifs, 0⟩] scope pos ∧ PI X tg iter wi ∧ BlkOk X.N X.env.scope scope own ∧
    (∀ (s : Shared) (H : Hp) (b : Addr) (cl : List (Str × Addr)) (fp : List Addr), PG (X.blk s H scope (compEnvC scope cl b X.env) fp) tg g) ∧
    (∀ (s : Shared) (H : Hp) (b : Addr) (cl : List (Str × Addr)) (fp : List Addr), PTs (X.blk s H scope (compEnvC scope cl b X.env) fp) ifs tt) ∧
    (∀ (s : Shared) (H : Hp) (b : Addr) (cl : List (Str × Addr)) (fp : List Addr), PE (X.blk s H scope (compEnvC scope cl b X.env) fp) el te) ∧
    (∀ x, foldedSetIterable iter X.env x = pure x) ∧ ∀ σ H Q, tE C W e σ H Q → tLc wi g tt te (own.map (·.2)) σ H Q
theorem LcP.both {e : E} {a : Expr} (L : LcP X C W e a) (k : CxOk C Γ X) : Both X C W e a := by
  obtain ⟨el, tg, iter, ifs, scope, pos, own, g, tt, te, wi, rfl, hi, ok, hg, ht, he, hs, h⟩ := L.ex
  exact .of k (pe_imp (pe_lc k.calm (nd_of k) hi ok hg ht he hs) h) rfl
theorem lcp_mk (k : CxOk C Γ X) {own : List Nat} {t : Tg} {kk : ItK} {es co : List E} {elt : E} {a : Expr} (h : mE Γ (.comp own t kk es co elt) a = true) (hes : ∀ as, mEs Γ es as = true → BL X C W es as)
    (hco : ∀ (scope : Scope) (ifs : List Expr) (s : Shared) (H : Hp) (b : Addr) (cl : List (Str × Addr)) (fp : List Addr), mEs (Γ.blk scope) co ifs = true → BL (X.blk s H scope (compEnvC scope cl b X.env) fp) C never co ifs)
    (helt : ∀ (scope : Scope) (el : Expr) (s : Shared) (H : Hp) (b : Addr) (cl : List (Str × Addr)) (fp : List Addr), mE (Γ.blk scope) elt el = true → PE (X.blk s H scope (compEnvC scope cl b X.env) fp) el (tE C never elt)) : LcP X C W (.comp own t kk es co elt) a := by
  unfold mE at h
  split at h
  · rename_i el tg iter ifs scope pos
    simp only [Bool.and_eq_true, Bool.not_eq_true', decide_eq_true_eq] at h
    obtain ⟨⟨⟨⟨⟨⟨⟨⟨⟨⟨⟨⟨h1, h2⟩, h3⟩, h4⟩, h5⟩, h6⟩, h7⟩, h8⟩, h9⟩, h10⟩, h11⟩, h12⟩, h13⟩ := h
    split at h1
    · rename_i as hs
      simp only [Bool.and_eq_true] at h1
      have lco : co.length = ifs.length := by
        have q : ∀ {l : List E} {m : List Expr}, mEs (Γ.blk scope) l m = true → l.length = m.length := by
          intro l
          induction l with
          | nil => intro m h; cases m with
            | nil => rfl
            | cons _ _ => simp [mEs] at h
          | cons e l ih => intro m h; cases m with
            | nil => simp [mEs] at h
            | cons a m =>
              unfold mEs at h
              simp only [Bool.and_eq_true] at h
              simp [ih h.2]
        exact q h6
      refine ⟨el, tg, iter, ifs, scope, pos, ownOf Γ own, gOf C t, tTs C co, tE C never elt, tI C W ⟨kk, es⟩, rfl, i_ok k hs (hes as h1.1).pel, by rw [k.N, k.sc]; exact blkOk_by h3, fun s H b cl fp => tg_okP (cx_blk k) h4, fun s H b cl fp => ?_, fun s H b cl fp => helt scope el s H b cl fp h9, fun x => set_folded h2 _ _, fun σ H Q z => ?_⟩
      · have bl := hco scope ifs s H b cl fp h6
        rcases ifs with _ | ⟨i, _ | ⟨i2, ir⟩⟩
        · obtain rfl := List.length_eq_zero_iff.1 lco
          exact pts_nil
        · obtain ⟨c, rfl⟩ := List.length_eq_one_iff.1 lco
          obtain ⟨_, _, q, _, _, bo, _⟩ := bl
          obtain ⟨rfl, _⟩ := List.cons.inj q
          exact pts_one (bo.2 (by simpa using h7))
        · simp at h8
      · rw [ownOf_snd]
        exact comp_cs h10 (by omega) (fun g o e q => tg_okW h5 g o e q) z
    · cases h1
  · cases h
end
mutual
theorem sE {C : Gl0} : ∀ (e : E) (a : Expr) (Γ : Gam) (X : Cx) (W : WX), CxOk C Γ X → Takes X W → mE Γ e a = true → AllNd C X (nE e) → Both X C W e a
  | .c d, a, Γ, X, W, k, tk, h, _ => by
    unfold mE at h
    split at h
    · exact .of k (cst_ok h) rfl
    · cases h
  | .nm i, a, Γ, X, W, k, tk, h, _ => by
    unfold mE at h
    exact .of k (pe_imp (nm_pv k h) fun _ _ _ z => tE_nm z) (nm_plain h)
  | .mv i, a, Γ, X, W, k, tk, h, _ => by
    unfold mE at h
    exact .of k (pe_imp (nm_pv k h) fun _ _ _ z => tE_mv z) (nm_plain h)
  | .fz i, a, Γ, X, W, k, tk, h, _ => by
    unfold mE at h
    exact .of k (pe_imp (nm_pv k h) fun _ _ _ z => tE_fz z) (nm_plain h)
  | .cp e, a, Γ, X, W, k, tk, h, n => by
    unfold mE at h
    simp only [Bool.and_eq_true] at h
    exact .of k (pe_imp (sE e a Γ X W k tk h.1 n).1 fun _ _ _ z => tE_cp z) h.2
  | .tf e, a, Γ, X, W, k, tk, h, n => by
    unfold mE at h
    simp only [Bool.and_eq_true, Bool.not_eq_true'] at h
    exact .of k (pe_imp (sE e a Γ X W k tk h.1.1 n).1 fun _ _ _ z => tE_tf h.2 z) h.1.2
  | .comp own t kk es co elt, a, Γ, X, W, k, tk, h, n => by
    have n0 : AllNd C X (nEs es ++ (nEs co ++ nE elt)) := n
    have n1 := n0.app
    have n2 := n1.2.app
    have L := lcp_mk k h (fun as q => sEs es as Γ X W k tk q n1.1) (fun scope ifs s H b cl fp q => sEs co ifs (Γ.blk scope) _ never (cx_blk k) takes_blk q (all_blk n2.1)) (fun scope el s H b cl fp q => (sE elt el (Γ.blk scope) _ never (cx_blk k) takes_blk q (all_blk n2.2)).1)
    exact L.both k
  | .gl x d, a, Γ, X, W, k, tk, h, n => by
    unfold mE at h
    split at h
    · simp only [Bool.and_eq_true, decide_eq_true_eq] at h
      obtain ⟨rfl, h⟩ := h
      exact .of k (gl_ok k n.1 h) rfl
    · cases h
  | .op o es, a, Γ, X, W, k, tk, h, n => by
    unfold mE at h
    split at h
    · rename_i as hs
      simp only [Bool.and_eq_true] at h
      have hb : AllNd C X (nEs es) := by
        unfold nE at n
        cases o <;> first | exact n | exact n.2
      have bl := sEs es as Γ X W k tk h.1 hb
      by_cases ho : o = .not
      · subst ho
        unfold shape at hs
        simp only at hs
        split at hs <;> cases hs
        rename_i a' pos'
        cases es with
        | nil => cases bl
        | cons e es =>
          obtain ⟨_, _, q, _, _, b, bl⟩ := bl
          obtain ⟨rfl, rfl⟩ := List.cons.inj q
          cases es with
          | cons _ _ => obtain ⟨_, _, q, _⟩ := bl; cases q
          | nil =>
            refine ⟨not_pe b.1, fun _ => ?_⟩
            exact pt_imp (pt_not (b.2 (by simpa [opSt'] using h.2))) fun _ _ _ z => not_cs z
      · have r := op_all k (fun t x tab e => by subst e; exact n.1) hs (by cases o <;> first | rfl | exact h.2) bl.pel ho
        exact ⟨r.1, fun _ => r.2⟩
    · cases h
  | .mth o e es, a, Γ, X, W, k, tk, h, n => by
    unfold mE at h
    split at h
    · simp only [Bool.and_eq_true, Bool.not_eq_true', decide_eq_true_eq] at h
      have n0 : AllNd C X (nE e ++ nEs es) := n
      have m := mth_ok k ‹_› h.2 (sE e _ Γ X W k tk h.1.1.1 n0.app.1).1 h.1.1.2 (sEs es _ Γ X W k tk h.1.2 n0.app.2).pel
      exact .of k m.1 m.2
    · cases h
  | .chain o1 o2 e1 e2 e3, a, Γ, X, W, k, tk, h, n => by
    unfold mE at h
    split at h
    · simp only [Bool.and_eq_true, Bool.not_eq_true', decide_eq_true_eq] at h
      obtain ⟨⟨⟨⟨⟨⟨⟨⟨⟨h1, h2⟩, h3⟩, h4⟩, h5⟩, h6⟩, h7⟩, h8⟩, h9⟩, h10⟩ := h
      have n0 : AllNd C X (nE e1 ++ (nE e2 ++ nE e3)) := n
      have m := chain_ok (X := X) (C := C) (W := W) (pos := ‹Pos›) h1 h2 h3 h4 (sE e1 _ Γ X W k tk h5 n0.app.1).1 (sE e2 _ Γ X W k tk h6 n0.app.2.app.1).1 (sE e3 _ Γ X W k tk h7 n0.app.2.app.2).1 h8 h9 h10
      exact ⟨m.1, fun _ => m.2⟩
    · cases h
  | .band es, a, Γ, X, W, k, tk, h, n => by
    unfold mE at h
    split at h
    · simp only [Bool.and_eq_true, List.all_eq_true, Bool.not_eq_true'] at h
      have bl := sEs es _ Γ X W k tk h.1.1 n
      cases es with
      | nil =>
        obtain rfl := bl
        refine ⟨⟨fun pins s σ H Q I z => ?_⟩, fun _ => ⟨fun pins s σ H Q I z => ?_⟩⟩
        · obtain ⟨s0, G, B, F, g, z⟩ := z; exact False.elim z
        · obtain ⟨s0, G, B, F, g, z⟩ := z; exact False.elim z
      | cons e es =>
        exact ⟨(and_ok (by simp) h.2 h.1.2 bl).1, fun _ => (and_ok (by simp) h.2 h.1.2 bl).2.pt⟩
    · cases h
  | .bor es, a, Γ, X, W, k, tk, h, n => by
    unfold mE at h
    split at h
    · simp only [Bool.and_eq_true, List.all_eq_true, Bool.not_eq_true'] at h
      have bl := sEs es _ Γ X W k tk h.1.1 n
      cases es with
      | nil =>
        obtain rfl := bl
        refine ⟨⟨fun pins s σ H Q I z => ?_⟩, fun _ => ⟨fun pins s σ H Q I z => ?_⟩⟩
        · obtain ⟨s0, G, B, F, g, z⟩ := z; exact False.elim z
        · obtain ⟨s0, G, B, F, g, z⟩ := z; exact False.elim z
      | cons e es =>
        exact ⟨(or_ok (by simp) h.2 h.1.2 bl).1, fun _ => (or_ok (by simp) h.2 h.1.2 bl).2.pt⟩
    · cases h
  | .ite c x y, a, Γ, X, W, k, tk, h, n => by
    unfold mE at h
    split at h
    · simp only [Bool.and_eq_true, Bool.not_eq_true'] at h
      obtain ⟨⟨⟨⟨⟨h1, h2⟩, h3⟩, h4⟩, h5⟩, h6⟩ := h
      obtain ⟨n1, n2⟩ := AllNd.app n
      obtain ⟨n2, n3⟩ := AllNd.app n2
      refine ⟨pe_imp (pe_ifExp ((sE c _ Γ X W k tk h1 n1).2 h2) (sE x _ Γ X W k tk h3 n2).1 (sE y _ Γ X W k tk h4 n3).1) fun _ _ _ z => ite_cs h5 h6 z, fun q => by simp [tstB] at q⟩
    · cases h
  | .call f es, a, Γ, X, W, k, tk, h, n => by
    unfold mE at h
    split at h
    · simp only [Bool.and_eq_true, decide_eq_true_eq, Bool.not_eq_true'] at h
      obtain ⟨⟨⟨⟨⟨⟨h1, h2⟩, h3⟩, h4⟩, h5⟩, h6⟩, h7⟩ := h
      exact .of k (call_ok k tk n.1 h1 h2 h3 h4 h5 h6 (sEs es _ Γ X W k tk h7 n.2).pel) rfl
    · cases h
theorem sEs {C : Gl0} : ∀ (es : List E) (as : List Expr) (Γ : Gam) (X : Cx) (W : WX), CxOk C Γ X → Takes X W → mEs Γ es as = true → AllNd C X (nEs es) → BL X C W es as
  | [], [], _, _, _, _, _, _, _ => rfl
  | [], _ :: _, _, _, _, _, _, h, _ => by simp [mEs] at h
  | _ :: _, [], _, _, _, _, _, h, _ => by simp [mEs] at h
  | e :: es, a :: as, Γ, X, W, k, tk, h, n => by
    unfold mEs at h
    simp only [Bool.and_eq_true, Bool.or_eq_true, Bool.not_eq_true'] at h
    obtain ⟨⟨⟨h1, h2⟩, h3⟩, h4⟩ := h
    obtain ⟨n1, n2⟩ := AllNd.app n
    exact ⟨a, as, rfl, h1, fun q => h3.resolve_left (by rw [q]; decide), sE e a Γ X W k tk h2 n1, sEs es as Γ X W k tk h4 n2⟩
end
theorem sI {C : Gl0} {Γ : Gam} {X : Cx} {W : WX} (k : CxOk C Γ X) (tk : Takes X W) {tg a : Expr} {it : It} (h : mI Γ tg it a = true) (n : AllNd C X (nI it)) : PI X tg a (tI C W it) := by
  unfold mI at h
  split at h
  · simp only [Bool.and_eq_true] at h
    exact i_ok k ‹_› (sEs _ _ _ _ _ k tk h.1 n).pel
  · cases h
/-- a comprehension's parts, of a text that has its shape -/
theorem lcp_of {C : Gl0} {Γ : Gam} {X : Cx} {W : WX} (k : CxOk C Γ X) (tk : Takes X W) {own : List Nat} {t : Tg} {kk : ItK} {es co : List E} {elt : E} {a : Expr} (h : mE Γ (.comp own t kk es co elt) a = true) (n : AllNd C X (nE (.comp own t kk es co elt))) : LcP X C W (.comp own t kk es co elt) a := by
  have n0 : AllNd C X (nEs es ++ (nEs co ++ nE elt)) := n
  have n1 := n0.app
  have n2 := n1.2.app
  exact lcp_mk k h (fun as q => sEs es as Γ X W k tk q n1.1) (fun scope ifs s H b cl fp q => sEs co ifs (Γ.blk scope) _ never (cx_blk k) takes_blk q (all_blk n2.1)) (fun scope el s H b cl fp q => (sE elt el (Γ.blk scope) _ never (cx_blk k) takes_blk q (all_blk n2.2)).1)
end TT
namespace TT
open PySem PySem.Spec PyProof.Rows L2
section
variable {X : Cx} {C : Gl0} {W : WX} {Γ : Gam}
theorem s_for {t : Tg} {it : It} {b : List S} {tg i : Expr} {bd : List Stmt} {pos : Pos} (k : CxS C Γ X) (h1 : tgB Γ t tg = true) (h2 : PI X tg i (tI C W it)) (h3 : notSet i = true) (h4 : PSs X bd (tSs C W Γ.m b)) : PS X (.For tg i bd [] pos) (tS C W Γ.m (.for_ t it b)) := by
  obtain ⟨gg, hg, hgg⟩ := tg_ok k.toCxOk h1
  refine ps_imp (ps_for k.po k.calm h2 hg h4 (set_folded h3 _)) fun De σ H z => ?_
  obtain ⟨s, G, B, F, g, z⟩ := z
  unfold exS at z
  refine ⟨s, G, B, F, g, ?_⟩
  cases e1 : evIt it s with
  | bad => rw [e1] at z; exact z
  | exc c fs xs s' => rw [e1] at z; exact outS.x z
  | ok xs s1 =>
    rw [e1] at z
    replace z : outS C W Γ.m σ G B H F (loopF (fun d s => match tgSet t d s with | some s' => exSs b s' | none => .bad) xs s1) De := z
    intro J G' B' H' F' g' x' _ w
    refine for_it w (fun i σ' H' => ∃ s' G1 B1 F1, Good C G1 B1 H' F1 s' σ' ∧ (∀ a o, G' a = some o → G1 a = some o) ∧ (∀ a o, B' a = some o → B1 a = some o) ∧
      outS C W Γ.m σ' G1 B1 H' F1 (loopF (fun d s => match tgSet t d s with | some s' => exSs b s' | none => .bad) (xs.drop i) s') De) ?_ ?_ ?_ ?_
    · exact ⟨s1, G', B', F', g', fun _ _ z => z, fun _ _ z => z, outS.from ⟨g', x', .refl⟩ z⟩
    · rintro i σ' H1 _ ⟨s', G1, B1, F1, g1, _, hb, _⟩
      exact fun a o e => g1.bh a o (hb a o e)
    · rintro i x σ' H1 H2 hi ⟨s', G1, B1, F1, g1, hgs, hbs, z⟩ y
      obtain ⟨d, G2, B2, ed, x2, gb2, bh2, o2⟩ := y G1 B1 hgs hbs g1.gb g1.bh
      have hd : xs.drop i = d :: xs.drop (i + 1) := by
        obtain ⟨hlt, e⟩ := List.getElem?_eq_some_iff.1 ed
        rw [← e]
        exact (List.getElem_cons_drop (h := hlt)).symm
      rw [hd] at z
      have g2 := g1.alloc x2 gb2 bh2
      replace z := outS.from (σ1 := σ') (PostS.mk g2 x2.ext .refl) z
      unfold loopF at z
      cases e3 : tgSet t d s' with
      | none => rw [e3] at z; exact z.elim
      | some s2 =>
        rw [e3] at z
        refine hgg g2 o2 e3 fun σ3 F3 g3 k3 pr => ?_
        have p3 : PostS C Γ.m σ' G2 B2 H2 F1 s2 σ3 G2 B2 H2 F3 := ⟨g3, Ext.refl.imp (fun _ z => z) fun a z => .inl (k3 a z), pr⟩
        refine ⟨s2, G2, B2, F3, g3, ?_⟩
        replace z := outS.from (De := De) p3 z
        have next : ∀ s4, outS C W Γ.m σ3 G2 B2 H2 F3 (loopF (fun d s => match tgSet t d s with | some s' => exSs b s' | none => .bad) (xs.drop (i + 1)) s4) De → ∀ σ4 G4 B4 H4 F4, PostS C Γ.m σ3 G2 B2 H2 F3 s4 σ4 G4 B4 H4 F4 →
            ∃ s' G1 B1 F1, Good C G1 B1 H4 F1 s' σ4 ∧ (∀ a o, G' a = some o → G1 a = some o) ∧ (∀ a o, B' a = some o → B1 a = some o) ∧ outS C W Γ.m σ4 G1 B1 H4 F1 (loopF (fun d s => match tgSet t d s with | some s' => exSs b s' | none => .bad) (xs.drop (i + 1)) s') De := fun s4 z4 σ4 G4 B4 H4 F4 p4 =>
          ⟨s4, G4, B4, F4, p4.good, fun a o e => p4.ext.g a o (x2.g a o (hgs a o e)), fun a o e => p4.ext.b a o (x2.b a o (hbs a o e)), outS.from p4 z4⟩
        revert z
        show outS C W Γ.m σ3 G2 B2 H2 F3 (match exSs b s2 with
          | .nx s1 => loopF _ (xs.drop (i + 1)) s1
          | .ct s1 => loopF _ (xs.drop (i + 1)) s1
          | .bk s1 => .nx s1
          | o => o) De → _
        cases exSs b s2 with
        | nx s4 => exact fun z => next s4 z
        | ct s4 => exact fun z => next s4 z
        | bk s4 => exact fun z => z
        | rt d s4 => exact fun z => z
        | exc c fs xs s4 => exact fun z => z
        | bad => exact fun z => z
    · rintro σ' H1 ⟨s', G1, B1, F1, g1, _, _, z⟩
      rw [List.drop_of_length_le (Nat.le_refl _)] at z
      exact z σ' G1 B1 H1 F1 ⟨g1, Ext.refl, .refl⟩
theorem lcp_any {C : Gl0} {Γ : Gam} {X : Cx} {W : WX} (k : CxOk C Γ X) (tk : Takes X W) : ∀ (e : E) {el : Expr} {tg it : Expr} {ifs : List Expr} {scope : Scope} {pos : Pos}, mE Γ e (.ListComp el [⟨tg, it, ifs, 0⟩] scope pos) = true → AllNd C X (nE e) → LcP X C W e (.ListComp el [⟨tg, it, ifs, 0⟩] scope pos)
  | .c _, _, _, _, _, _, _, h, _ => by simp [mE] at h
  | .nm _, _, _, _, _, _, _, h, _ => by simp [mE, nmB] at h
  | .mv _, _, _, _, _, _, _, h, _ => by simp [mE, nmB] at h
  | .fz _, _, _, _, _, _, _, h, _ => by simp [mE, nmB] at h
  | .gl _ _, _, _, _, _, _, _, h, _ => by simp [mE] at h
  | .band _, _, _, _, _, _, _, h, _ => by simp [mE] at h
  | .bor _, _, _, _, _, _, _, h, _ => by simp [mE] at h
  | .ite _ _ _, _, _, _, _, _, _, h, _ => by simp [mE] at h
  | .call _ _, _, _, _, _, _, _, h, _ => by simp [mE] at h
  | .chain _ _ _ _ _, _, _, _, _, _, _, h, _ => by simp [mE] at h
  | .mth _ _ _, _, _, _, _, _, _, h, _ => by simp [mE, mthB] at h
  | .op o es, _, _, _, _, _, _, h, _ => by
    unfold mE at h
    have : ∀ {el : Expr} {gs : List Comprehension} {scope : Scope} {pos : Pos}, shape Γ o (.ListComp el gs scope pos) = none := fun {_ _ _ _} => by cases o <;> rfl
    rw [this] at h
    cases h
  | .cp e, _, _, _, _, _, _, h, n => by
    unfold mE at h
    simp only [Bool.and_eq_true] at h
    obtain ⟨el, tg, iter, ifs, scope, pos, own, g, tt, te, wi, e1, hi, ok, hg, ht, he, hs, hh⟩ := (lcp_any k tk e h.1 n).ex
    exact ⟨el, tg, iter, ifs, scope, pos, own, g, tt, te, wi, e1, hi, ok, hg, ht, he, hs, fun σ H Q z => hh σ H Q (tE_cp z)⟩
  | .tf e, _, _, _, _, _, _, h, n => by
    unfold mE at h
    simp only [Bool.and_eq_true, Bool.not_eq_true'] at h
    obtain ⟨el, tg, iter, ifs, scope, pos, own, g, tt, te, wi, e1, hi, ok, hg, ht, he, hs, hh⟩ := (lcp_any k tk e h.1.1 n).ex
    exact ⟨el, tg, iter, ifs, scope, pos, own, g, tt, te, wi, e1, hi, ok, hg, ht, he, hs, fun σ H Q z => hh σ H Q (tE_tf h.2 z)⟩
  | .comp own t kk es co elt, _, _, _, _, _, _, h, n => lcp_of k tk h n
theorem swaps_lc {el : Expr} {gs : List Comprehension} {scope : Scope} {pos py : Pos} {y : Str} {l : Nat} {env : Env} : ∃ b : Bool, swapsWith (.ListComp el gs scope pos) (some (.Name y py)) l env = pure b ∧ (b = true → env.scope.names.lookup y = some .local) := by
  refine ⟨env.blockKind == .function && env.kindOf y == some .local && py.line == pos.line && !(scope.names.any fun (n, k) => n == y && (k == .local || k == .cell)), rfl, fun h => ?_⟩
  simp only [Bool.and_eq_true, beq_iff_eq] at h
  exact h.1.1.2
theorem s_asgC {i : Nat} {e : E} {t v : Expr} {pos : Pos} (k : CxOk C Γ X) (h1 : stB Γ i t = true) (L : LcP X C W e v) (h3 : isPl e = false) : PS X (.Assign [t] v pos) (tS C W Γ.m (.asg i e)) := by
  obtain ⟨x, p, rfl, hN, hL, hF, hm⟩ := st_ok k h1
  obtain ⟨el, tg, iter, ifs, scope, cpos, own, g, tt, te, wi, rfl, hi, ok, hg, ht, he, hs, hh⟩ := L.ex
  obtain ⟨b, hb, hloc⟩ := swaps_lc (el := el) (gs := [⟨tg, iter, ifs, 0⟩]) (scope := scope) (pos := cpos) (py := p) (y := x) (l := pos.line) (env := X.env)
  have key : PS X (.Assign [.Name x p] (.ListComp el [⟨tg, iter, ifs, 0⟩] scope cpos) pos) (tAsg (tLc wi g tt te (own.map (·.2))) (gName i)) := by
    cases b with
    | true => exact ps_setLc k.calm (nd_of k) hN (hloc rfl) hb hi ok hg ht he hs
    | false => exact ps_set (nd_of k) hN hL (pe_lc k.calm (nd_of k) hi ok hg ht he hs) hb hF
  refine ps_imp key fun De σ H z => ?_
  obtain ⟨s, G, B, F, g, z⟩ := z
  unfold exS at z
  refine hh σ H _ (then_te g z fun d s1 v G1 B1 H1 F1 fd p z => ?_)
  obtain ⟨F2, q⟩ := p.set (m := Γ.m) (i := i) h3 hm
  exact z _ G1 B1 H1 F2 q
theorem append_own {G B H : Hp} {F : Fp} {s : List D} {σ : L2.St} {i : Nat} {xs : List D} {d : D} {v : V} {fd : List Addr} {a : Addr} (g : Good C G B H F s σ) (hs : s.getD i .dead = .lst .own xs) (he : σ[i]? = some (some (.ref a))) (o : Own C G B H d v fd) (n : fd.Nodup) (np : ∀ b ∈ fd, ¬ TT.inF F b) :
    ∃ ws F', H a = some (.lst ws) ∧ ws.length = xs.length ∧ Good C G B (upd H a (.lst (ws ++ [v]))) F' (s.set i (.lst .own (xs ++ [d]))) σ ∧ Ext G B H (fun b => TT.inF F b ∨ b ∈ fd) G B (upd H a (.lst (ws ++ [v]))) (TT.inF F') := by
  obtain ⟨v0, e0, ow⟩ := g.sl i (by rw [hs]; simp)
  rw [he] at e0; cases e0
  rw [hs] at ow
  obtain ⟨a', ws, U, e1, ⟨ha, hb⟩, oo, hF, _⟩ := ow
  cases e1
  have hi : i < s.length := by
    have := getD_some (s := s) (i := i) (by rw [hs]; simp)
    exact this
  have hFi : F i = a :: U := hF
  have nd : (a :: U).Nodup := by rw [← hFi]; exact g.nd i
  have inA : TT.inF F a := ⟨i, by rw [hFi]; exact List.mem_cons_self⟩
  have aU : a ∉ U := (List.nodup_cons.1 nd).1
  have aF : a ∉ fd := fun z => np a z inA
  have x : Ext G B H (fun b => TT.inF F b ∨ b ∈ fd) G B (upd H a (.lst (ws ++ [v]))) (fun b => TT.inF F b ∨ b ∈ fd) := Ext.updAt (.inl inA)
  have bh : Sb B (upd H a (.lst (ws ++ [v]))) := fun b u e => by rw [upd_ne (fun z => by rw [z, hb] at e; cases e)]; exact g.bh b u e
  have mv : ∀ {d' : D} {v' : V} {f' : List Addr}, Own C G B H d' v' f' → a ∉ f' → Own C G B (upd H a (.lst (ws ++ [v]))) d' v' f' := fun o' h => o'.mono (fun _ _ z => z) (fun _ _ z => z) fun b hb' => ⟨upd_ne fun z => h (by rw [← z]; exact hb'), (o'.fp b hb').2⟩
  refine ⟨ws, fun j => if j = i then a :: (U ++ fd) else F j, ha, oo.length.symm, ⟨g.gb, bh, by rw [List.length_set]; exact g.len, fun j hj => ?_, fun j hj => ?_, fun j => ?_, fun j k b h1 h2 => ?_⟩, x.imp (fun _ z => z) fun b ⟨j, z⟩ => ?_⟩
  · rw [getD_set] at hj ⊢
    by_cases q : j = i
    · rw [if_pos ⟨q, hi⟩]
      subst q
      refine ⟨_, he, ?_⟩
      show Own C G B _ _ _ (if j = j then a :: (U ++ fd) else F j)
      rw [if_pos rfl]
      refine ⟨a, ws ++ [v], U ++ fd, rfl, ⟨upd_same, hb⟩, ?_, rfl, trivial⟩
      exact (owns_snoc o oo).mono (fun _ _ z => z) (fun _ _ z => z) fun b hb' => ⟨upd_ne fun z => by
        rw [z] at hb'
        rcases List.mem_append.1 hb' with w | w
        · exact aU w
        · exact aF w, by
        rcases List.mem_append.1 hb' with w | w
        · exact (oo.fp b w).2
        · exact (o.fp b w).2⟩
    · have q' : ¬ (j = i ∧ i < s.length) := fun z => q z.1
      rw [if_neg q'] at hj ⊢
      obtain ⟨w, ew, ow⟩ := g.sl j hj
      refine ⟨w, ew, ?_⟩
      show Own C G B _ _ _ (if j = i then a :: (U ++ fd) else F j)
      rw [if_neg q]
      exact mv ow fun z => q (g.dj j i a z (by rw [hFi]; exact List.mem_cons_self))
  · by_cases q : j = i
    · rw [getD_set, if_pos ⟨q, hi⟩] at hj; cases hj
    · rw [getD_set, if_neg fun z => q z.1] at hj
      show (if j = i then a :: (U ++ fd) else F j) = []
      rw [if_neg q]; exact g.nf j hj
  · show (if j = i then a :: (U ++ fd) else F j).Nodup
    by_cases q : j = i
    · rw [if_pos q]
      refine List.nodup_cons.2 ⟨fun z => ?_, List.nodup_append.2 ⟨(List.nodup_cons.1 nd).2, n, fun b hb' c hc e => ?_⟩⟩
      · rcases List.mem_append.1 z with w | w
        · exact aU w
        · exact aF w
      · subst e
        exact np b hc ⟨i, by rw [hFi]; exact List.mem_cons_of_mem _ hb'⟩
    · rw [if_neg q]; exact g.nd j
  · have sub : ∀ b, b ∈ a :: (U ++ fd) → b ∈ F i ∨ b ∈ fd := fun b hb' => by
      rw [hFi]
      rcases List.mem_cons.1 hb' with w | w
      · exact .inl (by rw [w]; exact List.mem_cons_self)
      · rcases List.mem_append.1 w with w | w
        · exact .inl (List.mem_cons_of_mem _ w)
        · exact .inr w
    by_cases q : j = i <;> by_cases q2 : k = i <;> simp only [q, q2, if_true, if_false] at h1 h2
    · rw [q, q2]
    · rcases sub b h1 with w | w
      · exact absurd (g.dj k i b h2 w) q2
      · exact absurd ⟨k, h2⟩ (np b w)
    · rcases sub b h2 with w | w
      · exact absurd (g.dj j i b h1 w) q
      · exact absurd ⟨j, h1⟩ (np b w)
    · exact g.dj j k b h1 h2
  · by_cases q : j = i <;> simp only [q, if_true, if_false] at z
    · rcases List.mem_cons.1 z with w | w
      · exact .inl (.inl (by rw [w]; exact inA))
      · rcases List.mem_append.1 w with w | w
        · exact .inl (.inl ⟨i, by rw [hFi]; exact List.mem_cons_of_mem _ w⟩)
        · exact .inl (.inr w)
    · exact .inl (.inl ⟨j, z⟩)
theorem s_app {i : Nat} {e : E} {o x : Expr} {apos cpos pos : Pos} (k : CxOk C Γ X) (h1 : nmB Γ i o = true) (h2 : PE X x (tE C W e)) (h3 : isPl e = false) (h4 : notStar x = true) (hl : (apos.endLine == cpos.line) = true) : PS X (.Expr (.Call (.Attribute o "append" apos) [x] [] cpos) pos) (tS C W Γ.m (.app i e)) := by
  have hn : ∃ y p, o = .Name y p := by
    unfold nmB at h1
    split at h1
    · exact ⟨_, _, rfl⟩
    · cases h1
  obtain ⟨y, p, rfl⟩ := hn
  refine ps_imp (ps_expr (pe_bm PySem.F.plainAttrs_list PySem.F.slot_list_append PySem.F.type_list_append mt_append (nm_pv k h1) (pa_cons h2 pa_nil (star_ok h4)) (by rfl) (by rw [star_ok h4]; rfl) hl (star_ok h4) (by rfl)) (swaps_no rfl)) fun De σ H z => ?_
  obtain ⟨s, G, B, F, g, z⟩ := z
  unfold exS at z
  split at z
  · rename_i hl
    obtain ⟨fl, xs0, e0⟩ : ∃ fl xs0, s.getD i .dead = .lst fl xs0 := by
      revert hl
      cases s.getD i .dead <;> first | exact fun _ => ⟨_, _, rfl⟩ | exact fun z => Bool.noConfusion z
    obtain ⟨v0, ev, ow⟩ := g.sl i (by rw [e0]; simp)
    rw [e0] at ow
    obtain ⟨a, ws, U, rfl, ha, _, _, _⟩ := ow.lstAt g.gb g.bh
    refine ⟨.ref a, ev, .inl ⟨rfl, ws, .inl (.inl ha)⟩, then_te g z fun d s1 v G1 B1 H1 F1 fd p z => ?_⟩
    replace z : outS C W Γ.m σ G B H F (match appD (s1.getD i .dead) d with | some r => .nx (s1.set i r) | none => .bad) De := z
    cases e2 : appD (s1.getD i .dead) d with
    | none => rw [e2] at z; exact z.elim
    | some r =>
      rw [e2] at z
      unfold appD at e2
      split at e2
      · rename_i xs d' hs
        split at e2 <;> cases e2
        rename_i hk
        simp only [Bool.and_eq_true, decide_eq_true_eq] at hk
        obtain ⟨ws2, F2, h5, h6, g2, x2⟩ := append_own p.good hs ev p.own p.nd (p.np h3)
        exact ⟨a, ws2, v, rfl, rfl, h5, by rw [h6]; exact hk.2, z σ G1 B1 _ F2 ⟨g2, p.ext.trans x2, .refl⟩⟩
      · cases e2
  · exact z.elim
theorem s_whl {fuel : List D → Nat} {c : E} {b : List S} {t : Expr} {bd : List Stmt} {pos : Pos} (k : CxS C Γ X) (h1 : PT X t (tTst C W c)) (h4 : PSs X bd (tSs C W Γ.m b)) : PS X (.While t bd [] pos) (tS C W Γ.m (.whl fuel c b)) := by
  refine ps_imp (ps_while k.po h1 h4) fun De σ H z => ?_
  obtain ⟨s, G, B, F, g, z⟩ := z
  unfold exS at z
  refine ⟨fun n σ' H' => ∃ s' G1 B1 F1, Good C G1 B1 H' F1 s' σ' ∧ outS C W Γ.m σ' G1 B1 H' F1 (loopW (evE c) (exSs b) n s') De, ⟨_, s, G, B, F, g, z⟩, ?_⟩
  rintro n σ1 H1 ⟨s1, G1, B1, F1, g1, z⟩
  cases n with
  | zero => exact z.elim
  | succ n =>
    unfold loopW at z
    refine ⟨s1, G1, B1, F1, g1, ?_⟩
    revert z
    cases e1 : evE c s1 with
    | bad => exact fun z => z
    | exc cc fs xs s' => exact fun z => outS.x z
    | ok d s2 =>
      cases e2 : truth d with
      | none => simp only [e2]; exact fun z => z.elim
      | some tv =>
        simp only [e2]
        cases tv with
        | true =>
          intro z
          refine ⟨true, e2, fun v G3 B3 H3 F3 fd p => ?_⟩
          refine iteT ?_
          refine ⟨_, fun σ' H' w => ⟨n, Nat.lt_succ_self n, w⟩, s2, G3, B3, F3, p.good, ?_⟩
          replace z := outS.from p.toS z
          revert z
          have next : ∀ s4, outS C W Γ.m σ1 G3 B3 H3 F3 (loopW (evE c) (exSs b) n s4) De → ∀ σ4 G4 B4 H4 F4, PostS C Γ.m σ1 G3 B3 H3 F3 s4 σ4 G4 B4 H4 F4 →
              ∃ s' G1 B1 F1, Good C G1 B1 H4 F1 s' σ4 ∧ outS C W Γ.m σ4 G1 B1 H4 F1 (loopW (evE c) (exSs b) n s') De := fun s4 z4 σ4 G4 B4 H4 F4 p4 => ⟨s4, G4, B4, F4, p4.good, outS.from p4 z4⟩
          cases exSs b s2 with
          | nx s4 => exact fun z => next s4 z
          | ct s4 => exact fun z => next s4 z
          | bk s4 => exact fun z => z
          | rt d s4 => exact fun z => z
          | exc c fs xs s4 => exact fun z => z
          | bad => exact fun z => z
        | false =>
          intro z
          refine ⟨false, e2, fun v G3 B3 H3 F3 fd p => ?_⟩
          refine iteF ?_
          exact z σ1 G3 B3 H3 F3 p.toS
end
end TT
namespace TT
open PySem PySem.Spec PyProof.Rows L2
/-! ### a caught exception is kept in sight -/
theorem exH_ok {P : Program} {w : World} {H : Hp} {h : Heap} {a : Addr} {cls : Value} {d : Option Addr} {oe : Obj} {vs : Array Value} (e : h.get? a = some oe) (z : Zc cls d oe) (hd : oe.data = .fields vs) : ObjOk P w H h a (exH cls d a) :=
  ⟨⟨oe, vs, e, z, hd⟩, ⟨oe, e⟩, fun _ _ ⟨o, v, q, r⟩ k => ⟨o, v, k o q, r⟩⟩
section
variable {X : Cx} {pins : List (Addr × Obj)} {σ : L2.St} {H : Hp} {s : Shared}
theorem inv_seen {a : Addr} {oe : Obj} {cls : Value} {d : Option Addr} {vs : Array Value} (I : Inv X ((a, oe) :: pins) σ H s) (n0 : X.s_0.heap.get? a = none) (np : ∀ p ∈ X.pn ++ pins, p.1 ≠ a) (z : Zc cls d oe) (hd : oe.data = .fields vs) : Inv X pins σ (upd H a (exH cls d a)) s := by
  obtain ⟨ha, hn, hL, hF, hc⟩ := I.pin (a, oe) (List.mem_append_right _ List.mem_cons_self)
  have ne0 : ∀ b o, X.s_0.heap.get? b = some o → b ≠ a := fun b o e q => by rw [q, n0] at e; cases e
  have neN : ∀ {b : Addr} {o : HO}, H b = some o → b ≠ a := fun {b o} e q => by rw [q] at e; rw [hn] at e; cases e
  refine ⟨I.ok, I.os, I.bare, ⟨I.base.keep, I.base.slot, fun b o e n hx => ?_, I.base.there, fun b xs e => ?_, fun b o u e => ?_, fun b ps e => ?_⟩, I.loc, I.cell, ?_, fun x c e => ?_, fun p hp => ?_, fun b u e => ?_, I.len⟩
  · rw [upd_ne (ne0 b o e)]
    exact I.base.free b o e n hx
  · have q := I.base.tups b xs e
    rw [upd_ne (neN q)]
    exact q
  · have q := I.base.frzs b o u e
    rw [upd_ne (neN q)]
    exact q
  · obtain ⟨m, q⟩ := I.base.tbls b ps e
    exact ⟨m, by rw [upd_ne (neN q)]; exact q⟩
  · rw [upd_ne (Ne.symm hL)]
    exact I.free
  · have : c ≠ a := fun q => by
      obtain ⟨v, o, ho, hdd⟩ := I.cell x c e
      rw [q, ha] at ho
      cases ho
      exact hc v hdd
    rw [upd_ne this]
    exact I.freeC x c e
  · have hp' : p ∈ X.pn ++ ((a, oe) :: pins) := by
      rcases List.mem_append.1 hp with q | q
      · exact List.mem_append_left _ q
      · exact List.mem_append_right _ (List.mem_cons_of_mem _ q)
    obtain ⟨e1, e2, e3, e4, e5⟩ := I.pin p hp'
    exact ⟨e1, by rw [upd_ne (np p hp)]; exact e2, e3, e4, e5⟩
  · by_cases hb : b = a
    · subst hb
      rw [upd_same] at e
      cases e
      exact exH_ok ha z hd
    · rw [upd_ne hb] at e
      refine (I.hok b u e).stay (fun c v _ q => q) (fun c q => by rw [upd_ne (neN q)]; exact q) fun c xs q => by rw [upd_ne (neN q)]; exact q
/-- what the clause 'except x as n' wishes: behind it the exception is tracked -/
def wAsT (K : PySem.W.Frag) (L : Nat) (c : Value) (i : Nat) (ts : Addr → TS) (Wout : WX) (D : Ends) : WX := fun cls d σ H =>
  ∃ b, PySem.W.exmOne K cls c = some b ∧ (b = true → ∀ a, H a = none → σ.length = L → ts a { nx := fun σ' H' => H' a = none → D.nx (σ'.set i none) (upd H' a (exH cls d a)), rt := fun _ _ => False, bk := fun _ _ => False, ct := fun _ _ => False } (σ.set i (some (.ref a))) H) ∧
    (b = false → Wout cls d σ H)
variable {x n : Str} {c : Value} {i : Nat} {body suite : List Stmt} {b₀ : Stmt} {np pos pos' : Pos} {tb : WX → TS} {ts : Addr → TS} {Wout : WX}
theorem ps_try_asT (hs : X.stack = X.env :: X.outer) (hf : X.env.frame = some X.env.locals) (hx : X.ex = []) (hN : X.N.Nodup) (hi : X.N[i]? = some n) (hln : X.env.kindOf n = some .local) (hc : Names X x c) (tk : Takes X Wout)
    (hb : ∀ (W : WX) (pn : List (Addr × Obj)) (xe : Value → Shared → Prop), Takes (X.tr pn xe) W → PassesOwn (model X.prog X.w) X.A X.env xe → PSs (X.tr pn xe) body (tb W))
    (hsu : ∀ (a : Addr) (pn : List (Addr × Obj)), PSs (X.suite a pn) (b₀ :: suite) (ts a)) :
    PS X (.Try body [.ExceptHandler (some (.Name x np)) (some n) (b₀ :: suite) pos'] [] [] pos) (fun D σ H => tb (wAsT X.K X.N.length c i ts Wout D) D σ H) := by
  refine ⟨fun pins s σ H D I h => ?_⟩
  have ok := I.ok
  have hfr : X.A.frames = some (X.env :: X.outer) := by rw [ok.frames, hs]
  have hloc : L2.Loc X.env.scope n := .inl hln
  refine wpAny_Try_except ?_
  refine wpAny_mono ((hb (wAsT X.K X.N.length c i ts Wout D) (X.pn ++ pins) (fun e s₁ => wpAny (model X.prog X.w) X.A (noteFrame e X.env) (fun _ s₂ => wpAny (model X.prog X.w) X.A (setFlight e none) (fun _ s₃ =>
    wpAny (model X.prog X.w) X.A (handleBy e X.env [.ExceptHandler (some (.Name x np)) (some n) (b₀ :: suite) pos']) (SP X pins D) X.xe s₃) X.xe s₂) X.xe s₁) (fun u s' xx => ?_) PassesOwn.looking).run [] s σ H D (I.toTry _) h) (fun f s1 hsp => ?_) (fun e s1 he => he)
  · obtain ⟨a, B, sI, pins', σ', H', cls, d, rfl, J', nb, up, sky, na, os, ag, b, hb1, hyes, hno⟩ := xx
    have J : Inv X pins σ' H' sI := J'.ofTry ok
    have sky' : Sky B (X.env :: X.outer) a (Zc cls d) X.env.locals s'.heap := by rw [← hs]; exact sky
    show wpAny (model X.prog X.w) X.A (noteFrame (.ref a) X.env) _ _ _
    refine Sky.land Zc.steady hfr hf sky' fun h3 fl3 up3 => ?_
    have J3 : Inv X pins σ' H' { s' with heap := h3 } := J.landed nb fl3.1 (up.trans up3) os ag
    obtain ⟨oe3, vs3, he3, hz3, hd3⟩ := fl3.there
    have notFr : ∀ {h : Heap} {o : Obj} {vs : Array Value}, h.FunFrames B (X.env :: X.outer) → h.get? a = some o → o.data = .fields vs → a ∉ frs (X.env :: X.outer) := fun {h o vs} ff e dd hm => by
      obtain ⟨_, o', e', hnf⟩ := ff.mem hm
      rw [e] at e'; cases e'
      exact hnf _ dd
    have nfr := notFr fl3.2.2.1 he3 hd3
    have nL : a ≠ X.env.locals := fun z => nfr (List.mem_filterMap.mpr ⟨X.env, List.mem_cons_self, by rw [hf, z]⟩)
    have nF : a ∉ X.fs := fun hm => by
      obtain ⟨e, he, q⟩ := List.mem_filterMap.mp hm
      exact nfr (List.mem_filterMap.mpr ⟨e, List.mem_cons_of_mem _ he, q⟩)
    have nI : sI.heap.get? a = none := by
      cases e : sI.heap.get? a with
      | none => rfl
      | some o =>
        have := nb a o e (by rw [hs]; exact nfr)
        rw [fl3.2.1] at this
        cases this
    have n0 : X.s_0.heap.get? a = none := by
      cases e : X.s_0.heap.get? a with
      | none => rfl
      | some o =>
        obtain ⟨o', e'⟩ := J.base.there a o e (by rw [hx]; exact fun z => nomatch z)
        rw [nI] at e'
        cases e'
    have npn : ∀ p ∈ X.pn ++ pins, p.1 ≠ a := fun p hp z => by
      have := (J.pin p hp).1
      rw [z, nI] at this
      cases this
    have S3 := J3.suite he3 hd3 na nL nF
    refine wpAny_handleBy_cons (codeAny_handlers_test ?_) (by intro q; cases q)
    have LT : PySem.W.Looks (model X.prog X.w) h3 (typeOf (.ref a)) cls := fun A Q E s k q => wpAny_typeOf_ref (k _ _ he3) (by rw [hz3.1]; exact q)
    have LM := PySem.W.exm_one (M := model X.prog X.w) (J3.kIn) LT hb1
    have test : ∀ {Q : Value → Shared → Prop} {E : Value → Shared → Prop}, Q c { s' with heap := h3 } → wpAny (model X.prog X.w) (X.A.mark (some (.ref a))) (eval (.Name x np) X.env) Q E { s' with heap := h3 } := fun {Q E} q => by
      obtain ⟨hg, hdbg, hm | ⟨hm, hv, hnn⟩⟩ := hc
      · exact ld_glob (X := X.suite a ((a, oe3) :: (X.pn ++ pins))) S3 hg hm q hdbg
      · exact ld_blt (X := X.suite a ((a, oe3) :: (X.pn ++ pins))) S3 hg hm hv q hnn hdbg
    refine test (LM.here ?_)
    cases b with
    | true =>
      refine codeAny_handlers_suite_as ?_
      refine HandSPX.lands_againZ fl3 fun h4 fl4 up4 => ?_
      have J4 : Inv X pins σ' H' { s' with heap := h4 } := J.landed nb fl4.1 ((up.trans up3).trans up4) os ag
      obtain ⟨oe4, vs4, he4, hz4, hd4⟩ := fl4.there
      have S4 := J4.suite he4 hd4 na nL nF
      refine store_ok (X := X.suite a ((a, oe4) :: (X.pn ++ pins))) (v := .ref a) S4 hN hi hloc rfl (fun s5 S5 => ?_) (.inr hln)
      refine wpAny_mono ((hsu a ((a, oe4) :: (X.pn ++ pins))).run [] s5 _ H' _ S5 (hyes rfl a na J.len)) (fun f s6 hsp => ?_) (fun _ _ z => False.elim z)
      cases f with
      | next =>
        obtain ⟨σ6, H6, S6, q6⟩ := hsp
        have S7 : Inv X ((a, oe4) :: pins) σ6 H6 s6 := (S6.unsuite ok).pins_of fun p hp => by
          have : p ∈ (a, oe4) :: (X.pn ++ pins) := by
            rcases List.mem_cons.1 hp with q | q
            · rw [q]; exact List.mem_cons_self
            · exact List.mem_cons_of_mem _ (List.mem_append_right _ q)
          exact S6.pin p (List.mem_append_left _ this)
        have n6 : H6 a = none := (S7.pin (a, oe4) (List.mem_append_right _ List.mem_cons_self)).2.1
        exact gone_ok S7 hN hi hln fun s7 J7 => ⟨_, _, inv_seen J7 n0 npn hz4 hd4, q6 n6⟩
      | brk =>
        obtain ⟨σ6, H6, S6, q6⟩ := hsp
        exact q6.elim
      | cont =>
        obtain ⟨σ6, H6, S6, q6⟩ := hsp
        exact q6.elim
      | ret u =>
        obtain ⟨v6, σ6, H6, S6, r6, q6⟩ := hsp
        exact q6.elim
    | false =>
      show wpAny _ X.A (handleBy (.ref a) X.env []) _ _ _
      refine wpAny_handleBy_nil ?_
      obtain ⟨k1, k2, k3, oe, vs, T, oT, ts', he, hz, hd, h1, hr⟩ := id fl3
      unfold PySem.passOn
      refine wpAny_bind (wpAny_field he hd h1 ?_)
      rw [if_neg (show ¬ ((Value.ref T == Value.none) = true) from by simp)]
      have fin : wpAny (model X.prog X.w) X.A (setFlight (.ref a) X.env.frame) (fun _ s4 => wpAny (model X.prog X.w) X.A (throw (.ref a) : Sem Flow) (SP X pins D) X.xe s4) X.xe { s' with heap := h3 } := by
        rw [hf]
        refine HandSPX.setFlight_upZ fl3 fun h4 hh4 up4 => wpAny_throw (tk _ _ ?_)
        exact ⟨a, B, sI, pins, σ', H', cls, d, rfl, J, nb, (up.trans up3).trans up4, .inr (.inr (by rw [hs]; exact hh4)), na, os, ag, hno rfl⟩
      first
        | exact wpAny_bind (wpAny_pure (wpAny_bind fin))
        | exact wpAny_bind fin
  · cases f with
    | next =>
      obtain ⟨σ', H', J', q⟩ := hsp
      exact wpAny_execs_nil ⟨σ', H', J'.ofTry ok, q⟩
    | brk =>
      obtain ⟨σ', H', J', q⟩ := hsp
      exact ⟨σ', H', J'.ofTry ok, q⟩
    | cont =>
      obtain ⟨σ', H', J', q⟩ := hsp
      exact ⟨σ', H', J'.ofTry ok, q⟩
    | ret u =>
      obtain ⟨v, σ', H', J', r, q⟩ := hsp
      exact ⟨v, σ', H', J'.ofTry ok, r, q⟩
end
end TT
namespace TT
open PySem PySem.Spec PyProof.Rows L2
section
variable {X Y : Cx} {C : Gl0} {W : WX} {Γ : Gam}
theorem st_okY (hN : Y.N = Γ.N) (hsc : Y.env.scope = Γ.sc) {i : Nat} {t : Expr} (h : stB Γ i t = true) : ∃ x p, t = .Name x p ∧ Y.N[i]? = some x ∧ L2.Loc Y.env.scope x ∧ (Γ.m && decide (i = 0)) = false := by
  unfold stB at h
  split at h
  · simp only [Bool.and_eq_true, decide_eq_true_eq, Bool.not_eq_true'] at h
    obtain ⟨⟨⟨h1, h2⟩, h4⟩, h3⟩ := h
    refine ⟨_, _, rfl, by rw [hN]; exact h1, ?_, by simpa using h3⟩
    unfold L2.Loc
    rw [hsc]
    unfold locB at h2
    split at h2
    · exact .inl ‹_›
    · exact .inr ‹_›
    · cases h2
  · cases h
/-- an except suite -/
def tSu (C : Gl0) (nmi : Option Nat) : Su → TS
  | .exn i => fun De σ H => ∃ n v, nmi = some n ∧ σ[n]? = some (some v) ∧ De.nx (σ.set i (some v)) H
  | .c i d => fun De σ H => ∀ v, (∀ G B H, Own C G B H d v []) → De.nx (σ.set i (some v)) H
  | .nil i => fun De σ H => ∀ p, H p = none → De.nx (σ.set i (some (.ref p))) (upd H p (.lst []))
theorem one_st {a : Stmt} {t : TS} (h : PS Y a t) : PSs Y [a] t := pss_imp (pss_cons h pss_nil) fun De σ H z => z
theorem cst_pv {d : D} {c : Const} {j : Nat} {pos : Pos} (h : cstB d c = true) : ∃ v, (∀ G B H, Own C G B H d v []) ∧ PE Y (.Constant c j pos) (tC v) := by
  unfold cstB at h
  split at h
  · simp only [decide_eq_true_eq] at h; subst h
    exact ⟨.int _, fun _ _ _ => ⟨rfl, rfl⟩, pe_int⟩
  · simp only [decide_eq_true_eq] at h; subst h
    exact ⟨.str _, fun _ _ _ => ⟨rfl, rfl⟩, pe_str⟩
  · have h := eq_of_beq h; subst h
    exact ⟨.bl _, fun _ _ _ => ⟨rfl, rfl⟩, pe_bl⟩
  · exact ⟨.non, fun _ _ _ => ⟨rfl, rfl⟩, pe_non⟩
  · cases h
theorem visY (hsc : Y.env.scope = Γ.sc) {y : Str} (h4 : visB Γ.sc y = true) : L2.Vis Y.env.scope y := by
  rw [hsc]
  unfold visB at h4
  unfold L2.Vis
  split at h4
  · exact .inl ‹_›
  · exact .inr (.inl ‹_›)
  · exact .inr (.inr ‹_›)
  · cases h4
theorem su_ok {su : Su} {nmi : Option Nat} {st : Stmt} (hN : Y.N = Γ.N) (nd : Γ.N.Nodup) (hsc : Y.env.scope = Γ.sc) (hfn : ∀ x, L2.Loc Y.env.scope x → Y.fn x = true ∨ Y.env.scope.names.lookup x = some .local) (h : suB Γ su nmi st = true) : PSs Y [st] (tSu C nmi su) := by
  have hnd : Y.N.Nodup := by rw [hN]; exact nd
  unfold suB at h
  split at h
  · split at h
    · rename_i n
      simp only [Bool.and_eq_true, decide_eq_true_eq] at h
      obtain ⟨⟨⟨⟨h1, h2⟩, h3⟩, h4⟩, h5⟩ := h
      obtain ⟨x, p, e, hi, hL, hm⟩ := st_okY hN hsc h1
      cases e
      have hd := h3
      simp only [dbgB, Bool.and_eq_true, Bool.not_eq_true'] at hd
      have hv := visY hsc h4
      refine one_st (ps_imp (ps_set hnd hi hL (pe_var (by rw [hN]; exact h2) hv hd.1 hd.2) rfl (hfn _ hL)) fun De σ H z => ?_)
      obtain ⟨n', v, e, ev, z⟩ := z
      cases e
      exact ⟨v, ev, z⟩
    · cases h
  · simp only [Bool.and_eq_true, decide_eq_true_eq] at h
    obtain ⟨⟨h1, h2⟩, h3⟩ := h
    obtain ⟨x, p, e, hi, hL, hm⟩ := st_okY hN hsc h1
    cases e
    obtain ⟨v, hv, pv⟩ := cst_pv (C := C) (Y := Y) h2
    exact one_st (ps_imp (ps_set hnd hi hL pv rfl (hfn _ hL)) fun De σ H z => z v hv)
  · simp only [Bool.and_eq_true, decide_eq_true_eq] at h
    obtain ⟨h1, h3⟩ := h
    obtain ⟨x, p, e, hi, hL, hm⟩ := st_okY hN hsc h1
    cases e
    exact one_st (ps_imp (ps_set hnd hi hL (pe_lst pa_nil) rfl (hfn _ hL)) fun De σ H z => ⟨Nat.zero_le _, z⟩)
  · cases h
theorem stB_m {i : Nat} {t : Expr} (q : stB Γ i t = true) : (Γ.m && decide (i = 0)) = false := by
  unfold stB at q
  split at q
  · simp only [Bool.and_eq_true, Bool.not_eq_true'] at q
    exact q.2
  · cases q
theorem su_exn {i : Nat} {nmi : Option Nat} {st : Stmt} (h : suB Γ (.exn i) nmi st = true) : (Γ.m && decide (i = 0)) = false ∧ ∃ n, nmi = some n ∧ i ≠ n := by
  unfold suB at h
  split at h
  · rename_i i' x p y q pos e
    cases e
    split at h
    · rename_i n
      simp only [Bool.and_eq_true, decide_eq_true_eq] at h
      exact ⟨stB_m h.1.1.1.1, n, rfl, h.2⟩
    · cases h
  · rename_i e; cases e
  · rename_i e; cases e
  · cases h
theorem su_c {i : Nat} {d : D} {nmi : Option Nat} {st : Stmt} (h : suB Γ (.c i d) nmi st = true) : (Γ.m && decide (i = 0)) = false ∧ nmi ≠ some i := by
  unfold suB at h
  split at h
  · rename_i e; cases e
  · rename_i e
    cases e
    simp only [Bool.and_eq_true, decide_eq_true_eq] at h
    exact ⟨stB_m h.1.1, h.2⟩
  · rename_i e; cases e
  · cases h
theorem su_nil {i : Nat} {nmi : Option Nat} {st : Stmt} (h : suB Γ (.nil i) nmi st = true) : (Γ.m && decide (i = 0)) = false ∧ nmi ≠ some i := by
  unfold suB at h
  split at h
  · rename_i e; cases e
  · rename_i e; cases e
  · rename_i e
    cases e
    simp only [Bool.and_eq_true, decide_eq_true_eq] at h
    exact ⟨stB_m h.1, h.2⟩
  · cases h
end
end TT
namespace TT
open PySem PySem.Spec PyProof.Rows L2
section
variable {X : Cx} {C : Gl0} {W : WX} {Γ : Gam}
theorem glB_ok (k : CxOk C Γ X) {y : Str} (h : glB Γ.sc y = true) : Gl X y ∧ (y == ("__debug__" : Str)) = false := by
  unfold glB at h
  simp only [Bool.and_eq_true] at h
  obtain ⟨h1, h2⟩ := h
  refine ⟨?_, ?_⟩
  · show X.env.scope.names.lookup y = some .globalImplicit
    rw [k.sc]
    split at h1
    · assumption
    · cases h1
  · simp only [dbgB, Bool.and_eq_true, Bool.not_eq_true'] at h2
    exact h2.1
theorem s_raise0 {c : Nat} {x m : Str} {p p2 p3 pos : Pos} {j : Nat} (k : CxOk C Γ X) (tk : Takes X W) (n : ExC C X c x) (hg : glB Γ.sc x = true) : PS X (.Raise (some (.Call (.Name x p) [.Constant (.str m) j p2] [] p3)) none pos) (tS C W Γ.m (.raise0 c x)) := by
  obtain ⟨g1, g2⟩ := glB_ok k hg
  refine ps_imp (ps_raise k.calm tk (pmk_own PySem.F.excBase_ValueError n.x n.g n.k (raises_own n.b n.t) g1 g2)) fun De σ H z => ?_
  obtain ⟨s, G, B, F, g, z⟩ := z
  unfold exS at z
  exact z _ _ σ G B H F ⟨g, Ext.refl, .refl⟩ ⟨rfl, ⟨rfl, rfl⟩, [], fun _ _ => ⟨rfl, rfl⟩, rfl, .inl ⟨rfl, rfl⟩⟩
theorem nd_tr {nd : Nd} {pn : List (Addr × Obj)} {xe : Value → Shared → Prop} (h : NdOk C X nd) : NdOk C (X.tr pn xe) nd := by
  cases nd with
  | fe f =>
    obtain ⟨a, fd, ps, dV, dv, h1, h2, h3⟩ := h
    exact ⟨a, fd, ps, dV, dv, h1, h2, ⟨h3.ln, h3.dl, h3.dr, h3.do_, h3.bd, h3.ok⟩⟩
  | gl x d => exact h
  | isi t x tab => exact h
  | exc c x => exact ⟨h.g, h.x, h.k, h.b, h.t⟩
  | tr c x tab => exact h
theorem all_tr {pn : List (Addr × Obj)} {xe : Value → Shared → Prop} : ∀ {l : List Nd}, AllNd C X l → AllNd C (X.tr pn xe) l
  | [], _ => trivial
  | _ :: _, h => ⟨nd_tr h.1, all_tr h.2⟩
theorem cx_tr {pn : List (Addr × Obj)} {xe : Value → Shared → Prop} (k : CxS C Γ X) (po : PassesOwn (model X.prog X.w) X.A X.env xe) : CxS C Γ (X.tr pn xe) :=
  ⟨⟨k.K, k.N, k.nd, k.sc, k.calm, k.room, k.bn, k.fn⟩, k.fa, po, k.st, k.fr, k.ex⟩
/-- the exception, tracked -/
theorem own_exn {c : Nat} {fs : List Str} {xs : List D} {cls : Value} {d : Option Addr} {a : Addr} {G B H : Hp} (r : ExR C G c fs xs cls d) (ga : G a = none) :
    Own C (upd G a (exH cls d a)) (upd B a (exH cls d a)) (upd H a (exH cls d a)) (.exn c fs xs) (.ref a) [] := by
  obtain ⟨rfl, ok, vs, o, hl, q⟩ := r
  have up : ∀ b o, G b = some o → upd G a (exH (.ref (C.ca c)) d a) b = some o := fun b o e => by rw [upd_ne (ne_of_none e ga)]; exact e
  refine ⟨a, vs, rfl, rfl, ok, ?_, hl, ?_⟩
  · refine (o (fun _ => none) H).mono up (fun b o e => by cases e) (fun _ z => nomatch z)
  · rcases q with ⟨e, rfl⟩ | ⟨e, dd, rfl, hd⟩
    · exact .inl ⟨e, upd_same⟩
    · exact .inr ⟨e, dd, upd_same, up _ _ hd⟩
theorem set_drop_comm {s : List D} {i n : Nat} {d : D} (h : i ≠ n) : ((s.set n .dead).set i d).set n .dead = (s.set i d).set n .dead := by
  rw [List.set_comm _ _ (Ne.symm h), List.set_set]
/-- behind the suite -/
theorem su_done {m : Bool} {G B H : Hp} {F : Fp} {s : List D} {σ : L2.St} {n i : Nat} {v v' : V} {d : D} {G1 B1 H1 : Hp} (g : Good C G B H F s σ) (x : Alloc G B H G1 B1 H1) (gb : Sb G1 B1) (bh : Sb B1 H1) (hn : i ≠ n) (hm : (m && decide (i = 0)) = false) (hm2 : (m && decide (n = 0)) = false)
    {fd : List Addr} (o : Own C G1 B1 H1 d v fd) (nd : fd.Nodup) (np : ∀ b ∈ fd, H b = none) : ∃ F', PostS C m σ G B H F ((s.set i d).set n .dead) (((σ.set n (some v')).set i (some v)).set n none) G1 B1 H1 F' := by
  have g1 := g.alloc x gb bh
  obtain ⟨F2, g2, k2⟩ := g1.drop (i := n) (v := some v')
  obtain ⟨F3, g3, k3⟩ := g2.set (i := i) o nd fun b hb z => (g.inF (k2 b z)).1 (np b hb)
  obtain ⟨F4, g4, k4⟩ := g3.drop (i := n) (v := none)
  rw [set_drop_comm hn] at g4
  refine ⟨F4, g4, ⟨fun b o e _ => x.keep b o e fun z => z, x.g, x.b, fun b e => (x.gn b e).imp id (Or.imp False.elim id), fun b e => (x.bn b e).imp id (Or.imp False.elim id), fun b z => ?_⟩, (Prot.set hm2).trans ((Prot.set hm).trans (Prot.set hm2))⟩
  rcases k3 b (k4 b z) with z | z
  · exact .inl (k2 b z)
  · exact .inr (np b z)
/-- .. without a name -/
theorem su_done0 {m : Bool} {G B H : Hp} {F : Fp} {s : List D} {σ : L2.St} {i : Nat} {v : V} {d : D} {G1 B1 H1 : Hp} (g : Good C G B H F s σ) (x : Alloc G B H G1 B1 H1) (gb : Sb G1 B1) (bh : Sb B1 H1) (hm : (m && decide (i = 0)) = false)
    {fd : List Addr} (o : Own C G1 B1 H1 d v fd) (nd : fd.Nodup) (np : ∀ b ∈ fd, H b = none) : ∃ F', PostS C m σ G B H F (s.set i d) (σ.set i (some v)) G1 B1 H1 F' := by
  have g1 := g.alloc x gb bh
  obtain ⟨F3, g3, k3⟩ := g1.set (i := i) o nd fun b hb z => (g.inF z).1 (np b hb)
  refine ⟨F3, g3, ⟨fun b o e _ => x.keep b o e fun z => z, x.g, x.b, fun b e => (x.gn b e).imp id (Or.imp False.elim id), fun b e => (x.bn b e).imp id (Or.imp False.elim id), fun b z => ?_⟩, Prot.set hm⟩
  rcases k3 b z with z | z
  · exact .inl z
  · exact .inr (np b z)
theorem upd_comm {H : Hp} {a b : Addr} {o u : HO} (h : a ≠ b) : upd (upd H a o) b u = upd (upd H b u) a o := by
  funext c
  by_cases e : c = b
  · subst e
    rw [upd_same, upd_ne (Ne.symm h), upd_same]
  · rw [upd_ne e]
    by_cases e2 : c = a
    · subst e2
      rw [upd_same, upd_same]
    · rw [upd_ne e2, upd_ne e2, upd_ne e]
theorem nmi_some {n : Nat} {o : Option Str} (h : nmiB Γ (some n) o = true) : ∃ y, o = some y ∧ Γ.N[n]? = some y ∧ Γ.sc.names.lookup y = some .local ∧ (Γ.m && decide (n = 0)) = false := by
  unfold nmiB at h
  split at h
  · rename_i q
    cases q
    simp only [Bool.and_eq_true, decide_eq_true_eq, Bool.not_eq_true'] at h
    exact ⟨_, rfl, h.1.1, h.1.2, h.2⟩
  · simp_all
  · cases h
theorem nmi_none {o : Option Str} (h : nmiB Γ none o = true) : o = none := by
  unfold nmiB at h
  split at h
  · simp_all
  · rfl
  · cases h
/-- what the body's end means, by the table -/
theorem try_cs {b : List S} {c : Nat} {x : Str} {tab : List (Nat × Bool)} {nmi : Option Nat} {su : Su} {s : List D} {σ : L2.St} {G B H : Hp} {F : Fp} {De : Ends} {W' : WX} (z : outS C W Γ.m σ G B H F (exS (.try1 b c x tab nmi su) s) De)
    (h : ∀ c' fs xs s1 t, (c', t) ∈ tab → outS C W Γ.m σ G B H F (if t = true then .nx (match nmi with | some i => (suD su c' fs xs s1).set i .dead | none => suD su c' fs xs s1) else .exc c' fs xs s1) De →
      ∀ cls dd σ' G' B' H' F', PostS C Γ.m σ G B H F s1 σ' G' B' H' F' → ExR C G' c' fs xs cls dd → W' cls dd σ' H') : outS C W' Γ.m σ G B H F (exSs b s) De := by
  unfold exS at z
  revert z
  cases exSs b s with
  | nx s4 => exact fun z => z
  | ct s4 => exact fun z => z
  | bk s4 => exact fun z => z
  | rt d s4 => exact fun z => z
  | bad => exact fun z => z
  | exc c' fs xs s1 =>
    intro z
    cases e : tab.lookup c' with
    | none => simp only [e] at z; exact z.elim
    | some t =>
      simp only [e] at z
      intro cls dd σ' G' B' H' F' p r
      refine h c' fs xs s1 t (lookup_mem e) ?_ cls dd σ' G' B' H' F' p r
      cases t <;> exact z
theorem s_try {b : List S} {c : Nat} {x : Str} {tab : List (Nat × Bool)} {nmi : Option Nat} {su : Su} {bd : List Stmt} {np pos pos' : Pos} {on : Option Str} {st : Stmt} (k : CxS C Γ X) (tk : Takes X W) (hg : glB Γ.sc x = true) (h1 : nmiB Γ nmi on = true) (h2 : suB Γ su nmi st = true)
    (hn : NdOk C X (.tr c x tab)) (hb : ∀ (W' : WX) (pn : List (Addr × Obj)) (xe : Value → Shared → Prop), Takes (X.tr pn xe) W' → PassesOwn (model X.prog X.w) X.A X.env xe → PSs (X.tr pn xe) bd (tSs C W' Γ.m b)) :
    PS X (.Try bd [.ExceptHandler (some (.Name x np)) on [st] pos'] [] [] pos) (tS C W Γ.m (.try1 b c x tab nmi su)) := by
  obtain ⟨g1, g2⟩ := glB_ok k.toCxOk hg
  have nm : Names X x (.ref (C.ca c)) := ⟨g1, g2, .inl hn.1⟩
  cases nmi with
  | some n =>
    obtain ⟨y, rfl, hi, hl, hm2⟩ := nmi_some h1
    refine ps_imp (ps_try_asT k.st k.fr k.ex (nd_of k.toCxOk) (by rw [k.N]; exact hi) (show X.env.scope.names.lookup y = some .local by rw [k.sc]; exact hl) nm tk hb fun a pn => su_ok (Y := X.suite a pn) (C := C) (nmi := some n) k.N k.nd k.sc k.fa h2) fun De σ H z => ?_
    obtain ⟨s, G, B, F, g, z⟩ := z
    refine ⟨s, G, B, F, g, try_cs z fun c' fs xs s1 t ht z cls dd σ' G' B' H' F' p r => ⟨t, ?_, fun ht a na hL => ?_, fun ht => ?_⟩⟩
    · rw [r.1]; exact hn.2 _ ht
    · subst ht
      rw [if_pos rfl] at z
      replace z : ∀ σ' G' B' H' F', PostS C Γ.m σ G B H F ((suD su c' fs xs s1).set n .dead) σ' G' B' H' F' → De.nx σ' H' := z
      have gb := p.good.gb
      have bh := p.good.bh
      have nb : B' a = none := none_of_ne fun q => bh.ne q na
      have ng : G' a = none := none_of_ne fun q => gb.ne q nb
      cases su with
      | exn i =>
        obtain ⟨hm, n', e, hne⟩ := su_exn h2
        cases e
        obtain ⟨x1, gb1, bh1⟩ := alloc_shr (o := exH cls dd a) gb bh na
        have hlen : n < σ'.length := by
          rw [hL, k.N]
          exact (List.getElem?_eq_some_iff.1 hi).1
        refine ⟨n, .ref a, rfl, by rw [List.getElem?_set_self hlen], fun _ => ?_⟩
        obtain ⟨F9, q⟩ := su_done (v' := .ref a) p.good x1 gb1 bh1 hne hm hm2 (own_exn r ng) List.nodup_nil (fun _ z => nomatch z)
        exact z _ _ _ _ _ (p.trans q)
      | c i d =>
        obtain ⟨hm, hne⟩ := su_c h2
        intro v ov _
        obtain ⟨x1, gb1, bh1⟩ := alloc_shr (o := exH cls dd a) gb bh na
        obtain ⟨F9, q⟩ := su_done (v' := .ref a) p.good x1 gb1 bh1 (fun q => hne (by rw [q])) hm hm2 (ov _ _ _) List.nodup_nil (fun _ z => nomatch z)
        exact z _ _ _ _ _ (p.trans q)
      | nil i =>
        obtain ⟨hm, hne⟩ := su_nil h2
        intro q hq ha
        have hqa : q ≠ a := fun e => by rw [e, upd_same] at ha; cases ha
        obtain ⟨x1, b1, bq⟩ := alloc_own (G := G') (o := .lst []) bh hq
        obtain ⟨x2, gb2, bh2⟩ := alloc_shr (o := exH cls dd a) gb b1 ha
        obtain ⟨F9, w⟩ := su_done (v' := .ref a) (v := .ref q) (d := .lst .own []) (fd := [q]) p.good (x1.trans x2) gb2 bh2 (fun q => hne (by rw [q])) hm hm2 ⟨q, [], [], rfl, ⟨by rw [upd_ne hqa, upd_same], by rw [upd_ne hqa]; exact bq⟩, ⟨rfl, rfl⟩, rfl, trivial⟩ (by simp) (fun b hb => by rw [List.mem_singleton.1 hb]; exact hq)
        exact z _ _ _ _ _ (p.trans w)
    · subst ht
      rw [if_neg Bool.false_ne_true] at z
      exact z cls dd σ' G' B' H' F' p r
  | none =>
    obtain rfl := nmi_none h1
    refine ps_imp (ps_try_only k.st k.fr nm tk hb fun a oe cls d pn _ _ => su_ok (Y := X.suite a ((a, oe) :: pn)) (C := C) (nmi := none) k.N k.nd k.sc k.fa h2) fun De σ H z => ?_
    obtain ⟨s, G, B, F, g, z⟩ := z
    refine ⟨s, G, B, F, g, try_cs z fun c' fs xs s1 t ht z cls dd σ' G' B' H' F' p r => ⟨t, ?_, fun ht a na => ?_, fun ht => ?_⟩⟩
    · rw [r.1]; exact hn.2 _ ht
    · subst ht
      rw [if_pos rfl] at z
      replace z : ∀ σ' G' B' H' F', PostS C Γ.m σ G B H F (suD su c' fs xs s1) σ' G' B' H' F' → De.nx σ' H' := z
      have gb := p.good.gb
      have bh := p.good.bh
      cases su with
      | exn i =>
        obtain ⟨hm, n', e, hne⟩ := su_exn h2
        cases e
      | c i d =>
        obtain ⟨hm, hne⟩ := su_c h2
        intro v ov
        obtain ⟨F9, q⟩ := su_done0 p.good Ext.refl gb bh hm (ov G' B' H') List.nodup_nil (fun _ z => nomatch z)
        exact z _ _ _ _ _ (p.trans q)
      | nil i =>
        obtain ⟨hm, hne⟩ := su_nil h2
        intro q hq
        obtain ⟨x1, b1, bq⟩ := alloc_own (G := G') (o := .lst []) bh hq
        obtain ⟨F9, w⟩ := su_done0 (v := .ref q) (d := .lst .own []) (fd := [q]) p.good x1 gb b1 hm ⟨q, [], [], rfl, ⟨upd_same, bq⟩, ⟨rfl, rfl⟩, rfl, trivial⟩ (by simp) (fun b hb => by rw [List.mem_singleton.1 hb]; exact hq)
        exact z _ _ _ _ _ (p.trans w)
    · subst ht
      rw [if_neg Bool.false_ne_true] at z
      exact z cls dd σ' G' B' H' F' p r
end
end TT
namespace TT
open PySem PySem.Spec PyProof.Rows L2
mutual
theorem sS {C : Gl0} {Γ : Gam} : ∀ (x : S) (a : Stmt) (X : Cx) (W : WX), CxS C Γ X → Takes X W → mS Γ x a = true → AllNd C X (nS x) → PS X a (tS C W Γ.m x)
  | .asg i e, a, X, W, k, tk, h, n => by
    unfold mS at h
    split at h
    · simp only [Bool.and_eq_true, Bool.not_eq_true', Bool.or_eq_true] at h
      rcases h.2 with q | q
      · exact s_asg k.toCxOk h.1.1.1 (sE e _ Γ X W k.toCxOk tk h.1.1.2 n).1 h.1.2 q
      · unfold isLC at q
        split at q
        · exact s_asgC k.toCxOk h.1.1.1 (lcp_any k.toCxOk tk e h.1.1.2 n) h.1.2
        · cases q
    · cases h
  | .app i e, a, X, W, k, tk, h, n => by
    unfold mS at h
    split at h
    · simp only [Bool.and_eq_true, Bool.not_eq_true', decide_eq_true_eq] at h
      obtain ⟨⟨⟨⟨⟨rfl, h2⟩, h3⟩, h4⟩, h5⟩, h6⟩ := h
      exact s_app k.toCxOk h2 (sE e _ Γ X W k.toCxOk tk h3 n).1 h4 h5 h6
    · cases h
  | .par i j e f, a, X, W, k, tk, h, n => by
    unfold mS at h
    split at h
    · simp only [Bool.and_eq_true] at h
      obtain ⟨h1, h2⟩ := h
      split at h2
      · simp only [Bool.and_eq_true, Bool.not_eq_true'] at h2
        exact s_par k.toCxOk rfl h1 (sEs _ _ Γ X W k.toCxOk tk h2.1.1 n).pel h2.1.2 h2.2
      · cases h2
    · cases h
  | .asgT is e, a, X, W, k, tk, h, n => by
    unfold mS at h
    split at h
    · simp only [Bool.and_eq_true, Bool.not_eq_true'] at h
      exact s_asgT k.toCxOk h.1.1.1.1 (sE e _ Γ X W k.toCxOk tk h.1.1.1.2 n).1 h.1.1.2 h.1.2 h.2
    · cases h
  | .aug i o e, a, X, W, k, tk, h, n => by
    unfold mS at h
    split at h
    · simp only [Bool.and_eq_true, Bool.not_eq_true'] at h
      exact s_aug k.toCxOk h.1.1.1 (sE e _ Γ X W k.toCxOk tk h.1.1.2 n).1 h.1.2 h.2
    · cases h
  | .ex e, a, X, W, k, tk, h, n => by
    unfold mS at h
    split at h
    · simp only [Bool.and_eq_true] at h
      exact s_ex (sE e _ Γ X W k.toCxOk tk h.1 n).1 h.2
    · cases h
  | .ret e, a, X, W, k, tk, h, n => by
    unfold mS at h
    split at h
    · simp only [Bool.and_eq_true, Bool.not_eq_true'] at h
      exact s_ret (sE e _ Γ X W k.toCxOk tk h.1 n).1 h.2
    · cases h
  | .ift c x y, a, X, W, k, tk, h, n => by
    unfold mS at h
    split at h
    · simp only [Bool.and_eq_true] at h
      unfold nS at n
      have n1 := n.app
      have n2 := n1.2.app
      exact s_ift ((sE c _ Γ X W k.toCxOk tk h.1.1.1 n1.1).2 h.1.1.2) (sSs x _ X W k tk h.1.2 n2.1) (sSs y _ X W k tk h.2 n2.2)
    · cases h
  | .for_ t it b, a, X, W, k, tk, h, n => by
    unfold mS at h
    split at h
    · simp only [Bool.and_eq_true] at h
      unfold nS at n
      have n1 := n.app
      exact s_for k h.1.1.1 (sI k.toCxOk tk h.1.1.2 n1.1) h.1.2 (sSs b _ X W k tk h.2 n1.2)
    · cases h
  | .whl f c b, a, X, W, k, tk, h, n => by
    unfold mS at h
    split at h
    · simp only [Bool.and_eq_true] at h
      unfold nS at n
      have n1 := n.app
      exact s_whl k ((sE c _ Γ X W k.toCxOk tk h.1.1 n1.1).2 h.1.2) (sSs b _ X W k tk h.2 n1.2)
    · cases h
  | .raise0 c x, a, X, W, k, tk, h, n => by
    unfold mS at h
    split at h
    · simp only [Bool.and_eq_true, decide_eq_true_eq] at h
      obtain ⟨rfl, h2⟩ := h
      exact s_raise0 k.toCxOk tk n.1 h2
    · cases h
  | .try1 b c x tab nmi su, a, X, W, k, tk, h, n => by
    unfold mS at h
    split at h
    · simp only [Bool.and_eq_true, decide_eq_true_eq] at h
      obtain ⟨⟨⟨⟨rfl, h2⟩, h3⟩, h4⟩, h5⟩ := h
      unfold nS at n
      exact s_try k tk h2 h3 h4 n.1 fun W' pn xe tk' po' => sSs b _ (X.tr pn xe) W' (cx_tr k po') tk' h5 (all_tr n.2)
    · cases h
  | .pass, a, X, W, k, tk, h, n => by
    unfold mS at h
    split at h
    · exact s_pass
    · cases h
  | .cont, a, X, W, k, tk, h, n => by
    unfold mS at h
    split at h
    · exact s_cont
    · cases h
theorem sSs {C : Gl0} {Γ : Gam} : ∀ (x : List S) (a : List Stmt) (X : Cx) (W : WX), CxS C Γ X → Takes X W → mSs Γ x a = true → AllNd C X (nSs x) → PSs X a (tSs C W Γ.m x)
  | [], [], X, W, k, tk, h, n => ss_nil
  | [], _ :: _, X, W, k, tk, h, n => by simp [mSs] at h
  | _ :: _, [], X, W, k, tk, h, n => by simp [mSs] at h
  | x :: xs, a :: as, X, W, k, tk, h, n => by
    simp only [mSs, Bool.and_eq_true] at h
    unfold nSs at n
    have n1 := n.app
    exact ss_cons (sS x a X W k tk h.1 n1.1) (sSs xs as X W k tk h.2 n1.2)
end
end TT
namespace TT
open PySem PySem.Spec PyProof.Rows L2
/-! ### a def of the text -/
theorem owns_at {C : Gl0} {G B H : Hp} : ∀ {ds : List D} {vs : List V} {i : Nat}, Owns C G B H ds vs [] → ∀ d, ds[i]? = some d → ∃ v, vs[i]? = some v ∧ Own C G B H d v []
  | [], _, i, _, d, h => by simp at h
  | x :: xs, vs, i, o, d, h => by
    obtain ⟨v, vr, F1, F2, rfl, e, o1, o2⟩ := o
    obtain ⟨rfl, rfl⟩ := List.append_eq_nil_iff.1 e.symm
    cases i with
    | zero => simp at h; subst h; exact ⟨v, rfl, o1⟩
    | succ i =>
      obtain ⟨w, e2, o3⟩ := owns_at (i := i) o2 d (by simpa using h)
      exact ⟨w, by simpa using e2, o3⟩
def fp1 (fs : List Addr) : Fp := fun i => if i = 0 then fs else []
theorem inF_fp1 {fs : List Addr} {a : Addr} : inF (fp1 fs) a ↔ a ∈ fs := by
  constructor
  · rintro ⟨i, h⟩
    unfold fp1 at h
    split at h
    · exact h
    · cases h
  · intro h
    exact ⟨0, h⟩
theorem getD_start {ds : List D} {n i : Nat} : (ds ++ List.replicate n D.dead).getD i .dead = ds.getD i .dead := by
  rw [List.getD_eq_getElem?_getD, List.getD_eq_getElem?_getD]
  by_cases h : i < ds.length
  · rw [List.getElem?_append_left h]
  · rw [List.getElem?_append_right (by omega), List.getElem?_eq_none (l := ds) (by omega), List.getElem?_replicate]
    split <;> rfl
/-- a def of the text as it stands behind the top; dV: its defaults -/
structure DFun (K : PySem.W.Frag) (x qual : Str) (st : Stmt) (f : Addr) (dV : Value) (fd : FuncData) : Prop where
  ex : ∃ (oc : Value) (od : Option Addr) (kV doc pm : Value) (an : Option Addr) (cdv ct : Value) (osl : Array (Option Value)),
    fd = PySem.W.fnOf x qual (defArgs st) (defBody st) (defScope st) dV kV doc pm an cdv ct ∧ K.lookup f = some ⟨oc, od, .func fd, osl⟩ ∧ PySem.W.codeIn K cdv qual = true
def scB (N P : List Str) (sc : Scope) : Bool :=
  decide (sc.kind = .function) && !sc.isCoroutine && !sc.isGenerator && decide N.Nodup && decide (N.take P.length = P) && P.all (fun x => decide (sc.names.lookup x = some .local) || decide (sc.names.lookup x = some .cell)) && sc.names.all (fun y => !decide (y.2 = .free))
theorem sc_by {N P : List Str} {sc : Scope} (h : scB N P sc = true) : FnScope N P sc := by
  unfold scB at h
  simp only [Bool.and_eq_true, Bool.not_eq_true', decide_eq_true_eq, List.all_eq_true, Bool.or_eq_true, decide_eq_false_iff_not] at h
  obtain ⟨⟨⟨⟨⟨⟨h1, h2⟩, h3⟩, h4⟩, h5⟩, h6⟩, h7⟩ := h
  exact ⟨h1, h2, h3, h4, h5, h6, h7⟩
theorem dfun_mk {K : PySem.W.Frag} {x qual : Str} {st : Stmt} {f : Addr} {oc : Value} {od an : Option Addr} {osl : Array (Option Value)} {dV kV doc pm cdv ct : Value} (l : K.lookup f = some ⟨oc, od, .func (PySem.W.fnOf x qual (defArgs st) (defBody st) (defScope st) dV kV doc pm an cdv ct), osl⟩)
    (c : PySem.W.codeIn K cdv qual = true) : DFun K x qual st f dV (PySem.W.fnOf x qual (defArgs st) (defBody st) (defScope st) dV kV doc pm an cdv ct) := ⟨⟨oc, od, kV, doc, pm, an, cdv, ct, osl, rfl, l, c⟩⟩
/-- how its arguments bind, no default -/
theorem DFun.binds {K : PySem.W.Frag} {x qual : Str} {st : Stmt} {f : Addr} {fd : FuncData} {ps : List Str} (F : DFun K x qual st f .none fd)
    (h : ∀ (kV doc pm : Value) (an : Option Addr) (cdv ct : Value) (us : List Value), us.length = ps.length → bindArgs (PySem.W.fnOf x qual (defArgs st) (defBody st) (defScope st) .none kV doc pm an cdv ct) ⟨us, []⟩ = pure (ps.zip us)) : ∀ j, Binds K fd ps (([] : List Value).drop j) := fun j => by
  obtain ⟨oc, od, kV, doc, pm, an, cdv, ct, osl, rfl, lk, hcd⟩ := F.ex
  rw [List.drop_nil]
  exact .all (h kV doc pm an cdv ct)
theorem good_start {C : Gl0} {G B H : Hp} {m : Bool} {ds : List D} {vs : List V} {fs : List Addr} {N : List Str} (gb : Sb G B) (bh : Sb B H) (h : ArgsOk C G B H m ds vs fs) (hl : vs.length ≤ N.length) : Good C G B H (fp1 fs) (ds ++ List.replicate (N.length - ds.length) .dead) (L2.start N vs) := by
  have hlen : ds.length = vs.length := by
    unfold ArgsOk at h
    split at h
    · obtain ⟨d0, dr, v0, vr, rfl, rfl, _, _, o⟩ := h
      simp [o.length]
    · exact h.1.length
  have st : ∀ {i : Nat} {v : V}, vs[i]? = some v → (L2.start N vs)[i]? = some (some v) := fun {i v} e => by
    have hi : i < vs.length := (List.getElem?_eq_some_iff.1 e).1
    unfold L2.start
    rw [List.getElem?_append_left (by simpa using hi), List.getElem?_map, e]
    rfl
  have key : ∀ i, ds.getD i .dead ≠ .dead → ∃ d, ds[i]? = some d ∧ ds.getD i .dead = d := fun i q => by
    rw [List.getD_eq_getElem?_getD] at q ⊢
    cases e : ds[i]? with
    | none => rw [e] at q; exact absurd rfl q
    | some d => exact ⟨d, rfl, rfl⟩
  refine ⟨gb, bh, ?_, fun i q => ?_, fun i q => ?_, fun i => ?_, fun i j a h1 h2 => ?_⟩
  · unfold L2.start
    simp
    omega
  · rw [getD_start] at q ⊢
    obtain ⟨d, e, e2⟩ := key i q
    rw [e2]
    unfold ArgsOk at h
    split at h
    · obtain ⟨d0, dr, v0, vr, rfl, rfl, o0, nd, o⟩ := h
      cases i with
      | zero =>
        simp at e
        subst e
        exact ⟨v0, st rfl, o0⟩
      | succ i =>
        obtain ⟨w, e3, o3⟩ := owns_at (i := i) o d (by simpa using e)
        exact ⟨w, st (by simpa using e3), o3⟩
    · obtain ⟨o, rfl⟩ := h
      obtain ⟨w, e3, o3⟩ := owns_at o d e
      refine ⟨w, st e3, ?_⟩
      have : fp1 [] i = [] := by unfold fp1; split <;> rfl
      rw [this]; exact o3
  · unfold fp1
    split
    · rename_i h0
      subst h0
      rw [getD_start] at q
      unfold ArgsOk at h
      split at h
      · obtain ⟨d0, dr, v0, vr, rfl, rfl, o0, nd, o⟩ := h
        have q : d0 = .dead := q
        subst q
        exact o0
      · exact h.2
    · rfl
  · unfold fp1
    split
    · unfold ArgsOk at h
      split at h
      · obtain ⟨d0, dr, v0, vr, rfl, rfl, o0, nd, o⟩ := h
        exact nd
      · rw [h.2]; exact List.nodup_nil
    · exact List.nodup_nil
  · unfold fp1 at h1 h2
    split at h1
    · split at h2
      · rw [‹i = 0›, ‹j = 0›]
      · cases h2
    · cases h1
/-- behind the body: the first argument -/
theorem self_ok {C : Gl0} {G B H : Hp} {m : Bool} {ds : List D} {vs : List V} {fs fr : List Addr} {N : List Str} {s' : List D} {σ' : L2.St} {G' B' H' : Hp} {F' : Fp} (h : ArgsOk C G B H m ds vs fs) (g : Good C G' B' H' F' s' σ') (p : Prot m (L2.start N vs) σ') (np : ∀ a ∈ fr, ¬ inF F' a) :
    Self C G' B' H' m (if m then s'.getD 0 .dead else .dead) vs (if m then F' 0 else []) fr := by
  unfold ArgsOk at h
  unfold Self
  cases m with
  | false => rfl
  | true =>
    simp only [if_true] at h ⊢
    obtain ⟨d0, dr, v0, vr, rfl, rfl, o0, nd, o⟩ := h
    refine ⟨⟨v0, vr, rfl, ?_⟩, g.nd 0, fun a ha z => np a z ⟨0, ha⟩⟩
    by_cases hd : s'.getD 0 .dead = .dead
    · rw [hd]; exact g.nf 0 hd
    · obtain ⟨v, e, ov⟩ := g.sl 0 hd
      have := p rfl
      rw [e] at this
      have q : (L2.start N (v0 :: vr))[0]? = some (some v0) := rfl
      rw [q] at this
      cases this
      exact ov
theorem fs_in {m : Bool} {F' : Fp} {a : Addr} (h : a ∈ (if m then F' 0 else [])) : inF F' a := by
  cases m with
  | false => cases h
  | true => exact ⟨0, h⟩
theorem def_ok {P : Program} {w : World} {K : PySem.W.Frag} {mg : Str → Option Value} {base : Heap} {C : Gl0} {f : FE} {k : Nat} {x qual : Str} {st : Stmt} {fa : Addr} {dV : Value} {fd : FuncData} {N ps bn : List Str} {b : List S} (hK : C.K = K) (F : DFun K x qual st fa dV fd)
    (hS : scB N ps (defScope st) = true) (hn : ps.length = f.np) (hm : mSs ⟨N, defScope st, bn, k, f.m, none⟩ b (defBody st) = true) (hbn : ∀ x ∈ bn, mg x = none) (hnd : ∀ Y : Cx, Y.prog = P → Y.w = w → Y.K = K → Y.mg = mg → Y.base = base → AllNd C Y (nSs b))
    (hg : ∀ ds, ds.length = f.np → f.g ds = runF N.length f.m b ds ∨ f.g ds = .bad) : FnOk P w K mg base (L2.CX P w) (k + 1) fa fd ps (spec C f) := by
  obtain ⟨oc, od, kV, doc, pm, an, cdv, ct, osl, rfl, lk, hcd⟩ := F.ex
  have S := sc_by hS
  refine fn_of lk hcd S (fun vs H Q E h => by rw [h.1, hn]) fun A outer s H vs Q E hr hsp => ?_
  have tk : Takes (cxOf (L2.CX P w) P w K mg base N qual (defScope st) fa cdv A outer s H E) (fun cls d _ H => E cls d H) := takes_of rfl rfl rfl rfl
  have ck : CxS C ⟨N, defScope st, bn, k, f.m, none⟩ (cxOf (L2.CX P w) P w K mg base N qual (defScope st) fa cdv A outer s H E) :=
    ⟨⟨hK.symm, rfl, S.nd, rfl, rfl, hr, hbn, fun _ _ _ => .inl rfl⟩, fun _ _ => .inl rfl, passes_of rfl, rfl, rfl, rfl⟩
  refine ⟨_, sSs b _ _ _ ck tk hm (hnd _ rfl rfl rfl rfl rfl), ?_⟩
  obtain ⟨hl, ds, G, B, fs, gb, bh, ha, z⟩ := hsp
  have hpl : ps.length ≤ N.length := by
    have := congrArg List.length S.pre
    rw [List.length_take] at this
    omega
  have hvl : vs.length ≤ N.length := by rw [hl, ← hn]; exact hpl
  have hdl : ds.length = f.np := by
    rw [← hl]
    unfold ArgsOk at ha
    split at ha
    · obtain ⟨d0, dr, v0, vr, rfl, rfl, _, _, o⟩ := ha
      simp [o.length]
    · exact ha.1.length
  have g := good_start (N := N) gb bh ha hvl
  refine ⟨_, G, B, _, g, ?_⟩
  rcases hg ds hdl with e | e
  · rw [e] at z
    unfold runF at z
    revert z
    cases exSs b (ds ++ List.replicate (N.length - ds.length) .dead) with
    | nx s' =>
      intro z σ' G' B' H' F' p
      refine z.2.2 .non G' B' H' [] _ (p.ext.imp (fun a q => inF_fp1.1 q) fun a q => .inl ?_) p.good.gb p.good.bh ⟨rfl, rfl⟩ List.nodup_nil (self_ok ha p.good p.pr fun _ q => nomatch q)
      rcases q with q | q
      · exact fs_in q
      · cases q
    | rt d s' =>
      intro z v σ' G' B' H' F' fd p
      replace z : outF C f.m G B H vs fs (if noBor d && !isDead d then .ok d (if f.m then s'.getD 0 .dead else .dead) else .bad) Q E := z
      split at z
      · refine z.2.2 v G' B' H' fd _ (p.ext.imp (fun a q => inF_fp1.1 q) fun a q => .inl ?_) p.good.gb p.good.bh p.own p.nd (self_ok ha p.good p.pr p.np)
        rcases q with q | q
        · exact .inl (fs_in q)
        · exact .inr q
      · exact z.elim
    | exc c xf xs s' =>
      intro z cls dd σ' G' B' H' F' p r
      exact z cls dd G' B' H' _ (p.ext.imp (fun a q => inF_fp1.1 q) fun a q => .inl (fs_in q)) p.good.gb p.good.bh r (self_ok ha p.good p.pr fun _ q => nomatch q)
    | bk s' => exact fun z => z.elim
    | ct s' => exact fun z => z.elim
    | bad => exact fun z => z.elim
  · rw [e] at z
    exact z.elim
end TT
namespace TT
open PySem PySem.Spec PyProof.Rows L2
/-! ### the end -/
theorem all_cons {α : Type} {P : α → Prop} {a : α} {l : List α} (h : P a) (t : ∀ x ∈ l, P x) : ∀ x ∈ a :: l, P x := fun x hx => by
  rcases List.mem_cons.1 hx with e | e
  · rw [e]; exact h
  · exact t x e
/-- how its arguments bind: n are written, the defaults behind the first j fill up -/
theorem DFun.bindsD {K : PySem.W.Frag} {x qual : Str} {st : Stmt} {f T : Addr} {fd : FuncData} {ps : List Str} {o : Obj} {its : List Value} {m : Nat} (F : DFun K x qual st f (.ref T) fd) (lT : K.lookup T = some o) (oT : o.data = .seq its.toArray m) (n j : Nat) (hn : n + (its.drop j).length = ps.length)
    (h : ∀ (kV doc pm : Value) (an : Option Addr) (cdv ct : Value) (us : List Value), us.length = n → ∃ k, bindArgs (PySem.W.fnOf x qual (defArgs st) (defBody st) (defScope st) (.ref T) kV doc pm an cdv ct) ⟨us, []⟩ = seqItems? (.ref T) >>= k ∧ k (some its.toArray) = pure (ps.zip (us ++ its.drop j))) : Binds K fd ps (its.drop j) := by
  obtain ⟨oc, od, kV, doc, pm, an, cdv, ct, osl, rfl, lk, hcd⟩ := F.ex
  intro s us X hlen
  have hl : us.length = n := by
    rw [List.length_append] at hlen
    omega
  obtain ⟨k, e1, e2⟩ := h kV doc pm an cdv ct us hl
  refine BindsTo.of_looks fun M => ?_
  rw [e1]
  exact looks_items X lT oT (PySem.W.Looks.of_pure e2)
/-- the law's promise -/
def spL (K : PySem.W.Frag) : Sp := fun vs H Q _ => ∃ (a : Addr) (ns : List Int), vs = [.ref a] ∧ SqL K H a (ns.map V.int) ∧ ns.length ≤ 63 ∧ ∀ H', Q (.bl true) H'
theorem spL_imp {K : PySem.W.Frag} {C : Gl0} {f : FE} (hK : C.K = K) (law : ∀ ns : List Int, ns.length ≤ 63 → f.np = 1 ∧ f.m = false ∧ f.g [.scr ns] = .ok (.bl true) .dead) : ∀ vs H Q E, spL K vs H Q E → spec C f vs H Q E := by
  rintro vs H Q E ⟨a, ns, rfl, hS, hl, q⟩
  obtain ⟨h1, h2, h3⟩ := law ns hl
  refine ⟨by rw [h1]; rfl, [.scr ns], H, H, [], Sb.refl H, Sb.refl H, ?_, ?_⟩
  · rw [h2]
    exact ⟨⟨.ref a, [], [], [], rfl, rfl, ⟨⟨a, rfl, by rw [hK]; exact hS⟩, rfl⟩, rfl, rfl⟩, rfl⟩
  · rw [h3, h2]
    refine ⟨rfl, rfl, fun v G' B' H' fr fs' _ _ _ o _ _ => ?_⟩
    obtain ⟨rfl, _⟩ := o
    exact q H'
theorem walk {l : PySem.W.OpenLaw} {q : Program} {loose : List Str} {XP : (Str → Option Value) → Heap → Prop} {YP : World → Heap → Prop} {d : DefRec} {K : Params → PySem.W.Frag} {x : Str} (hn : l.most = some 63) (hdf : d.params.defaults = [])
    (hY : ∀ (w : World) (h : Heap), YP w h → (K w.params).In h) {k : Nat} (hr : Room k callerA)
    (F : ∀ (w : World) (mg : Str → Option Value) (fa : Addr) (h : Heap), (K w.params).In h → h.Ns mainGlobals mg → mg d.name = some (.ref fa) →
      ∃ fd : FuncData, (∀ (s : Shared) (u : Value), BindsTo s fd ⟨[u], []⟩ [(x, u)]) ∧ ∀ base : Heap, (K w.params).In base → base.Ns mainGlobals mg → FnOk l.prog w (K w.params) mg base (L2.CX l.prog w) k fa fd [x] (spL (K w.params))) :
    PySem.W.WalkO q loose XP YP l.row.toRowW d [] (fun f vs => PySem.call f vs) :=
  L2.walk_of (n := 63) (k := k) (x := x) (CX := fun w => L2.CX l.prog w) (sp := fun w => spL (K w.params)) hn (by decide) hdf hr hY F (fun _ _ a ns hl _ hS => ⟨a, ns, rfl, hS, hl, fun _ => rfl⟩) fun w _ _ _ _ z => by
    obtain ⟨_, _, _, _, _, _, _, _, _, _, _, _, e⟩ := z
    exact e
theorem room_by {k : Nat} (h : callerA.handled = none ∧ callerA.depth + 3 * k + 5 < recursionLimit ∧ callerA.units + 16 * k + 200 < cLine) : Room k callerA := ⟨h.1, h.2.1, h.2.2⟩
theorem binds_d1 {K : PySem.W.Frag} {fd : FuncData} {ps : List Str} {a : Value} (b0 : Binds K fd ps [a]) (b1 : Binds K fd ps []) : ∀ j, Binds K fd ps ([a].drop j)
  | 0 => b0
  | 1 => b1
  | j + 2 => by rw [List.drop_eq_nil_of_le (by simp)]; exact b1
theorem binds_d2 {K : PySem.W.Frag} {fd : FuncData} {ps : List Str} {a b : Value} (b0 : Binds K fd ps [a, b]) (b1 : Binds K fd ps [b]) (b2 : Binds K fd ps []) : ∀ j, Binds K fd ps ([a, b].drop j)
  | 0 => b0
  | 1 => b1
  | 2 => b2
  | j + 3 => by rw [List.drop_eq_nil_of_le (by simp)]; exact b2
/-! ### fuel -/
def fuelI (i : Nat) (s : List D) : Nat := match s.getD i .dead with
  | .int n => n.toNat + 1
  | _ => 0
end TT
/-! running the tree semantics by simp -/
namespace TT
open PySem L2
@[simp] theorem kit_NoneType_bool : kitB "NoneType" "bool" = some false := by decide +kernel
@[simp] theorem kit_NoneType_int : kitB "NoneType" "int" = some false := by decide +kernel
@[simp] theorem kit_NoneType_str : kitB "NoneType" "str" = some false := by decide +kernel
@[simp] theorem kit_NoneType_tuple : kitB "NoneType" "tuple" = some false := by decide +kernel
@[simp] theorem kit_NoneType_list : kitB "NoneType" "list" = some false := by decide +kernel
@[simp] theorem kit_NoneType_dict : kitB "NoneType" "dict" = some false := by decide +kernel
@[simp] theorem kit_NoneType_ValueError : kitB "NoneType" "ValueError" = some false := by decide +kernel
@[simp] theorem kit_bool_bool : kitB "bool" "bool" = some true := by decide +kernel
@[simp] theorem kit_bool_int : kitB "bool" "int" = some true := by decide +kernel
@[simp] theorem kit_bool_str : kitB "bool" "str" = some false := by decide +kernel
@[simp] theorem kit_bool_tuple : kitB "bool" "tuple" = some false := by decide +kernel
@[simp] theorem kit_bool_list : kitB "bool" "list" = some false := by decide +kernel
@[simp] theorem kit_bool_dict : kitB "bool" "dict" = some false := by decide +kernel
@[simp] theorem kit_bool_ValueError : kitB "bool" "ValueError" = some false := by decide +kernel
@[simp] theorem kit_int_bool : kitB "int" "bool" = some false := by decide +kernel
@[simp] theorem kit_int_int : kitB "int" "int" = some true := by decide +kernel
@[simp] theorem kit_int_str : kitB "int" "str" = some false := by decide +kernel
@[simp] theorem kit_int_tuple : kitB "int" "tuple" = some false := by decide +kernel
@[simp] theorem kit_int_list : kitB "int" "list" = some false := by decide +kernel
@[simp] theorem kit_int_dict : kitB "int" "dict" = some false := by decide +kernel
@[simp] theorem kit_int_ValueError : kitB "int" "ValueError" = some false := by decide +kernel
@[simp] theorem kit_str_bool : kitB "str" "bool" = some false := by decide +kernel
@[simp] theorem kit_str_int : kitB "str" "int" = some false := by decide +kernel
@[simp] theorem kit_str_str : kitB "str" "str" = some true := by decide +kernel
@[simp] theorem kit_str_tuple : kitB "str" "tuple" = some false := by decide +kernel
@[simp] theorem kit_str_list : kitB "str" "list" = some false := by decide +kernel
@[simp] theorem kit_str_dict : kitB "str" "dict" = some false := by decide +kernel
@[simp] theorem kit_str_ValueError : kitB "str" "ValueError" = some false := by decide +kernel
@[simp] theorem kit_tuple_bool : kitB "tuple" "bool" = some false := by decide +kernel
@[simp] theorem kit_tuple_int : kitB "tuple" "int" = some false := by decide +kernel
@[simp] theorem kit_tuple_str : kitB "tuple" "str" = some false := by decide +kernel
@[simp] theorem kit_tuple_tuple : kitB "tuple" "tuple" = some true := by decide +kernel
@[simp] theorem kit_tuple_list : kitB "tuple" "list" = some false := by decide +kernel
@[simp] theorem kit_tuple_dict : kitB "tuple" "dict" = some false := by decide +kernel
@[simp] theorem kit_tuple_ValueError : kitB "tuple" "ValueError" = some false := by decide +kernel
@[simp] theorem kit_list_bool : kitB "list" "bool" = some false := by decide +kernel
@[simp] theorem kit_list_int : kitB "list" "int" = some false := by decide +kernel
@[simp] theorem kit_list_str : kitB "list" "str" = some false := by decide +kernel
@[simp] theorem kit_list_tuple : kitB "list" "tuple" = some false := by decide +kernel
@[simp] theorem kit_list_list : kitB "list" "list" = some true := by decide +kernel
@[simp] theorem kit_list_dict : kitB "list" "dict" = some false := by decide +kernel
@[simp] theorem kit_list_ValueError : kitB "list" "ValueError" = some false := by decide +kernel
@[simp] theorem kit_dict_bool : kitB "dict" "bool" = some false := by decide +kernel
@[simp] theorem kit_dict_int : kitB "dict" "int" = some false := by decide +kernel
@[simp] theorem kit_dict_str : kitB "dict" "str" = some false := by decide +kernel
@[simp] theorem kit_dict_tuple : kitB "dict" "tuple" = some false := by decide +kernel
@[simp] theorem kit_dict_list : kitB "dict" "list" = some false := by decide +kernel
@[simp] theorem kit_dict_dict : kitB "dict" "dict" = some true := by decide +kernel
@[simp] theorem kit_dict_ValueError : kitB "dict" "ValueError" = some false := by decide +kernel
@[simp] theorem lend_dead : lend .dead = .dead := id rfl
@[simp] theorem lend_non : lend .non = .non := id rfl
@[simp] theorem lend_bl {b : Bool} : lend (.bl b) = .bl b := id rfl
@[simp] theorem lend_int {b : Int} : lend (.int b) = .int b := id rfl
@[simp] theorem lend_str {b : Str} : lend (.str b) = .str b := id rfl
@[simp] theorem lend_scr {b : List Int} : lend (.scr b) = .scr b := id rfl
@[simp] theorem lend_fn {b : Nat} : lend (.fn b) = .fn b := id rfl
@[simp] theorem lend_tup {fl : Fl} {xs : List D} : lend (.tup fl xs) = .tup fl.lend (refls Fl.lend xs) := id rfl
@[simp] theorem lend_lst {fl : Fl} {xs : List D} : lend (.lst fl xs) = .lst fl.lend (refls Fl.lend xs) := id rfl
@[simp] theorem lend_dk {fl : Fl} {ks : List Key} {xs : List D} : lend (.dk fl ks xs) = .dk fl.lend ks (refls Fl.lend xs) := id rfl
@[simp] theorem lend_exn {c : Nat} {fs : List Str} {xs : List D} : lend (.exn c fs xs) = .exn c fs (refls Fl.lend xs) := id rfl
@[simp] theorem rf_dead {g : Fl → Fl} : refl g .dead = .dead := id rfl
@[simp] theorem rf_non {g : Fl → Fl} : refl g .non = .non := id rfl
@[simp] theorem rf_bl {g : Fl → Fl} {b : Bool} : refl g (.bl b) = .bl b := id rfl
@[simp] theorem rf_int {g : Fl → Fl} {b : Int} : refl g (.int b) = .int b := id rfl
@[simp] theorem rf_str {g : Fl → Fl} {b : Str} : refl g (.str b) = .str b := id rfl
@[simp] theorem rf_scr {g : Fl → Fl} {b : List Int} : refl g (.scr b) = .scr b := id rfl
@[simp] theorem rf_fn {g : Fl → Fl} {b : Nat} : refl g (.fn b) = .fn b := id rfl
@[simp] theorem rf_tup {g : Fl → Fl} {fl : Fl} {xs : List D} : refl g (.tup fl xs) = .tup (g fl) (refls g xs) := id rfl
@[simp] theorem rf_lst {g : Fl → Fl} {fl : Fl} {xs : List D} : refl g (.lst fl xs) = .lst (g fl) (refls g xs) := id rfl
@[simp] theorem rf_dk {g : Fl → Fl} {fl : Fl} {ks : List Key} {xs : List D} : refl g (.dk fl ks xs) = .dk (g fl) ks (refls g xs) := id rfl
@[simp] theorem rf_dt {g : Fl → Fl} {fl : Fl} {ks : List (List Key)} {xs : List D} : refl g (.dt fl ks xs) = .dt (g fl) ks (refls g xs) := id rfl
@[simp] theorem rf_ins {g : Fl → Fl} {fl : Fl} {c : Nat} {fs : List Str} {xs : List D} : refl g (.ins fl c fs xs) = .ins (g fl) c fs (refls g xs) := id rfl
@[simp] theorem rf_exn {g : Fl → Fl} {c : Nat} {fs : List Str} {xs : List D} : refl g (.exn c fs xs) = .exn c fs (refls g xs) := id rfl
theorem frz_of {d : D} (h : noOwn d = true) : refl Fl.frz d = d := refl_id rfl rfl h
theorem lend_of {d : D} (h : noOwn d = true) : refl Fl.lend d = d := refl_id rfl rfl h
theorem frzs_of {d : List D} (h : noOwns d = true) : refls Fl.frz d = d := refls_id rfl rfl h
theorem lends_of {d : List D} (h : noOwns d = true) : refls Fl.lend d = d := refls_id rfl rfl h
@[simp] theorem dead_refl {g : Fl → Fl} {d : D} : isDead (refl g d) = isDead d := by cases d <;> exact id rfl
@[simp] theorem own_lend' {d : D} : noOwn (refl Fl.lend d) = true := noOwn_refl lend_ne d
@[simp] theorem own_frz' {d : D} : noOwn (refl Fl.frz d) = true := noOwn_refl frz_ne d
@[simp] theorem owns_lend' {d : List D} : noOwns (refls Fl.lend d) = true := noOwns_refls lend_ne d
@[simp] theorem owns_frz' {d : List D} : noOwns (refls Fl.frz d) = true := noOwns_refls frz_ne d
@[simp] theorem bor_frz' {d : D} : noBor (refl Fl.frz d) = noBor d := noBor_frz d
@[simp] theorem bors_frz' {d : List D} : noBors (refls Fl.frz d) = noBors d := noBors_frz d
@[simp] theorem lend_lend {d : D} : refl Fl.lend (refl Fl.lend d) = refl Fl.lend d := lend_of own_lend'
@[simp] theorem lends_lends {d : List D} : refls Fl.lend (refls Fl.lend d) = refls Fl.lend d := lends_of owns_lend'
@[simp] theorem lend_frz {d : D} : refl Fl.lend (refl Fl.frz d) = refl Fl.frz d := lend_of own_frz'
@[simp] theorem lends_frzs {d : List D} : refls Fl.lend (refls Fl.frz d) = refls Fl.frz d := lends_of owns_frz'
@[simp] theorem refls_nil {g : Fl → Fl} : refls g [] = [] := id rfl
@[simp] theorem refls_cons {g : Fl → Fl} {x : D} {xs : List D} : refls g (x :: xs) = refl g x :: refls g xs := id rfl
@[simp] theorem lend_own : Fl.own.lend = .bor := id rfl
@[simp] theorem lend_bor : Fl.bor.lend = .bor := id rfl
@[simp] theorem lend_shr : Fl.shr.lend = .shr := id rfl
@[simp] theorem frz_own : Fl.own.frz = .shr := id rfl
@[simp] theorem frz_bor : Fl.bor.frz = .bor := id rfl
@[simp] theorem frz_shr : Fl.shr.frz = .shr := id rfl
@[simp] theorem Rok_bind {α β : Type} {a : α} {s : List D} {f : α → List D → R β} : (R.ok a s).bind f = f a s := id rfl
@[simp] theorem Rexc_bind {α β : Type} {c : Nat} {fs : List Str} {xs s : List D} {f : α → List D → R β} : (R.exc c fs xs s : R α).bind f = .exc c fs xs s := id rfl
@[simp] theorem Rbad_bind {α β : Type} {f : α → List D → R β} : (R.bad : R α).bind f = .bad := id rfl
@[simp] theorem Rok_then {α : Type} {a : α} {s : List D} {f : α → List D → O} : (R.ok a s).then f = f a s := id rfl
@[simp] theorem Rexc_then {α : Type} {c : Nat} {fs : List Str} {xs s : List D} {f : α → List D → O} : (R.exc c fs xs s : R α).then f = .exc c fs xs s := id rfl
@[simp] theorem Rbad_then {α : Type} {f : α → List D → O} : (R.bad : R α).then f = .bad := id rfl
@[simp] theorem Rof_some {α : Type} {a : α} {s : List D} : R.of (some a) s = .ok a s := id rfl
@[simp] theorem Onx_bind {s : List D} {f : List D → O} : (O.nx s).bind f = f s := id rfl
@[simp] theorem Oct_bind {s : List D} {f : List D → O} : (O.ct s).bind f = .ct s := id rfl
@[simp] theorem Obk_bind {s : List D} {f : List D → O} : (O.bk s).bind f = .bk s := id rfl
@[simp] theorem Ort_bind {d : D} {s : List D} {f : List D → O} : (O.rt d s).bind f = .rt d s := id rfl
@[simp] theorem Oexc_bind {c : Nat} {fs : List Str} {xs s : List D} {f : List D → O} : (O.exc c fs xs s).bind f = .exc c fs xs s := id rfl
@[simp] theorem nil_run {s : List D} : exSs [] s = .nx s := id rfl
@[simp] theorem dead_non : isDead .non = false := id rfl
@[simp] theorem dead_bl {b : Bool} : isDead (.bl b) = false := id rfl
@[simp] theorem dead_int {b : Int} : isDead (.int b) = false := id rfl
@[simp] theorem dead_str {b : Str} : isDead (.str b) = false := id rfl
@[simp] theorem dead_scr {b : List Int} : isDead (.scr b) = false := id rfl
@[simp] theorem dead_tup {fl : Fl} {xs : List D} : isDead (.tup fl xs) = false := id rfl
@[simp] theorem dead_lst {fl : Fl} {xs : List D} : isDead (.lst fl xs) = false := id rfl
@[simp] theorem dead_dk {fl : Fl} {ks : List Key} {xs : List D} : isDead (.dk fl ks xs) = false := id rfl
@[simp] theorem dead_exn {c : Nat} {fs : List Str} {xs : List D} : isDead (.exn c fs xs) = false := id rfl
@[simp] theorem dead_dead : isDead .dead = true := id rfl
@[simp] theorem own_non : noOwn .non = true := id rfl
@[simp] theorem own_bl {b : Bool} : noOwn (.bl b) = true := id rfl
@[simp] theorem own_int {b : Int} : noOwn (.int b) = true := id rfl
@[simp] theorem own_str {b : Str} : noOwn (.str b) = true := id rfl
@[simp] theorem own_scr {b : List Int} : noOwn (.scr b) = true := id rfl
@[simp] theorem own_tup {fl : Fl} {xs : List D} : noOwn (.tup fl xs) = ((fl != .own) && noOwns xs) := id rfl
@[simp] theorem own_lst {fl : Fl} {xs : List D} : noOwn (.lst fl xs) = ((fl != .own) && noOwns xs) := id rfl
@[simp] theorem owns_nil : noOwns [] = true := id rfl
@[simp] theorem owns_cons {x : D} {xs : List D} : noOwns (x :: xs) = (noOwn x && noOwns xs) := id rfl
@[simp] theorem own_dk {fl : Fl} {ks : List Key} {xs : List D} : noOwn (.dk fl ks xs) = ((fl != .own) && noOwns xs) := id rfl
@[simp] theorem own_exn_ {c : Nat} {fs : List Str} {xs : List D} : noOwn (.exn c fs xs) = noOwns xs := id rfl
@[simp] theorem bor_non : noBor .non = true := id rfl
@[simp] theorem bor_bl {b : Bool} : noBor (.bl b) = true := id rfl
@[simp] theorem bor_int {b : Int} : noBor (.int b) = true := id rfl
@[simp] theorem bor_str {b : Str} : noBor (.str b) = true := id rfl
@[simp] theorem bor_scr {b : List Int} : noBor (.scr b) = true := id rfl
@[simp] theorem bor_tup {fl : Fl} {xs : List D} : noBor (.tup fl xs) = ((fl != .bor) && noBors xs) := id rfl
@[simp] theorem bor_lst {fl : Fl} {xs : List D} : noBor (.lst fl xs) = ((fl != .bor) && noBors xs) := id rfl
@[simp] theorem bors_nil : noBors [] = true := id rfl
@[simp] theorem bors_cons {x : D} {xs : List D} : noBors (x :: xs) = (noBor x && noBors xs) := id rfl
@[simp] theorem bor_dk {fl : Fl} {ks : List Key} {xs : List D} : noBor (.dk fl ks xs) = ((fl != .bor) && noBors xs) := id rfl
@[simp] theorem bor_exn {c : Nat} {fs : List Str} {xs : List D} : noBor (.exn c fs xs) = noBors xs := id rfl
@[simp] theorem ne_ob : (Fl.own != Fl.bor) = true := id rfl
@[simp] theorem ne_sb : (Fl.shr != Fl.bor) = true := id rfl
@[simp] theorem ne_bb : (Fl.bor != Fl.bor) = false := id rfl
@[simp] theorem ne_oo : (Fl.own != Fl.own) = false := id rfl
@[simp] theorem ne_so : (Fl.shr != Fl.own) = true := id rfl
@[simp] theorem ne_bo : (Fl.bor != Fl.own) = true := id rfl
@[simp] theorem ite_ok {α : Type} {c : Prop} [Decidable c] {x y : α} {s : List D} : (if c then R.ok x s else R.ok y s) = R.ok (if c then x else y) s := by split <;> rfl
@[simp] theorem ite_blD {c : Prop} [Decidable c] {x y : Bool} : (if c then D.bl x else D.bl y) = D.bl (if c then x else y) := by split <;> rfl
/-! the equations, as rules of simp; what comes behind is a name that waits for its value -/
def kCp (d : D) (s : List D) : R D := if noOwn d then .ok d s else .bad
@[simp] theorem kCp_eq {d : D} {s : List D} : kCp d s = if noOwn d then .ok d s else .bad := id rfl
def kOp (o : Op) (ds : List D) (s : List D) : R D := R.of (opD o ds) s
@[simp] theorem kOp_eq {o : Op} {ds s : List D} : kOp o ds s = R.of (opD o ds) s := id rfl
def pickR (b : Option Bool) (x y : E) (s : List D) : R D := match b with
  | some true => evE x s
  | some false => evE y s
  | none => .bad
def kIte (a b : E) (d : D) (s : List D) : R D := pickR (truth d) a b s
@[simp] theorem kIte_eq {a b : E} {d : D} {s : List D} : kIte a b d s = pickR (truth d) a b s := id rfl
@[simp] theorem pickR_t {x y : E} {s : List D} : pickR (some true) x y s = evE x s := id rfl
@[simp] theorem pickR_f {x y : E} {s : List D} : pickR (some false) x y s = evE y s := id rfl
theorem pickR_bl {b : Bool} {x y : E} {s : List D} : pickR (some b) x y s = if b = true then evE x s else evE y s := by cases b <;> exact id rfl
def retR (s : List D) : FR → R D
  | .ok r _ => if noBor r && !isDead r then .ok r s else .bad
  | .exc c fs xs _ => .exc c fs xs s
  | .bad => .bad
def kCall (f : FE) (ds s : List D) : R D := retR s (f.g (fillD f ds))
@[simp] theorem kCall_eq {f : FE} {ds s : List D} : kCall f ds s = retR s (f.g (fillD f ds)) := id rfl
def kMk (d : D) (ds s : List D) : R (List D) := .ok (d :: ds) s
@[simp] theorem kMk_eq {d : D} {ds s : List D} : kMk d ds s = .ok (d :: ds) s := id rfl
def kCons (es : List E) (d : D) (s : List D) : R (List D) := (evEs es s).bind (kMk d)
@[simp] theorem kCons_eq {es : List E} {d : D} {s : List D} : kCons es d s = (evEs es s).bind (kMk d) := id rfl
def kAnd (es : List E) (d : D) (s : List D) : R D := match d with
  | .bl true => evAnd es s
  | .bl false => .ok (.bl false) s
  | _ => .bad
def kOr (es : List E) (d : D) (s : List D) : R D := match d with
  | .bl false => evOr es s
  | .bl true => .ok (.bl true) s
  | _ => .bad
@[simp] theorem kAnd_bl {es : List E} {s : List D} {b : Bool} : kAnd es (.bl b) s = if b = true then evAnd es s else .ok (.bl false) s := by cases b <;> exact id rfl
@[simp] theorem kOr_bl {es : List E} {s : List D} {b : Bool} : kOr es (.bl b) s = if b = true then .ok (.bl true) s else evOr es s := by cases b <;> exact id rfl
section
variable {s : List D} {e : E} {es : List E}
@[simp] theorem ev_c {d : D} : evE (.c d) s = .ok d s := by unfold evE; exact id rfl
@[simp] theorem ev_nm {i : Nat} : evE (.nm i) s = if isDead (s.getD i .dead) then .bad else .ok (s.getD i .dead) s := by unfold evE; exact id rfl
@[simp] theorem ev_mv {i : Nat} : evE (.mv i) s = if isDead (s.getD i .dead) then .bad else .ok (s.getD i .dead) (s.set i .dead) := by unfold evE; exact id rfl
@[simp] theorem ev_fz {i : Nat} : evE (.fz i) s = if isDead (s.getD i .dead) || !noBor (s.getD i .dead) then .bad else .ok (frz (s.getD i .dead)) (s.set i (frz (s.getD i .dead))) := by unfold evE; exact id rfl
@[simp] theorem ev_cp : evE (.cp e) s = (evE e s).bind kCp := by rw [evE]; exact id rfl
def kTf (d : D) (s : List D) : R D := if noBor d then .ok (frz d) s else .bad
@[simp] theorem kTf_eq {d : D} {s : List D} : kTf d s = if noBor d then .ok (frz d) s else .bad := id rfl
@[simp] theorem ev_tf : evE (.tf e) s = (evE e s).bind kTf := by rw [evE]; exact id rfl
@[simp] theorem ev_gl {x : Str} {d : D} : evE (.gl x d) s = .ok d s := by unfold evE; exact id rfl
@[simp] theorem ev_op {o : Op} : evE (.op o es) s = (evEs es s).bind (kOp o) := by rw [evE]; exact id rfl
def kMth2 (o : Op) (d0 : D) (ds s : List D) : R D := R.of (opD o (d0 :: ds)) s
@[simp] theorem kMth2_eq {o : Op} {d0 : D} {ds s : List D} : kMth2 o d0 ds s = R.of (opD o (d0 :: ds)) s := id rfl
def kMth (o : Op) (es : List E) (d0 : D) (s : List D) : R D := if rcvOk o d0 then (evEs es s).bind (kMth2 o d0) else .bad
@[simp] theorem kMth_eq {o : Op} {es : List E} {d0 : D} {s : List D} : kMth o es d0 s = if rcvOk o d0 then (evEs es s).bind (kMth2 o d0) else .bad := id rfl
@[simp] theorem ev_mth {o : Op} {a : E} : evE (.mth o a es) s = (evE a s).bind (kMth o es) := by rw [evE]; exact id rfl
def kCh3 (o2 : Op) (y z : D) (s : List D) : R D := R.of ((ordD o2 y z).map .bl) s
@[simp] theorem kCh3_eq {o2 : Op} {y z : D} {s : List D} : kCh3 o2 y z s = R.of ((ordD o2 y z).map .bl) s := id rfl
def chO (o2 : Op) (c : E) (y : D) (s : List D) : Option Bool → R D
  | some true => (evE c s).bind (kCh3 o2 y)
  | some false => .ok (.bl false) s
  | none => .bad
@[simp] theorem chO_some {o2 : Op} {c : E} {y : D} {s : List D} {b : Bool} : chO o2 c y s (some b) = if b = true then (evE c s).bind (kCh3 o2 y) else .ok (.bl false) s := by cases b <;> exact id rfl
def kCh2 (o1 o2 : Op) (c : E) (x y : D) (s : List D) : R D := chO o2 c y s (ordD o1 x y)
@[simp] theorem kCh2_eq {o1 o2 : Op} {c : E} {x y : D} {s : List D} : kCh2 o1 o2 c x y s = chO o2 c y s (ordD o1 x y) := id rfl
def kCh1 (o1 o2 : Op) (b c : E) (x : D) (s : List D) : R D := (evE b s).bind (kCh2 o1 o2 c x)
@[simp] theorem kCh1_eq {o1 o2 : Op} {b c : E} {x : D} {s : List D} : kCh1 o1 o2 b c x s = (evE b s).bind (kCh2 o1 o2 c x) := id rfl
@[simp] theorem ev_chain {o1 o2 : Op} {a b c : E} : evE (.chain o1 o2 a b c) s = (evE a s).bind (kCh1 o1 o2 b c) := by
  rw [evE]
  congr 1
@[simp] theorem ord_lt {i j : Int} : ordD .lt (.int i) (.int j) = some (decide (i < j)) := id rfl
@[simp] theorem ord_le {i j : Int} : ordD .le (.int i) (.int j) = some (decide (i ≤ j)) := id rfl
@[simp] theorem ord_gt {i j : Int} : ordD .gt (.int i) (.int j) = some (decide (j < i)) := id rfl
@[simp] theorem ord_ge {i j : Int} : ordD .ge (.int i) (.int j) = some (decide (j ≤ i)) := id rfl
@[simp] theorem rcv_part {a : Str} : rcvOk .part (.str a) = true := id rfl
@[simp] theorem rcv_find {a : Str} : rcvOk .find (.str a) = true := id rfl
@[simp] theorem rcv_join {a : Str} : rcvOk .join (.str a) = true := id rfl
@[simp] theorem ev_band : evE (.band es) s = evAnd es s := by rw [evE]
@[simp] theorem ev_bor : evE (.bor es) s = evOr es s := by rw [evE]
@[simp] theorem ev_ite {c a b : E} : evE (.ite c a b) s = (evE c s).bind (kIte a b) := by rw [evE]; exact id rfl
@[simp] theorem retR_ok {r d : D} : retR s (.ok r d) = if noBor r && !isDead r then .ok r s else .bad := id rfl
@[simp] theorem retR_exc {c : Nat} {fs : List Str} {xs : List D} {d : D} : retR s (.exc c fs xs d) = .exc c fs xs s := id rfl
@[simp] theorem ev_call {f : FE} : evE (.call f es) s = (evEs es s).bind (kCall f) := by rw [evE]; exact id rfl
@[simp] theorem evs_nil : evEs [] s = .ok [] s := by unfold evEs; exact id rfl
@[simp] theorem evs_cons : evEs (e :: es) s = (evE e s).bind (kCons es) := by rw [evEs]; exact id rfl
@[simp] theorem and_one : evAnd [e] s = evE e s := by rw [evAnd]
@[simp] theorem and_cons {f : E} : evAnd (e :: f :: es) s = (evE e s).bind (kAnd (f :: es)) := by rw [evAnd]; rfl; simp
@[simp] theorem or_one : evOr [e] s = evE e s := by rw [evOr]
@[simp] theorem or_cons {f : E} : evOr (e :: f :: es) s = (evE e s).bind (kOr (f :: es)) := by rw [evOr]; rfl; simp
end
/-! statements -/
def kAsg (i : Nat) (d : D) (s : List D) : O := .nx (s.set i d)
@[simp] theorem kAsg_eq {i : Nat} {d : D} {s : List D} : kAsg i d s = .nx (s.set i d) := id rfl
def kPar (i j : Nat) (ds s : List D) : O := match ds with
  | [x, y] => .nx ((s.set i x).set j y)
  | _ => .bad
@[simp] theorem kPar_two {i j : Nat} {x y : D} {s : List D} : kPar i j [x, y] s = .nx ((s.set i x).set j y) := id rfl
def kApp (i : Nat) (d : D) (s : List D) : O := match appD (s.getD i .dead) d with
  | some r => .nx (s.set i r)
  | none => .bad
@[simp] theorem appD_own {xs : List D} {d : D} : appD (.lst .own xs) d = if noBor d && !isDead d && decide (xs.length < sizeLine) then some (.lst .own (xs ++ [d])) else none := id rfl
@[simp] theorem isLst_l {fl : Fl} {xs : List D} : isLst (.lst fl xs) = true := id rfl
def optO (o : Option (List D)) : O := match o with
  | some s => .nx s
  | none => .bad
@[simp] theorem optO_some {s : List D} : optO (some s) = .nx s := id rfl
def kAsgT (is : List Nat) (d : D) (s : List D) : O := optO (tgSet (.tup is) d s)
@[simp] theorem kApp_eq {i : Nat} {d : D} {s : List D} : kApp i d s = optO ((appD (s.getD i .dead) d).map (s.set i)) := by
  unfold kApp
  cases appD (s.getD i .dead) d <;> exact id rfl
@[simp] theorem kAsgT_eq {is : List Nat} {d : D} {s : List D} : kAsgT is d s = optO (tgSet (.tup is) d s) := id rfl
def kAug (i : Nat) (o : Op) (d : D) (s : List D) : O := optO ((augD o (s.getD i .dead) d).map fun r => s.set i r)
@[simp] theorem kAug_eq {i : Nat} {o : Op} {d : D} {s : List D} : kAug i o d s = optO ((augD o (s.getD i .dead) d).map fun r => s.set i r) := id rfl
def kEx (d : D) (s : List D) : O := .nx s
@[simp] theorem kEx_eq {d : D} {s : List D} : kEx d s = .nx s := id rfl
def kRet (d : D) (s : List D) : O := .rt d s
@[simp] theorem kRet_eq {d : D} {s : List D} : kRet d s = .rt d s := id rfl
def pickO (b : Option Bool) (x y : List S) (s : List D) : O := match b with
  | some true => exSs x s
  | some false => exSs y s
  | none => .bad
@[simp] theorem pickO_t {x y : List S} {s : List D} : pickO (some true) x y s = exSs x s := id rfl
@[simp] theorem pickO_f {x y : List S} {s : List D} : pickO (some false) x y s = exSs y s := id rfl
theorem pickO_bl {b : Bool} {x y : List S} {s : List D} : pickO (some b) x y s = if b = true then exSs x s else exSs y s := by cases b <;> exact id rfl
def kIf (a b : List S) (d : D) (s : List D) : O := pickO (truth d) a b s
@[simp] theorem kIf_eq {a b : List S} {d : D} {s : List D} : kIf a b d s = pickO (truth d) a b s := id rfl
def bodyO (t : Tg) (b : List S) (d : D) (s : List D) : O := match tgSet t d s with
  | some s' => exSs b s'
  | none => .bad
@[simp] theorem bodyO_nm {i : Nat} {b : List S} {d : D} {s : List D} : bodyO (.nm i) b d s = exSs b (s.set i d) := id rfl
def kFor (t : Tg) (b : List S) (xs s : List D) : O := loopF (bodyO t b) xs s
@[simp] theorem kFor_eq {t : Tg} {b : List S} {xs s : List D} : kFor t b xs s = loopF (bodyO t b) xs s := id rfl
def tryO (tab : List (Nat × Bool)) (nmi : Option Nat) (su : Su) : O → O
  | .exc c fs xs s1 => match tab.lookup c with
      | some true => .nx (match nmi with | some i => (suD su c fs xs s1).set i .dead | none => suD su c fs xs s1)
      | some false => .exc c fs xs s1
      | none => .bad
  | o => o
section
variable {s : List D} {e : E} {es : List E} {x : S} {xs : List S}
@[simp] theorem run_cons : exSs (x :: xs) s = (exS x s).bind (exSs xs) := by rw [exSs]
@[simp] theorem run_asg {i : Nat} : exS (.asg i e) s = (evE e s).then (kAsg i) := by rw [exS]; exact id rfl
@[simp] theorem run_par {i j : Nat} {a b : E} : exS (.par i j a b) s = (evEs [a, b] s).then (kPar i j) := by rw [exS]; exact id rfl
@[simp] theorem run_asgT {is : List Nat} : exS (.asgT is e) s = (evE e s).then (kAsgT is) := by rw [exS]; exact id rfl
@[simp] theorem run_aug {i : Nat} {o : Op} : exS (.aug i o e) s = if isDead (s.getD i .dead) then .bad else (evE e s).then (kAug i o) := by
  rw [exS]
  split
  · rfl
  · congr 1
    funext d s1
    unfold kAug
    cases augD o (s1.getD i .dead) d <;> rfl
@[simp] theorem run_app {i : Nat} : exS (.app i e) s = if isLst (s.getD i .dead) then (evE e s).then (kApp i) else .bad := by rw [exS]; exact id rfl
@[simp] theorem run_ex : exS (.ex e) s = (evE e s).then kEx := by rw [exS]; exact id rfl
@[simp] theorem run_ret : exS (.ret e) s = (evE e s).then kRet := by rw [exS]; exact id rfl
@[simp] theorem run_ift {c : E} {a b : List S} : exS (.ift c a b) s = (evE c s).then (kIf a b) := by rw [exS]; exact id rfl
@[simp] theorem run_for {t : Tg} {it : It} {b : List S} : exS (.for_ t it b) s = (evIt it s).then (kFor t b) := by rw [exS]; exact id rfl
@[simp] theorem run_whl {fuel : List D → Nat} {c : E} {b : List S} : exS (.whl fuel c b) s = loopW (evE c) (exSs b) (fuel s) s := by rw [exS]
@[simp] theorem run_raise {c : Nat} {x : Str} : exS (.raise0 c x) s = .exc c [] [] s := by rw [exS]
@[simp] theorem run_pass : exS .pass s = .nx s := by rw [exS]
@[simp] theorem run_cont : exS .cont s = .ct s := by rw [exS]
@[simp] theorem run_try {b : List S} {c : Nat} {x : Str} {tab : List (Nat × Bool)} {nmi : Option Nat} {su : Su} : exS (.try1 b c x tab nmi su) s = tryO tab nmi su (exSs b s) := by rw [exS]; exact id rfl
@[simp] theorem tryO_nx {tab : List (Nat × Bool)} {nmi : Option Nat} {su : Su} : tryO tab nmi su (.nx s) = .nx s := id rfl
@[simp] theorem tryO_rt {d : D} {tab : List (Nat × Bool)} {nmi : Option Nat} {su : Su} : tryO tab nmi su (.rt d s) = .rt d s := id rfl
@[simp] theorem tryO_exc {c : Nat} {fs : List Str} {xs : List D} {tab : List (Nat × Bool)} {nmi : Option Nat} {su : Su} : tryO tab nmi su (.exc c fs xs s) = match tab.lookup c with
      | some true => .nx (match nmi with | some i => (suD su c fs xs s).set i .dead | none => suD su c fs xs s)
      | some false => .exc c fs xs s
      | none => .bad := rfl
end
@[simp] theorem truth_bl {b : Bool} : truth (.bl b) = some b := id rfl
section
variable {s : List D}
theorem fill_eq {f : FE} {ds l : List D} (h : fillD f ds = l) : fillD f ds = l := h
/-! a def's end -/
def endF (m : Bool) : O → FR
  | .nx s => .ok .non (if m then s.getD 0 .dead else .dead)
  | .rt d s => if noBor d && !isDead d then .ok d (if m then s.getD 0 .dead else .dead) else .bad
  | .exc c fs xs s => .exc c fs xs (if m then s.getD 0 .dead else .dead)
  | _ => .bad
theorem runF_eq {n : Nat} {m : Bool} {b : List S} {ds : List D} : runF n m b ds = endF m (exSs b (ds ++ List.replicate (n - ds.length) .dead)) := by unfold runF; exact id rfl
@[simp] theorem endF_nx {m : Bool} : endF m (.nx s) = .ok .non (if m then s.getD 0 .dead else .dead) := id rfl
@[simp] theorem endF_rt {m : Bool} {d : D} : endF m (.rt d s) = if noBor d && !isDead d then .ok d (if m then s.getD 0 .dead else .dead) else .bad := id rfl
@[simp] theorem endF_exc {m : Bool} {c : Nat} {fs : List Str} {xs : List D} : endF m (.exc c fs xs s) = .exc c fs xs (if m then s.getD 0 .dead else .dead) := id rfl
end
/-! operations -/
@[simp] theorem opD_isi {t : Ty} {x : Str} {tab : List (Nat × Bool)} {d : D} : opD (.isi t x tab) [d] = (isiD t tab d).map .bl := id rfl
@[simp] theorem isi_b_non {n : String} {tab : List (Nat × Bool)} : isiD (.b n) tab .non = kitB "NoneType" n := id rfl
@[simp] theorem isi_b_bl {n : String} {tab : List (Nat × Bool)} {b : Bool} : isiD (.b n) tab (.bl b) = kitB "bool" n := id rfl
@[simp] theorem isi_b_int {n : String} {tab : List (Nat × Bool)} {b : Int} : isiD (.b n) tab (.int b) = kitB "int" n := id rfl
@[simp] theorem isi_b_str {n : String} {tab : List (Nat × Bool)} {b : Str} : isiD (.b n) tab (.str b) = kitB "str" n := id rfl
@[simp] theorem isi_b_tup {n : String} {tab : List (Nat × Bool)} {fl : Fl} {xs : List D} : isiD (.b n) tab (.tup fl xs) = kitB "tuple" n := id rfl
@[simp] theorem isi_b_lst {n : String} {tab : List (Nat × Bool)} {fl : Fl} {xs : List D} : isiD (.b n) tab (.lst fl xs) = kitB "list" n := id rfl
@[simp] theorem isi_b_dk {n : String} {tab : List (Nat × Bool)} {fl : Fl} {ks : List Key} {xs : List D} : isiD (.b n) tab (.dk fl ks xs) = kitB "dict" n := id rfl
@[simp] theorem isi_exn {t : Ty} {tab : List (Nat × Bool)} {c : Nat} : isiD t tab (.exn c [] []) = tab.lookup c := id rfl
@[simp] theorem isi_c_non {n : Nat} {tab : List (Nat × Bool)} : isiD (.c n) tab .non = some false := id rfl
@[simp] theorem isi_c_bl {n : Nat} {tab : List (Nat × Bool)} {b : Bool} : isiD (.c n) tab (.bl b) = some false := id rfl
@[simp] theorem isi_c_int {n : Nat} {tab : List (Nat × Bool)} {b : Int} : isiD (.c n) tab (.int b) = some false := id rfl
@[simp] theorem isi_c_str {n : Nat} {tab : List (Nat × Bool)} {b : Str} : isiD (.c n) tab (.str b) = some false := id rfl
@[simp] theorem isi_c_tup {n : Nat} {tab : List (Nat × Bool)} {fl : Fl} {xs : List D} : isiD (.c n) tab (.tup fl xs) = some false := id rfl
@[simp] theorem isi_c_lst {n : Nat} {tab : List (Nat × Bool)} {fl : Fl} {xs : List D} : isiD (.c n) tab (.lst fl xs) = some false := id rfl
@[simp] theorem opD_not {b : Bool} : opD .not [.bl b] = some (.bl (!b)) := id rfl
@[simp] theorem opD_add {i j : Int} : opD .add [.int i, .int j] = some (.int (i + j)) := id rfl
@[simp] theorem opD_sub {i j : Int} : opD .sub [.int i, .int j] = some (.int (i - j)) := id rfl
@[simp] theorem opD_mul {i j : Int} : opD .mul [.int i, .int j] = if mulOk i j = true then some (.int (i * j)) else none := id rfl
@[simp] theorem opD_fdiv {i j : Int} : opD .fdiv [.int i, .int j] = if 0 < j ∧ j.natAbs.log2 < 9000 then some (.int (i / j)) else none := id rfl
@[simp] theorem opD_mod {i j : Int} : opD .mod [.int i, .int j] = if 0 < j then some (.int (i % j)) else none := id rfl
@[simp] theorem opD_neg {i : Int} : opD .neg [.int i] = some (.int (-i)) := id rfl
@[simp] theorem opD_lt {i j : Int} : opD .lt [.int i, .int j] = some (.bl (decide (i < j))) := id rfl
@[simp] theorem opD_le {i j : Int} : opD .le [.int i, .int j] = some (.bl (decide (i ≤ j))) := id rfl
@[simp] theorem opD_gt {i j : Int} : opD .gt [.int i, .int j] = some (.bl (decide (j < i))) := id rfl
@[simp] theorem opD_ge {i j : Int} : opD .ge [.int i, .int j] = some (.bl (decide (j ≤ i))) := id rfl
theorem datOk_int {i : Int} : datOk (.int i) = true := rfl
theorem datOk_bl {i : Bool} : datOk (.bl i) = true := rfl
@[simp] theorem opD_eqII {i j : Int} : opD .eq [.int i, .int j] = some (.bl (i == j)) := id rfl
@[simp] theorem opD_neII {i j : Int} : opD .ne [.int i, .int j] = some (.bl (!(i == j))) := id rfl
@[simp] theorem opD_tup {xs : List D} : opD .tup xs = newTup xs := id rfl
@[simp] theorem opD_lst {xs : List D} : opD .lst xs = newLst xs := id rfl
@[simp] theorem opD_dnk : opD .dnk [] = some (.dk .own [] []) := id rfl
@[simp] theorem opD_ix {x y : D} : opD .ix [x, y] = (ixD x y).bind live := id rfl
@[simp] theorem opD_len {x : D} : opD .len [x] = lenD x := id rfl
@[simp] theorem opD_max {i j : Int} : opD .max2 [.int i, .int j] = some (.int (if j > i then j else i)) := id rfl
@[simp] theorem opD_min {i j : Int} : opD .min2 [.int i, .int j] = some (.int (if j < i then j else i)) := id rfl
@[simp] theorem opD_intI {i : Int} : opD .int [.int i] = some (.int i) := id rfl
@[simp] theorem opD_intB {b : Bool} : opD .int [.bl b] = some (.int (if b then 1 else 0)) := id rfl
@[simp] theorem opD_isN {x : D} : opD .isN [x] = noneD false x := id rfl
@[simp] theorem opD_notN {x : D} : opD .notN [x] = noneD true x := id rfl
@[simp] theorem opD_eqD {x y : D} : opD .eq [x, y] = eqD x y := id rfl
@[simp] theorem opD_neD {x y : D} : opD .ne [x, y] = neD x y := id rfl
@[simp] theorem opD_addD {x y : D} : opD .add [x, y] = addD x y := id rfl
@[simp] theorem eqD_ii {i j : Int} : eqD (.int i) (.int j) = some (.bl (i == j)) := id rfl
@[simp] theorem neD_ii {i j : Int} : neD (.int i) (.int j) = some (.bl (!(i == j))) := id rfl
@[simp] theorem addD_ii {i j : Int} : addD (.int i) (.int j) = some (.int (i + j)) := id rfl
theorem atI_nn {α : Type} {xs : List α} {i : Int} (h0 : 0 ≤ i) (h : i < xs.length) : atI xs i = xs[i.toNat]? := by
  unfold atI ixN
  rw [if_pos h0, if_pos h]
  rfl
theorem atI_nat {α : Type} {xs : List α} {n : Nat} (h : n < xs.length) : atI xs (n : Int) = some xs[n] := by
  rw [atI_nn (by omega) (by omega)]
  simp [h]
@[simp] theorem atI_0 {α : Type} {x : α} {xs : List α} : atI (x :: xs) 0 = some x := by
  rw [atI_nn (by omega) (by simp <;> omega)]; rfl
@[simp] theorem atI_1 {α : Type} {x y : α} {xs : List α} : atI (x :: y :: xs) 1 = some y := by
  rw [atI_nn (by omega) (by simp <;> omega)]; rfl
@[simp] theorem atI_2 {α : Type} {x y z : α} {xs : List α} : atI (x :: y :: z :: xs) 2 = some z := by
  rw [atI_nn (by omega) (by simp <;> omega)]; rfl
@[simp] theorem ixD_tup {fl : Fl} {xs : List D} {i : Int} : ixD (.tup fl xs) (.int i) = atI xs i := id rfl
@[simp] theorem ixD_lst {fl : Fl} {xs : List D} {i : Int} : ixD (.lst fl xs) (.int i) = atI xs i := id rfl
@[simp] theorem ixD_scr {xs : List Int} {i : Int} : ixD (.scr xs) (.int i) = (atI xs i).map .int := id rfl
@[simp] theorem lenD_tup {fl : Fl} {xs : List D} : lenD (.tup fl xs) = some (.int xs.length) := id rfl
@[simp] theorem lenD_lst {fl : Fl} {xs : List D} : lenD (.lst fl xs) = some (.int xs.length) := id rfl
@[simp] theorem lenD_scr {xs : List Int} : lenD (.scr xs) = some (.int xs.length) := id rfl
/-! walks -/
def kIt (k : ItK) (ds s : List D) : R (List D) := R.of (itD k ds) s
@[simp] theorem kIt_eq {k : ItK} {ds s : List D} : kIt k ds s = R.of (itD k ds) s := id rfl
@[simp] theorem it_run {k : ItK} {es : List E} {s : List D} : evIt ⟨k, es⟩ s = (evEs es s).bind (kIt k) := id rfl
@[simp] theorem it_seq {x : D} : itD .seq [x] = seqD x := id rfl
@[simp] theorem it_rng1 {i : Int} : itD .rng1 [.int i] = if small62 i then some (rngD 0 i.toNat 1) else none := id rfl
@[simp] theorem it_rng2 {i j : Int} : itD .rng2 [.int i, .int j] = if small62 i && small62 j then some (rngD i (j - i).toNat 1) else none := id rfl
@[simp] theorem it_rng3 {i j k : Int} : itD .rng3 [.int i, .int j, .int k] = if small62 i && small62 j && decide (0 < k) && decide (k < 1073741824) then some (rngD i ((j - i + (k - 1)) / k).toNat k) else none := id rfl
@[simp] theorem it_enum {x : D} : itD .enum [x] = enumD x := id rfl
@[simp] theorem it_zip {x y : D} : itD .zip [x, y] = zipD x y := id rfl
/-! comprehensions -/
def compO (own : List Nat) (t : Tg) (co : List E) (elt : E) (s : List D) : Option (List D) → R D
  | some xs => if chk own s then compE own s (loopC own (stepC t co elt) xs (clr own s)) else .bad
  | none => .bad
def kComp (own : List Nat) (t : Tg) (k : ItK) (co : List E) (elt : E) (ds s : List D) : R D := compO own t co elt s (itD k ds)
@[simp] theorem kComp_eq {own : List Nat} {t : Tg} {k : ItK} {co : List E} {elt : E} {ds s : List D} : kComp own t k co elt ds s = compO own t co elt s (itD k ds) := id rfl
@[simp] theorem ev_comp {own : List Nat} {t : Tg} {k : ItK} {es co : List E} {elt : E} {s : List D} : evE (.comp own t k es co elt) s = (evEs es s).bind (kComp own t k co elt) := by
  rw [evE]
  congr 1
theorem rst_clr {own : List Nat} {s : List D} : rst s own (clr own s) = s := by
  apply List.ext_getElem (by rw [rst_len, clr_len])
  intro n h1 h2
  have e : (rst s own (clr own s)).getD n .dead = s.getD n .dead := by
    rw [rst_get s _ (clr_len s own)]
    split
    · rfl
    · rw [clr_get, if_neg ‹_›]
  simpa [List.getD_eq_getElem?_getD, List.getElem?_eq_getElem, h1, h2] using e
/-- a comprehension whose turns change nothing -/
theorem loopC_run {own : List Nat} {f : D → List D → R (Option D)} {s : List D} (g : D → Option D) : ∀ {xs : List D}, (∀ d ∈ xs, ∃ s', f d s = .ok (g d) s' ∧ chk own s' = true ∧ clr own s' = s) → loopC own f xs s = .ok (xs.filterMap g) s
  | [], _ => rfl
  | d :: xs, h => by
    obtain ⟨s', e, c, q⟩ := h d List.mem_cons_self
    have ih := loopC_run g fun d hd => h d (List.mem_cons_of_mem _ hd)
    rw [loopC_cons, e]
    cases e2 : g d with
    | none =>
      show (if chk own s' then loopC own f xs (clr own s') else .bad) = _
      rw [c, q, ih, List.filterMap_cons, e2]; rfl
    | some y =>
      show (if chk own s' then (loopC own f xs (clr own s')).bind fun ys s2 => .ok (y :: ys) s2 else .bad) = _
      rw [c, q, ih, List.filterMap_cons, e2]; rfl
theorem comp_run {own : List Nat} {t : Tg} {co : List E} {elt : E} {s xs : List D} (g : D → Option D) (hc : chk own s = true) (h : ∀ d ∈ xs, ∃ s', stepC t co elt d (clr own s) = .ok (g d) s' ∧ chk own s' = true ∧ clr own s' = clr own s)
    (hk : goodKids (xs.filterMap g) = true) (hl : (xs.filterMap g).length ≤ sizeLine) : compO own t co elt s (some xs) = .ok (.lst .own (xs.filterMap g)) s := by
  show (if chk own s then compE own s (loopC own (stepC t co elt) xs (clr own s)) else .bad) = _
  rw [hc, loopC_run g h]
  show (if goodKids (xs.filterMap g) && decide ((xs.filterMap g).length ≤ sizeLine) then R.ok (D.lst .own (xs.filterMap g)) (rst s own (clr own s)) else R.bad) = _
  rw [hk, rst_clr]
  simp only [Bool.true_and, decide_eq_true_eq, if_pos hl]
/-- .. all kept -/
theorem comp_map {own : List Nat} {t : Tg} {co : List E} {elt : E} {s xs : List D} (g : D → D) (hc : chk own s = true) (h : ∀ d ∈ xs, ∃ s', stepC t co elt d (clr own s) = .ok (some (g d)) s' ∧ chk own s' = true ∧ clr own s' = clr own s)
    (hk : goodKids (xs.map g) = true) (hl : xs.length ≤ sizeLine) : compO own t co elt s (some xs) = .ok (.lst .own (xs.map g)) s := by
  have e : xs.filterMap (fun d => some (g d)) = xs.map g := by rw [List.filterMap_eq_map']
  have := comp_run (own := own) (t := t) (co := co) (elt := elt) (s := s) (xs := xs) (fun d => some (g d)) hc h (by rw [e]; exact hk) (by rw [e, List.length_map]; exact hl)
  rw [e] at this
  exact this
@[simp] theorem clr_nil {s : List D} : clr [] s = s := id rfl
@[simp] theorem clr_cons {i : Nat} {is : List Nat} {s : List D} : clr (i :: is) s = (clr is s).set i .dead := id rfl
@[simp] theorem chk_nil {s : List D} : chk [] s = true := id rfl
@[simp] theorem chk_cons {i : Nat} {is : List Nat} {s : List D} : chk (i :: is) s = (noOwn (s.getD i .dead) && chk is s) := id rfl
def kSt (elt : E) (b : Bool) (s : List D) : R (Option D) := if b then (evE elt s).bind fun y s4 => .ok (some y) s4 else .ok none s
def stepO (co : List E) (elt : E) : Option (List D) → R (Option D)
  | some s => (evTs co s).bind (kSt elt)
  | none => .bad
theorem step_eq {t : Tg} {co : List E} {elt : E} {d : D} {s : List D} : stepC t co elt d s = stepO co elt (tgSet t d s) := by
  unfold stepC
  cases tgSet t d s <;> rfl
@[simp] theorem stepO_some {co : List E} {elt : E} {s : List D} : stepO co elt (some s) = (evTs co s).bind (kSt elt) := id rfl
@[simp] theorem tgSet_nm {i : Nat} {d : D} {s : List D} : tgSet (.nm i) d s = some (s.set i d) := id rfl
@[simp] theorem tgSet_tup {is : List Nat} {fl : Fl} {xs s : List D} : tgSet (.tup is) (.tup fl xs) s = setAll is xs s := id rfl
@[simp] theorem setAll_nil {s : List D} : setAll [] [] s = some s := id rfl
@[simp] theorem setAll_cons {i : Nat} {is : List Nat} {x : D} {xs s : List D} : setAll (i :: is) (x :: xs) s = setAll is xs (s.set i x) := id rfl
def kSome (y : D) (s : List D) : R (Option D) := .ok (some y) s
@[simp] theorem kSome_eq {y : D} {s : List D} : kSome y s = .ok (some y) s := id rfl
@[simp] theorem kSt_t {elt : E} {s : List D} : kSt elt true s = (evE elt s).bind kSome := id rfl
@[simp] theorem kSt_f {elt : E} {s : List D} : kSt elt false s = .ok none s := id rfl
@[simp] theorem ts_nil {s : List D} : evTs [] s = .ok true s := by unfold evTs; exact id rfl
def kTst (d : D) (s : List D) : R Bool := match truth d with
  | some b => .ok b s
  | none => .bad
@[simp] theorem kTst_bl {b : Bool} {s : List D} : kTst (.bl b) s = .ok b s := id rfl
@[simp] theorem ts_one {e : E} {s : List D} : evTs [e] s = (evE e s).bind kTst := by unfold evTs; exact id rfl
theorem rngD_mem {d : D} {lo c : Int} {n : Nat} (h : d ∈ rngD lo n c) : ∃ j : Nat, j < n ∧ d = .int (lo + j * c) := by
  unfold rngD at h
  obtain ⟨j, hj, rfl⟩ := List.mem_map.1 h
  exact ⟨j, List.mem_range.1 hj, rfl⟩
/-- what a walk's body keeps holds behind the walk -/
theorem loopF_inv {f : D → List D → O} (P : List D → Prop) : ∀ {xs : List D} {s : List D}, (∀ d ∈ xs, ∀ s, P s → ∃ s', f d s = .nx s' ∧ P s') → P s → ∃ s', loopF f xs s = .nx s' ∧ P s'
  | [], s, _, p => ⟨s, rfl, p⟩
  | d :: xs, s, h, p => by
    obtain ⟨s1, e1, p1⟩ := h d List.mem_cons_self s p
    obtain ⟨s2, e2, p2⟩ := loopF_inv P (fun d hd => h d (List.mem_cons_of_mem _ hd)) p1
    exact ⟨s2, by rw [loopF, e1]; exact e2, p2⟩
/-- .. by the turn -/
theorem loopF_ix {f : D → List D → O} (P : Nat → List D → Prop) : ∀ {xs : List D} {s : List D} {k : Nat}, (∀ i d, xs[i]? = some d → ∀ s, P (k + i) s → ∃ s', f d s = .nx s' ∧ P (k + i + 1) s') → P k s → ∃ s', loopF f xs s = .nx s' ∧ P (k + xs.length) s'
  | [], s, k, _, p => ⟨s, rfl, p⟩
  | d :: xs, s, k, h, p => by
    obtain ⟨s1, e1, p1⟩ := h 0 d rfl s p
    obtain ⟨s2, e2, p2⟩ := loopF_ix P (k := k + 1) (xs := xs) (s := s1) (fun i d hd s q => by
      have := h (i + 1) d (by simpa using hd) s (by rw [show k + (i + 1) = k + 1 + i by omega]; exact q)
      rw [show k + (i + 1) + 1 = k + 1 + i + 1 by omega] at this
      exact this) p1
    exact ⟨s2, by rw [loopF, e1]; exact e2, by rw [show k + (d :: xs).length = k + 1 + xs.length by simp; omega]; exact p2⟩
/-! sizes -/
@[simp] theorem szl : sizeLine = 16777216 := PySem.sizeLine_eq
theorem mulOk_r {i j : Int} (h : j.natAbs < 2 ^ 64) : mulOk i j = true := by unfold mulOk; simp; right; exact h
theorem mulOk_l {i j : Int} (h : i.natAbs < 2 ^ 64) : mulOk i j = true := by unfold mulOk; simp; left; right; exact h
theorem log2_lt {n k : Nat} (h : n < 2 ^ k) (hk : 0 < k) : n.log2 < k := by
  by_cases h0 : n = 0
  · subst h0
    rw [show Nat.log2 0 = 0 by decide]
    exact hk
  · exact (Nat.log2_lt h0).2 h
theorem mulOk_w {i j : Int} {a b : Nat} (ha : i.natAbs < 2 ^ a) (hb : j.natAbs < 2 ^ b) (h1 : 0 < a) (h2 : 0 < b) (h : a + b < 1000000) : mulOk i j = true := by
  have := log2_lt ha h1
  have := log2_lt hb h2
  unfold mulOk
  simp
  left; left
  omega
@[simp] theorem small62_nat {n : Nat} : small62 (n : Int) = decide (n < 4611686018427387904) := by
  unfold small62
  have : (-(2 ^ 62) : Int) ≤ n := by omega
  simp [this]
  omega
@[simp low] theorem small62_low {i : Int} : small62 i = (decide (-4611686018427387904 ≤ i) && decide (i < 4611686018427387904)) := id rfl
@[simp] theorem log2_few {n : Nat} (h : n < 18446744073709551616) : (n.log2 < 9000) = True := by
  have := log2_lt (n := n) (k := 64) h (by omega)
  simp; omega
/-! loops -/
theorem loopW_step {c : List D → R D} {f : List D → O} {n : Nat} {s s1 s2 : List D} (h1 : c s = .ok (.bl true) s1) (h2 : f s1 = .nx s2) : loopW c f (n + 1) s = loopW c f n s2 := by
  rw [loopW, h1]
  simp only [truth_bl, h2]
theorem loopW_done {c : List D → R D} {f : List D → O} {n : Nat} {s s1 : List D} (h1 : c s = .ok (.bl false) s1) : loopW c f (n + 1) s = .nx s1 := by
  rw [loopW, h1]
  simp only [truth_bl]
/-- Euclid's loop -/
theorem gcd_loop {c : List D → R D} {f : List D → O} (st : Nat → Nat → D → List D) (hc : ∀ a b x, c (st a b x) = .ok (.bl (decide (0 < b))) (st a b x)) (hf : ∀ a b x, 0 < b → ∃ y, f (st a b x) = .nx (st b (a % b) y)) :
    ∀ (n a b : Nat) (x : D), b < n → ∃ y, loopW c f n (st a b x) = .nx (st (Nat.gcd a b) 0 y)
  | 0, _, _, _, h => absurd h (Nat.not_lt_zero _)
  | n + 1, a, b, x, h => by
    by_cases hb : 0 < b
    · have hlt : a % b < n := by have := Nat.mod_lt a hb; omega
      obtain ⟨y, e⟩ := hf a b x hb
      obtain ⟨z, e2⟩ := gcd_loop st hc hf n b (a % b) y hlt
      refine ⟨z, ?_⟩
      rw [loopW_step (s1 := st a b x) (s2 := st b (a % b) y) (by rw [hc]; simp [hb]) e, e2]
      have : Nat.gcd b (a % b) = Nat.gcd a b := by
        rw [Nat.gcd_comm b, ← Nat.gcd_rec, Nat.gcd_comm]
      rw [this]
    · obtain rfl : b = 0 := by omega
      refine ⟨x, ?_⟩
      rw [loopW_done (s1 := st a 0 x) (by rw [hc]; simp)]
      simp
end TT
namespace TT
open PySem L2
section
variable {fl fl2 : Fl} {x y : D} {xs ys : List D} {i j : Int} {b c : Bool} {s t : Str}
@[simp] theorem isDat_non : isDat .non = true := id rfl
@[simp] theorem isDat_bl : isDat (.bl b) = true := id rfl
@[simp] theorem isDat_int : isDat (.int i) = true := id rfl
@[simp] theorem isDat_str : isDat (.str s) = PyData.strOk s := id rfl
@[simp] theorem isDat_lst : isDat (.lst fl xs) = isDats xs := id rfl
@[simp] theorem isDat_tup : isDat (.tup fl xs) = isDats xs := id rfl
@[simp] theorem isDats_nil : isDats [] = true := id rfl
@[simp] theorem isDats_cons : isDats (x :: xs) = (isDat x && isDats xs) := id rfl
@[simp] theorem depthD_non : depthD .non = 0 := id rfl
@[simp] theorem depthD_bl : depthD (.bl b) = 0 := id rfl
@[simp] theorem depthD_int : depthD (.int i) = 0 := id rfl
@[simp] theorem depthD_str : depthD (.str s) = 0 := id rfl
@[simp] theorem depthD_lst : depthD (.lst fl xs) = depthDs xs + 1 := id rfl
@[simp] theorem depthD_tup : depthD (.tup fl xs) = depthDs xs + 1 := id rfl
@[simp] theorem depthDs_nil : depthDs [] = 0 := id rfl
@[simp] theorem depthDs_cons : depthDs (x :: xs) = max (depthD x) (depthDs xs) := id rfl
@[simp] theorem eqv_non : eqv .non .non = true := by unfold eqv; exact id rfl
@[simp] theorem eqv_bl : eqv (.bl b) (.bl c) = (b == c) := by unfold eqv; exact id rfl
@[simp] theorem eqv_int : eqv (.int i) (.int j) = (i == j) := by unfold eqv; exact id rfl
@[simp] theorem eqv_str : eqv (.str s) (.str t) = (s == t) := by unfold eqv; exact id rfl
@[simp] theorem eqv_lst : eqv (.lst fl xs) (.lst fl2 ys) = eqvs xs ys := by rw [eqv]
@[simp] theorem eqv_tup : eqv (.tup fl xs) (.tup fl2 ys) = eqvs xs ys := by rw [eqv]
@[simp] theorem eqvs_nil : eqvs [] [] = true := by unfold eqvs; exact id rfl
@[simp] theorem eqvs_cons : eqvs (x :: xs) (y :: ys) = (eqv x y && eqvs xs ys) := by rw [eqvs]
end
theorem ix_lit {α : Type} {xs : List α} {n : Nat} : atI xs (OfNat.ofNat n : Int) = xs[n]? := by
  show atI xs ((n : Nat) : Int) = _
  by_cases h : n < xs.length
  · rw [atI_nat h]; simp [h]
  · have : ¬ ((n : Int) < xs.length) := by omega
    unfold atI ixN
    rw [if_pos (by omega), if_neg this]
    simp; omega
@[simp] theorem ix_l3 {α : Type} {xs : List α} : atI xs 3 = xs[3]? := ix_lit
@[simp] theorem ix_l4 {α : Type} {xs : List α} : atI xs 4 = xs[4]? := ix_lit
@[simp] theorem ix_l5 {α : Type} {xs : List α} : atI xs 5 = xs[5]? := ix_lit
@[simp] theorem ix_l6 {α : Type} {xs : List α} : atI xs 6 = xs[6]? := ix_lit
@[simp] theorem ix_l7 {α : Type} {xs : List α} : atI xs 7 = xs[7]? := ix_lit
@[simp] theorem ix_l8 {α : Type} {xs : List α} : atI xs 8 = xs[8]? := ix_lit
@[simp] theorem ix_l9 {α : Type} {xs : List α} : atI xs 9 = xs[9]? := ix_lit
@[simp] theorem ix_l10 {α : Type} {xs : List α} : atI xs 10 = xs[10]? := ix_lit
@[simp] theorem ix_l11 {α : Type} {xs : List α} : atI xs 11 = xs[11]? := ix_lit
section
variable {fl : Fl} {x y : D} {xs ys : List D} {i j : Int} {s : Str} {lo hi : Bool} {ns : List Int} {ol oh : Option Int}
@[simp] theorem opD_sl {ds : List D} : opD (.sl lo hi) ds = slices lo hi ds := id rfl
@[simp] theorem slices_00 : slices false false [x] = slD x none none := id rfl
@[simp] theorem slices_10 : slices true false [x, .int i] = slD x (some i) none := id rfl
@[simp] theorem slices_01 : slices false true [x, .int j] = slD x none (some j) := id rfl
@[simp] theorem slices_11 : slices true true [x, .int i, .int j] = slD x (some i) (some j) := id rfl
@[simp] theorem slD_scr : slD (.scr ns) ol oh = some (.lst .own ((cut ns ol oh).map .int)) := id rfl
@[simp] theorem slD_lst : slD (.lst fl xs) ol oh = if noOwns xs = true ∧ noBors xs = true then some (.lst .own (cut xs ol oh)) else none := id rfl
@[simp] theorem slD_tup : slD (.tup .shr xs) ol oh = some (.tup .shr (cut xs ol oh)) := id rfl
@[simp] theorem slD_str : slD (.str s) ol oh = if s.length ≤ sizeLine then some (.str (cutS s ol oh)) else none := id rfl
@[simp] theorem opD_rev : opD .rev [x] = revD x := id rfl
@[simp] theorem revD_lst : revD (.lst fl xs) = if noOwns xs = true ∧ noBors xs = true then some (.lst .own xs.reverse) else none := id rfl
@[simp] theorem opD_list : opD .list [x] = listD x := id rfl
@[simp] theorem listD_lst : listD (.lst fl xs) = if noOwns xs = true ∧ noBors xs = true then some (.lst .own xs) else none := id rfl
@[simp] theorem listD_tup : listD (.tup fl xs) = if noOwns xs = true ∧ noBors xs = true then some (.lst .own xs) else none := id rfl
@[simp] theorem opD_tuple : opD .tuple [x] = tupleD x := id rfl
@[simp] theorem tupleD_lst : tupleD (.lst fl xs) = if noOwns xs = true ∧ noBors xs = true then some (.tup .shr xs) else none := id rfl
@[simp] theorem opD_sum : opD .sum [x] = sumD x := id rfl
@[simp] theorem sumD_lst : sumD (.lst fl xs) = (intsOf xs).map fun ns => .int ns.sum := id rfl
@[simp] theorem opD_all : opD .all [x] = allD x := id rfl
@[simp] theorem allD_lst : allD (.lst fl xs) = (blsOf xs).map fun bs => .bl (bs.all id) := id rfl
@[simp] theorem opD_any : opD .any [x] = anyD x := id rfl
@[simp] theorem anyD_lst : anyD (.lst fl xs) = (blsOf xs).map fun bs => .bl (bs.any id) := id rfl
@[simp] theorem opD_in : opD .in_ [x, y] = (inD x y).map .bl := id rfl
@[simp] theorem opD_nin : opD .nin [x, y] = (inD x y).map fun b => .bl (!b) := id rfl
@[simp] theorem opD_strI : opD .strI [x] = strID x := id rfl
@[simp] theorem strID_int : strID (.int i) = if i.natAbs.log2 < 1920 then some (.str (toString i)) else none := id rfl
@[simp] theorem lenD_str : lenD (.str s) = if s.length ≤ sizeLine then some (.int s.length) else none := id rfl
@[simp] theorem seqD_lst : seqD (.lst fl xs) = if fl != .own && noOwns xs && xs.all (fun x => !isDead x) then some xs else none := id rfl
@[simp] theorem seqD_tup : seqD (.tup fl xs) = if fl != .own && noOwns xs && xs.all (fun x => !isDead x) then some xs else none := id rfl
@[simp] theorem seqD_str : seqD (.str s) = some (s.cps.toList.map fun c => .str ⟨#[c]⟩) := id rfl
@[simp] theorem seqD_scr : seqD (.scr ns) = some (ns.map .int) := id rfl
@[simp] theorem lstD_lst : lstD (.lst fl xs) = if fl != .own && noOwns xs && xs.all (fun x => !isDead x) then some xs else none := id rfl
@[simp] theorem lstD_scr : lstD (.scr ns) = some (ns.map .int) := id rfl
@[simp] theorem opD_part {a b : Str} : opD .part [.str a, .str b] = if (b.length == 0) = false ∧ a.length ≤ sizeLine then some (.tup .shr [.str (Txt.partition a b).1, .str (Txt.partition a b).2.1, .str (Txt.partition a b).2.2]) else none := id rfl
@[simp] theorem opD_find {a b : Str} : opD .find [.str a, .str b] = some (.int (Txt.find a b)) := id rfl
@[simp] theorem opD_join {a : Str} : opD .join [.str a, .lst fl xs] = (strsOf xs).bind fun ys => if (ys.map (·.length)).sum + ys.length * a.length ≤ 16777216 then some (.str (Txt.join a ys)) else none := id rfl
@[simp] theorem opD_divmod : opD .divmod [.int i, .int j] = if 0 < j ∧ Builtin.Int.intBits i ≤ Builtin.Int.intBits j + 4000 then some (.tup .shr [.int (i / j), .int (i % j)]) else none := id rfl
@[simp] theorem opD_intT {a : Str} : opD .intT [.str a] = (PySem.intText? a).bind fun n => if a.length ≤ 640 then some (.int n) else none := id rfl
@[simp] theorem opD_rep {a : Str} : opD .rep [.str a, .int i] = if 0 ≤ i ∧ i ≤ 1000000 ∧ a.length * i.toNat ≤ 1000000 then some (.str (repS a i)) else none := id rfl
theorem strsOf_map {α : Type} {f : α → Str} : ∀ {l : List α}, strsOf (l.map fun a => .str (f a)) = some (l.map f)
  | [] => rfl
  | a :: l => by
    rw [List.map_cons, List.map_cons, strsOf, strsOf_map]; rfl
theorem intsOf_map {α : Type} {f : α → Int} : ∀ {l : List α}, intsOf (l.map fun a => .int (f a)) = some (l.map f)
  | [] => rfl
  | a :: l => by
    rw [List.map_cons, List.map_cons, intsOf, intsOf_map]; rfl
theorem blsOf_map {α : Type} {f : α → Bool} : ∀ {l : List α}, blsOf (l.map fun a => .bl (f a)) = some (l.map f)
  | [] => rfl
  | a :: l => by
    rw [List.map_cons, List.map_cons, blsOf, blsOf_map]; rfl
theorem owns_intsD {l : List Int} : noOwns (l.map D.int) = true := by
  rw [noOwns_iff]; intro x hx; obtain ⟨p, _, rfl⟩ := List.mem_map.1 hx; rfl
theorem bors_intsD {l : List Int} : noBors (l.map D.int) = true := by
  rw [noBors_iff]; intro x hx; obtain ⟨p, _, rfl⟩ := List.mem_map.1 hx; rfl
theorem dead_intsD {l : List Int} : (l.map D.int).all (fun x => !isDead x) = true := by
  rw [List.all_eq_true]; intro x hx; obtain ⟨p, _, rfl⟩ := List.mem_map.1 hx; rfl
theorem enum_get {xs zs : List D} {i : Nat} {d : D} (h : enumD (.lst fl xs) = some zs) (e : zs[i]? = some d) : ∃ x, xs[i]? = some x ∧ d = pairD (.int (i : Int)) x := by
  unfold enumD at h
  cases e2 : lstD (.lst fl xs) with
  | none => rw [e2] at h; cases h
  | some ys =>
    rw [e2] at h
    have : ys = xs := by
      rw [lstD_lst] at e2
      split at e2 <;> cases e2
      rfl
    subst this
    cases h
    rw [List.getElem?_map] at e
    cases e3 : ys.zipIdx[i]? with
    | none => rw [e3] at e; cases e
    | some p =>
      rw [e3] at e
      cases e
      rw [List.getElem?_zipIdx] at e3
      cases e4 : ys[i]? with
      | none => rw [e4] at e3; cases e3
      | some x =>
        rw [e4] at e3
        cases e3
        exact ⟨x, rfl, by simp⟩
theorem enum_some {xs : List D} (h1 : fl ≠ .own) (h2 : noOwns xs = true) (h3 : xs.all (fun x => !isDead x) = true) : ∃ zs, enumD (.lst fl xs) = some zs ∧ zs.length = xs.length := by
  unfold enumD
  rw [lstD_lst, if_pos (by simp [h1, h2]; simpa using h3)]
  exact ⟨_, rfl, by simp⟩
theorem pair_shr {x y : D} (h1 : allShr x = true) (h2 : allShr y = true) : pairD x y = .tup .shr [x, y] := by
  unfold pairD; rw [h1, h2]; rfl
theorem body_eq {t : Tg} {b : List S} {d : D} {s s2 : List D} (h : tgSet t d s = some s2) : bodyO t b d s = exSs b s2 := by
  unfold bodyO; rw [h]
theorem cut_length_le {α : Type} {xs : List α} {lo hi : Option Int} : (cut xs lo hi).length ≤ xs.length := by
  unfold cut; simp; omega
end
end TT
namespace TT.Law
open PySem PySem.Spec PyProof.Rows L2 TT
def top (i : Nat) : Stmt := PySem.Challenge.pw_oddsweb_k03_share_texts.main.body.getD i (.Pass ⟨0, 0, 0, 0⟩)
def bnL : List Str := ["ValueError", "all", "bool", "divmod", "int", "isinstance", "len", "max", "min", "range", "str", "tuple"]
/-! ### is_whole -/
def b_is_whole : List S := [.ret (.band [.op (.isi (.b "int") "int" []) [.nm 0], .op .not [.op (.isi (.b "bool") "bool" []) [.nm 0]], .op .ge [.nm 0, .nm 1]])]
abbrev N_is_whole : List Str := ["thing", "least"]
theorem m_is_whole : mSs ⟨N_is_whole, defScope (top 6), bnL, 0, false, none⟩ b_is_whole (defBody (top 6)) = true := by decide +kernel
theorem s_is_whole : scB N_is_whole ["thing", "least"] (defScope (top 6)) = true := by decide +kernel
abbrev r_is_whole : List D → FR := runF 2 false b_is_whole
def f_is_whole : FE := ⟨"is_whole", 2, 1, false, [], r_is_whole⟩
theorem ge_is_whole (ds : List D) : f_is_whole.g ds = runF 2 false b_is_whole ds := id rfl
@[simp] theorem fl_is_whole_2 (x0 x1 : D) : fillD f_is_whole [x0, x1] = [lend x0, lend x1] := fill_eq rfl
theorem h_is_whole : ∀ ds, ds.length = f_is_whole.np → f_is_whole.g ds = runF N_is_whole.length f_is_whole.m b_is_whole ds ∨ f_is_whole.g ds = .bad := fun _ _ => .inl rfl
/-! ### common -/
def l0_common : List S := [.asg 2 (.op .mod [.nm 0, .nm 1]),
  .asg 0 (.cp (.nm 1)),
  .asg 1 (.cp (.nm 2))]
def b_common : List S := [.whl (fuelI 1) (.op .gt [.nm 1, .c (.int 0)]) l0_common,
  .ret (.mv 0)]
abbrev N_common : List Str := ["one", "other", "rest"]
theorem m_common : mSs ⟨N_common, defScope (top 7), bnL, 0, false, none⟩ b_common (defBody (top 7)) = true := by decide +kernel
theorem s_common : scB N_common ["one", "other"] (defScope (top 7)) = true := by decide +kernel
abbrev r_common : List D → FR := runF 3 false b_common
def f_common : FE := ⟨"common", 2, 1, false, [], r_common⟩
theorem ge_common (ds : List D) : f_common.g ds = runF 3 false b_common ds := id rfl
@[simp] theorem fl_common_2 (x0 x1 : D) : fillD f_common [x0, x1] = [lend x0, lend x1] := fill_eq rfl
theorem h_common : ∀ ds, ds.length = f_common.np → f_common.g ds = runF N_common.length f_common.m b_common ds ∨ f_common.g ds = .bad := fun _ _ => .inl rfl
/-! ### share -/
def b_share : List S := [.ift (.bor [.op .not [.call f_is_whole [.nm 0, .c (.int 0)]], .op .not [.call f_is_whole [.nm 1, .c (.int 1)]]])
    [.raise0 1 "NoShare"]
    [],
  .asg 2 (.call f_common [.nm 0, .nm 1]),
  .ret (.op .tup [.op .fdiv [.nm 0, .nm 2], .op .fdiv [.nm 1, .nm 2]])]
abbrev N_share : List Str := ["top", "bottom", "both"]
theorem m_share : mSs ⟨N_share, defScope (top 8), bnL, 1, false, none⟩ b_share (defBody (top 8)) = true := by decide +kernel
theorem s_share : scB N_share ["top", "bottom"] (defScope (top 8)) = true := by decide +kernel
abbrev r_share : List D → FR := runF 3 false b_share
def f_share : FE := ⟨"share", 2, 2, false, [.int 1], r_share⟩
theorem ge_share (ds : List D) : f_share.g ds = runF 3 false b_share ds := id rfl
@[simp] theorem fl_share_1 (x0 : D) : fillD f_share [x0] = [lend x0, .int 1] := fill_eq rfl
@[simp] theorem fl_share_2 (x0 x1 : D) : fillD f_share [x0, x1] = [lend x0, lend x1] := fill_eq rfl
theorem h_share : ∀ ds, ds.length = f_share.np → f_share.g ds = runF N_share.length f_share.m b_share ds ∨ f_share.g ds = .bad := fun _ _ => .inl rfl
/-! ### is_share -/
def b_is_share : List S := [.ift (.bor [.op .not [.op (.isi (.b "tuple") "tuple" []) [.nm 0]], .op .ne [.op .len [.nm 0], .c (.int 2)], .op .not [.call f_is_whole [.op .ix [.nm 0, .c (.int 0)], .c (.int 0)]], .op .not [.call f_is_whole [.op .ix [.nm 0, .c (.int 1)], .c (.int 1)]]])
    [.ret (.c (.bl false))]
    [],
  .ret (.op .eq [.call f_common [.op .ix [.nm 0, .c (.int 0)], .op .ix [.nm 0, .c (.int 1)]], .c (.int 1)])]
abbrev N_is_share : List Str := ["thing"]
theorem m_is_share : mSs ⟨N_is_share, defScope (top 9), bnL, 1, false, none⟩ b_is_share (defBody (top 9)) = true := by decide +kernel
theorem s_is_share : scB N_is_share ["thing"] (defScope (top 9)) = true := by decide +kernel
abbrev r_is_share : List D → FR := runF 1 false b_is_share
def f_is_share : FE := ⟨"is_share", 1, 2, false, [], r_is_share⟩
theorem ge_is_share (ds : List D) : f_is_share.g ds = runF 1 false b_is_share ds := id rfl
@[simp] theorem fl_is_share_1 (x0 : D) : fillD f_is_share [x0] = [lend x0] := fill_eq rfl
theorem h_is_share : ∀ ds, ds.length = f_is_share.np → f_is_share.g ds = runF N_is_share.length f_is_share.m b_is_share ds ∨ f_is_share.g ds = .bad := fun _ _ => .inl rfl
/-! ### need_share -/
def b_need_share : List S := [.ift (.op .not [.call f_is_share [.nm 0]])
    [.raise0 1 "NoShare"]
    [],
  .ret (.mv 0)]
abbrev N_need_share : List Str := ["thing"]
theorem m_need_share : mSs ⟨N_need_share, defScope (top 10), bnL, 2, false, none⟩ b_need_share (defBody (top 10)) = true := by decide +kernel
theorem s_need_share : scB N_need_share ["thing"] (defScope (top 10)) = true := by decide +kernel
abbrev r_need_share : List D → FR := runF 1 false b_need_share
def f_need_share : FE := ⟨"need_share", 1, 3, false, [], r_need_share⟩
theorem ge_need_share (ds : List D) : f_need_share.g ds = runF 1 false b_need_share ds := id rfl
@[simp] theorem fl_need_share_1 (x0 : D) : fillD f_need_share [x0] = [lend x0] := fill_eq rfl
theorem h_need_share : ∀ ds, ds.length = f_need_share.np → f_need_share.g ds = runF N_need_share.length f_need_share.m b_need_share ds ∨ f_need_share.g ds = .bad := fun _ _ => .inl rfl
/-! ### text_of -/
def b_text_of : List S := [.ex (.call f_need_share [.nm 0]),
  .ift (.op .eq [.op .ix [.nm 0, .c (.int 1)], .c (.int 1)])
    [.ret (.op .strI [.op .ix [.nm 0, .c (.int 0)]])]
    [],
  .ret (.op .add [.op .add [.op .strI [.op .ix [.nm 0, .c (.int 0)]], .c (.str "/")], .op .strI [.op .ix [.nm 0, .c (.int 1)]]])]
abbrev N_text_of : List Str := ["one"]
theorem m_text_of : mSs ⟨N_text_of, defScope (top 11), bnL, 3, false, none⟩ b_text_of (defBody (top 11)) = true := by decide +kernel
theorem s_text_of : scB N_text_of ["one"] (defScope (top 11)) = true := by decide +kernel
abbrev r_text_of : List D → FR := runF 1 false b_text_of
def f_text_of : FE := ⟨"text_of", 1, 4, false, [], r_text_of⟩
theorem ge_text_of (ds : List D) : f_text_of.g ds = runF 1 false b_text_of ds := id rfl
@[simp] theorem fl_text_of_1 (x0 : D) : fillD f_text_of [x0] = [lend x0] := fill_eq rfl
theorem h_text_of : ∀ ds, ds.length = f_text_of.np → f_text_of.g ds = runF N_text_of.length f_text_of.m b_text_of ds ∨ f_text_of.g ds = .bad := fun _ _ => .inl rfl
/-! ### number_in -/
def c0_number_in : List E := []
def e0_number_in : E := .op .in_ [.nm 1, .gl "FIGURES" (.str "0123456789")]
def b_number_in : List S := [.ift (.bor [.op .not [.chain .le .le (.c (.int 1)) (.op .len [.nm 0]) (.gl "MOST_FIGURES" (.int 7))], .op .not [.op .all [.comp [1] (.nm 1) .seq [.nm 0] c0_number_in e0_number_in]]])
    [.raise0 1 "NoShare"]
    [],
  .ret (.op .intT [.nm 0])]
abbrev N_number_in : List Str := ["text", "sign"]
theorem m_number_in : mSs ⟨N_number_in, defScope (top 12), bnL, 0, false, none⟩ b_number_in (defBody (top 12)) = true := by decide +kernel
theorem s_number_in : scB N_number_in ["text"] (defScope (top 12)) = true := by decide +kernel
abbrev r_number_in : List D → FR := runF 2 false b_number_in
def f_number_in : FE := ⟨"number_in", 1, 1, false, [], r_number_in⟩
theorem ge_number_in (ds : List D) : f_number_in.g ds = runF 2 false b_number_in ds := id rfl
@[simp] theorem fl_number_in_1 (x0 : D) : fillD f_number_in [x0] = [lend x0] := fill_eq rfl
theorem h_number_in : ∀ ds, ds.length = f_number_in.np → f_number_in.g ds = runF N_number_in.length f_number_in.m b_number_in ds ∨ f_number_in.g ds = .bad := fun _ _ => .inl rfl
/-! ### share_in -/
def b_share_in : List S := [.ift (.op .not [.op (.isi (.b "str") "str" []) [.nm 0]])
    [.raise0 1 "NoShare"]
    [],
  .asgT [1, 2, 3] (.mth .part (.cp (.nm 0)) [.c (.str "/")]),
  .ift (.op .eq [.nm 2, .c (.str "")])
    [.ret (.call f_share [.call f_number_in [.nm 1]])]
    [],
  .ret (.call f_share [.call f_number_in [.nm 1], .call f_number_in [.nm 3]])]
abbrev N_share_in : List Str := ["text", "top", "mark", "bottom"]
theorem m_share_in : mSs ⟨N_share_in, defScope (top 13), bnL, 2, false, none⟩ b_share_in (defBody (top 13)) = true := by decide +kernel
theorem s_share_in : scB N_share_in ["text"] (defScope (top 13)) = true := by decide +kernel
abbrev r_share_in : List D → FR := runF 4 false b_share_in
def f_share_in : FE := ⟨"share_in", 1, 3, false, [], r_share_in⟩
theorem ge_share_in (ds : List D) : f_share_in.g ds = runF 4 false b_share_in ds := id rfl
@[simp] theorem fl_share_in_1 (x0 : D) : fillD f_share_in [x0] = [lend x0] := fill_eq rfl
theorem h_share_in : ∀ ds, ds.length = f_share_in.np → f_share_in.g ds = runF N_share_in.length f_share_in.m b_share_in ds ∨ f_share_in.g ds = .bad := fun _ _ => .inl rfl
/-! ### _law_cell_at -/
def b__law_cell_at : List S := [.ift (.op .lt [.nm 1, .op .len [.nm 0]])
    [.ret (.cp (.op .ix [.nm 0, .nm 1]))]
    [],
  .ret (.c (.int 0))]
abbrev N__law_cell_at : List Str := ["_law_script", "_law_k"]
theorem m__law_cell_at : mSs ⟨N__law_cell_at, defScope (top 15), bnL, 0, false, none⟩ b__law_cell_at (defBody (top 15)) = true := by decide +kernel
theorem s__law_cell_at : scB N__law_cell_at ["_law_script", "_law_k"] (defScope (top 15)) = true := by decide +kernel
abbrev r__law_cell_at : List D → FR := runF 2 false b__law_cell_at
def f__law_cell_at : FE := ⟨"_law_cell_at", 2, 1, false, [], r__law_cell_at⟩
theorem ge__law_cell_at (ds : List D) : f__law_cell_at.g ds = runF 2 false b__law_cell_at ds := id rfl
@[simp] theorem fl__law_cell_at_2 (x0 x1 : D) : fillD f__law_cell_at [x0, x1] = [lend x0, lend x1] := fill_eq rfl
theorem h__law_cell_at : ∀ ds, ds.length = f__law_cell_at.np → f__law_cell_at.g ds = runF N__law_cell_at.length f__law_cell_at.m b__law_cell_at ds ∨ f__law_cell_at.g ds = .bad := fun _ _ => .inl rfl
/-! ### _law_mixed -/
def b__law_mixed : List S := [.ret (.op .mod [.op .mul [.op .mod [.op .add [.op .add [.op .mul [.nm 0, .op .add [.c (.int 48271), .op .mul [.op .mul [.c (.int 2), .nm 1], .nm 1]]], .op .mul [.c (.int 69621), .nm 1]], .c (.int 11)], .c (.int 2147483647)], .c (.int 69621)], .c (.int 2147483629)])]
abbrev N__law_mixed : List Str := ["_law_cell", "_law_k"]
theorem m__law_mixed : mSs ⟨N__law_mixed, defScope (top 16), bnL, 0, false, none⟩ b__law_mixed (defBody (top 16)) = true := by decide +kernel
theorem s__law_mixed : scB N__law_mixed ["_law_cell", "_law_k"] (defScope (top 16)) = true := by decide +kernel
abbrev r__law_mixed : List D → FR := runF 2 false b__law_mixed
def f__law_mixed : FE := ⟨"_law_mixed", 2, 1, false, [], r__law_mixed⟩
theorem ge__law_mixed (ds : List D) : f__law_mixed.g ds = runF 2 false b__law_mixed ds := id rfl
@[simp] theorem fl__law_mixed_2 (x0 x1 : D) : fillD f__law_mixed [x0, x1] = [lend x0, lend x1] := fill_eq rfl
theorem h__law_mixed : ∀ ds, ds.length = f__law_mixed.np → f__law_mixed.g ds = runF N__law_mixed.length f__law_mixed.m b__law_mixed ds ∨ f__law_mixed.g ds = .bad := fun _ _ => .inl rfl
/-! ### _law_great -/
def l0__law_great : List S := [.asg 2 (.op .add [.op .mul [.nm 2, .c (.int 2147483629)], .call f__law_mixed [.nm 0, .op .add [.c (.int 50), .nm 3]]])]
def l1__law_great : List S := [.asg 6 (.op .mul [.nm 6, .c (.int 10)])]
def b__law_great : List S := [.asg 2 (.c (.int 0)),
  .for_ (.nm 3) ⟨.rng1, [.c (.int 7)]⟩ l0__law_great,
  .asg 4 (.call f__law_mixed [.nm 0, .c (.int 60)]),
  .asg 5 (.op .ix [.op .lst [.op .add [.c (.int 1), .op .mod [.op .fdiv [.nm 4, .c (.int 9)], .nm 1]], .op .add [.c (.int 1), .op .mod [.op .fdiv [.nm 4, .c (.int 9)], .c (.int 3)]], .cp (.nm 1)], .op .mod [.nm 4, .c (.int 3)]]),
  .asg 6 (.c (.int 1)),
  .for_ (.nm 7) ⟨.rng1, [.nm 5]⟩ l1__law_great,
  .ret (.op .mod [.nm 2, .nm 6])]
abbrev N__law_great : List Str := ["_law_cell", "_law_figures_here", "_law_number_here", "_law_j", "_law_more", "_law_many", "_law_bound", "_law_turn"]
theorem m__law_great : mSs ⟨N__law_great, defScope (top 17), bnL, 1, false, none⟩ b__law_great (defBody (top 17)) = true := by decide +kernel
theorem s__law_great : scB N__law_great ["_law_cell", "_law_figures_here"] (defScope (top 17)) = true := by decide +kernel
abbrev r__law_great : List D → FR := runF 8 false b__law_great
def f__law_great : FE := ⟨"_law_great", 2, 2, false, [], r__law_great⟩
theorem ge__law_great (ds : List D) : f__law_great.g ds = runF 8 false b__law_great ds := id rfl
@[simp] theorem fl__law_great_2 (x0 x1 : D) : fillD f__law_great [x0, x1] = [lend x0, lend x1] := fill_eq rfl
theorem h__law_great : ∀ ds, ds.length = f__law_great.np → f__law_great.g ds = runF N__law_great.length f__law_great.m b__law_great ds ∨ f__law_great.g ds = .bad := fun _ _ => .inl rfl
/-! ### _law_common -/
def l0__law_common : List S := [.par 0 1 (.cp (.nm 1)) (.op .mod [.nm 0, .nm 1])]
def b__law_common : List S := [.whl (fuelI 1) (.op .gt [.nm 1, .c (.int 0)]) l0__law_common,
  .ret (.mv 0)]
abbrev N__law_common : List Str := ["_law_one", "_law_other"]
theorem m__law_common : mSs ⟨N__law_common, defScope (top 18), bnL, 0, false, none⟩ b__law_common (defBody (top 18)) = true := by decide +kernel
theorem s__law_common : scB N__law_common ["_law_one", "_law_other"] (defScope (top 18)) = true := by decide +kernel
abbrev r__law_common : List D → FR := runF 2 false b__law_common
def f__law_common : FE := ⟨"_law_common", 2, 1, false, [], r__law_common⟩
theorem ge__law_common (ds : List D) : f__law_common.g ds = runF 2 false b__law_common ds := id rfl
@[simp] theorem fl__law_common_2 (x0 x1 : D) : fillD f__law_common [x0, x1] = [lend x0, lend x1] := fill_eq rfl
theorem h__law_common : ∀ ds, ds.length = f__law_common.np → f__law_common.g ds = runF N__law_common.length f__law_common.m b__law_common ds ∨ f__law_common.g ds = .bad := fun _ _ => .inl rfl
/-! ### _law_figures -/
def l0__law_figures : List S := [.asgT [0, 2] (.op .divmod [.nm 0, .c (.int 10)]),
  .asg 1 (.op .add [.op .ix [.c (.str "0123456789"), .nm 2], .nm 1])]
def b__law_figures : List S := [.asg 1 (.c (.str "")),
  .whl (fuelI 0) (.op .gt [.nm 0, .c (.int 9)]) l0__law_figures,
  .ret (.op .add [.op .ix [.c (.str "0123456789"), .nm 0], .nm 1])]
abbrev N__law_figures : List Str := ["_law_number_here", "_law_found", "_law_last"]
theorem m__law_figures : mSs ⟨N__law_figures, defScope (top 19), bnL, 0, false, none⟩ b__law_figures (defBody (top 19)) = true := by decide +kernel
theorem s__law_figures : scB N__law_figures ["_law_number_here"] (defScope (top 19)) = true := by decide +kernel
abbrev r__law_figures : List D → FR := runF 3 false b__law_figures
def f__law_figures : FE := ⟨"_law_figures", 1, 1, false, [], r__law_figures⟩
theorem ge__law_figures (ds : List D) : f__law_figures.g ds = runF 3 false b__law_figures ds := id rfl
@[simp] theorem fl__law_figures_1 (x0 : D) : fillD f__law_figures [x0] = [lend x0] := fill_eq rfl
theorem h__law_figures : ∀ ds, ds.length = f__law_figures.np → f__law_figures.g ds = runF N__law_figures.length f__law_figures.m b__law_figures ds ∨ f__law_figures.g ds = .bad := fun _ _ => .inl rfl
/-! ### _law_read -/
def b__law_read : List S := [.asg 1 (.c (.non)),
  .try1
    [.asg 1 (.call f_share_in [.nm 0])]
    0 "OddsError" [(1, true)] (some 2) (.exn 1),
  .ret (.mv 1)]
abbrev N__law_read : List Str := ["_law_text", "_law_found", "e"]
theorem m__law_read : mSs ⟨N__law_read, defScope (top 20), bnL, 3, false, none⟩ b__law_read (defBody (top 20)) = true := by decide +kernel
theorem s__law_read : scB N__law_read ["_law_text"] (defScope (top 20)) = true := by decide +kernel
abbrev r__law_read : List D → FR := runF 3 false b__law_read
def f__law_read : FE := ⟨"_law_read", 1, 4, false, [], r__law_read⟩
theorem ge__law_read (ds : List D) : f__law_read.g ds = runF 3 false b__law_read ds := id rfl
@[simp] theorem fl__law_read_1 (x0 : D) : fillD f__law_read [x0] = [lend x0] := fill_eq rfl
theorem h__law_read : ∀ ds, ds.length = f__law_read.np → f__law_read.g ds = runF N__law_read.length f__law_read.m b__law_read ds ∨ f__law_read.g ds = .bad := fun _ _ => .inl rfl
/-! ### _law_written -/
def b__law_written : List S := [.asg 1 (.c (.non)),
  .try1
    [.asg 1 (.call f_text_of [.nm 0])]
    0 "OddsError" [(1, true)] (some 2) (.exn 1),
  .ret (.mv 1)]
abbrev N__law_written : List Str := ["_law_thing", "_law_found", "e"]
theorem m__law_written : mSs ⟨N__law_written, defScope (top 21), bnL, 4, false, none⟩ b__law_written (defBody (top 21)) = true := by decide +kernel
theorem s__law_written : scB N__law_written ["_law_thing"] (defScope (top 21)) = true := by decide +kernel
abbrev r__law_written : List D → FR := runF 3 false b__law_written
def f__law_written : FE := ⟨"_law_written", 1, 5, false, [], r__law_written⟩
theorem ge__law_written (ds : List D) : f__law_written.g ds = runF 3 false b__law_written ds := id rfl
@[simp] theorem fl__law_written_1 (x0 : D) : fillD f__law_written [x0] = [lend x0] := fill_eq rfl
theorem h__law_written : ∀ ds, ds.length = f__law_written.np → f__law_written.g ds = runF N__law_written.length f__law_written.m b__law_written ds ∨ f__law_written.g ds = .bad := fun _ _ => .inl rfl
/-! ### _law_is_refused -/
def b__law_is_refused : List S := [.ret (.band [.op (.isi (.c 1) "NoShare" [(1, true)]) [.nm 0], .op (.isi (.b "ValueError") "ValueError" [(1, true)]) [.nm 0]])]
abbrev N__law_is_refused : List Str := ["_law_found"]
theorem m__law_is_refused : mSs ⟨N__law_is_refused, defScope (top 22), bnL, 0, false, none⟩ b__law_is_refused (defBody (top 22)) = true := by decide +kernel
theorem s__law_is_refused : scB N__law_is_refused ["_law_found"] (defScope (top 22)) = true := by decide +kernel
abbrev r__law_is_refused : List D → FR := runF 1 false b__law_is_refused
def f__law_is_refused : FE := ⟨"_law_is_refused", 1, 1, false, [], r__law_is_refused⟩
theorem ge__law_is_refused (ds : List D) : f__law_is_refused.g ds = runF 1 false b__law_is_refused ds := id rfl
@[simp] theorem fl__law_is_refused_1 (x0 : D) : fillD f__law_is_refused [x0] = [lend x0] := fill_eq rfl
theorem h__law_is_refused : ∀ ds, ds.length = f__law_is_refused.np → f__law_is_refused.g ds = runF N__law_is_refused.length f__law_is_refused.m b__law_is_refused ds ∨ f__law_is_refused.g ds = .bad := fun _ _ => .inl rfl
/-! ### _law_number -/
def l0__law_number : List S := [.ift (.op .nin [.nm 2, .c (.str "0123456789")])
    [.ret (.c (.non))]
    [],
  .asg 1 (.op .add [.op .mul [.nm 1, .c (.int 10)], .mth .find (.c (.str "0123456789")) [.nm 2]])]
def b__law_number : List S := [.asg 1 (.c (.int 0)),
  .for_ (.nm 2) ⟨.seq, [.nm 0]⟩ l0__law_number,
  .ret (.ite (.chain .le .le (.c (.int 1)) (.op .len [.nm 0]) (.c (.int 7))) (.cp (.nm 1)) (.c (.non)))]
abbrev N__law_number : List Str := ["_law_text", "_law_number_here", "_law_sign"]
theorem m__law_number : mSs ⟨N__law_number, defScope (top 23), bnL, 0, false, none⟩ b__law_number (defBody (top 23)) = true := by decide +kernel
theorem s__law_number : scB N__law_number ["_law_text"] (defScope (top 23)) = true := by decide +kernel
abbrev r__law_number : List D → FR := runF 3 false b__law_number
def f__law_number : FE := ⟨"_law_number", 1, 1, false, [], r__law_number⟩
theorem ge__law_number (ds : List D) : f__law_number.g ds = runF 3 false b__law_number ds := id rfl
@[simp] theorem fl__law_number_1 (x0 : D) : fillD f__law_number [x0] = [lend x0] := fill_eq rfl
theorem h__law_number : ∀ ds, ds.length = f__law_number.np → f__law_number.g ds = runF N__law_number.length f__law_number.m b__law_number ds ∨ f__law_number.g ds = .bad := fun _ _ => .inl rfl
/-! ### _law_due -/
def b__law_due : List S := [.asg 1 (.mth .find (.cp (.nm 0)) [.c (.str "/")]),
  .asg 2 (.call f__law_number [.ite (.op .lt [.nm 1, .c (.int 0)]) (.cp (.nm 0)) (.op (.sl false true) [.nm 0, .nm 1])]),
  .asg 3 (.ite (.op .lt [.nm 1, .c (.int 0)]) (.c (.int 1)) (.call f__law_number [.op (.sl true false) [.nm 0, .op .add [.nm 1, .c (.int 1)]]])),
  .ift (.bor [.op .isN [.nm 2], .op .isN [.nm 3], .op .eq [.nm 3, .c (.int 0)]])
    [.ret (.c (.non))]
    [],
  .asg 4 (.call f__law_common [.nm 2, .nm 3]),
  .ret (.op .tup [.op .fdiv [.nm 2, .nm 4], .op .fdiv [.nm 3, .nm 4]])]
abbrev N__law_due : List Str := ["_law_text", "_law_at", "_law_top", "_law_bottom", "_law_both"]
theorem m__law_due : mSs ⟨N__law_due, defScope (top 24), bnL, 1, false, none⟩ b__law_due (defBody (top 24)) = true := by decide +kernel
theorem s__law_due : scB N__law_due ["_law_text"] (defScope (top 24)) = true := by decide +kernel
abbrev r__law_due : List D → FR := runF 5 false b__law_due
def f__law_due : FE := ⟨"_law_due", 1, 2, false, [], r__law_due⟩
theorem ge__law_due (ds : List D) : f__law_due.g ds = runF 5 false b__law_due ds := id rfl
@[simp] theorem fl__law_due_1 (x0 : D) : fillD f__law_due [x0] = [lend x0] := fill_eq rfl
theorem h__law_due : ∀ ds, ds.length = f__law_due.np → f__law_due.g ds = runF N__law_due.length f__law_due.m b__law_due ds ∨ f__law_due.g ds = .bad := fun _ _ => .inl rfl
/-! ### _law_part -/
def c0__law_part : List E := []
def e0__law_part : E := .op .ix [.c (.str "0123456789"), .op .mod [.call f__law_mixed [.nm 2, .nm 5], .c (.int 10)]]
def b__law_part : List S := [.asg 2 (.call f__law_mixed [.nm 0, .nm 1]),
  .asg 3 (.op .rep [.c (.str "0"), .op .mul [.op .mod [.op .fdiv [.nm 2, .c (.int 3)], .c (.int 4)], .op .int [.op .eq [.op .mod [.nm 2, .c (.int 3)], .c (.int 1)]]]]),
  .asg 4 (.op .ix [.op .lst [.op .mod [.op .fdiv [.nm 2, .c (.int 12)], .c (.int 9)], .c (.int 1), .c (.int 7)], .op .mod [.op .fdiv [.nm 2, .c (.int 108)], .c (.int 3)]]),
  .ret (.op .add [.nm 3, .mth .join (.c (.str "")) [.comp [5] (.nm 5) .rng1 [.nm 4] c0__law_part e0__law_part]])]
abbrev N__law_part : List Str := ["_law_cell", "_law_k", "_law_more", "_law_noughts", "_law_many", "_law_j"]
theorem m__law_part : mSs ⟨N__law_part, defScope (top 25), bnL, 1, false, none⟩ b__law_part (defBody (top 25)) = true := by decide +kernel
theorem s__law_part : scB N__law_part ["_law_cell", "_law_k"] (defScope (top 25)) = true := by decide +kernel
abbrev r__law_part : List D → FR := runF 6 false b__law_part
def f__law_part : FE := ⟨"_law_part", 2, 2, false, [], r__law_part⟩
theorem ge__law_part (ds : List D) : f__law_part.g ds = runF 6 false b__law_part ds := id rfl
@[simp] theorem fl__law_part_2 (x0 x1 : D) : fillD f__law_part [x0, x1] = [lend x0, lend x1] := fill_eq rfl
theorem h__law_part : ∀ ds, ds.length = f__law_part.np → f__law_part.g ds = runF N__law_part.length f__law_part.m b__law_part ds ∨ f__law_part.g ds = .bad := fun _ _ => .inl rfl
/-! ### _law_drawn -/
def b__law_drawn : List S := [.asg 1 (.call f__law_part [.nm 0, .c (.int 1)]),
  .asg 2 (.call f__law_mixed [.nm 0, .c (.int 2)]),
  .ift (.op .gt [.op .mod [.nm 2, .c (.int 3)], .c (.int 0)])
    [.asg 1 (.op .add [.op .add [.nm 1, .c (.str "/")], .call f__law_part [.nm 0, .c (.int 3)]])]
    [],
  .ift (.op .eq [.op .mod [.op .fdiv [.nm 2, .c (.int 3)], .c (.int 2)], .c (.int 1)])
    [.asg 3 (.op .mod [.op .fdiv [.nm 2, .c (.int 6)], .op .add [.op .len [.nm 1], .c (.int 1)]]),
    .asg 4 (.op .ix [.c (.str "0123456789/ -+._x'\n	"), .op .mod [.op .fdiv [.nm 2, .c (.int 120)], .c (.int 20)]]),
    .asg 5 (.op .add [.op (.sl false true) [.nm 1, .nm 3], .op .rep [.nm 4, .op .mod [.op .fdiv [.nm 2, .c (.int 2400)], .c (.int 2)]]]),
    .asg 1 (.op .add [.nm 5, .op (.sl true false) [.nm 1, .op .add [.nm 3, .op .mod [.op .fdiv [.nm 2, .c (.int 4800)], .c (.int 2)]]]])]
    [],
  .ret (.mv 1)]
abbrev N__law_drawn : List Str := ["_law_cell", "_law_text", "_law_more", "_law_at", "_law_sign", "_law_ahead"]
theorem m__law_drawn : mSs ⟨N__law_drawn, defScope (top 26), bnL, 2, false, none⟩ b__law_drawn (defBody (top 26)) = true := by decide +kernel
theorem s__law_drawn : scB N__law_drawn ["_law_cell"] (defScope (top 26)) = true := by decide +kernel
abbrev r__law_drawn : List D → FR := runF 6 false b__law_drawn
def f__law_drawn : FE := ⟨"_law_drawn", 1, 3, false, [], r__law_drawn⟩
theorem ge__law_drawn (ds : List D) : f__law_drawn.g ds = runF 6 false b__law_drawn ds := id rfl
@[simp] theorem fl__law_drawn_1 (x0 : D) : fillD f__law_drawn [x0] = [lend x0] := fill_eq rfl
theorem h__law_drawn : ∀ ds, ds.length = f__law_drawn.np → f__law_drawn.g ds = runF N__law_drawn.length f__law_drawn.m b__law_drawn ds ∨ f__law_drawn.g ds = .bad := fun _ _ => .inl rfl
/-! ### law -/
def l0_law : List S := [.asg 2 (.call f__law_mixed [.call f__law_cell_at [.nm 0, .nm 1], .nm 1]),
  .asg 3 (.call f_share [.call f__law_great [.nm 2, .c (.int 40)], .op .add [.c (.int 1), .op .mul [.call f__law_great [.op .fdiv [.nm 2, .c (.int 5)], .c (.int 40)], .op .int [.op .gt [.op .mod [.nm 2, .c (.int 3)], .c (.int 0)]]]]]),
  .asg 4 (.op .add [.call f__law_figures [.op .ix [.nm 3, .c (.int 0)]], .op .rep [.op .add [.c (.str "/"), .call f__law_figures [.op .ix [.nm 3, .c (.int 1)]]], .op .int [.op .gt [.op .ix [.nm 3, .c (.int 1)], .c (.int 1)]]]]),
  .asg 5 (.call f__law_written [.nm 3]),
  .ift (.bor [.op .not [.op (.isi (.b "str") "str" []) [.nm 5]], .op .ne [.nm 5, .nm 4]])
    [.ret (.c (.bl false))]
    [],
  .ift (.band [.op .lt [.op .ix [.nm 3, .c (.int 0)], .op .pow [.c (.int 10), .c (.int 7)]], .op .lt [.op .ix [.nm 3, .c (.int 1)], .op .pow [.c (.int 10), .c (.int 7)]], .op .ne [.call f__law_read [.nm 4], .nm 3]])
    [.ret (.c (.bl false))]
    [],
  .asg 6 (.call f__law_drawn [.call f__law_mixed [.call f__law_cell_at [.nm 0, .op .add [.nm 1, .c (.int 1)]], .op .add [.nm 1, .c (.int 1)]]]),
  .asg 5 (.call f__law_read [.nm 6]),
  .ift (.op .isN [.call f__law_due [.nm 6]])
    [.ift (.op .not [.call f__law_is_refused [.nm 5]])
      [.ret (.c (.bl false))]
      []]
    [.ift (.op .ne [.nm 5, .call f__law_due [.nm 6]])
      [.ret (.c (.bl false))]
      []],
  .asg 7 (.op .ix [.op .lst [.c (.non), .c (.int 5), .op .lst [.c (.str "1")], .c (.bl true), .op .tup [.c (.int 1), .c (.int 2)], .op .dnk [], .op .tup [.c (.str "1/2")], .op .tup [.c (.int 6), .c (.int 4)]], .op .mod [.op .fdiv [.nm 2, .c (.int 3)], .c (.int 8)]]),
  .ift (.bor [.op .not [.call f__law_is_refused [.call f__law_read [.nm 7]]], .band [.op .ne [.nm 7, .op .tup [.c (.int 1), .c (.int 2)]], .op .not [.call f__law_is_refused [.call f__law_written [.nm 7]]]]])
    [.ret (.c (.bl false))]
    []]
def b_law : List S := [.for_ (.nm 1) ⟨.rng3, [.c (.int 0), .op .max2 [.c (.int 2), .op .min2 [.c (.int 32), .op .len [.nm 0]]], .c (.int 2)]⟩ l0_law,
  .ret (.c (.bl true))]
abbrev N_law : List Str := ["_law_script", "_law_k", "_law_cell", "_law_one", "_law_due_here", "_law_found", "_law_text", "_law_odd"]
theorem m_law : mSs ⟨N_law, defScope (top 27), bnL, 5, false, none⟩ b_law (defBody (top 27)) = true := by decide +kernel
theorem s_law : scB N_law ["_law_script"] (defScope (top 27)) = true := by decide +kernel
abbrev r_law : List D → FR := runF 8 false b_law
def f_law : FE := ⟨"law", 1, 6, false, [], r_law⟩
theorem ge_law (ds : List D) : f_law.g ds = runF 8 false b_law ds := id rfl
@[simp] theorem fl_law_1 (x0 : D) : fillD f_law [x0] = [lend x0] := fill_eq rfl
theorem h_law : ∀ ds, ds.length = f_law.np → f_law.g ds = runF N_law.length f_law.m b_law ds ∨ f_law.g ds = .bad := fun _ _ => .inl rfl
end TT.Law
namespace TT.Law
open PySem L2 TT
/-! ### is_whole -/
theorem whole_int (i m : Int) : f_is_whole.g [.int i, .int m] = .ok (.bl (decide (m ≤ i))) .dead := by simp [f_is_whole, runF_eq, b_is_whole]
theorem whole_bl (b : Bool) (m : Int) : f_is_whole.g [.bl b, .int m] = .ok (.bl false) .dead := by simp [f_is_whole, runF_eq, b_is_whole]
theorem whole_non (m : Int) : f_is_whole.g [.non, .int m] = .ok (.bl false) .dead := by simp [f_is_whole, runF_eq, b_is_whole]
theorem whole_str (b : Str) (m : Int) : f_is_whole.g [.str b, .int m] = .ok (.bl false) .dead := by simp [f_is_whole, runF_eq, b_is_whole]
theorem whole_tup (fl : Fl) (xs : List D) (m : Int) : f_is_whole.g [.tup fl xs, .int m] = .ok (.bl false) .dead := by simp [f_is_whole, runF_eq, b_is_whole]
theorem whole_lst (fl : Fl) (xs : List D) (m : Int) : f_is_whole.g [.lst fl xs, .int m] = .ok (.bl false) .dead := by simp [f_is_whole, runF_eq, b_is_whole]
theorem whole_dk (fl : Fl) (ks : List Key) (xs : List D) (m : Int) : f_is_whole.g [.dk fl ks xs, .int m] = .ok (.bl false) .dead := by simp [f_is_whole, runF_eq, b_is_whole]
/-! ### common -/
theorem common_run (a b : Nat) : f_common.g [.int a, .int b] = .ok (.int (Nat.gcd a b : Nat)) .dead := by
  obtain ⟨y, e⟩ := gcd_loop (c := evE (.op .gt [.nm 1, .c (.int 0)])) (f := exSs l0_common) (fun a b x => [.int a, .int b, x]) (fun a b x => by simp) (fun a b x hb => by
    have : (0 : Int) < b := by omega
    simp [l0_common, hb]) (b + 1) a b .dead (by omega)
  simp only [f_common, runF_eq, b_common, run_cons, run_whl]
  simp only [fuelI, List.cons_append, List.nil_append, List.length_cons, List.length_nil]
  simp [e]
/-! ### share -/
theorem int_div (a b : Nat) : (a : Int) / (b : Int) = ((a / b : Nat) : Int) := rfl
theorem share_run (a b : Nat) (hb : 0 < b) (hs : b < 2 ^ 9000) : f_share.g [.int a, .int b] = .ok (.tup .shr [.int (a / Nat.gcd a b : Nat), .int (b / Nat.gcd a b : Nat)]) .dead := by
  have g0 : 0 < Nat.gcd a b := Nat.gcd_pos_of_pos_right a hb
  have g1 : (Nat.gcd a b).log2 < 9000 := log2_lt (Nat.lt_of_le_of_lt (Nat.gcd_le_right a hb) hs) (by omega)
  have hb' : (1 : Int) ≤ b := by omega
  have ha' : (0 : Int) ≤ a := by omega
  simp only [ge_share]; simp [runF_eq, b_share, whole_int, common_run, hb', g0, g1, newTup, goodKids, tupOf]
def Ref (x : D) (m : Int) : Prop := isDead x = false ∧ f_is_whole.g [lend x, .int m] = .ok (.bl false) .dead
theorem share_bad1 {x y : D} (h : Ref x 0) : f_share.g [x, y] = .exc 1 [] [] .dead := by
  simp only [ge_share]; simp [runF_eq, b_share, h.1, h.2]
theorem share_bad2 {a : Nat} {y : D} (h : Ref y 1) : f_share.g [.int a, y] = .exc 1 [] [] .dead := by
  simp only [ge_share]; simp [runF_eq, b_share, h.1, h.2, whole_int]
theorem int_beq {n m : Nat} : ((n : Int) == (m : Int)) = (n == m) := by rw [Bool.eq_iff_iff]; simp; omega
/-! ### is_share, need_share -/
theorem is_share_run (fl : Fl) (a b : Nat) (hb : 0 < b) : f_is_share.g [.tup fl [.int a, .int b]] = .ok (.bl (Nat.gcd a b == 1)) .dead := by
  have hb' : (1 : Int) ≤ b := by omega
  simp only [ge_is_share]; simp [runF_eq, b_is_share, whole_int, common_run, hb', live]
  exact int_beq (m := 1)
/-- what is no share -/
def NoSh (x : D) : Prop := isDead x = false ∧ f_is_share.g [lend x] = .ok (.bl false) .dead
theorem nosh_non : NoSh .non := ⟨rfl, by simp only [ge_is_share]; simp [runF_eq, b_is_share]⟩
theorem nosh_int (i : Int) : NoSh (.int i) := ⟨rfl, by simp only [ge_is_share]; simp [runF_eq, b_is_share]⟩
theorem nosh_str (i : Str) : NoSh (.str i) := ⟨rfl, by simp only [ge_is_share]; simp [runF_eq, b_is_share]⟩
theorem nosh_bl (i : Bool) : NoSh (.bl i) := ⟨rfl, by simp only [ge_is_share]; simp [runF_eq, b_is_share]⟩
theorem nosh_lst (fl : Fl) (xs : List D) : NoSh (.lst fl xs) := ⟨rfl, by simp only [ge_is_share]; simp [runF_eq, b_is_share]⟩
theorem nosh_len (fl : Fl) (xs : List D) (h : xs.length ≠ 2) : NoSh (.tup fl xs) := ⟨rfl, by
  have : ((refls Fl.lend xs).length : Int) ≠ 2 := by rw [refls_map, List.length_map]; omega
  simp only [ge_is_share]; simp [runF_eq, b_is_share, this]⟩
theorem nosh_1 (fl : Fl) (x y : D) (h : Ref x 0) (h2 : lend x = x) : NoSh (.tup fl [x, y]) := ⟨rfl, by
  have h1 := h.1
  have h3 := h.2
  rw [h2] at h3
  simp only [ge_is_share]; simp [runF_eq, b_is_share, h1, h2, h3, live]⟩
theorem nosh_2 (fl : Fl) (a : Int) (y : D) (h : Ref y 1) (h2 : lend y = y) : NoSh (.tup fl [.int a, y]) := ⟨rfl, by
  have h1 := h.1
  have h3 := h.2
  rw [h2] at h3
  simp only [ge_is_share]; by_cases ha : 0 ≤ a <;> simp [runF_eq, b_is_share, h1, h2, h3, live, whole_int, ha]⟩
theorem nosh_gcd (fl : Fl) (a b : Nat) (hb : 0 < b) (h : Nat.gcd a b ≠ 1) : NoSh (.tup fl [.int a, .int b]) := ⟨rfl, by
  show f_is_share.g [.tup fl.lend [.int a, .int b]] = _
  rw [is_share_run _ _ _ hb]
  simp [h]⟩
theorem ref_int {i m : Int} (h : i < m) : Ref (.int i) m := ⟨rfl, by rw [lend_int, whole_int]; simp; omega⟩
theorem ref_bl {b : Bool} {m : Int} : Ref (.bl b) m := ⟨rfl, whole_bl _ _⟩
theorem ref_non {m : Int} : Ref .non m := ⟨rfl, whole_non _⟩
theorem ref_str {s : Str} {m : Int} : Ref (.str s) m := ⟨rfl, whole_str _ _⟩
theorem ref_tup {fl : Fl} {xs : List D} {m : Int} : Ref (.tup fl xs) m := ⟨rfl, whole_tup _ _ _⟩
theorem ref_lst {fl : Fl} {xs : List D} {m : Int} : Ref (.lst fl xs) m := ⟨rfl, whole_lst _ _ _⟩
theorem ref_dk {fl : Fl} {ks : List Key} {xs : List D} {m : Int} : Ref (.dk fl ks xs) m := ⟨rfl, whole_dk _ _ _ _⟩
theorem need_bad {x : D} (h : NoSh x) : f_need_share.g [x] = .exc 1 [] [] .dead := by
  simp only [ge_need_share]; simp [runF_eq, b_need_share, h.1, h.2]
theorem need_run (a b : Nat) (hb : 0 < b) (h : Nat.gcd a b = 1) : f_need_share.g [.tup .shr [.int a, .int b]] = .ok (.tup .shr [.int a, .int b]) .dead := by
  simp only [ge_need_share]; simp [runF_eq, b_need_share, is_share_run _ _ _ hb, h]
/-! ### the law's own -/
theorem cell_at (ns : List Int) (k : Nat) : ∃ c : Int, f__law_cell_at.g [.scr ns, .int k] = .ok (.int c) .dead := by
  by_cases h : k < ns.length
  · refine ⟨ns[k], ?_⟩
    simp only [ge__law_cell_at]; simp [runF_eq, b__law_cell_at, h, atI_nat h, live]
  · refine ⟨0, ?_⟩
    simp only [ge__law_cell_at]
    have : ¬ ((k : Int) < (ns.length : Int)) := by omega
    simp [runF_eq, b__law_cell_at, h]
theorem mixed (c : Int) (k : Nat) (hk : k ≤ 1000) : ∃ n : Nat, n < 2147483629 ∧ f__law_mixed.g [.int c, .int k] = .ok (.int n) .dead := by
  refine ⟨((c * (48271 + 2 * k * k) + 69621 * k + 11) % 2147483647 * 69621 % 2147483629).toNat, ?_, ?_⟩
  · have := Int.emod_lt_of_pos ((c * (48271 + 2 * k * k) + 69621 * k + 11) % 2147483647 * 69621) (show (0 : Int) < 2147483629 by omega)
    omega
  · have h0 := Int.emod_nonneg ((c * (48271 + 2 * k * k) + 69621 * k + 11) % 2147483647 * 69621) (show (2147483629 : Int) ≠ 0 by omega)
    have hk2 : k * k ≤ 1000 * 1000 := Nat.mul_le_mul hk hk
    have m1 : mulOk 2 (k : Int) = true := mulOk_l (by omega)
    have m2 : mulOk (2 * (k : Int)) (k : Int) = true := mulOk_r (by omega)
    have e : 2 * (k : Int) * k = ((2 * (k * k) : Nat) : Int) := by rw [Int.mul_assoc]; rfl
    have m3 : mulOk c (48271 + 2 * (k : Int) * k) = true := mulOk_r (by rw [e]; omega)
    have m4 : mulOk 69621 (k : Int) = true := mulOk_l (by omega)
    have m5 : mulOk ((c * (48271 + 2 * k * k) + 69621 * k + 11) % 2147483647) 69621 = true := mulOk_r (by omega)
    simp only [ge__law_mixed]; simp [runF_eq, b__law_mixed, m1, m2, m3, m4, m5]
    omega
/-! ### great -/
theorem lc_run (a b : Nat) : f__law_common.g [.int a, .int b] = .ok (.int (Nat.gcd a b : Nat)) .dead := by
  obtain ⟨y, e⟩ := gcd_loop (c := evE (.op .gt [.nm 1, .c (.int 0)])) (f := exSs l0__law_common) (fun a b x => [.int a, .int b]) (fun a b x => by simp) (fun a b x hb => by
    have : (0 : Int) < b := by omega
    exact ⟨.dead, by simp [l0__law_common, hb]⟩) (b + 1) a b .dead (by omega)
  simp only [f__law_common, runF_eq, b__law_common, run_cons, run_whl]
  simp only [fuelI, List.cons_append, List.nil_append, List.length_cons, List.length_nil]
  simp [e]
end TT.Law
namespace TT.Law
open PySem L2 TT
theorem great (c : Int) (k : Nat) (h1 : 3 ≤ k) (h2 : k ≤ 40) : ∃ n : Nat, n < 10 ^ k ∧ f__law_great.g [.int c, .int k] = .ok (.int n) .dead := by
  obtain ⟨s1, e1, N, x, rfl⟩ := loopF_inv (f := bodyO (.nm 3) l0__law_great) (fun s => ∃ (N : Nat) (x : D), s = [.int c, .int k, .int N, x, .dead, .dead, .dead, .dead]) (xs := rngD 0 7 1) (s := [.int c, .int k, .int 0, .dead, .dead, .dead, .dead, .dead]) (fun d hd s hs => by
    obtain ⟨j, hj, rfl⟩ := rngD_mem hd
    obtain ⟨N, x, rfl⟩ := hs
    obtain ⟨m, hm, em⟩ := mixed c (50 + j) (by omega)
    rw [show ((50 + j : Nat) : Int) = (50 : Int) + j by omega] at em
    have m1 : mulOk (N : Int) 2147483629 = true := mulOk_r (by omega)
    refine ⟨_, ?_, N * 2147483629 + m, .int j, rfl⟩
    simp [l0__law_great, em, m1]) ⟨0, .dead, rfl⟩
  obtain ⟨m, hm, em⟩ := mixed c 60 (by omega)
  have em : f__law_mixed.g [.int c, .int 60] = .ok (.int m) .dead := em
  have fin : ∀ (w : Nat), w ≤ k → ∃ z, loopF (bodyO (.nm 7) l1__law_great) (rngD 0 w 1) [.int c, .int k, .int N, x, .int m, .int w, .int 1, .dead] = .nx [.int c, .int k, .int N, x, .int m, .int w, .int ((10 : Int) ^ w), z] := fun w hw => by
    obtain ⟨s2, e2, z, rfl⟩ := loopF_ix (f := bodyO (.nm 7) l1__law_great) (fun i s => ∃ z, s = [.int c, .int k, .int N, x, .int m, .int w, .int ((10 : Int) ^ i), z]) (xs := rngD 0 w 1) (k := 0) (s := [.int c, .int k, .int N, x, .int m, .int w, .int 1, .dead]) (fun i d hd s hs => by
      obtain ⟨z, rfl⟩ := hs
      have m1 : mulOk ((10 : Int) ^ i) 10 = true := mulOk_r (by omega)
      refine ⟨_, ?_, d, rfl⟩
      simp [l1__law_great, m1, Int.pow_succ]) ⟨.dead, by simp⟩
    exact ⟨z, by rw [e2, rngD_len]; simp⟩
  have fin2 : ∀ (w : Nat), 1 ≤ w → w ≤ k → ∃ n : Nat, n < 10 ^ k ∧ ∃ z, loopF (bodyO (.nm 7) l1__law_great) (rngD 0 w 1) [.int c, .int k, .int N, x, .int m, .int w, .int 1, .dead] = .nx [.int c, .int k, .int N, x, .int m, .int w, .int ((10 : Int) ^ w), z] ∧ (N : Int) % (10 : Int) ^ w = n ∧ (0 : Int) < 10 ^ w := fun w h3 h4 => by
    obtain ⟨z, e⟩ := fin w h4
    have h5 : (0 : Nat) < 10 ^ w := Nat.pow_pos (by omega)
    refine ⟨N % 10 ^ w, Nat.lt_of_lt_of_le (Nat.mod_lt _ h5) (Nat.pow_le_pow_right (by omega) h4), z, e, ?_, ?_⟩
    · rw [show (10 : Int) ^ w = ((10 ^ w : Nat) : Int) by simp]; rfl
    · rw [show (10 : Int) ^ w = ((10 ^ w : Nat) : Int) by simp]; omega
  have hk : (0 : Int) < k := by omega
  have l0 : k.log2 < 9000 := by
    by_cases h0 : k = 0
    · omega
    · have := (Nat.log2_lt h0 (k := 6)).2 (by omega)
      omega
  have h01 : (m : Int) % 3 = 0 ∨ (m : Int) % 3 = 1 ∨ (m : Int) % 3 = 2 := by omega
  obtain ⟨w1, hw1⟩ : ∃ w1 : Nat, 1 + (m : Int) / 9 % k = w1 := ⟨1 + m / 9 % k, rfl⟩
  obtain ⟨w2, hw2⟩ : ∃ w2 : Nat, 1 + (m : Int) / 9 % 3 = w2 := ⟨1 + m / 9 % 3, rfl⟩
  have b1 : (m : Int) / 9 % k < k := Int.emod_lt_of_pos _ hk
  have b1' : 0 ≤ (m : Int) / 9 % k := Int.emod_nonneg _ (by omega)
  have b2 : (m : Int) / 9 % 3 < 3 := Int.emod_lt_of_pos _ (by omega)
  have b2' : 0 ≤ (m : Int) / 9 % 3 := Int.emod_nonneg _ (by omega)
  have key : ∀ (w : Nat), w ≤ k → 1 ≤ w → (∃ n : Nat, n < 10 ^ k ∧ endF false (((loopF (bodyO (.nm 7) l1__law_great) (rngD 0 w 1) [.int c, .int k, .int N, x, .int m, .int w, .int 1, .dead])).bind (exSs [.ret (.op .mod [.nm 2, .nm 6])])) = .ok (.int n) .dead) := fun w h3 h4 => by
    obtain ⟨n, hn, z, e2, e3, e4⟩ := fin2 w h4 h3
    refine ⟨n, hn, ?_⟩
    rw [e2]
    simp [e4, e3]
  have q1 : w1 < 4611686018427387904 := by omega
  have q2 : w2 < 4611686018427387904 := by omega
  have q3 : k < 4611686018427387904 := by omega
  have hk' : 0 < k := by omega
  rcases h01 with h | h | h
  · obtain ⟨n, hn, e⟩ := key w1 (by omega) (by omega)
    refine ⟨n, hn, ?_⟩
    rw [← e]
    simp only [ge__law_great]
    simp [runF_eq, b__law_great, e1, em, h, hk', l0, hw1, newLst, goodKids, live, q1]
  · obtain ⟨n, hn, e⟩ := key w2 (by omega) (by omega)
    refine ⟨n, hn, ?_⟩
    rw [← e]
    simp only [ge__law_great]
    simp [runF_eq, b__law_great, e1, em, h, hk', l0, hw2, newLst, goodKids, live, q2]
  · obtain ⟨n, hn, e⟩ := key k (by omega) (by omega)
    refine ⟨n, hn, ?_⟩
    rw [← e]
    simp only [ge__law_great]
    simp [runF_eq, b__law_great, e1, em, h, hk', l0, newLst, goodKids, live, q3]
end TT.Law
namespace TT.Law
open PySem L2 TT
theorem mulN {i j : Nat} {a b : Nat} (ha : i < 2 ^ a) (hb : j < 2 ^ b) (h1 : 0 < a) (h2 : 0 < b) (h : a + b < 1000000) : mulOk (i : Int) (j : Int) = true := mulOk_w (a := a) (b := b) (by simpa using ha) (by simpa using hb) h1 h2 h
theorem mul_lt_two {i j a b : Nat} (ha : i < 2 ^ a) (hb : j < 2 ^ b) : i * j < 2 ^ (a + b) := by
  rw [Nat.pow_add]
  exact Nat.mul_lt_mul'' ha hb
theorem small_pow {n a : Nat} (h : n < 2 ^ a) {b : Nat} (hab : a ≤ b) : n < 2 ^ b := Nat.lt_of_lt_of_le h (Nat.pow_le_pow_right (by omega) hab)
theorem gcd_div (a b : Nat) (hb : 0 < b) : Nat.gcd (a / Nat.gcd a b) (b / Nat.gcd a b) = 1 := by
  obtain ⟨x, hx⟩ := Nat.gcd_dvd_left a b
  obtain ⟨y, hy⟩ := Nat.gcd_dvd_right a b
  have hp : 0 < Nat.gcd a b := Nat.gcd_pos_of_pos_right a hb
  rw [Nat.div_eq_of_eq_mul_right hp hx, Nat.div_eq_of_eq_mul_right hp hy]
  have e : Nat.gcd (Nat.gcd a b * x) (Nat.gcd a b * y) = Nat.gcd a b := by rw [← hx, ← hy]
  rw [Nat.gcd_mul_left] at e
  exact Nat.eq_of_mul_eq_mul_left hp (by omega)
theorem cross (a b : Nat) : (a / Nat.gcd a b) * b = (b / Nat.gcd a b) * a := by
  obtain ⟨x, hx⟩ := Nat.gcd_dvd_left a b
  obtain ⟨y, hy⟩ := Nat.gcd_dvd_right a b
  by_cases h : Nat.gcd a b = 0
  · simp [h]
  · have hp : 0 < Nat.gcd a b := by omega
    have e1 : a / Nat.gcd a b = x := Nat.div_eq_of_eq_mul_right hp hx
    have e2 : b / Nat.gcd a b = y := Nat.div_eq_of_eq_mul_right hp hy
    rw [e1, e2]
    generalize Nat.gcd a b = g at *
    subst hx hy
    simp [Nat.mul_comm, Nat.mul_left_comm]
theorem ten40 : (10 : Nat) ^ 40 + 1 < 2 ^ 134 := by decide
theorem ten20 : (10 : Nat) ^ 20 + 1 < 2 ^ 68 := by decide
theorem div_pos_gcd (a b : Nat) (hb : 0 < b) : 0 < b / Nat.gcd a b := Nat.div_pos (Nat.gcd_le_right a hb) (Nat.gcd_pos_of_pos_right a hb)
end TT.Law
namespace TT.Law
open PySem L2 TT TL
abbrev S (a b : Nat) : D := .tup .shr [.int a, .int b]
abbrev RS (t u : Nat) : D := S (t / Nat.gcd t u) (u / Nat.gcd t u)
theorem share_runS (t u : Nat) (h : 0 < u) (hs : u < 2 ^ 9000) : f_share.g [.int t, .int u] = .ok (RS t u) .dead := share_run t u h hs
/-- a text by its signs -/
abbrev tx (l : List Nat) : Str := ⟨l.toArray⟩
theorem tx_len {l : List Nat} : (tx l).length = l.length := by simp [Str.length]
theorem tx_app {l m : List Nat} : tx l ++ tx m = tx (l ++ m) := ext_tl (by rw [tl_append])
theorem tx_tl (s : Str) : tx (tl s) = s := mk_tl s
theorem str_num (n : Nat) : Str.ofString (toString (n : Int)) = tx (numL n) := by rw [← tl_num n]
theorem dig_at (d : Nat) (h : d < 10) : ixD (.str "0123456789") (.int d) = some (.str (tx [48 + d])) := by
  have hl : (Str.ofString "0123456789").length ≤ sizeLine := by rw [szl]; decide
  show (if (Str.ofString "0123456789").length ≤ sizeLine then (atI (Str.ofString "0123456789").cps.toList (d : Int)).map fun c => D.str ⟨#[c]⟩ else none) = _
  rw [if_pos hl]
  have h10 : d = 0 ∨ d = 1 ∨ d = 2 ∨ d = 3 ∨ d = 4 ∨ d = 5 ∨ d = 6 ∨ d = 7 ∨ d = 8 ∨ d = 9 := by omega
  rcases h10 with rfl | rfl | rfl | rfl | rfl | rfl | rfl | rfl | rfl | rfl <;> rfl
/-! figures -/
theorem figs_loop (c : List D → R D) (f : List D → O) (hc : ∀ n acc x, c [.int (n : Nat), .str (tx acc), x] = .ok (.bl (decide (9 < n))) [.int (n : Nat), .str (tx acc), x])
    (hf : ∀ n acc x, n < 2 ^ 1000 → acc.length < 2000 → ∃ y, f [.int (n : Nat), .str (tx acc), x] = .nx [.int (n / 10 : Nat), .str (tx ((48 + n % 10) :: acc)), y]) :
    ∀ (k n : Nat) (acc : List Nat) (x : D), n < k → n < 2 ^ 1000 → n < 10 ^ (1000 - acc.length) → acc.length < 1000 → ∃ m acc' y, m < 10 ∧ loopW c f k [.int (n : Nat), .str (tx acc), x] = .nx [.int (m : Nat), .str (tx acc'), y] ∧ (48 + m) :: acc' = numL n ++ acc ∧ acc'.length < 1000
  | 0, _, _, _, h, _, _, _ => absurd h (Nat.not_lt_zero _)
  | k + 1, n, acc, x, h, h2, h3, h4 => by
    by_cases hn : 9 < n
    · obtain ⟨y, e⟩ := hf n acc x h2 (by omega)
      have hl : acc.length + 1 < 1000 := by
        by_cases z : 1000 - acc.length ≤ 1
        · have : 10 ^ (1000 - acc.length) ≤ 10 ^ 1 := Nat.pow_le_pow_right (by omega) z
          omega
        · omega
      have e3 : n / 10 < 10 ^ (1000 - (acc.length + 1)) := by
        have : 10 ^ (1000 - acc.length) = 10 ^ (1000 - (acc.length + 1)) * 10 := by rw [← Nat.pow_succ]; congr 1; omega
        rw [this] at h3
        omega
      obtain ⟨m, acc', y', q1, q2, q3, q4⟩ := figs_loop c f hc hf k (n / 10) ((48 + n % 10) :: acc) y (by omega) (by omega) (by simpa using e3) (by simpa using hl)
      refine ⟨m, acc', y', q1, ?_, ?_, q4⟩
      · rw [loopW_step (s1 := [.int (n : Nat), .str (tx acc), x]) (by rw [hc]; simp [hn]) e]
        exact q2
      · rw [q3, numL_step (n := n) (by omega)]
        simp
    · refine ⟨n, acc, x, by omega, ?_, ?_, h4⟩
      · rw [loopW_done (s1 := [.int (n : Nat), .str (tx acc), x]) (by rw [hc]; simp [hn])]
      · rw [numL_lt (by omega)]; rfl
@[simp] theorem addD_ss {x y : Str} : addD (.str x) (.str y) = if x.length + y.length ≤ sizeLine then some (.str (x ++ y)) else none := id rfl
theorem bits_ok {n : Nat} (h : n < 2 ^ 1000) : Builtin.Int.intBits (n : Int) ≤ Builtin.Int.intBits 10 + 4000 := by
  have h1 : Builtin.Int.intBits (n : Int) ≤ 1001 := by
    unfold Builtin.Int.intBits
    split
    · omega
    · have := log2_lt h (by omega)
      rw [Int.natAbs_natCast]
      omega
  omega
theorem figures_run (n : Nat) (h : n < 2 ^ 1000) : f__law_figures.g [.int n] = .ok (.str (tx (numL n))) .dead := by
  have h10 : (2 : Nat) ^ 1000 ≤ 10 ^ 1000 := Nat.pow_le_pow_left (by omega) _
  obtain ⟨m, acc, y, q0, q1, q2, q3⟩ := figs_loop (evE (.op .gt [.nm 0, .c (.int 9)])) (exSs l0__law_figures) (fun n acc x => by simp; omega) (fun n acc x hn ha => by
    have dg : ixD (.str "0123456789") (.int ((n : Int) % 10)) = some (.str (tx [48 + n % 10])) := dig_at (n % 10) (Nat.mod_lt _ (by omega))
    have ib := bits_ok hn
    have hl : acc.length ≤ 16777215 := by omega
    have hl2 : 1 + acc.length ≤ 16777216 := by omega
    refine ⟨.int ((n : Int) % 10), ?_⟩
    simp [l0__law_figures, ib, dg, live, tx_len, hl2, tx_app]) (n + 1) n [] .dead (by omega) h (by simp; omega) (by simp)
  have dg := dig_at m q0
  have hl2 : 1 + acc.length ≤ 16777216 := by omega
  simp only [ge__law_figures, runF_eq, b__law_figures, run_cons, run_asg, ev_c, Rok_then, kAsg_eq, Onx_bind, run_whl]
  simp only [fuelI, List.cons_append, List.nil_append, List.length_cons, List.length_nil]
  have e0 : (Str.ofString "") = tx [] := rfl
  simp [e0, q1, dg, live, tx_len, hl2, tx_app, q2]
end TT.Law
namespace TT.Law
open PySem L2 TT TL
abbrev FG : Str := "0123456789"
def isDg (c : Nat) : Bool := decide (48 ≤ c ∧ c ≤ 57)
theorem fg_mem (c : Nat) : decide (c ∈ FG.cps.toList) = isDg c := by
  have h : FG.cps.toList = [48, 49, 50, 51, 52, 53, 54, 55, 56, 57] := by rfl
  rw [h]
  unfold isDg
  rw [Bool.eq_iff_iff]
  simp
  omega
theorem in_fg (c : Nat) : inD (.str ⟨#[c]⟩) (.str FG) = some (isDg c) := by
  show (if (#[c] : Array Nat).size = 1 then some (decide ((#[c] : Array Nat).getD 0 0 ∈ FG.cps.toList)) else none) = _
  rw [if_pos (show (#[c] : Array Nat).size = 1 from rfl)]
  exact congrArg some (fg_mem c)
theorem find_fg (c : Nat) (h : isDg c = true) : Txt.find FG ⟨#[c]⟩ = ((c - 48 : Nat) : Int) := by
  have : ∀ d < 10, Txt.find FG ⟨#[48 + d]⟩ = (d : Nat) := by decide +kernel
  have hc : 48 ≤ c ∧ c ≤ 57 := by simpa [isDg] using h
  have q := this (c - 48) (by omega)
  rw [show 48 + (c - 48) = c by omega] at q
  exact q
def numOf (l : List Nat) : Option Nat := if l.all isDg = true ∧ 1 ≤ l.length ∧ l.length ≤ 7 then some (NumText.digitsVal l) else none
def optD : Option Nat → D
  | some n => .int n
  | none => .non
theorem num_loop (t : D) : ∀ (l : List Nat) (a : Nat) (x : D), (l.all isDg = true → ∃ y, loopF (bodyO (.nm 2) l0__law_number) (l.map fun c => .str ⟨#[c]⟩) [t, .int a, x] = .nx [t, .int ((l.foldl (fun acc c => acc * 10 + (c - 48)) a : Nat)), y]) ∧
    (l.all isDg = false → ∃ s, loopF (bodyO (.nm 2) l0__law_number) (l.map fun c => .str ⟨#[c]⟩) [t, .int a, x] = .rt .non s)
  | [], a, x => ⟨fun _ => ⟨x, rfl⟩, fun h => by simp at h⟩
  | c :: l, a, x => by
    have i1 := in_fg c
    cases hc : isDg c with
    | true =>
      rw [hc] at i1
      have f1 := find_fg c hc
      have h48 : 48 ≤ c := by
        have : 48 ≤ c ∧ c ≤ 57 := by simpa [isDg] using hc
        exact this.1
      have m1 : mulOk (a : Int) 10 = true := mulOk_r (by omega)
      have st : bodyO (.nm 2) l0__law_number (.str ⟨#[c]⟩) [t, .int a, x] = .nx [t, .int ((a * 10 + (c - 48) : Nat)), .str ⟨#[c]⟩] := by
        have e : (a : Int) * 10 + ((c - 48 : Nat) : Int) = ((a * 10 + (c - 48) : Nat) : Int) := by omega
        obtain ⟨w, hw⟩ : ∃ w : Nat, w = c - 48 := ⟨_, rfl⟩
        rw [← hw] at f1 e ⊢
        simp [l0__law_number, i1, f1, m1]
      obtain ⟨q1, q2⟩ := num_loop t l (a * 10 + (c - 48)) (.str ⟨#[c]⟩)
      refine ⟨fun h => ?_, fun h => ?_⟩
      · obtain ⟨y, e⟩ := q1 (by simpa [hc] using h)
        refine ⟨y, ?_⟩
        rw [List.map_cons, loopF, st]
        exact e
      · obtain ⟨s, e⟩ := q2 (by simpa [hc] using h)
        refine ⟨s, ?_⟩
        rw [List.map_cons, loopF, st]
        exact e
    | false =>
      rw [hc] at i1
      have st : bodyO (.nm 2) l0__law_number (.str ⟨#[c]⟩) [t, .int a, x] = .rt .non [t, .int a, .str ⟨#[c]⟩] := by
        simp [l0__law_number, i1]
      refine ⟨fun h => by simp [hc] at h, fun _ => ⟨[t, .int a, .str ⟨#[c]⟩], ?_⟩⟩
      rw [List.map_cons, loopF, st]
theorem number_run (l : List Nat) (hl : l.length ≤ 1000) : f__law_number.g [.str (tx l)] = .ok (optD (numOf l)) .dead := by
  obtain ⟨q1, q2⟩ := num_loop (.str (tx l)) l 0 .dead
  have hz : l.length ≤ 16777216 := by omega
  cases ha : l.all isDg with
  | false =>
    obtain ⟨s, e⟩ := q2 ha
    have e : loopF (bodyO (.nm 2) l0__law_number) (l.map fun c => .str ⟨#[c]⟩) [.str (tx l), .int 0, .dead] = .rt .non s := e
    have hn : numOf l = none := by unfold numOf; simp [ha]
    rw [hn]
    simp only [ge__law_number]
    simp [runF_eq, b__law_number, e, optD]
  | true =>
    obtain ⟨y, e⟩ := q1 ha
    have e : loopF (bodyO (.nm 2) l0__law_number) (l.map fun c => .str ⟨#[c]⟩) [.str (tx l), .int 0, .dead] = .nx [.str (tx l), .int (NumText.digitsVal l : Nat), y] := e
    simp only [ge__law_number]
    by_cases h1 : 1 ≤ l.length
    · by_cases h7 : l.length ≤ 7
      · have hn : numOf l = some (NumText.digitsVal l) := by unfold numOf; simp [ha, h1, h7]
        have i1 : (1 : Int) ≤ (l.length : Int) := by omega
        have i7 : (l.length : Int) ≤ 7 := by omega
        rw [hn]
        simp [runF_eq, b__law_number, e, optD, tx_len, hz, h1, h7, i1, i7]
      · have hn : numOf l = none := by unfold numOf; simp [h7]
        have i1 : (1 : Int) ≤ (l.length : Int) := by omega
        have i7 : ¬ (l.length : Int) ≤ 7 := by omega
        rw [hn]
        simp [runF_eq, b__law_number, e, optD, tx_len, hz, h1, h7, i1, i7]
    · have hn : numOf l = none := by unfold numOf; simp [h1]
      have i1 : ¬ (1 : Int) ≤ (l.length : Int) := by omega
      rw [hn]
      simp [runF_eq, b__law_number, e, optD, tx_len, hz, h1, i1]
end TT.Law
namespace TT.Law
open PySem L2 TT TL
@[simp] theorem own_dead : noOwn .dead = true := id rfl
def gIn : D → D
  | .str x => .bl (isDg (x.cps.getD 0 0))
  | _ => .non
theorem all_id {l : List Nat} : (l.map isDg).all id = l.all isDg := by
  induction l with
  | nil => rfl
  | cons c l ih => simp [ih]
theorem number_in_run (l : List Nat) (hl : l.length ≤ 1000) : f_number_in.g [.str (tx l)] = match numOf l with | some n => .ok (.int n) .dead | none => .exc 1 [] [] .dead := by
  have hz : l.length ≤ 16777216 := by omega
  have cm : compO [1] (.nm 1) c0_number_in e0_number_in [.str (tx l), .dead] (some (l.map fun c => .str ⟨#[c]⟩)) = .ok (.lst .own ((l.map fun c => D.str ⟨#[c]⟩).map gIn)) [.str (tx l), .dead] := by
    refine comp_map gIn (by simp) (fun d hd => ?_) ?_ (by simp; omega)
    · obtain ⟨c, hc, rfl⟩ := List.mem_map.1 hd
      refine ⟨[.str (tx l), .str ⟨#[c]⟩], ?_, by simp, by simp⟩
      rw [step_eq]
      have i1 := in_fg c
      simp [c0_number_in, e0_number_in, gIn, i1]
    · rw [List.map_map]
      simp only [goodKids, Bool.and_eq_true]
      refine ⟨?_, ?_⟩
      · rw [noBors_iff]; intro x hx; obtain ⟨p, _, rfl⟩ := List.mem_map.1 hx; rfl
      · rw [List.all_eq_true]; intro x hx; obtain ⟨p, _, rfl⟩ := List.mem_map.1 hx; rfl
  have e1 : (l.map fun c => D.str ⟨#[c]⟩).map gIn = l.map fun c => .bl (isDg c) := by rw [List.map_map]; rfl
  rw [e1] at cm
  have bm := blsOf_map (l := l) (f := isDg)
  simp only [ge_number_in]
  by_cases h1 : 1 ≤ l.length
  · have i1 : (1 : Int) ≤ (l.length : Int) := by omega
    by_cases h7 : l.length ≤ 7
    · have i7 : (l.length : Int) ≤ 7 := by omega
      cases ha : l.all isDg with
      | true =>
        have hn : numOf l = some (NumText.digitsVal l) := by unfold numOf; simp [ha, h1, h7]
        have ad : NumText.AllDigits l := fun c hc => by
          have := List.all_eq_true.1 ha c hc
          simpa [isDg] using this
        have it : PySem.intText? (tx l) = some ((NumText.digitsVal l : Nat) : Int) := PySem.intText_digits (x := tx l) ad (fun z => by
          have : l = [] := z
          rw [this] at h1; simp at h1) (by rw [tx_len]; omega)
        have h64 : l.length ≤ 640 := by omega
        rw [hn]
        have ai := all_id (l := l)
        rw [ha] at ai
        simp [runF_eq, b_number_in, tx_len, hz, h1, h7, i1, i7, cm, bm, ai, it, h64]
      | false =>
        have hn : numOf l = none := by unfold numOf; simp [ha]
        have ai := all_id (l := l)
        rw [ha] at ai
        rw [hn]
        simp [runF_eq, b_number_in, tx_len, hz, h1, h7, i1, i7, cm, bm, ai]
    · have hn : numOf l = none := by unfold numOf; simp [h7]
      have i7 : ¬ (l.length : Int) ≤ 7 := by omega
      rw [hn]
      simp [runF_eq, b_number_in, tx_len, hz, h1, h7, i1, i7]
  · have hn : numOf l = none := by unfold numOf; simp [h1]
    have i1 : ¬ (1 : Int) ≤ (l.length : Int) := by omega
    rw [hn]
    simp [runF_eq, b_number_in, tx_len, hz, h1, i1]
/-! the stroke -/
theorem part_none {l : List Nat} (h : 47 ∉ l) : Txt.partition (tx l) "/" = (tx l, Str.empty, Str.empty) := partition_none (y := "/") (s := 47) (S := []) rfl h
theorem part_some {a b : List Nat} (h : 47 ∉ a) : Txt.partition (tx (a ++ 47 :: b)) "/" = (tx a, Str.ofString "/", tx b) := by
  have q := partition_app (y := "/") (s := 47) (S := []) rfl (a := tx a) (b := tx b) h
  have e : tx a ++ ("/" : Str) ++ tx b = tx (a ++ 47 :: b) := by
    have e1 : (Str.ofString "/") = tx [47] := rfl
    rw [e1, tx_app, tx_app]
    simp
  rw [e] at q
  exact q
theorem find_none {l : List Nat} (h : 47 ∉ l) : Txt.find (tx l) "/" = -1 := by
  have q := part_none h
  unfold Txt.partition at q
  unfold Txt.find
  split at q
  · rename_i i r e
    have : (Str.ofString "/") = Str.empty := congrArg (fun p => p.2.1) q
    exact absurd (congrArg (fun s => s.cps.size) this) (by decide)
  · rename_i e
    rw [e]
theorem find_some {a b : List Nat} (h : 47 ∉ a) : Txt.find (tx (a ++ 47 :: b)) "/" = (a.length : Nat) := by
  have q := part_some (b := b) h
  unfold Txt.partition at q
  unfold Txt.find
  split at q
  · rename_i i r e
    rw [e]
    have w : Builtin.Str.strSub (tx (a ++ 47 :: b)) 0 i = tx a := congrArg (fun p => p.1) q
    have w2 := congrArg tl w
    rw [tl_strSub] at w2
    have w3 : (a ++ 47 :: b).take i = a := w2
    have w4 := congrArg List.length w3
    rw [List.length_take, List.length_append, List.length_cons] at w4
    have : i = a.length := by omega
    rw [this]
  · have : Str.empty = (Str.ofString "/") := congrArg (fun p => p.2.1) q
    exact absurd (congrArg (fun s => s.cps.size) this) (by decide)
/-- the share that a text writes -/
def dueOf (l : List Nat) : Option (Nat × Nat) :=
  if 47 ∈ l then (numOf (l.takeWhile fun c => c != 47)).bind fun t => (numOf ((l.dropWhile fun c => c != 47).drop 1)).bind fun u => if u = 0 then none else some (t, u)
  else (numOf l).map fun t => (t, 1)
theorem take_a {a b : List Nat} (h : 47 ∉ a) : (a ++ 47 :: b).takeWhile (fun c => c != 47) = a ∧ ((a ++ 47 :: b).dropWhile fun c => c != 47).drop 1 = b := by
  induction a with
  | nil => simp
  | cons c a ih =>
    simp only [List.mem_cons, not_or] at h
    obtain ⟨h1, h2⟩ := ih h.2
    have hc : (c != 47) = true := by simp; exact fun e => h.1 e.symm
    refine ⟨?_, ?_⟩
    · rw [List.cons_append, List.takeWhile_cons, hc, h1]; rfl
    · rw [List.cons_append, List.dropWhile_cons, hc]; exact h2
theorem numOf_lt {l : List Nat} {n : Nat} (h : numOf l = some n) : n < 10 ^ 7 := by
  unfold numOf at h
  split at h
  · rename_i q
    cases h
    have : ∀ (l : List Nat) (a : Nat), l.all isDg = true → l.foldl (fun acc c => acc * 10 + (c - 48)) a < (a + 1) * 10 ^ l.length := by
      intro l
      induction l with
      | nil => intro a _; simp
      | cons c l ih =>
        intro a hl
        simp only [List.all_cons, Bool.and_eq_true] at hl
        have hc : 48 ≤ c ∧ c ≤ 57 := by simpa [isDg] using hl.1
        have := ih (a * 10 + (c - 48)) hl.2
        rw [List.foldl_cons, List.length_cons, Nat.pow_succ, Nat.mul_comm (10 ^ _), ← Nat.mul_assoc]
        exact Nat.lt_of_lt_of_le this (Nat.mul_le_mul_right _ (by omega))
    have q2 := this l 0 q.1
    have q3 : (10 : Nat) ^ l.length ≤ 10 ^ 7 := Nat.pow_le_pow_right (by omega) q.2.2
    unfold NumText.digitsVal
    omega
  · cases h
end TT.Law
namespace TT.Law
open PySem L2 TT TL
theorem slash_ne : ((Str.ofString "/").length == 0) = false := by decide
theorem strOk_slash : PyData.strOk (Str.ofString "/") = true := by decide +kernel
theorem strOk_nil : PyData.strOk (Str.ofString "") = true := by decide +kernel
theorem strOk_emp : PyData.strOk Str.empty = true := by decide +kernel
theorem eq_slash : eqD (.str (Str.ofString "/")) (.str (Str.ofString "")) = some (.bl false) := by
  have : ((Str.ofString "/") == (Str.ofString "")) = false := by decide
  simp [eqD, datOk, strOk_slash, strOk_nil, this]
theorem eq_emp : eqD (.str Str.empty) (.str (Str.ofString "")) = some (.bl true) := by
  have : (Str.empty == (Str.ofString "")) = true := by decide
  simp [eqD, datOk, strOk_emp, strOk_nil, this]
theorem bn {t : Nat} (h : t < 10 ^ 7) : t < 2 ^ 9000 := Nat.lt_of_lt_of_le h (Nat.le_trans (show 10 ^ 7 ≤ 2 ^ 24 by decide) (Nat.pow_le_pow_right (by omega) (by omega)))
theorem share_nought (t : Nat) : f_share.g [.int t, .int 0] = .exc 1 [] [] .dead := share_bad2 (y := .int 0) (ref_int (by omega))
theorem share_in_run (l : List Nat) (hl : l.length ≤ 1000) : f_share_in.g [.str (tx l)] = match dueOf l with | some p => .ok (RS p.1 p.2) .dead | none => .exc 1 [] [] .dead := by
  have hz : l.length ≤ 16777216 := by omega
  simp only [ge_share_in]
  by_cases hm : 47 ∈ l
  · obtain ⟨a, b, rfl, ha⟩ := List.eq_append_cons_of_mem hm
    have pt := part_some (b := b) ha
    obtain ⟨t1, t2⟩ := take_a (b := b) ha
    have la : a.length ≤ 1000 := by simp at hl; omega
    have lb : b.length ≤ 1000 := by simp at hl; omega
    have na := number_in_run a la
    have nb := number_in_run b lb
    have hd : dueOf (a ++ 47 :: b) = (numOf a).bind fun t => (numOf b).bind fun u => if u = 0 then none else some (t, u) := by
      unfold dueOf
      rw [if_pos hm, t1, t2]
    have hz' : (tx (a ++ 47 :: b)).length ≤ 16777216 := by rw [tx_len]; exact hz
    rw [hd]
    cases ea : numOf a with
    | none =>
      rw [ea] at na
      simp [runF_eq, b_share_in, pt, hz', slash_ne, eq_slash, na]
    | some t =>
      rw [ea] at na
      cases eb : numOf b with
      | none =>
        rw [eb] at nb
        simp [runF_eq, b_share_in, pt, hz', slash_ne, eq_slash, na, nb]
      | some u =>
        rw [eb] at nb
        by_cases u0 : u = 0
        · subst u0
          have nb : f_number_in.g [.str (tx b)] = .ok (.int 0) .dead := nb
          have s0 := share_nought t
          simp [runF_eq, b_share_in, pt, hz', slash_ne, eq_slash, na, nb, s0]
        · have s1 := share_runS t u (by omega) (bn (numOf_lt eb))
          obtain ⟨P, Q, e⟩ : ∃ P Q, RS t u = S P Q := ⟨_, _, rfl⟩
          rw [e] at s1
          simp only [Option.bind_some, if_neg u0, e]
          simp [runF_eq, b_share_in, pt, hz', slash_ne, eq_slash, na, nb, s1]
  · have pt := part_none hm
    have na := number_in_run l hl
    have hd : dueOf l = (numOf l).map fun t => (t, 1) := by
      unfold dueOf
      rw [if_neg hm]
    have hz' : (tx l).length ≤ 16777216 := by rw [tx_len]; exact hz
    rw [hd]
    cases ea : numOf l with
    | none =>
      rw [ea] at na
      simp [runF_eq, b_share_in, pt, hz', slash_ne, eq_emp, na]
    | some t =>
      rw [ea] at na
      have s1 := share_runS t 1 (by omega) (Nat.one_lt_two_pow (by omega))
      have s1 : f_share.g [.int t, .int 1] = .ok (RS t 1) .dead := s1
      obtain ⟨P, Q, e⟩ : ∃ P Q, RS t 1 = S P Q := ⟨_, _, rfl⟩
      rw [e] at s1
      simp only [Option.map_some, e]
      simp [runF_eq, b_share_in, pt, hz', slash_ne, eq_emp, na, s1]
theorem read_run (l : List Nat) (hl : l.length ≤ 1000) : f__law_read.g [.str (tx l)] = match dueOf l with | some p => .ok (RS p.1 p.2) .dead | none => .ok (.exn 1 [] []) .dead := by
  have h := share_in_run l hl
  simp only [ge__law_read]
  cases e : dueOf l with
  | none =>
    rw [e] at h
    simp [runF_eq, b__law_read, h, suD]
  | some p =>
    rw [e] at h
    obtain ⟨P, Q, e2⟩ : ∃ P Q, RS p.1 p.2 = S P Q := ⟨_, _, rfl⟩
    simp only [e2] at h ⊢
    simp [runF_eq, b__law_read, h]
theorem due_run (l : List Nat) (hl : l.length ≤ 1000) : f__law_due.g [.str (tx l)] = match dueOf l with | some p => .ok (RS p.1 p.2) .dead | none => .ok .non .dead := by
  have hz : (tx l).length ≤ 16777216 := by rw [tx_len]; omega
  simp only [ge__law_due]
  by_cases hm : 47 ∈ l
  · obtain ⟨a, b, rfl, ha⟩ := List.eq_append_cons_of_mem hm
    have fd := find_some (b := b) ha
    obtain ⟨t1, t2⟩ := take_a (b := b) ha
    have la : a.length ≤ 1000 := by simp at hl; omega
    have lb : b.length ≤ 1000 := by simp at hl; omega
    have na := number_run a la
    have nb := number_run b lb
    have hd : dueOf (a ++ 47 :: b) = (numOf a).bind fun t => (numOf b).bind fun u => if u = 0 then none else some (t, u) := by
      unfold dueOf
      rw [if_pos hm, t1, t2]
    have c1 : cutS (tx (a ++ 47 :: b)) none (some (a.length : Int)) = tx a := by
      unfold cutS
      rw [show HT.sIx (tx (a ++ 47 :: b)).length 0 none = 0 from rfl, HT.sIx_nat, tx_len]
      show tx (((a ++ 47 :: b).drop 0).take _) = _
      congr 2
      simp
    have c2 : cutS (tx (a ++ 47 :: b)) (some ((a.length : Int) + 1)) none = tx b := by
      unfold cutS
      rw [show ((a.length : Int) + 1) = ((a.length + 1 : Nat) : Int) by omega, show HT.sIx (tx (a ++ 47 :: b)).length (tx (a ++ 47 :: b)).length none = (tx (a ++ 47 :: b)).length from rfl, HT.sIx_nat, tx_len]
      show tx (((a ++ 47 :: b).drop _).take _) = _
      congr 2
      rw [show min (a.length + 1) (a ++ 47 :: b).length = a.length + 1 by simp]
      have d1 : (a ++ 47 :: b).drop (a.length + 1) = b := by
        rw [show a ++ 47 :: b = (a ++ [47]) ++ b by simp]
        exact List.drop_left' (by simp)
      rw [d1]
      apply List.take_of_length_le
      simp
      omega
    have n0 : ¬ ((a.length : Int) < 0) := by omega
    rw [hd]
    cases ea : numOf a with
    | none =>
      rw [ea] at na
      cases eb : numOf b with
      | none => rw [eb] at nb; simp [runF_eq, b__law_due, fd, hz, n0, c1, c2, na, nb, optD, noneD, isNon]
      | some u => rw [eb] at nb; simp [runF_eq, b__law_due, fd, hz, n0, c1, c2, na, nb, optD, noneD, isNon]
    | some t =>
      rw [ea] at na
      cases eb : numOf b with
      | none => rw [eb] at nb; simp [runF_eq, b__law_due, fd, hz, n0, c1, c2, na, nb, optD, noneD, isNon]
      | some u =>
        rw [eb] at nb
        by_cases u0 : u = 0
        · subst u0
          have nb : f__law_number.g [.str (tx b)] = .ok (.int 0) .dead := nb
          simp [runF_eq, b__law_due, fd, hz, n0, c1, c2, na, nb, optD, noneD, isNon]
        · have lc := lc_run t u
          have hu : 0 < u := by omega
          have u0' : ((u : Int) == 0) = false := beq_false_of_ne (by omega)
          obtain ⟨g, hg⟩ : ∃ g, g = Nat.gcd t u := ⟨_, rfl⟩
          have g0 : 0 < g := by rw [hg]; exact Nat.gcd_pos_of_pos_right _ hu
          have gl : g.log2 < 9000 := log2_lt (Nat.lt_of_le_of_lt (by rw [hg]; exact Nat.gcd_le_right _ hu) (bn (numOf_lt eb))) (by omega)
          rw [← hg] at lc
          simp only [Option.bind_some, if_neg u0, RS, ← hg]
          simp [runF_eq, b__law_due, fd, hz, n0, c1, c2, na, nb, optD, noneD, isNon, lc, g0, gl, u0', newTup, goodKids, tupOf]
  · have fd := find_none hm
    have na := number_run l hl
    have hd : dueOf l = (numOf l).map fun t => (t, 1) := by
      unfold dueOf
      rw [if_neg hm]
    rw [hd]
    cases ea : numOf l with
    | none =>
      rw [ea] at na
      simp [runF_eq, b__law_due, fd, hz, na, optD, noneD, isNon]
    | some t =>
      rw [ea] at na
      have lc := lc_run t 1
      rw [Nat.gcd_one_right] at lc
      have lc : f__law_common.g [.int t, .int 1] = .ok (.int 1) .dead := lc
      simp only [Option.map_some, RS, Nat.gcd_one_right, Nat.div_one]
      simp [runF_eq, b__law_due, fd, hz, na, optD, noneD, isNon, lc, newTup, goodKids, tupOf]
end TT.Law
namespace TT.Law
open PySem L2 TT TL
/-! writing -/
def wr (a b : Nat) : List Nat := if b = 1 then numL a else numL a ++ 47 :: numL b
theorem numL_len' {n : Nat} (h : n < 2 ^ 1000) : (numL n).length ≤ 1000 := numL_len (by omega) (Nat.lt_of_lt_of_le h (Nat.pow_le_pow_left (by omega) _))
theorem str_num' (n : Nat) : Str.ofString (Int.repr (n : Int)) = tx (numL n) := str_num n
theorem text_of_run (a b : Nat) (hb : 0 < b) (g : Nat.gcd a b = 1) (ba : a < 2 ^ 1000) (bb : b < 2 ^ 1000) : f_text_of.g [S a b] = .ok (.str (tx (wr a b))) .dead := by
  have nd := need_run a b hb g
  have la : a.log2 < 1920 := by have := log2_lt ba (by omega); omega
  have lb : b.log2 < 1920 := by have := log2_lt bb (by omega); omega
  have sa := str_num' a
  have sb := str_num' b
  have na := numL_len' ba
  have nb := numL_len' bb
  have e0 : (Str.ofString "/") = tx [47] := rfl
  simp only [ge_text_of]
  by_cases h1 : b = 1
  · have e : wr a b = numL a := by unfold wr; rw [if_pos h1]
    have h1' : ((b : Int) == 1) = true := by rw [h1]; rfl
    rw [e]
    simp [runF_eq, b_text_of, nd, live, h1', la, sa]
  · have e : wr a b = numL a ++ 47 :: numL b := by unfold wr; rw [if_neg h1]
    have h1' : ((b : Int) == 1) = false := beq_false_of_ne (by omega)
    have l1 : (numL a).length + 1 ≤ 16777216 := by omega
    have l2 : (numL a).length + 1 + (numL b).length ≤ 16777216 := by omega
    rw [e]
    simp [runF_eq, b_text_of, nd, live, h1', la, lb, sa, sb, e0, tx_len, tx_app, l1, l2]
theorem written_run (a b : Nat) (hb : 0 < b) (g : Nat.gcd a b = 1) (ba : a < 2 ^ 1000) (bb : b < 2 ^ 1000) : f__law_written.g [S a b] = .ok (.str (tx (wr a b))) .dead := by
  have h := text_of_run a b hb g ba bb
  simp only [ge__law_written]
  simp [runF_eq, b__law_written, h]
theorem written_bad {x : D} (hx : isDead x = false) (h : f_need_share.g [refl Fl.lend x] = .exc 1 [] [] .dead) : f__law_written.g [x] = .ok (.exn 1 [] []) .dead := by
  have ht : f_text_of.g [refl Fl.lend x] = .exc 1 [] [] .dead := by
    simp only [ge_text_of]
    simp [runF_eq, b_text_of, h, hx]
  simp only [ge__law_written]
  simp [runF_eq, b__law_written, ht, hx, suD]
theorem read_bad {x : D} (hx : isDead x = false) (h : isiD (.b "str") [] (refl Fl.lend x) = some false) : f__law_read.g [x] = .ok (.exn 1 [] []) .dead := by
  have ht : f_share_in.g [refl Fl.lend x] = .exc 1 [] [] .dead := by
    simp only [ge_share_in]
    simp [runF_eq, b_share_in, h, hx]
  simp only [ge__law_read]
  simp [runF_eq, b__law_read, ht, hx, suD]
theorem refused_run : f__law_is_refused.g [.exn 1 [] []] = .ok (.bl true) .dead := by
  simp only [ge__law_is_refused]
  simp [runF_eq, b__law_is_refused]
  try decide
end TT.Law
namespace TT.Law
open PySem L2 TT TL
/-! the drawn texts -/
theorem rep_len (a : Str) (k : Int) : (repS a k).length = k.toNat * a.length := by
  show (List.replicate k.toNat a.cps.toList).flatten.toArray.size = _
  simp [List.length_flatten, Str.length]
theorem ix_text (x : Str) (i : Nat) (h : i < x.length) (hz : x.length ≤ 16777216) : ∃ y : Str, y.length = 1 ∧ ixD (.str x) (.int i) = some (.str y) := by
  have hl : i < x.cps.toList.length := by simpa [Str.length] using h
  refine ⟨⟨#[x.cps.toList[i]]⟩, rfl, ?_⟩
  show (if x.length ≤ sizeLine then (atI x.cps.toList (i : Int)).map fun c => D.str ⟨#[c]⟩ else none) = _
  rw [if_pos (by rw [szl]; exact hz), atI_nat hl]
  rfl
def gP (c : Int) : D → D
  | .int j => (match f__law_mixed.g [.int c, .int j] with
    | .ok (.int n) _ => (match ixD (.str FG) (.int (n % 10)) with
      | some d => d
      | none => .non)
    | _ => .non)
  | _ => .non
theorem strs_ones : ∀ {l : List D}, (∀ x ∈ l, ∃ s : Str, s.length = 1 ∧ x = .str s) → ∃ ys, strsOf l = some ys ∧ ys.length = l.length ∧ (ys.map (·.length)).sum = l.length
  | [], _ => ⟨[], rfl, rfl, rfl⟩
  | x :: l, h => by
    obtain ⟨s, h1, rfl⟩ := h x List.mem_cons_self
    obtain ⟨ys, e1, e2, e3⟩ := strs_ones fun x hx => h x (List.mem_cons_of_mem _ hx)
    refine ⟨s :: ys, ?_, ?_, ?_⟩
    · rw [strsOf, e1]; rfl
    · simp [e2]
    · simp [e3, h1]; omega
theorem part_run (c : Int) (k : Nat) (hk : k ≤ 1000) : ∃ s : Str, s.length ≤ 20 ∧ f__law_part.g [.int c, .int k] = .ok (.str s) .dead := by
  obtain ⟨m, hm, e1⟩ := mixed c k hk
  obtain ⟨z, hz, hz1⟩ : ∃ z : Nat, (m : Int) / 3 % 4 * (if (m : Int) % 3 = 1 then (1 : Int) else 0) = z ∧ z ≤ 3 := by
    by_cases h : (m : Int) % 3 = 1
    · exact ⟨m / 3 % 4, by rw [if_pos h, Int.mul_one]; rfl, by omega⟩
    · exact ⟨0, by rw [if_neg h, Int.mul_zero]; rfl, by omega⟩
  have m0 : mulOk ((m : Int) / 3 % 4) (if (m : Int) % 3 = 1 then (1 : Int) else 0) = true := mulOk_l (by omega)
  obtain ⟨w, hw, hw1⟩ : ∃ w : Nat, w ≤ 8 ∧ (((m : Int) / 108 % 3 = 0 ∧ (m : Int) / 12 % 9 = w) ∨ ((m : Int) / 108 % 3 = 1 ∧ w = 1) ∨ ((m : Int) / 108 % 3 = 2 ∧ w = 7)) := by
    have h3 : (m : Int) / 108 % 3 = 0 ∨ (m : Int) / 108 % 3 = 1 ∨ (m : Int) / 108 % 3 = 2 := by omega
    rcases h3 with h | h | h
    · exact ⟨m / 12 % 9, by omega, .inl ⟨h, rfl⟩⟩
    · exact ⟨1, by omega, .inr (.inl ⟨h, rfl⟩)⟩
    · exact ⟨7, by omega, .inr (.inr ⟨h, rfl⟩)⟩
  have el : ∀ d ∈ rngD 0 w 1, ∃ j : Nat, d = .int j ∧ ∃ s : Str, s.length = 1 ∧ gP m d = .str s ∧ ∃ n : Nat, f__law_mixed.g [.int m, .int j] = .ok (.int n) .dead ∧ ixD (.str FG) (.int ((n : Int) % 10)) = some (.str s) := fun d hd => by
    obtain ⟨j, hj, rfl⟩ := rngD_mem hd
    rw [show (0 : Int) + (j : Int) * 1 = j by omega]
    obtain ⟨n, hn, e2⟩ := mixed m j (by omega)
    obtain ⟨r, hr, hr2⟩ : ∃ r : Nat, (n : Int) % 10 = r ∧ r < 10 := ⟨n % 10, by omega, Nat.mod_lt _ (by omega)⟩
    have dg : ixD (.str FG) (.int ((n : Int) % 10)) = some (.str (tx [48 + r])) := by rw [hr]; exact dig_at r hr2
    refine ⟨j, rfl, tx [48 + r], rfl, ?_, n, e2, dg⟩
    unfold gP
    simp only [e2, dg]
  have cm : ∀ x : D, noOwn x = true → compO [5] (.nm 5) c0__law_part e0__law_part [.int c, .int k, .int m, .str (repS "0" z), .int w, x] (some (rngD 0 w 1)) = .ok (.lst .own ((rngD 0 w 1).map (gP m))) [.int c, .int k, .int m, .str (repS "0" z), .int w, x] := fun x hx => by
    refine comp_map (gP m) (by simp [hx]) (fun d hd => ?_) ?_ (by rw [rngD_len, szl]; omega)
    · obtain ⟨j, rfl, s, h1, h2, n, h3, h4⟩ := el d hd
      refine ⟨[.int c, .int k, .int m, .str (repS "0" z), .int w, .int j], ?_, by simp, by simp⟩
      rw [step_eq, h2]
      simp [c0__law_part, e0__law_part, h3, h4, live]
    · simp only [goodKids, Bool.and_eq_true]
      refine ⟨?_, ?_⟩
      · rw [noBors_iff]; intro y hy; obtain ⟨d, hd, rfl⟩ := List.mem_map.1 hy; obtain ⟨j, rfl, s, h1, h2, _⟩ := el _ hd; rw [h2]; rfl
      · rw [List.all_eq_true]; intro y hy; obtain ⟨d, hd, rfl⟩ := List.mem_map.1 hy; obtain ⟨j, rfl, s, h1, h2, _⟩ := el _ hd; rw [h2]; rfl
  obtain ⟨ys, y1, y2, y3⟩ := strs_ones (l := (rngD 0 w 1).map (gP m)) fun x hx => by
    obtain ⟨d, hd, rfl⟩ := List.mem_map.1 hx
    obtain ⟨j, rfl, s, h1, h2, _⟩ := el _ hd
    exact ⟨s, h1, h2⟩
  rw [List.length_map, rngD_len] at y2 y3
  have jl : (Txt.join (Str.ofString "") ys).length ≤ 8 := by
    rw [join_eq]
    refine Nat.le_trans (StrLaws.join_length_le _ _) ?_
    rw [y3]
    have : (Str.ofString "").length = 0 := rfl
    rw [this]
    omega
  have rl : (repS (Str.ofString "0") z).length ≤ 3 := by
    rw [rep_len]
    have : (Str.ofString "0").length = 1 := rfl
    rw [this]
    omega
  refine ⟨repS "0" z ++ Txt.join "" ys, ?_, ?_⟩
  · rw [len_tl, tl_append, List.length_append, ← len_tl, ← len_tl]; omega
  · have cmd := cm .dead own_dead
    have hw62 : w < 4611686018427387904 := by omega
    have z0 : (z : Int) ≤ 1000000 := by omega
    have l0 : (Str.ofString "0").length * z ≤ 1000000 := by
      have : (Str.ofString "0").length = 1 := rfl
      rw [this]; omega
    have z1 : (z : Int) ≤ 1000000 := by omega
    have z2 : z ≤ 1000000 := by omega
    have jz : (repS (Str.ofString "0") z).length + (Txt.join (Str.ofString "") ys).length ≤ 16777216 := by omega
    have js : (ys.map (·.length)).sum + ys.length * (Str.ofString "").length ≤ 16777216 := by
      have : (Str.ofString "").length = 0 := rfl
      rw [y3, this]; omega
    simp only [ge__law_part]
    rcases hw1 with ⟨h, h2⟩ | ⟨h, h2⟩ | ⟨h, h2⟩
    · simp [runF_eq, b__law_part, e1, m0, hz, l0, z1, z2, h, newLst, goodKids, live, hw62, cmd, y1, js, jz, h2]
    · subst h2
      have cmd : compO [5] (.nm 5) c0__law_part e0__law_part [.int c, .int k, .int m, .str (repS "0" z), .int 1, .dead] (some (rngD 0 1 1)) = .ok (.lst .own ((rngD 0 1 1).map (gP m))) [.int c, .int k, .int m, .str (repS "0" z), .int 1, .dead] := cmd
      simp [runF_eq, b__law_part, e1, m0, hz, l0, z1, z2, h, newLst, goodKids, live, hw62, cmd, y1, js, jz]
    · subst h2
      have cmd : compO [5] (.nm 5) c0__law_part e0__law_part [.int c, .int k, .int m, .str (repS "0" z), .int 7, .dead] (some (rngD 0 7 1)) = .ok (.lst .own ((rngD 0 7 1).map (gP m))) [.int c, .int k, .int m, .str (repS "0" z), .int 7, .dead] := cmd
      simp [runF_eq, b__law_part, e1, m0, hz, l0, z1, z2, h, newLst, goodKids, live, hw62, cmd, y1, js, jz]
end TT.Law
namespace TT.Law
open PySem L2 TT TL
theorem cutS_le {z : Str} {lo hi : Option Int} : (cutS z lo hi).length ≤ z.length := by
  show (((z.cps.toList.drop _).take _).toArray).size ≤ z.cps.size
  simp
  omega
theorem app_len {x y : Str} : (x ++ y).length = x.length + y.length := by rw [len_tl, tl_append, List.length_append, ← len_tl, ← len_tl]
abbrev SGN : Str := "0123456789/ -+._x'\n\t"
/-- what is done at the end with a text -/
theorem spoil (c : Int) (m : Nat) (s : Str) (hs : s.length ≤ 60) (y1 y2 y3 : D) : ∃ s' : Str, s'.length ≤ 200 ∧ ∃ z1 z2 z3, pickO (some ((m : Int) / 3 % 2 == 1)) [.asg 3 (.op .mod [.op .fdiv [.nm 2, .c (.int 6)], .op .add [.op .len [.nm 1], .c (.int 1)]]),
    .asg 4 (.op .ix [.c (.str SGN), .op .mod [.op .fdiv [.nm 2, .c (.int 120)], .c (.int 20)]]),
    .asg 5 (.op .add [.op (.sl false true) [.nm 1, .nm 3], .op .rep [.nm 4, .op .mod [.op .fdiv [.nm 2, .c (.int 2400)], .c (.int 2)]]]),
    .asg 1 (.op .add [.nm 5, .op (.sl true false) [.nm 1, .op .add [.nm 3, .op .mod [.op .fdiv [.nm 2, .c (.int 4800)], .c (.int 2)]]]])] [] [.int c, .str s, .int m, y1, y2, y3] = .nx [.int c, .str s', .int m, z1, z2, z3] := by
  by_cases h : (m : Int) / 3 % 2 = 1
  · have h' : ((m : Int) / 3 % 2 == 1) = true := by simp [h]
    obtain ⟨a, ha, ha2⟩ : ∃ a : Nat, (m : Int) / 6 % ((s.length : Int) + 1) = a ∧ a ≤ s.length := ⟨m / 6 % (s.length + 1), rfl, by have := Nat.mod_lt (m / 6) (show 0 < s.length + 1 by omega); omega⟩
    obtain ⟨i, hi, hi2⟩ : ∃ i : Nat, (m : Int) / 120 % 20 = i ∧ i < 20 := ⟨m / 120 % 20, rfl, Nat.mod_lt _ (by omega)⟩
    obtain ⟨y, l1, ey⟩ := ix_text SGN i hi2 (by decide)
    obtain ⟨r, hr, hr2⟩ : ∃ r : Nat, (m : Int) / 2400 % 2 = r ∧ r ≤ 1 := ⟨m / 2400 % 2, rfl, by omega⟩
    obtain ⟨q, hq⟩ : ∃ q : Int, (a : Int) + (m : Int) / 4800 % 2 = q := ⟨_, rfl⟩
    have p0 : (0 : Int) < (s.length : Int) + 1 := by omega
    have hz : s.length ≤ 16777216 := by omega
    have c1 := cutS_le (z := s) (lo := none) (hi := some (a : Int))
    have c2 := cutS_le (z := s) (lo := some q) (hi := none)
    have rl : (repS y r).length ≤ 1 := by rw [rep_len, l1]; omega
    have r1 : (r : Int) ≤ 1000000 := by omega
    have r2 : y.length * r ≤ 1000000 := by rw [l1]; omega
    have k1 : (cutS s none (some (a : Int))).length + (repS y r).length ≤ 16777216 := by omega
    have k2 : (cutS s none (some (a : Int)) ++ repS y r).length + (cutS s (some q) none).length ≤ 16777216 := by rw [app_len]; omega
    refine ⟨(cutS s none (some (a : Int)) ++ repS y r) ++ cutS s (some q) none, by rw [app_len, app_len]; omega, .int a, .str y, .str (cutS s none (some (a : Int)) ++ repS y r), ?_⟩
    rw [h']
    simp [ha, hi, hr, hq, ey, live, p0, hz, r1, r2, k1, k2]
  · have h' : ((m : Int) / 3 % 2 == 1) = false := beq_false_of_ne h
    refine ⟨s, by omega, y1, y2, y3, ?_⟩
    rw [h']
    simp
theorem drawn_run (c : Int) : ∃ l : List Nat, l.length ≤ 200 ∧ f__law_drawn.g [.int c] = .ok (.str (tx l)) .dead := by
  obtain ⟨s1, l1, e1⟩ := part_run c 1 (by omega)
  have e1 : f__law_part.g [.int c, .int 1] = .ok (.str s1) .dead := e1
  obtain ⟨m, hm, e2⟩ := mixed c 2 (by omega)
  have e2 : f__law_mixed.g [.int c, .int 2] = .ok (.int m) .dead := e2
  obtain ⟨s3, l3, e3⟩ := part_run c 3 (by omega)
  have e3 : f__law_part.g [.int c, .int 3] = .ok (.str s3) .dead := e3
  simp only [ge__law_drawn]
  by_cases h : (0 : Int) < (m : Int) % 3
  · have ls : (Str.ofString "/").length = 1 := rfl
    obtain ⟨s', l', z1, z2, z3, e⟩ := spoil c m (s1 ++ Str.ofString "/" ++ s3) (by rw [app_len, app_len, ls]; omega) .dead .dead .dead
    have k1 : s1.length + (Str.ofString "/").length ≤ 16777216 := by rw [ls]; omega
    have k2 : (s1 ++ Str.ofString "/").length + s3.length ≤ 16777216 := by rw [app_len, ls]; omega
    refine ⟨tl s', by rw [← len_tl]; exact l', ?_⟩
    rw [tx_tl]
    simp [runF_eq, b__law_drawn, e1, e2, e3, h, k1, k2, e]
  · obtain ⟨s', l', z1, z2, z3, e⟩ := spoil c m s1 (by omega) .dead .dead .dead
    refine ⟨tl s', by rw [← len_tl]; exact l', ?_⟩
    rw [tx_tl]
    simp [runF_eq, b__law_drawn, e1, e2, e3, h, e]
end TT.Law
namespace TT.Law
open PySem L2 TT TL
theorem rep_one (l : List Nat) : repS (tx l) 1 = tx l := by
  show (⟨(List.replicate 1 l).flatten.toArray⟩ : Str) = _
  simp
theorem rep_none (l : List Nat) : repS (tx l) 0 = tx [] := by
  show (⟨(List.replicate 0 l).flatten.toArray⟩ : Str) = _
  simp
theorem wr_small (a b : Nat) : ∀ c ∈ wr a b, c < 128 := by
  have hn : ∀ n, ∀ c ∈ numL n, c < 128 := fun n c hc => by have := numL_digits n c hc; omega
  intro c hc
  unfold wr at hc
  split at hc
  · exact hn a c hc
  · rcases List.mem_append.1 hc with h | h
    · exact hn a c h
    · rcases List.mem_cons.1 h with h | h
      · omega
      · exact hn b c h
theorem neT {l : List Nat} (h : ∀ c ∈ l, c < 128) : neD (.str (tx l)) (.str (tx l)) = some (.bl false) := by
  have ok : PyData.strOk (tx l) = true := by
    show Array.all _ _ = true
    rw [← Array.all_toList]
    simp only [List.all_eq_true, decide_eq_true_eq]
    intro c hc
    have := h c hc
    omega
  simp [neD, datOk, ok]
theorem numOf_num {n : Nat} (h : n < 10 ^ 7) : numOf (numL n) = some n := by
  unfold numOf
  have h1 : (numL n).all isDg = true := by
    rw [List.all_eq_true]
    intro c hc
    have := numL_digits n c hc
    simp [isDg]; omega
  have h2 : 1 ≤ (numL n).length := by
    have := numL_ne n
    cases e : numL n with
    | nil => exact absurd e this
    | cons _ _ => simp
  rw [if_pos ⟨h1, h2, numL_len (by omega) h⟩, numL_val]
theorem due_wr {a b : Nat} (ha : a < 10 ^ 7) (hb : b < 10 ^ 7) (b0 : 0 < b) : dueOf (wr a b) = some (a, b) := by
  have fr : ∀ n, 47 ∉ numL n := fun n => numL_free (.inl (by omega))
  unfold wr
  split
  · rename_i h1
    unfold dueOf
    rw [if_neg (fr a), numOf_num ha, h1]; rfl
  · obtain ⟨t1, t2⟩ := take_a (b := numL b) (fr a)
    unfold dueOf
    rw [if_pos (by simp), t1, t2, numOf_num ha, numOf_num hb]
    show (if b = 0 then none else some (a, b)) = _
    rw [if_neg (by omega)]
theorem wr_eq (a b : Nat) (b0 : 0 < b) : ∃ k : Int, (if (1 : Int) < (b : Int) then (1 : Int) else 0) = k ∧ 0 ≤ k ∧ k ≤ 1 ∧ tx (numL a) ++ repS (tx (47 :: numL b)) k = tx (wr a b) := by
  by_cases h : b = 1
  · refine ⟨0, by simp [h], by omega, by omega, ?_⟩
    rw [rep_none, tx_app]
    unfold wr
    rw [if_pos h, List.append_nil]
  · refine ⟨1, by rw [if_pos (by omega)], by omega, by omega, ?_⟩
    rw [rep_one, tx_app]
    unfold wr
    rw [if_neg h]
end TT.Law
namespace TT.Law
open PySem L2 TT TL
def oddB : List TT.S := [.asg 7 (.op .ix [.op .lst [.c (.non), .c (.int 5), .op .lst [.c (.str "1")], .c (.bl true), .op .tup [.c (.int 1), .c (.int 2)], .op .dnk [], .op .tup [.c (.str "1/2")], .op .tup [.c (.int 6), .c (.int 4)]], .op .mod [.op .fdiv [.nm 2, .c (.int 3)], .c (.int 8)]]),
  .ift (.bor [.op .not [.call f__law_is_refused [.call f__law_read [.nm 7]]], .band [.op .ne [.nm 7, .op .tup [.c (.int 1), .c (.int 2)]], .op .not [.call f__law_is_refused [.call f__law_written [.nm 7]]]]])
    [.ret (.c (.bl false))]
    []]
theorem strOk_1 : PyData.strOk (Str.ofString "1") = true := by decide +kernel
theorem strOk_12 : PyData.strOk (Str.ofString "1/2") = true := by decide +kernel
theorem wb {x : D} (h : NoSh x) (h2 : NoSh (refl Fl.lend x)) : f__law_written.g [x] = .ok (.exn 1 [] []) .dead := written_bad h.1 (need_bad h2)
theorem nosh_dk (fl : Fl) (ks : List Key) (xs : List D) : NoSh (.dk fl ks xs) := ⟨rfl, by simp only [ge_is_share]; simp [runF_eq, b_is_share]⟩
theorem odd_turn (x0 x1 : D) (m : Nat) (x3 x4 x5 x6 x7 : D) : ∃ y7, exSs oddB [x0, x1, .int m, x3, x4, x5, x6, x7] = .nx [x0, x1, .int m, x3, x4, x5, x6, y7] := by
  have h8 : (m : Int) / 3 % 8 = 0 ∨ (m : Int) / 3 % 8 = 1 ∨ (m : Int) / 3 % 8 = 2 ∨ (m : Int) / 3 % 8 = 3 ∨ (m : Int) / 3 % 8 = 4 ∨ (m : Int) / 3 % 8 = 5 ∨ (m : Int) / 3 % 8 = 6 ∨ (m : Int) / 3 % 8 = 7 := by omega
  have key : ∀ x : D, isDead x = false → f__law_read.g [refl Fl.lend x] = .ok (.exn 1 [] []) .dead → (neD x (.tup .shr [.int 1, .int 2]) = some (.bl false) ∨ (neD x (.tup .shr [.int 1, .int 2]) = some (.bl true) ∧ f__law_written.g [refl Fl.lend x] = .ok (.exn 1 [] []) .dead)) →
      exSs (oddB.drop 1) [x0, x1, .int m, x3, x4, x5, x6, x] = .nx [x0, x1, .int m, x3, x4, x5, x6, x] := fun x h1 h2 h3 => by
    rcases h3 with h3 | ⟨h3, h4⟩
    · simp [oddB, h1, h2, h3, refused_run, newTup, goodKids, tupOf]
    · simp [oddB, h1, h2, h3, h4, refused_run, newTup, goodKids, tupOf]
  have mk : ∀ x : D, exS (.asg 7 (.op .ix [.op .lst [.c (.non), .c (.int 5), .op .lst [.c (.str "1")], .c (.bl true), .op .tup [.c (.int 1), .c (.int 2)], .op .dnk [], .op .tup [.c (.str "1/2")], .op .tup [.c (.int 6), .c (.int 4)]], .op .mod [.op .fdiv [.nm 2, .c (.int 3)], .c (.int 8)]])) [x0, x1, .int m, x3, x4, x5, x6, x7] = .nx [x0, x1, .int m, x3, x4, x5, x6, x] →
      exSs (oddB.drop 1) [x0, x1, .int m, x3, x4, x5, x6, x] = .nx [x0, x1, .int m, x3, x4, x5, x6, x] → ∃ y7, exSs oddB [x0, x1, .int m, x3, x4, x5, x6, x7] = .nx [x0, x1, .int m, x3, x4, x5, x6, y7] := fun x a b => ⟨x, by
    show exSs (_ :: oddB.drop 1) _ = _
    rw [run_cons, a]; exact b⟩
  rcases h8 with h | h | h | h | h | h | h | h
  · exact mk .non (by simp [h, newLst, newTup, goodKids, tupOf, live]) (key _ rfl (read_bad rfl rfl) (.inr ⟨by simp [neD, datOk, eqv], wb nosh_non nosh_non⟩))
  · exact mk (.int 5) (by simp [h, newLst, newTup, goodKids, tupOf, live]) (key _ rfl (read_bad rfl rfl) (.inr ⟨by simp [neD, datOk, eqv], wb (nosh_int _) (nosh_int _)⟩))
  · exact mk (.lst .own [.str "1"]) (by simp [h, newLst, newTup, goodKids, tupOf, live]) (key _ rfl (read_bad rfl rfl) (.inr ⟨by simp [neD, datOk, eqv, strOk_1], wb (nosh_lst _ _) (nosh_lst _ _)⟩))
  · exact mk (.bl true) (by simp [h, newLst, newTup, goodKids, tupOf, live]) (key _ rfl (read_bad rfl rfl) (.inr ⟨by simp [neD, datOk, eqv], wb (nosh_bl _) (nosh_bl _)⟩))
  · exact mk (.tup .shr [.int 1, .int 2]) (by simp [h, newLst, newTup, goodKids, tupOf, live]) (key _ rfl (read_bad rfl rfl) (.inl (by simp [neD, datOk])))
  · exact mk (.dk .own [] []) (by simp [h, newLst, newTup, goodKids, tupOf, live]) (key _ rfl (read_bad rfl rfl) (.inr ⟨rfl, wb (nosh_dk _ _ _) (nosh_dk _ _ _)⟩))
  · exact mk (.tup .shr [.str "1/2"]) (by simp [h, newLst, newTup, goodKids, tupOf, live]) (key _ rfl (read_bad rfl rfl) (.inr ⟨by simp [neD, datOk, strOk_12, eqvs], wb (nosh_len _ _ (by simp)) (nosh_len _ _ (by simp))⟩))
  · exact mk (.tup .shr [.int 6, .int 4]) (by simp [h, newLst, newTup, goodKids, tupOf, live]) (key _ rfl (read_bad rfl rfl) (.inr ⟨by simp [neD, datOk], wb (nosh_gcd .shr 6 4 (by decide) (by decide)) (nosh_gcd .shr 6 4 (by decide) (by decide))⟩))
end TT.Law
namespace TT.Law
open PySem L2 TT TL
theorem exSs_append {a b : List TT.S} {s : List D} : exSs (a ++ b) s = (exSs a s).bind (exSs b) := by
  induction a generalizing s with
  | nil => simp
  | cons x xs ih =>
    rw [List.cons_append, run_cons, run_cons]
    cases exS x s with
    | nx s1 => exact ih
    | rt _ _ => rfl
    | bk _ => rfl
    | ct _ => rfl
    | exc _ _ _ _ => rfl
    | bad => rfl
def preB : List TT.S := l0_law.take 9
theorem l0_split : l0_law = preB ++ oddB := id rfl
theorem pow7 : opD .pow [.int 10, .int 7] = some (.int 10000000) := by
  show (if (0 : Int) ≤ 7 ∧ (7 : Int) ≤ 1000000 ∧ (10 : Int).natAbs < 2 ^ 64 then some (D.int ((10 : Int) ^ (7 : Int).toNat)) else none) = _
  rw [if_pos (by decide)]
  rfl
theorem ten40' : (10 : Nat) ^ 40 < 2 ^ 133 := by decide
theorem neS' (p q : Nat) : neD (S p q) (S p q) = some (.bl false) := by simp [neD, datOk]
theorem pre_turn (ns : List Int) (k : Nat) (hk : k ≤ 40) (x2 x3 x4 x5 x6 x7 : D) : ∃ (m : Nat) (y3 y4 y5 y6 : D), exSs preB [.scr ns, .int k, x2, x3, x4, x5, x6, x7] = .nx [.scr ns, .int k, .int m, y3, y4, y5, y6, x7] := by
  obtain ⟨c1, e1⟩ := cell_at ns k
  obtain ⟨c2, e2⟩ := cell_at ns (k + 1)
  rw [show ((k + 1 : Nat) : Int) = (k : Int) + 1 by omega] at e2
  obtain ⟨m, hm, e3⟩ := mixed c1 k (by omega)
  obtain ⟨m2, hm2, e4⟩ := mixed c2 (k + 1) (by omega)
  rw [show ((k + 1 : Nat) : Int) = (k : Int) + 1 by omega] at e4
  obtain ⟨t, ht, e5⟩ := great m 40 (by omega) (by omega)
  obtain ⟨u, hu, e6⟩ := great ((m : Int) / 5) 40 (by omega) (by omega)
  have e5 : f__law_great.g [.int m, .int 40] = .ok (.int t) .dead := e5
  have e6 : f__law_great.g [.int ((m : Int) / 5), .int 40] = .ok (.int u) .dead := e6
  have t40 := ten40'
  have bt : t < 2 ^ 133 := by omega
  have bu : u < 2 ^ 133 := by omega
  clear ht hu t40
  obtain ⟨z, hz, hz1⟩ : ∃ z : Nat, (if (0 : Int) < (m : Int) % 3 then (1 : Int) else 0) = z ∧ z ≤ 1 := by
    by_cases h : (0 : Int) < (m : Int) % 3
    · exact ⟨1, by simp [h], by omega⟩
    · exact ⟨0, by simp [h], by omega⟩
  have m1 : mulOk (u : Int) z = true := mulOk_r (by omega)
  obtain ⟨U, hU⟩ : ∃ U, U = 1 + u * z := ⟨_, rfl⟩
  have hUi : 1 + (u : Int) * z = U := by rw [hU]; simp
  have uz : u * z ≤ u := Nat.le_trans (Nat.mul_le_mul_left u hz1) (by omega)
  have bU : U < 2 ^ 134 := by
    have : (2 : Nat) ^ 134 = 2 ^ 133 * 2 := Nat.pow_succ ..
    omega
  have U0 : 0 < U := by omega
  have s1 := share_runS t U U0 (small_pow bU (by omega))
  obtain ⟨a, ha⟩ : ∃ a, a = t / Nat.gcd t U := ⟨_, rfl⟩
  obtain ⟨b, hb⟩ : ∃ b, b = U / Nat.gcd t U := ⟨_, rfl⟩
  have b0 : 0 < b := by rw [hb]; exact div_pos_gcd t U U0
  have gab : Nat.gcd a b = 1 := by rw [ha, hb]; exact gcd_div t U U0
  have ba : a < 2 ^ 1000 := Nat.lt_of_le_of_lt (by rw [ha]; exact Nat.div_le_self _ _) (small_pow bt (by omega))
  have bb : b < 2 ^ 1000 := Nat.lt_of_le_of_lt (by rw [hb]; exact Nat.div_le_self _ _) (small_pow bU (by omega))
  rw [RS, ← ha, ← hb] at s1
  clear ha hb hU
  have fa := figures_run a ba
  have fb := figures_run b bb
  have na := numL_len' ba
  have nb := numL_len' bb
  obtain ⟨w, hw, w0, w1, hwr⟩ := wr_eq a b b0
  have e0 : (Str.ofString "/") = tx [47] := rfl
  have k1 : 1 + (numL b).length ≤ 16777216 := by omega
  have w2 : w ≤ 1000000 := by omega
  have w3 : ((numL b).length + 1) * w.toNat ≤ 1000000 := by
    have : w.toNat ≤ 1 := by omega
    have := Nat.mul_le_mul_left ((numL b).length + 1) this
    omega
  have k2 : (numL a).length + (repS (tx (47 :: numL b)) w).length ≤ 16777216 := by
    rw [rep_len, tx_len]
    have : w.toNat ≤ 1 := by omega
    have := Nat.mul_le_mul_right (47 :: numL b).length this
    simp at this ⊢
    omega
  have wl : (wr a b).length ≤ 1000 ∨ ¬ (a < 10 ^ 7 ∧ b < 10 ^ 7) := by
    by_cases h : a < 10 ^ 7 ∧ b < 10 ^ 7
    · have l1 := numL_len (n := a) (k := 7) (by omega) h.1
      have l2 := numL_len (n := b) (k := 7) (by omega) h.2
      left
      unfold wr
      split
      · omega
      · simp; omega
    · exact .inr h
  have wt := written_run a b b0 gab ba bb
  have nw := neT (wr_small a b)
  obtain ⟨l, ll, ed⟩ := drawn_run m2
  have rr := read_run l (by omega)
  have dd := due_run l (by omega)
  have dl : refl Fl.lend (D.str (tx l)) = .str (tx l) := rfl
  refine ⟨m, S a b, .str (tx (wr a b)), (match dueOf l with | some p => RS p.1 p.2 | none => .exn 1 [] []), .str (tx l), ?_⟩
  cases hdu : dueOf l with
  | none =>
    rw [hdu] at rr dd
    by_cases h : a < 10 ^ 7 ∧ b < 10 ^ 7
    · have rw' := read_run (wr a b) (wl.resolve_right (fun n => n h))
      rw [due_wr h.1 h.2 b0] at rw'
      simp only [RS, gab, Nat.div_one] at rw'
      have i1 : (a : Int) < 10000000 := by omega
      have i2 : (b : Int) < 10000000 := by omega
      simp [preB, l0_law, e1, e2, e3, e4, e5, e6, hz, m1, hUi, s1, fa, fb, e0, hw, live, tx_len, tx_app, k1, k2, w0, w2, w3, hwr, wt, nw, pow7, i1, i2, rw', neS', ed, rr, dd, noneD, isNon, refused_run]
    · by_cases i1 : (a : Int) < 10000000
      · have i2 : ¬ ((b : Int) < 10000000) := fun n => h ⟨by omega, by omega⟩
        simp [preB, l0_law, e1, e2, e3, e4, e5, e6, hz, m1, hUi, s1, fa, fb, e0, hw, live, tx_len, tx_app, k1, k2, w0, w2, w3, hwr, wt, nw, pow7, i1, i2, ed, rr, dd, noneD, isNon, refused_run]
      · simp [preB, l0_law, e1, e2, e3, e4, e5, e6, hz, m1, hUi, s1, fa, fb, e0, hw, live, tx_len, tx_app, k1, k2, w0, w2, w3, hwr, wt, nw, pow7, i1, ed, rr, dd, noneD, isNon, refused_run]
  | some p =>
    rw [hdu] at rr dd
    by_cases h : a < 10 ^ 7 ∧ b < 10 ^ 7
    · have rw' := read_run (wr a b) (wl.resolve_right (fun n => n h))
      rw [due_wr h.1 h.2 b0] at rw'
      simp only [RS, gab, Nat.div_one] at rw' rr dd ⊢
      have i1 : (a : Int) < 10000000 := by omega
      have i2 : (b : Int) < 10000000 := by omega
      simp [preB, l0_law, e1, e2, e3, e4, e5, e6, hz, m1, hUi, s1, fa, fb, e0, hw, live, tx_len, tx_app, k1, k2, w0, w2, w3, hwr, wt, nw, pow7, i1, i2, rw', neS', ed, rr, dd, noneD, isNon]
    · simp only [RS] at rr dd ⊢
      by_cases i1 : (a : Int) < 10000000
      · have i2 : ¬ ((b : Int) < 10000000) := fun n => h ⟨by omega, by omega⟩
        simp [preB, l0_law, e1, e2, e3, e4, e5, e6, hz, m1, hUi, s1, fa, fb, e0, hw, live, tx_len, tx_app, k1, k2, w0, w2, w3, hwr, wt, nw, pow7, i1, i2, neS', ed, rr, dd, noneD, isNon]
      · simp [preB, l0_law, e1, e2, e3, e4, e5, e6, hz, m1, hUi, s1, fa, fb, e0, hw, live, tx_len, tx_app, k1, k2, w0, w2, w3, hwr, wt, nw, pow7, i1, neS', ed, rr, dd, noneD, isNon]
theorem turn (ns : List Int) (k : Nat) (hk : k ≤ 40) (x2 x3 x4 x5 x6 x7 : D) : ∃ y2 y3 y4 y5 y6 y7, exSs l0_law [.scr ns, .int k, x2, x3, x4, x5, x6, x7] = .nx [.scr ns, .int k, y2, y3, y4, y5, y6, y7] := by
  obtain ⟨m, y3, y4, y5, y6, e⟩ := pre_turn ns k hk x2 x3 x4 x5 x6 x7
  obtain ⟨y7, e2⟩ := odd_turn (.scr ns) (.int k) m y3 y4 y5 y6 x7
  refine ⟨.int m, y3, y4, y5, y6, y7, ?_⟩
  rw [l0_split, exSs_append, e]
  exact e2
theorem law_holds (ns : List Int) (h : ns.length ≤ 63) : f_law.np = 1 ∧ f_law.m = false ∧ f_law.g [.scr ns] = .ok (.bl true) .dead := by
  refine ⟨rfl, rfl, ?_⟩
  obtain ⟨n, hn, hn2⟩ : ∃ n : Nat, (if (if (ns.length : Int) < 32 then (ns.length : Int) else 32) > 2 then (if (ns.length : Int) < 32 then (ns.length : Int) else 32) else 2) = (n : Int) ∧ n ≤ 32 := by
    refine ⟨max 2 (min 32 ns.length), ?_, by omega⟩
    split <;> split <;> omega
  obtain ⟨s1, e1, x1, x2, x3, x4, x5, x6, x7, rfl⟩ := loopF_inv (f := bodyO (.nm 1) l0_law) (fun s => ∃ x1 x2 x3 x4 x5 x6 x7, s = [.scr ns, x1, x2, x3, x4, x5, x6, x7]) (xs := rngD 0 (((n : Int) + 1) / 2).toNat 2) (s := [.scr ns, .dead, .dead, .dead, .dead, .dead, .dead, .dead]) (fun d hd s hs => by
    obtain ⟨j, hj, rfl⟩ := rngD_mem hd
    obtain ⟨x1, x2, x3, x4, x5, x6, x7, rfl⟩ := hs
    obtain ⟨k, hk, hk2⟩ : ∃ k : Nat, (0 : Int) + (j : Int) * 2 = k ∧ k ≤ 40 := ⟨j * 2, by omega, by omega⟩
    obtain ⟨y2, y3, y4, y5, y6, y7, e⟩ := turn ns k hk2 x2 x3 x4 x5 x6 x7
    refine ⟨_, ?_, .int k, y2, y3, y4, y5, y6, y7, rfl⟩
    rw [hk]
    exact e) ⟨.dead, .dead, .dead, .dead, .dead, .dead, .dead, rfl⟩
  have hb : n < 4611686018427387904 := by omega
  have hb2 : (-4611686018427387904 : Int) ≤ n := by omega
  simp only [ge_law]
  simp [runF_eq, b_law, hn, hb, hb2, e1]
end TT.Law
namespace TT.Law
open PySem PySem.Spec PyProof.Rows L2 TT
theorem all_mk {l : PySem.W.OpenLaw} {w : World} {K : PySem.W.Frag} {h : Heap} {mg : Str → Option Value} {fa : Addr} (KX : K.In h) (G : h.Ns mainGlobals mg) (hfa : mg "law" = some (.ref fa))
    {a0_ : Addr} {od0 an0 : Option Addr} {sl0 : Array (Option Value)} {oc0 kV0 dc0 pm0 cd0 ct0 : Value}
    {a1_ : Addr} {od1 an1 : Option Addr} {sl1 : Array (Option Value)} {oc1 kV1 dc1 pm1 cd1 ct1 : Value}
    {a2_ : Addr} {od2 an2 : Option Addr} {sl2 : Array (Option Value)} {oc2 kV2 dc2 pm2 cd2 ct2 : Value}
    {u2_0 : Tok}
    {t2 : Addr} {tc2 : Value} {td2 : Option Addr} {tn2 : Nat} {ts2 : Array (Option Value)}
    {a3_ : Addr} {od3 an3 : Option Addr} {sl3 : Array (Option Value)} {oc3 kV3 dc3 pm3 cd3 ct3 : Value}
    {a4_ : Addr} {od4 an4 : Option Addr} {sl4 : Array (Option Value)} {oc4 kV4 dc4 pm4 cd4 ct4 : Value}
    {a5_ : Addr} {od5 an5 : Option Addr} {sl5 : Array (Option Value)} {oc5 kV5 dc5 pm5 cd5 ct5 : Value}
    {a6_ : Addr} {od6 an6 : Option Addr} {sl6 : Array (Option Value)} {oc6 kV6 dc6 pm6 cd6 ct6 : Value}
    {a7_ : Addr} {od7 an7 : Option Addr} {sl7 : Array (Option Value)} {oc7 kV7 dc7 pm7 cd7 ct7 : Value}
    {a8_ : Addr} {od8 an8 : Option Addr} {sl8 : Array (Option Value)} {oc8 kV8 dc8 pm8 cd8 ct8 : Value}
    {a9_ : Addr} {od9 an9 : Option Addr} {sl9 : Array (Option Value)} {oc9 kV9 dc9 pm9 cd9 ct9 : Value}
    {a10_ : Addr} {od10 an10 : Option Addr} {sl10 : Array (Option Value)} {oc10 kV10 dc10 pm10 cd10 ct10 : Value}
    {a11_ : Addr} {od11 an11 : Option Addr} {sl11 : Array (Option Value)} {oc11 kV11 dc11 pm11 cd11 ct11 : Value}
    {a12_ : Addr} {od12 an12 : Option Addr} {sl12 : Array (Option Value)} {oc12 kV12 dc12 pm12 cd12 ct12 : Value}
    {a13_ : Addr} {od13 an13 : Option Addr} {sl13 : Array (Option Value)} {oc13 kV13 dc13 pm13 cd13 ct13 : Value}
    {a14_ : Addr} {od14 an14 : Option Addr} {sl14 : Array (Option Value)} {oc14 kV14 dc14 pm14 cd14 ct14 : Value}
    {a15_ : Addr} {od15 an15 : Option Addr} {sl15 : Array (Option Value)} {oc15 kV15 dc15 pm15 cd15 ct15 : Value}
    {a16_ : Addr} {od16 an16 : Option Addr} {sl16 : Array (Option Value)} {oc16 kV16 dc16 pm16 cd16 ct16 : Value}
    {a17_ : Addr} {od17 an17 : Option Addr} {sl17 : Array (Option Value)} {oc17 kV17 dc17 pm17 cd17 ct17 : Value}
    {a18_ : Addr} {od18 an18 : Option Addr} {sl18 : Array (Option Value)} {oc18 kV18 dc18 pm18 cd18 ct18 : Value}
    {a19_ : Addr} {od19 an19 : Option Addr} {sl19 : Array (Option Value)} {oc19 kV19 dc19 pm19 cd19 ct19 : Value}
    {a20_ : Addr} {od20 an20 : Option Addr} {sl20 : Array (Option Value)} {oc20 kV20 dc20 pm20 cd20 ct20 : Value}
    {gu0 : Tok}
    {gu1 : Tok}
    {c0 c1 : Addr}
    (ac0 : PySem.W.nsIn K mainGlobals "OddsError" = some (some (.ref c0)))
    (ac1 : PySem.W.nsIn K mainGlobals "NoShare" = some (some (.ref c1)))
    (x1 : PySem.W.excIn K c1 [.type "ValueError", .type "Exception", .type "BaseException", .type "object"] "ValueError.__new__" = true)
    (kc1 : PySem.W.keepIn K (.ref c1) = true)
    (sb1 : PySem.W.subIn K (.ref c1) (.type "BaseException") = some true)
    (ty1 : PySem.W.typeIn K (.ref c1) = some (.type "type"))
    (eg1 : PySem.W.findIn K (.ref c1) "__getattribute__" = some (some (.builtin "BaseException.__getattribute__")))
    (ek1 : PySem.W.findIn K (.ref c1) "__getattr__" = some none)
    (ed1 : PySem.W.hasDictIn K c1 = true)
    (ea1 : PySem.W.findIn K (.ref c1) "__class__" = some (some (.builtin "object.__class__")))
    (em1 : PySem.W.mroIn K c1 (.type "object") = some true)
    (en : PySem.W.specialIn K (.builtin "object.__class__") "__get__" = some (some (.builtin "getset_descriptor.__get__")))
    (et : PySem.W.takesIn K (.builtin "object.__class__") = some true)
    (kt0 : PySem.W.exmOne K (.ref c1) (.ref c0) = some true)
    (kt1 : PySem.W.kitOne K (.ref c1) (.ref c1) = some true)
    (kt2 : PySem.W.kitOne K (.type "NoneType") (.ref c1) = some false)
    (kt3 : PySem.W.kitOne K (.type "int") (.ref c1) = some false)
    (kt4 : PySem.W.kitOne K (.type "bool") (.ref c1) = some false)
    (kt5 : PySem.W.kitOne K (.type "str") (.ref c1) = some false)
    (kt6 : PySem.W.kitOne K (.type "tuple") (.ref c1) = some false)
    (kt7 : PySem.W.kitOne K (.type "list") (.ref c1) = some false)
    (kt8 : PySem.W.kitOne K (.type "dict") (.ref c1) = some false)
    (kt9 : PySem.W.kitOne K (.ref c1) (.type "ValueError") = some true)
    (a0 : PySem.W.nsIn K mainGlobals "is_whole" = some (some (.ref a0_)))
    (l0 : K.lookup a0_ = some ⟨oc0, od0, .func (PySem.W.fnOf "is_whole" "is_whole" (defArgs (top 6)) (defBody (top 6)) (defScope (top 6)) (.none) kV0 dc0 pm0 an0 cd0 ct0), sl0⟩)
    (cd0_ : PySem.W.codeIn K cd0 "is_whole" = true)
    (kp0 : PySem.W.keepIn K (.ref a0_) = true)
    (a1 : PySem.W.nsIn K mainGlobals "common" = some (some (.ref a1_)))
    (l1 : K.lookup a1_ = some ⟨oc1, od1, .func (PySem.W.fnOf "common" "common" (defArgs (top 7)) (defBody (top 7)) (defScope (top 7)) (.none) kV1 dc1 pm1 an1 cd1 ct1), sl1⟩)
    (cd1_ : PySem.W.codeIn K cd1 "common" = true)
    (kp1 : PySem.W.keepIn K (.ref a1_) = true)
    (a2 : PySem.W.nsIn K mainGlobals "share" = some (some (.ref a2_)))
    (l2 : K.lookup a2_ = some ⟨oc2, od2, .func (PySem.W.fnOf "share" "share" (defArgs (top 8)) (defBody (top 8)) (defScope (top 8)) (.ref t2) kV2 dc2 pm2 an2 cd2 ct2), sl2⟩)
    (cd2_ : PySem.W.codeIn K cd2 "share" = true)
    (kp2 : PySem.W.keepIn K (.ref a2_) = true)
    (lt2 : K.lookup t2 = some ⟨tc2, td2, .seq #[.int 1 u2_0] tn2, ts2⟩)
    (a3 : PySem.W.nsIn K mainGlobals "is_share" = some (some (.ref a3_)))
    (l3 : K.lookup a3_ = some ⟨oc3, od3, .func (PySem.W.fnOf "is_share" "is_share" (defArgs (top 9)) (defBody (top 9)) (defScope (top 9)) (.none) kV3 dc3 pm3 an3 cd3 ct3), sl3⟩)
    (cd3_ : PySem.W.codeIn K cd3 "is_share" = true)
    (kp3 : PySem.W.keepIn K (.ref a3_) = true)
    (a4 : PySem.W.nsIn K mainGlobals "need_share" = some (some (.ref a4_)))
    (l4 : K.lookup a4_ = some ⟨oc4, od4, .func (PySem.W.fnOf "need_share" "need_share" (defArgs (top 10)) (defBody (top 10)) (defScope (top 10)) (.none) kV4 dc4 pm4 an4 cd4 ct4), sl4⟩)
    (cd4_ : PySem.W.codeIn K cd4 "need_share" = true)
    (kp4 : PySem.W.keepIn K (.ref a4_) = true)
    (a5 : PySem.W.nsIn K mainGlobals "text_of" = some (some (.ref a5_)))
    (l5 : K.lookup a5_ = some ⟨oc5, od5, .func (PySem.W.fnOf "text_of" "text_of" (defArgs (top 11)) (defBody (top 11)) (defScope (top 11)) (.none) kV5 dc5 pm5 an5 cd5 ct5), sl5⟩)
    (cd5_ : PySem.W.codeIn K cd5 "text_of" = true)
    (kp5 : PySem.W.keepIn K (.ref a5_) = true)
    (a6 : PySem.W.nsIn K mainGlobals "number_in" = some (some (.ref a6_)))
    (l6 : K.lookup a6_ = some ⟨oc6, od6, .func (PySem.W.fnOf "number_in" "number_in" (defArgs (top 12)) (defBody (top 12)) (defScope (top 12)) (.none) kV6 dc6 pm6 an6 cd6 ct6), sl6⟩)
    (cd6_ : PySem.W.codeIn K cd6 "number_in" = true)
    (kp6 : PySem.W.keepIn K (.ref a6_) = true)
    (a7 : PySem.W.nsIn K mainGlobals "share_in" = some (some (.ref a7_)))
    (l7 : K.lookup a7_ = some ⟨oc7, od7, .func (PySem.W.fnOf "share_in" "share_in" (defArgs (top 13)) (defBody (top 13)) (defScope (top 13)) (.none) kV7 dc7 pm7 an7 cd7 ct7), sl7⟩)
    (cd7_ : PySem.W.codeIn K cd7 "share_in" = true)
    (kp7 : PySem.W.keepIn K (.ref a7_) = true)
    (a8 : PySem.W.nsIn K mainGlobals "_law_cell_at" = some (some (.ref a8_)))
    (l8 : K.lookup a8_ = some ⟨oc8, od8, .func (PySem.W.fnOf "_law_cell_at" "_law_cell_at" (defArgs (top 15)) (defBody (top 15)) (defScope (top 15)) (.none) kV8 dc8 pm8 an8 cd8 ct8), sl8⟩)
    (cd8_ : PySem.W.codeIn K cd8 "_law_cell_at" = true)
    (kp8 : PySem.W.keepIn K (.ref a8_) = true)
    (a9 : PySem.W.nsIn K mainGlobals "_law_mixed" = some (some (.ref a9_)))
    (l9 : K.lookup a9_ = some ⟨oc9, od9, .func (PySem.W.fnOf "_law_mixed" "_law_mixed" (defArgs (top 16)) (defBody (top 16)) (defScope (top 16)) (.none) kV9 dc9 pm9 an9 cd9 ct9), sl9⟩)
    (cd9_ : PySem.W.codeIn K cd9 "_law_mixed" = true)
    (kp9 : PySem.W.keepIn K (.ref a9_) = true)
    (a10 : PySem.W.nsIn K mainGlobals "_law_great" = some (some (.ref a10_)))
    (l10 : K.lookup a10_ = some ⟨oc10, od10, .func (PySem.W.fnOf "_law_great" "_law_great" (defArgs (top 17)) (defBody (top 17)) (defScope (top 17)) (.none) kV10 dc10 pm10 an10 cd10 ct10), sl10⟩)
    (cd10_ : PySem.W.codeIn K cd10 "_law_great" = true)
    (kp10 : PySem.W.keepIn K (.ref a10_) = true)
    (a11 : PySem.W.nsIn K mainGlobals "_law_common" = some (some (.ref a11_)))
    (l11 : K.lookup a11_ = some ⟨oc11, od11, .func (PySem.W.fnOf "_law_common" "_law_common" (defArgs (top 18)) (defBody (top 18)) (defScope (top 18)) (.none) kV11 dc11 pm11 an11 cd11 ct11), sl11⟩)
    (cd11_ : PySem.W.codeIn K cd11 "_law_common" = true)
    (kp11 : PySem.W.keepIn K (.ref a11_) = true)
    (a12 : PySem.W.nsIn K mainGlobals "_law_figures" = some (some (.ref a12_)))
    (l12 : K.lookup a12_ = some ⟨oc12, od12, .func (PySem.W.fnOf "_law_figures" "_law_figures" (defArgs (top 19)) (defBody (top 19)) (defScope (top 19)) (.none) kV12 dc12 pm12 an12 cd12 ct12), sl12⟩)
    (cd12_ : PySem.W.codeIn K cd12 "_law_figures" = true)
    (kp12 : PySem.W.keepIn K (.ref a12_) = true)
    (a13 : PySem.W.nsIn K mainGlobals "_law_read" = some (some (.ref a13_)))
    (l13 : K.lookup a13_ = some ⟨oc13, od13, .func (PySem.W.fnOf "_law_read" "_law_read" (defArgs (top 20)) (defBody (top 20)) (defScope (top 20)) (.none) kV13 dc13 pm13 an13 cd13 ct13), sl13⟩)
    (cd13_ : PySem.W.codeIn K cd13 "_law_read" = true)
    (kp13 : PySem.W.keepIn K (.ref a13_) = true)
    (a14 : PySem.W.nsIn K mainGlobals "_law_written" = some (some (.ref a14_)))
    (l14 : K.lookup a14_ = some ⟨oc14, od14, .func (PySem.W.fnOf "_law_written" "_law_written" (defArgs (top 21)) (defBody (top 21)) (defScope (top 21)) (.none) kV14 dc14 pm14 an14 cd14 ct14), sl14⟩)
    (cd14_ : PySem.W.codeIn K cd14 "_law_written" = true)
    (kp14 : PySem.W.keepIn K (.ref a14_) = true)
    (a15 : PySem.W.nsIn K mainGlobals "_law_is_refused" = some (some (.ref a15_)))
    (l15 : K.lookup a15_ = some ⟨oc15, od15, .func (PySem.W.fnOf "_law_is_refused" "_law_is_refused" (defArgs (top 22)) (defBody (top 22)) (defScope (top 22)) (.none) kV15 dc15 pm15 an15 cd15 ct15), sl15⟩)
    (cd15_ : PySem.W.codeIn K cd15 "_law_is_refused" = true)
    (kp15 : PySem.W.keepIn K (.ref a15_) = true)
    (a16 : PySem.W.nsIn K mainGlobals "_law_number" = some (some (.ref a16_)))
    (l16 : K.lookup a16_ = some ⟨oc16, od16, .func (PySem.W.fnOf "_law_number" "_law_number" (defArgs (top 23)) (defBody (top 23)) (defScope (top 23)) (.none) kV16 dc16 pm16 an16 cd16 ct16), sl16⟩)
    (cd16_ : PySem.W.codeIn K cd16 "_law_number" = true)
    (kp16 : PySem.W.keepIn K (.ref a16_) = true)
    (a17 : PySem.W.nsIn K mainGlobals "_law_due" = some (some (.ref a17_)))
    (l17 : K.lookup a17_ = some ⟨oc17, od17, .func (PySem.W.fnOf "_law_due" "_law_due" (defArgs (top 24)) (defBody (top 24)) (defScope (top 24)) (.none) kV17 dc17 pm17 an17 cd17 ct17), sl17⟩)
    (cd17_ : PySem.W.codeIn K cd17 "_law_due" = true)
    (kp17 : PySem.W.keepIn K (.ref a17_) = true)
    (a18 : PySem.W.nsIn K mainGlobals "_law_part" = some (some (.ref a18_)))
    (l18 : K.lookup a18_ = some ⟨oc18, od18, .func (PySem.W.fnOf "_law_part" "_law_part" (defArgs (top 25)) (defBody (top 25)) (defScope (top 25)) (.none) kV18 dc18 pm18 an18 cd18 ct18), sl18⟩)
    (cd18_ : PySem.W.codeIn K cd18 "_law_part" = true)
    (kp18 : PySem.W.keepIn K (.ref a18_) = true)
    (a19 : PySem.W.nsIn K mainGlobals "_law_drawn" = some (some (.ref a19_)))
    (l19 : K.lookup a19_ = some ⟨oc19, od19, .func (PySem.W.fnOf "_law_drawn" "_law_drawn" (defArgs (top 26)) (defBody (top 26)) (defScope (top 26)) (.none) kV19 dc19 pm19 an19 cd19 ct19), sl19⟩)
    (cd19_ : PySem.W.codeIn K cd19 "_law_drawn" = true)
    (kp19 : PySem.W.keepIn K (.ref a19_) = true)
    (a20 : PySem.W.nsIn K mainGlobals "law" = some (some (.ref a20_)))
    (l20 : K.lookup a20_ = some ⟨oc20, od20, .func (PySem.W.fnOf "law" "law" (defArgs (top 27)) (defBody (top 27)) (defScope (top 27)) (.none) kV20 dc20 pm20 an20 cd20 ct20), sl20⟩)
    (cd20_ : PySem.W.codeIn K cd20 "law" = true)
    (kp20 : PySem.W.keepIn K (.ref a20_) = true)
    (z_ValueError : PySem.W.nsIn K mainGlobals "ValueError" = some none)
    (z_all : PySem.W.nsIn K mainGlobals "all" = some none)
    (z_bool : PySem.W.nsIn K mainGlobals "bool" = some none)
    (z_divmod : PySem.W.nsIn K mainGlobals "divmod" = some none)
    (z_int : PySem.W.nsIn K mainGlobals "int" = some none)
    (z_isinstance : PySem.W.nsIn K mainGlobals "isinstance" = some none)
    (z_len : PySem.W.nsIn K mainGlobals "len" = some none)
    (z_max : PySem.W.nsIn K mainGlobals "max" = some none)
    (z_min : PySem.W.nsIn K mainGlobals "min" = some none)
    (z_range : PySem.W.nsIn K mainGlobals "range" = some none)
    (z_str : PySem.W.nsIn K mainGlobals "str" = some none)
    (z_tuple : PySem.W.nsIn K mainGlobals "tuple" = some none)
    (gg0 : PySem.W.nsIn K mainGlobals "MOST_FIGURES" = some (some (.int 7 gu0)))
    (gg1 : PySem.W.nsIn K mainGlobals "FIGURES" = some (some (.str "0123456789" gu1)))
    : ∃ fd : FuncData, (∀ (s : Shared) (v : Value), BindsTo s fd ⟨[v], []⟩ [("_law_script", v)]) ∧ ∀ base : Heap, K.In base → base.Ns mainGlobals mg → FnOk l.prog w K mg base (L2.CX l.prog w) 6 fa fd ["_law_script"] (spL K) := by
  have e := hfa.symm.trans (PySem.W.mg_of KX G a20)
  have e2 : a20_ = fa := by injection e with e; injection e with e; exact e.symm
  subst e2
  let C : Gl0 := ⟨K, fun k => match k with | 0 => c0 | 1 => c1 | _ => 0, fun k => match k with  | _ => 0⟩
  have hbn : ∀ x ∈ bnL, mg x = none := by
    intro x hx
    simp only [bnL, List.mem_cons, List.not_mem_nil, or_false] at hx
    rcases hx with rfl | rfl | rfl | rfl | rfl | rfl | rfl | rfl | rfl | rfl | rfl | rfl
    · exact PySem.W.mg_none_of KX G z_ValueError
    · exact PySem.W.mg_none_of KX G z_all
    · exact PySem.W.mg_none_of KX G z_bool
    · exact PySem.W.mg_none_of KX G z_divmod
    · exact PySem.W.mg_none_of KX G z_int
    · exact PySem.W.mg_none_of KX G z_isinstance
    · exact PySem.W.mg_none_of KX G z_len
    · exact PySem.W.mg_none_of KX G z_max
    · exact PySem.W.mg_none_of KX G z_min
    · exact PySem.W.mg_none_of KX G z_range
    · exact PySem.W.mg_none_of KX G z_str
    · exact PySem.W.mg_none_of KX G z_tuple
  have F0 := dfun_mk (x := "is_whole") (st := top 6) l0 cd0_
  have b0 := F0.binds (ps := ["thing", "least"]) fun _ _ _ _ _ _ us hl => match us, hl with | [_, _], _ => rfl
  have F1 := dfun_mk (x := "common") (st := top 7) l1 cd1_
  have b1 := F1.binds (ps := ["one", "other"]) fun _ _ _ _ _ _ us hl => match us, hl with | [_, _], _ => rfl
  have F2 := dfun_mk (x := "share") (st := top 8) l2 cd2_
  have b2_0 := F2.bindsD (ps := ["top", "bottom"]) lt2 (its := [.int 1 u2_0]) rfl 1 0 rfl fun _ _ _ _ _ _ us hl => match us, hl with | [_], _ => ⟨_, rfl, rfl⟩
  have b2_1 := F2.bindsD (ps := ["top", "bottom"]) lt2 (its := [.int 1 u2_0]) rfl 2 1 rfl fun _ _ _ _ _ _ us hl => match us, hl with | [_, _], _ => ⟨_, rfl, rfl⟩
  have b2 := binds_d1 b2_0 b2_1
  have F3 := dfun_mk (x := "is_share") (st := top 9) l3 cd3_
  have b3 := F3.binds (ps := ["thing"]) fun _ _ _ _ _ _ us hl => match us, hl with | [_], _ => rfl
  have F4 := dfun_mk (x := "need_share") (st := top 10) l4 cd4_
  have b4 := F4.binds (ps := ["thing"]) fun _ _ _ _ _ _ us hl => match us, hl with | [_], _ => rfl
  have F5 := dfun_mk (x := "text_of") (st := top 11) l5 cd5_
  have b5 := F5.binds (ps := ["one"]) fun _ _ _ _ _ _ us hl => match us, hl with | [_], _ => rfl
  have F6 := dfun_mk (x := "number_in") (st := top 12) l6 cd6_
  have b6 := F6.binds (ps := ["text"]) fun _ _ _ _ _ _ us hl => match us, hl with | [_], _ => rfl
  have F7 := dfun_mk (x := "share_in") (st := top 13) l7 cd7_
  have b7 := F7.binds (ps := ["text"]) fun _ _ _ _ _ _ us hl => match us, hl with | [_], _ => rfl
  have F8 := dfun_mk (x := "_law_cell_at") (st := top 15) l8 cd8_
  have b8 := F8.binds (ps := ["_law_script", "_law_k"]) fun _ _ _ _ _ _ us hl => match us, hl with | [_, _], _ => rfl
  have F9 := dfun_mk (x := "_law_mixed") (st := top 16) l9 cd9_
  have b9 := F9.binds (ps := ["_law_cell", "_law_k"]) fun _ _ _ _ _ _ us hl => match us, hl with | [_, _], _ => rfl
  have F10 := dfun_mk (x := "_law_great") (st := top 17) l10 cd10_
  have b10 := F10.binds (ps := ["_law_cell", "_law_figures_here"]) fun _ _ _ _ _ _ us hl => match us, hl with | [_, _], _ => rfl
  have F11 := dfun_mk (x := "_law_common") (st := top 18) l11 cd11_
  have b11 := F11.binds (ps := ["_law_one", "_law_other"]) fun _ _ _ _ _ _ us hl => match us, hl with | [_, _], _ => rfl
  have F12 := dfun_mk (x := "_law_figures") (st := top 19) l12 cd12_
  have b12 := F12.binds (ps := ["_law_number_here"]) fun _ _ _ _ _ _ us hl => match us, hl with | [_], _ => rfl
  have F13 := dfun_mk (x := "_law_read") (st := top 20) l13 cd13_
  have b13 := F13.binds (ps := ["_law_text"]) fun _ _ _ _ _ _ us hl => match us, hl with | [_], _ => rfl
  have F14 := dfun_mk (x := "_law_written") (st := top 21) l14 cd14_
  have b14 := F14.binds (ps := ["_law_thing"]) fun _ _ _ _ _ _ us hl => match us, hl with | [_], _ => rfl
  have F15 := dfun_mk (x := "_law_is_refused") (st := top 22) l15 cd15_
  have b15 := F15.binds (ps := ["_law_found"]) fun _ _ _ _ _ _ us hl => match us, hl with | [_], _ => rfl
  have F16 := dfun_mk (x := "_law_number") (st := top 23) l16 cd16_
  have b16 := F16.binds (ps := ["_law_text"]) fun _ _ _ _ _ _ us hl => match us, hl with | [_], _ => rfl
  have F17 := dfun_mk (x := "_law_due") (st := top 24) l17 cd17_
  have b17 := F17.binds (ps := ["_law_text"]) fun _ _ _ _ _ _ us hl => match us, hl with | [_], _ => rfl
  have F18 := dfun_mk (x := "_law_part") (st := top 25) l18 cd18_
  have b18 := F18.binds (ps := ["_law_cell", "_law_k"]) fun _ _ _ _ _ _ us hl => match us, hl with | [_, _], _ => rfl
  have F19 := dfun_mk (x := "_law_drawn") (st := top 26) l19 cd19_
  have b19 := F19.binds (ps := ["_law_cell"]) fun _ _ _ _ _ _ us hl => match us, hl with | [_], _ => rfl
  have F20 := dfun_mk (x := "law") (st := top 27) l20 cd20_
  have b20 := F20.binds (ps := ["_law_script"]) fun _ _ _ _ _ _ us hl => match us, hl with | [_], _ => rfl
  refine ⟨PySem.W.fnOf "law" "law" (defArgs (top 27)) (defBody (top 27)) (defScope (top 27)) .none kV20 dc20 pm20 an20 cd20 ct20, fun s v => .of_eq rfl, fun base kb gb => ?_⟩
  have ec1 : ExcC K c1 := ⟨eg1, ek1, sb1, ed1, ea1, en, et, em1⟩
  have o0 : FnOk l.prog w K mg base (L2.CX l.prog w) f_is_whole.lv a0_ _ ["thing", "least"] (spec C f_is_whole) := def_ok (k := 0) rfl F0 s_is_whole rfl m_is_whole hbn (fun Y hP hw hK hm hb => by
    have hL : AllNd C Y (nSs b_is_whole) := ⟨(⟨fun k z => (nomatch z), by rw [hK]; exact (fun _ z => nomatch z)⟩ : NdOk C Y (.isi (.b "int") "int" [])), (⟨fun k z => (nomatch z), by rw [hK]; exact (fun _ z => nomatch z)⟩ : NdOk C Y (.isi (.b "bool") "bool" [])), trivial⟩
    exact hL) h_is_whole
  have n0 : ∀ Y : Cx, Y.prog = l.prog → Y.w = w → Y.K = K → Y.mg = mg → Y.base = base → NdOk C Y (.fe f_is_whole) := fun Y hP hw hK hm hb => by
    obtain ⟨prog, w0, K0, mg0, base0, A, N, s_0, H_0, env, outer, stack, ex, fn, calm, pn, xe⟩ := Y
    cases hP; cases hw; cases hK; cases hm; cases hb
    exact ⟨a0_, _, _, ([] : List V), ([] : List Value), PySem.W.mg_of KX G a0, kp0, ⟨rfl, rfl, .nil, fun _ _ _ => ⟨rfl, rfl⟩, b0, o0⟩⟩
  have o1 : FnOk l.prog w K mg base (L2.CX l.prog w) f_common.lv a1_ _ ["one", "other"] (spec C f_common) := def_ok (k := 0) rfl F1 s_common rfl m_common hbn (fun Y hP hw hK hm hb => by
    have hL : AllNd C Y (nSs b_common) := trivial
    exact hL) h_common
  have n1 : ∀ Y : Cx, Y.prog = l.prog → Y.w = w → Y.K = K → Y.mg = mg → Y.base = base → NdOk C Y (.fe f_common) := fun Y hP hw hK hm hb => by
    obtain ⟨prog, w0, K0, mg0, base0, A, N, s_0, H_0, env, outer, stack, ex, fn, calm, pn, xe⟩ := Y
    cases hP; cases hw; cases hK; cases hm; cases hb
    exact ⟨a1_, _, _, ([] : List V), ([] : List Value), PySem.W.mg_of KX G a1, kp1, ⟨rfl, rfl, .nil, fun _ _ _ => ⟨rfl, rfl⟩, b1, o1⟩⟩
  have o2 : FnOk l.prog w K mg base (L2.CX l.prog w) f_share.lv a2_ _ ["top", "bottom"] (spec C f_share) := def_ok (k := 1) rfl F2 s_share rfl m_share hbn (fun Y hP hw hK hm hb => by
    have hL : AllNd C Y (nSs b_share) := ⟨n0 Y hP hw hK hm hb, n0 Y hP hw hK hm hb, (⟨by rw [hm]; exact PySem.W.mg_of KX G ac1, by rw [hK]; exact x1, by rw [hK]; exact kc1, by rw [hK]; exact sb1, by rw [hK]; exact ty1⟩ : ExC C Y 1 "NoShare"), n1 Y hP hw hK hm hb, trivial⟩
    exact hL) h_share
  have n2 : ∀ Y : Cx, Y.prog = l.prog → Y.w = w → Y.K = K → Y.mg = mg → Y.base = base → NdOk C Y (.fe f_share) := fun Y hP hw hK hm hb => by
    obtain ⟨prog, w0, K0, mg0, base0, A, N, s_0, H_0, env, outer, stack, ex, fn, calm, pn, xe⟩ := Y
    cases hP; cases hw; cases hK; cases hm; cases hb
    exact ⟨a2_, _, _, ([.int 1] : List V), ([.int 1 u2_0] : List Value), PySem.W.mg_of KX G a2, kp2, ⟨rfl, rfl, .cons ⟨_, rfl⟩ (.nil), fun _ _ _ => ⟨_, _, [], [], rfl, rfl, ⟨rfl, rfl⟩, ⟨rfl, rfl⟩⟩, b2, o2⟩⟩
  have o3 : FnOk l.prog w K mg base (L2.CX l.prog w) f_is_share.lv a3_ _ ["thing"] (spec C f_is_share) := def_ok (k := 1) rfl F3 s_is_share rfl m_is_share hbn (fun Y hP hw hK hm hb => by
    have hL : AllNd C Y (nSs b_is_share) := ⟨(⟨fun k z => (nomatch z), by rw [hK]; exact (fun _ z => nomatch z)⟩ : NdOk C Y (.isi (.b "tuple") "tuple" [])), n0 Y hP hw hK hm hb, n0 Y hP hw hK hm hb, n1 Y hP hw hK hm hb, trivial⟩
    exact hL) h_is_share
  have n3 : ∀ Y : Cx, Y.prog = l.prog → Y.w = w → Y.K = K → Y.mg = mg → Y.base = base → NdOk C Y (.fe f_is_share) := fun Y hP hw hK hm hb => by
    obtain ⟨prog, w0, K0, mg0, base0, A, N, s_0, H_0, env, outer, stack, ex, fn, calm, pn, xe⟩ := Y
    cases hP; cases hw; cases hK; cases hm; cases hb
    exact ⟨a3_, _, _, ([] : List V), ([] : List Value), PySem.W.mg_of KX G a3, kp3, ⟨rfl, rfl, .nil, fun _ _ _ => ⟨rfl, rfl⟩, b3, o3⟩⟩
  have o4 : FnOk l.prog w K mg base (L2.CX l.prog w) f_need_share.lv a4_ _ ["thing"] (spec C f_need_share) := def_ok (k := 2) rfl F4 s_need_share rfl m_need_share hbn (fun Y hP hw hK hm hb => by
    have hL : AllNd C Y (nSs b_need_share) := ⟨n3 Y hP hw hK hm hb, (⟨by rw [hm]; exact PySem.W.mg_of KX G ac1, by rw [hK]; exact x1, by rw [hK]; exact kc1, by rw [hK]; exact sb1, by rw [hK]; exact ty1⟩ : ExC C Y 1 "NoShare"), trivial⟩
    exact hL) h_need_share
  have n4 : ∀ Y : Cx, Y.prog = l.prog → Y.w = w → Y.K = K → Y.mg = mg → Y.base = base → NdOk C Y (.fe f_need_share) := fun Y hP hw hK hm hb => by
    obtain ⟨prog, w0, K0, mg0, base0, A, N, s_0, H_0, env, outer, stack, ex, fn, calm, pn, xe⟩ := Y
    cases hP; cases hw; cases hK; cases hm; cases hb
    exact ⟨a4_, _, _, ([] : List V), ([] : List Value), PySem.W.mg_of KX G a4, kp4, ⟨rfl, rfl, .nil, fun _ _ _ => ⟨rfl, rfl⟩, b4, o4⟩⟩
  have o5 : FnOk l.prog w K mg base (L2.CX l.prog w) f_text_of.lv a5_ _ ["one"] (spec C f_text_of) := def_ok (k := 3) rfl F5 s_text_of rfl m_text_of hbn (fun Y hP hw hK hm hb => by
    have hL : AllNd C Y (nSs b_text_of) := ⟨n4 Y hP hw hK hm hb, trivial⟩
    exact hL) h_text_of
  have n5 : ∀ Y : Cx, Y.prog = l.prog → Y.w = w → Y.K = K → Y.mg = mg → Y.base = base → NdOk C Y (.fe f_text_of) := fun Y hP hw hK hm hb => by
    obtain ⟨prog, w0, K0, mg0, base0, A, N, s_0, H_0, env, outer, stack, ex, fn, calm, pn, xe⟩ := Y
    cases hP; cases hw; cases hK; cases hm; cases hb
    exact ⟨a5_, _, _, ([] : List V), ([] : List Value), PySem.W.mg_of KX G a5, kp5, ⟨rfl, rfl, .nil, fun _ _ _ => ⟨rfl, rfl⟩, b5, o5⟩⟩
  have o6 : FnOk l.prog w K mg base (L2.CX l.prog w) f_number_in.lv a6_ _ ["text"] (spec C f_number_in) := def_ok (k := 0) rfl F6 s_number_in rfl m_number_in hbn (fun Y hP hw hK hm hb => by
    have hL : AllNd C Y (nSs b_number_in) := ⟨(⟨rfl, rfl, .int 7, .int 7 gu0, by rw [hm]; exact PySem.W.mg_of KX G gg0, ⟨_, rfl⟩, fun _ _ _ => ⟨rfl, rfl⟩⟩ : NdOk C Y (.gl "MOST_FIGURES" (.int 7))), (⟨rfl, rfl, .str "0123456789", .str "0123456789" gu1, by rw [hm]; exact PySem.W.mg_of KX G gg1, ⟨_, rfl⟩, fun _ _ _ => ⟨rfl, rfl⟩⟩ : NdOk C Y (.gl "FIGURES" (.str "0123456789"))), (⟨by rw [hm]; exact PySem.W.mg_of KX G ac1, by rw [hK]; exact x1, by rw [hK]; exact kc1, by rw [hK]; exact sb1, by rw [hK]; exact ty1⟩ : ExC C Y 1 "NoShare"), trivial⟩
    exact hL) h_number_in
  have n6 : ∀ Y : Cx, Y.prog = l.prog → Y.w = w → Y.K = K → Y.mg = mg → Y.base = base → NdOk C Y (.fe f_number_in) := fun Y hP hw hK hm hb => by
    obtain ⟨prog, w0, K0, mg0, base0, A, N, s_0, H_0, env, outer, stack, ex, fn, calm, pn, xe⟩ := Y
    cases hP; cases hw; cases hK; cases hm; cases hb
    exact ⟨a6_, _, _, ([] : List V), ([] : List Value), PySem.W.mg_of KX G a6, kp6, ⟨rfl, rfl, .nil, fun _ _ _ => ⟨rfl, rfl⟩, b6, o6⟩⟩
  have o7 : FnOk l.prog w K mg base (L2.CX l.prog w) f_share_in.lv a7_ _ ["text"] (spec C f_share_in) := def_ok (k := 2) rfl F7 s_share_in rfl m_share_in hbn (fun Y hP hw hK hm hb => by
    have hL : AllNd C Y (nSs b_share_in) := ⟨(⟨fun k z => (nomatch z), by rw [hK]; exact (fun _ z => nomatch z)⟩ : NdOk C Y (.isi (.b "str") "str" [])), (⟨by rw [hm]; exact PySem.W.mg_of KX G ac1, by rw [hK]; exact x1, by rw [hK]; exact kc1, by rw [hK]; exact sb1, by rw [hK]; exact ty1⟩ : ExC C Y 1 "NoShare"), n2 Y hP hw hK hm hb, n6 Y hP hw hK hm hb, n2 Y hP hw hK hm hb, n6 Y hP hw hK hm hb, n6 Y hP hw hK hm hb, trivial⟩
    exact hL) h_share_in
  have n7 : ∀ Y : Cx, Y.prog = l.prog → Y.w = w → Y.K = K → Y.mg = mg → Y.base = base → NdOk C Y (.fe f_share_in) := fun Y hP hw hK hm hb => by
    obtain ⟨prog, w0, K0, mg0, base0, A, N, s_0, H_0, env, outer, stack, ex, fn, calm, pn, xe⟩ := Y
    cases hP; cases hw; cases hK; cases hm; cases hb
    exact ⟨a7_, _, _, ([] : List V), ([] : List Value), PySem.W.mg_of KX G a7, kp7, ⟨rfl, rfl, .nil, fun _ _ _ => ⟨rfl, rfl⟩, b7, o7⟩⟩
  have o8 : FnOk l.prog w K mg base (L2.CX l.prog w) f__law_cell_at.lv a8_ _ ["_law_script", "_law_k"] (spec C f__law_cell_at) := def_ok (k := 0) rfl F8 s__law_cell_at rfl m__law_cell_at hbn (fun Y hP hw hK hm hb => by
    have hL : AllNd C Y (nSs b__law_cell_at) := trivial
    exact hL) h__law_cell_at
  have n8 : ∀ Y : Cx, Y.prog = l.prog → Y.w = w → Y.K = K → Y.mg = mg → Y.base = base → NdOk C Y (.fe f__law_cell_at) := fun Y hP hw hK hm hb => by
    obtain ⟨prog, w0, K0, mg0, base0, A, N, s_0, H_0, env, outer, stack, ex, fn, calm, pn, xe⟩ := Y
    cases hP; cases hw; cases hK; cases hm; cases hb
    exact ⟨a8_, _, _, ([] : List V), ([] : List Value), PySem.W.mg_of KX G a8, kp8, ⟨rfl, rfl, .nil, fun _ _ _ => ⟨rfl, rfl⟩, b8, o8⟩⟩
  have o9 : FnOk l.prog w K mg base (L2.CX l.prog w) f__law_mixed.lv a9_ _ ["_law_cell", "_law_k"] (spec C f__law_mixed) := def_ok (k := 0) rfl F9 s__law_mixed rfl m__law_mixed hbn (fun Y hP hw hK hm hb => by
    have hL : AllNd C Y (nSs b__law_mixed) := trivial
    exact hL) h__law_mixed
  have n9 : ∀ Y : Cx, Y.prog = l.prog → Y.w = w → Y.K = K → Y.mg = mg → Y.base = base → NdOk C Y (.fe f__law_mixed) := fun Y hP hw hK hm hb => by
    obtain ⟨prog, w0, K0, mg0, base0, A, N, s_0, H_0, env, outer, stack, ex, fn, calm, pn, xe⟩ := Y
    cases hP; cases hw; cases hK; cases hm; cases hb
    exact ⟨a9_, _, _, ([] : List V), ([] : List Value), PySem.W.mg_of KX G a9, kp9, ⟨rfl, rfl, .nil, fun _ _ _ => ⟨rfl, rfl⟩, b9, o9⟩⟩
  have o10 : FnOk l.prog w K mg base (L2.CX l.prog w) f__law_great.lv a10_ _ ["_law_cell", "_law_figures_here"] (spec C f__law_great) := def_ok (k := 1) rfl F10 s__law_great rfl m__law_great hbn (fun Y hP hw hK hm hb => by
    have hL : AllNd C Y (nSs b__law_great) := ⟨n9 Y hP hw hK hm hb, n9 Y hP hw hK hm hb, trivial⟩
    exact hL) h__law_great
  have n10 : ∀ Y : Cx, Y.prog = l.prog → Y.w = w → Y.K = K → Y.mg = mg → Y.base = base → NdOk C Y (.fe f__law_great) := fun Y hP hw hK hm hb => by
    obtain ⟨prog, w0, K0, mg0, base0, A, N, s_0, H_0, env, outer, stack, ex, fn, calm, pn, xe⟩ := Y
    cases hP; cases hw; cases hK; cases hm; cases hb
    exact ⟨a10_, _, _, ([] : List V), ([] : List Value), PySem.W.mg_of KX G a10, kp10, ⟨rfl, rfl, .nil, fun _ _ _ => ⟨rfl, rfl⟩, b10, o10⟩⟩
  have o11 : FnOk l.prog w K mg base (L2.CX l.prog w) f__law_common.lv a11_ _ ["_law_one", "_law_other"] (spec C f__law_common) := def_ok (k := 0) rfl F11 s__law_common rfl m__law_common hbn (fun Y hP hw hK hm hb => by
    have hL : AllNd C Y (nSs b__law_common) := trivial
    exact hL) h__law_common
  have n11 : ∀ Y : Cx, Y.prog = l.prog → Y.w = w → Y.K = K → Y.mg = mg → Y.base = base → NdOk C Y (.fe f__law_common) := fun Y hP hw hK hm hb => by
    obtain ⟨prog, w0, K0, mg0, base0, A, N, s_0, H_0, env, outer, stack, ex, fn, calm, pn, xe⟩ := Y
    cases hP; cases hw; cases hK; cases hm; cases hb
    exact ⟨a11_, _, _, ([] : List V), ([] : List Value), PySem.W.mg_of KX G a11, kp11, ⟨rfl, rfl, .nil, fun _ _ _ => ⟨rfl, rfl⟩, b11, o11⟩⟩
  have o12 : FnOk l.prog w K mg base (L2.CX l.prog w) f__law_figures.lv a12_ _ ["_law_number_here"] (spec C f__law_figures) := def_ok (k := 0) rfl F12 s__law_figures rfl m__law_figures hbn (fun Y hP hw hK hm hb => by
    have hL : AllNd C Y (nSs b__law_figures) := trivial
    exact hL) h__law_figures
  have n12 : ∀ Y : Cx, Y.prog = l.prog → Y.w = w → Y.K = K → Y.mg = mg → Y.base = base → NdOk C Y (.fe f__law_figures) := fun Y hP hw hK hm hb => by
    obtain ⟨prog, w0, K0, mg0, base0, A, N, s_0, H_0, env, outer, stack, ex, fn, calm, pn, xe⟩ := Y
    cases hP; cases hw; cases hK; cases hm; cases hb
    exact ⟨a12_, _, _, ([] : List V), ([] : List Value), PySem.W.mg_of KX G a12, kp12, ⟨rfl, rfl, .nil, fun _ _ _ => ⟨rfl, rfl⟩, b12, o12⟩⟩
  have o13 : FnOk l.prog w K mg base (L2.CX l.prog w) f__law_read.lv a13_ _ ["_law_text"] (spec C f__law_read) := def_ok (k := 3) rfl F13 s__law_read rfl m__law_read hbn (fun Y hP hw hK hm hb => by
    have hL : AllNd C Y (nSs b__law_read) := ⟨(⟨by rw [hm]; exact PySem.W.mg_of KX G ac0, by rw [hK]; exact all_cons (kt0) ((fun _ z => nomatch z))⟩ : NdOk C Y (.tr 0 "OddsError" [(1, true)])), n7 Y hP hw hK hm hb, trivial⟩
    exact hL) h__law_read
  have n13 : ∀ Y : Cx, Y.prog = l.prog → Y.w = w → Y.K = K → Y.mg = mg → Y.base = base → NdOk C Y (.fe f__law_read) := fun Y hP hw hK hm hb => by
    obtain ⟨prog, w0, K0, mg0, base0, A, N, s_0, H_0, env, outer, stack, ex, fn, calm, pn, xe⟩ := Y
    cases hP; cases hw; cases hK; cases hm; cases hb
    exact ⟨a13_, _, _, ([] : List V), ([] : List Value), PySem.W.mg_of KX G a13, kp13, ⟨rfl, rfl, .nil, fun _ _ _ => ⟨rfl, rfl⟩, b13, o13⟩⟩
  have o14 : FnOk l.prog w K mg base (L2.CX l.prog w) f__law_written.lv a14_ _ ["_law_thing"] (spec C f__law_written) := def_ok (k := 4) rfl F14 s__law_written rfl m__law_written hbn (fun Y hP hw hK hm hb => by
    have hL : AllNd C Y (nSs b__law_written) := ⟨(⟨by rw [hm]; exact PySem.W.mg_of KX G ac0, by rw [hK]; exact all_cons (kt0) ((fun _ z => nomatch z))⟩ : NdOk C Y (.tr 0 "OddsError" [(1, true)])), n5 Y hP hw hK hm hb, trivial⟩
    exact hL) h__law_written
  have n14 : ∀ Y : Cx, Y.prog = l.prog → Y.w = w → Y.K = K → Y.mg = mg → Y.base = base → NdOk C Y (.fe f__law_written) := fun Y hP hw hK hm hb => by
    obtain ⟨prog, w0, K0, mg0, base0, A, N, s_0, H_0, env, outer, stack, ex, fn, calm, pn, xe⟩ := Y
    cases hP; cases hw; cases hK; cases hm; cases hb
    exact ⟨a14_, _, _, ([] : List V), ([] : List Value), PySem.W.mg_of KX G a14, kp14, ⟨rfl, rfl, .nil, fun _ _ _ => ⟨rfl, rfl⟩, b14, o14⟩⟩
  have o15 : FnOk l.prog w K mg base (L2.CX l.prog w) f__law_is_refused.lv a15_ _ ["_law_found"] (spec C f__law_is_refused) := def_ok (k := 0) rfl F15 s__law_is_refused rfl m__law_is_refused hbn (fun Y hP hw hK hm hb => by
    have hL : AllNd C Y (nSs b__law_is_refused) := ⟨(⟨fun k z => by cases z; exact ⟨by rw [hm]; exact PySem.W.mg_of KX G ac1, by rw [hK]; exact all_cons (kt2) (all_cons (kt3) (all_cons (kt4) (all_cons (kt5) (all_cons (kt6) (all_cons (kt7) (all_cons (kt8) ((fun _ z => nomatch z))))))))⟩, by rw [hK]; exact all_cons (⟨kt1, ec1⟩) ((fun _ z => nomatch z))⟩ : NdOk C Y (.isi (.c 1) "NoShare" [(1, true)])), (⟨fun k z => (nomatch z), by rw [hK]; exact all_cons (⟨kt9, ec1⟩) ((fun _ z => nomatch z))⟩ : NdOk C Y (.isi (.b "ValueError") "ValueError" [(1, true)])), trivial⟩
    exact hL) h__law_is_refused
  have n15 : ∀ Y : Cx, Y.prog = l.prog → Y.w = w → Y.K = K → Y.mg = mg → Y.base = base → NdOk C Y (.fe f__law_is_refused) := fun Y hP hw hK hm hb => by
    obtain ⟨prog, w0, K0, mg0, base0, A, N, s_0, H_0, env, outer, stack, ex, fn, calm, pn, xe⟩ := Y
    cases hP; cases hw; cases hK; cases hm; cases hb
    exact ⟨a15_, _, _, ([] : List V), ([] : List Value), PySem.W.mg_of KX G a15, kp15, ⟨rfl, rfl, .nil, fun _ _ _ => ⟨rfl, rfl⟩, b15, o15⟩⟩
  have o16 : FnOk l.prog w K mg base (L2.CX l.prog w) f__law_number.lv a16_ _ ["_law_text"] (spec C f__law_number) := def_ok (k := 0) rfl F16 s__law_number rfl m__law_number hbn (fun Y hP hw hK hm hb => by
    have hL : AllNd C Y (nSs b__law_number) := trivial
    exact hL) h__law_number
  have n16 : ∀ Y : Cx, Y.prog = l.prog → Y.w = w → Y.K = K → Y.mg = mg → Y.base = base → NdOk C Y (.fe f__law_number) := fun Y hP hw hK hm hb => by
    obtain ⟨prog, w0, K0, mg0, base0, A, N, s_0, H_0, env, outer, stack, ex, fn, calm, pn, xe⟩ := Y
    cases hP; cases hw; cases hK; cases hm; cases hb
    exact ⟨a16_, _, _, ([] : List V), ([] : List Value), PySem.W.mg_of KX G a16, kp16, ⟨rfl, rfl, .nil, fun _ _ _ => ⟨rfl, rfl⟩, b16, o16⟩⟩
  have o17 : FnOk l.prog w K mg base (L2.CX l.prog w) f__law_due.lv a17_ _ ["_law_text"] (spec C f__law_due) := def_ok (k := 1) rfl F17 s__law_due rfl m__law_due hbn (fun Y hP hw hK hm hb => by
    have hL : AllNd C Y (nSs b__law_due) := ⟨n16 Y hP hw hK hm hb, n16 Y hP hw hK hm hb, n11 Y hP hw hK hm hb, trivial⟩
    exact hL) h__law_due
  have n17 : ∀ Y : Cx, Y.prog = l.prog → Y.w = w → Y.K = K → Y.mg = mg → Y.base = base → NdOk C Y (.fe f__law_due) := fun Y hP hw hK hm hb => by
    obtain ⟨prog, w0, K0, mg0, base0, A, N, s_0, H_0, env, outer, stack, ex, fn, calm, pn, xe⟩ := Y
    cases hP; cases hw; cases hK; cases hm; cases hb
    exact ⟨a17_, _, _, ([] : List V), ([] : List Value), PySem.W.mg_of KX G a17, kp17, ⟨rfl, rfl, .nil, fun _ _ _ => ⟨rfl, rfl⟩, b17, o17⟩⟩
  have o18 : FnOk l.prog w K mg base (L2.CX l.prog w) f__law_part.lv a18_ _ ["_law_cell", "_law_k"] (spec C f__law_part) := def_ok (k := 1) rfl F18 s__law_part rfl m__law_part hbn (fun Y hP hw hK hm hb => by
    have hL : AllNd C Y (nSs b__law_part) := ⟨n9 Y hP hw hK hm hb, n9 Y hP hw hK hm hb, trivial⟩
    exact hL) h__law_part
  have n18 : ∀ Y : Cx, Y.prog = l.prog → Y.w = w → Y.K = K → Y.mg = mg → Y.base = base → NdOk C Y (.fe f__law_part) := fun Y hP hw hK hm hb => by
    obtain ⟨prog, w0, K0, mg0, base0, A, N, s_0, H_0, env, outer, stack, ex, fn, calm, pn, xe⟩ := Y
    cases hP; cases hw; cases hK; cases hm; cases hb
    exact ⟨a18_, _, _, ([] : List V), ([] : List Value), PySem.W.mg_of KX G a18, kp18, ⟨rfl, rfl, .nil, fun _ _ _ => ⟨rfl, rfl⟩, b18, o18⟩⟩
  have o19 : FnOk l.prog w K mg base (L2.CX l.prog w) f__law_drawn.lv a19_ _ ["_law_cell"] (spec C f__law_drawn) := def_ok (k := 2) rfl F19 s__law_drawn rfl m__law_drawn hbn (fun Y hP hw hK hm hb => by
    have hL : AllNd C Y (nSs b__law_drawn) := ⟨n18 Y hP hw hK hm hb, n9 Y hP hw hK hm hb, n18 Y hP hw hK hm hb, trivial⟩
    exact hL) h__law_drawn
  have n19 : ∀ Y : Cx, Y.prog = l.prog → Y.w = w → Y.K = K → Y.mg = mg → Y.base = base → NdOk C Y (.fe f__law_drawn) := fun Y hP hw hK hm hb => by
    obtain ⟨prog, w0, K0, mg0, base0, A, N, s_0, H_0, env, outer, stack, ex, fn, calm, pn, xe⟩ := Y
    cases hP; cases hw; cases hK; cases hm; cases hb
    exact ⟨a19_, _, _, ([] : List V), ([] : List Value), PySem.W.mg_of KX G a19, kp19, ⟨rfl, rfl, .nil, fun _ _ _ => ⟨rfl, rfl⟩, b19, o19⟩⟩
  have o20 : FnOk l.prog w K mg base (L2.CX l.prog w) f_law.lv a20_ _ ["_law_script"] (spec C f_law) := def_ok (k := 5) rfl F20 s_law rfl m_law hbn (fun Y hP hw hK hm hb => by
    have hL : AllNd C Y (nSs b_law) := ⟨n9 Y hP hw hK hm hb, n8 Y hP hw hK hm hb, n2 Y hP hw hK hm hb, n10 Y hP hw hK hm hb, n10 Y hP hw hK hm hb, n12 Y hP hw hK hm hb, n12 Y hP hw hK hm hb, n14 Y hP hw hK hm hb, (⟨fun k z => (nomatch z), by rw [hK]; exact (fun _ z => nomatch z)⟩ : NdOk C Y (.isi (.b "str") "str" [])), n13 Y hP hw hK hm hb, n19 Y hP hw hK hm hb, n9 Y hP hw hK hm hb, n8 Y hP hw hK hm hb, n13 Y hP hw hK hm hb, n17 Y hP hw hK hm hb, n15 Y hP hw hK hm hb, n17 Y hP hw hK hm hb, n15 Y hP hw hK hm hb, n13 Y hP hw hK hm hb, n15 Y hP hw hK hm hb, n14 Y hP hw hK hm hb, trivial⟩
    exact hL) h_law
  exact o20.imp (spL_imp (C := C) rfl fun ns hl => law_holds ns hl)
end TT.Law
open PySem PySem.W PyProof.Rows
set_option maxRecDepth 100000 in
set_option maxHeartbeats 0 in
theorem PySem.Challenge.cw_oddsweb_k03_share_texts_holds : PySem.Challenge.rw_oddsweb_k03_share_texts.Holds := by
  w_on; o_law; k_head; (case hw => w_witness2)
  k_fill
  refine TT.walk (l := PySem.Challenge.rw_oddsweb_k03_share_texts) (x := "_law_script") rfl rfl (fun w h Y => PySem.W.kIn_of Y) (k := 6) (TT.room_by (by decide +kernel)) ?F
  case F =>
    intro w mg fa h KX G hmg
    refine' TT.Law.all_mk KX G hmg ?ac0 ?ac1 ?x1 ?kc1 ?sb1 ?ty1 ?eg1 ?ek1 ?ed1 ?ea1 ?em1 ?en ?et ?kt0 ?kt1 ?kt2 ?kt3 ?kt4 ?kt5 ?kt6 ?kt7 ?kt8 ?kt9 ?a0 ?l0 ?cd0_ ?kp0 ?a1 ?l1 ?cd1_ ?kp1 ?a2 ?l2 ?cd2_ ?kp2 ?lt2 ?a3 ?l3 ?cd3_ ?kp3 ?a4 ?l4 ?cd4_ ?kp4 ?a5 ?l5 ?cd5_ ?kp5 ?a6 ?l6 ?cd6_ ?kp6 ?a7 ?l7 ?cd7_ ?kp7 ?a8 ?l8 ?cd8_ ?kp8 ?a9 ?l9 ?cd9_ ?kp9 ?a10 ?l10 ?cd10_ ?kp10 ?a11 ?l11 ?cd11_ ?kp11 ?a12 ?l12 ?cd12_ ?kp12 ?a13 ?l13 ?cd13_ ?kp13 ?a14 ?l14 ?cd14_ ?kp14 ?a15 ?l15 ?cd15_ ?kp15 ?a16 ?l16 ?cd16_ ?kp16 ?a17 ?l17 ?cd17_ ?kp17 ?a18 ?l18 ?cd18_ ?kp18 ?a19 ?l19 ?cd19_ ?kp19 ?a20 ?l20 ?cd20_ ?kp20 ?z_ValueError ?z_all ?z_bool ?z_divmod ?z_int ?z_isinstance ?z_len ?z_max ?z_min ?z_range ?z_str ?z_tuple ?gg0 ?gg1
    (case ac0 => k_is)
    (case ac1 => k_is)
    (case x1 => k_exc)
    (case kc1 => k_is)
    (case sb1 => k_is)
    (case ty1 => k_is)
    (case eg1 => k_is)
    (case ek1 => k_is)
    (case ed1 => k_is)
    (case ea1 => k_is)
    (case em1 => k_is)
    (case en => k_is)
    (case et => k_is)
    (case kt0 => kts_exm)
    (case kt1 => kit_is)
    (case kt2 => kit_is)
    (case kt3 => kit_is)
    (case kt4 => kit_is)
    (case kt5 => kit_is)
    (case kt6 => kit_is)
    (case kt7 => kit_is)
    (case kt8 => kit_is)
    (case kt9 => kit_is)
    (case a0 => k_is)
    (case l0 => k_is)
    (case cd0_ => k_is)
    (case kp0 => k_is)
    (case a1 => k_is)
    (case l1 => k_is)
    (case cd1_ => k_is)
    (case kp1 => k_is)
    (case a2 => k_is)
    (case l2 => k_is)
    (case cd2_ => k_is)
    (case kp2 => k_is)
    (case lt2 => k_is)
    (case a3 => k_is)
    (case l3 => k_is)
    (case cd3_ => k_is)
    (case kp3 => k_is)
    (case a4 => k_is)
    (case l4 => k_is)
    (case cd4_ => k_is)
    (case kp4 => k_is)
    (case a5 => k_is)
    (case l5 => k_is)
    (case cd5_ => k_is)
    (case kp5 => k_is)
    (case a6 => k_is)
    (case l6 => k_is)
    (case cd6_ => k_is)
    (case kp6 => k_is)
    (case a7 => k_is)
    (case l7 => k_is)
    (case cd7_ => k_is)
    (case kp7 => k_is)
    (case a8 => k_is)
    (case l8 => k_is)
    (case cd8_ => k_is)
    (case kp8 => k_is)
    (case a9 => k_is)
    (case l9 => k_is)
    (case cd9_ => k_is)
    (case kp9 => k_is)
    (case a10 => k_is)
    (case l10 => k_is)
    (case cd10_ => k_is)
    (case kp10 => k_is)
    (case a11 => k_is)
    (case l11 => k_is)
    (case cd11_ => k_is)
    (case kp11 => k_is)
    (case a12 => k_is)
    (case l12 => k_is)
    (case cd12_ => k_is)
    (case kp12 => k_is)
    (case a13 => k_is)
    (case l13 => k_is)
    (case cd13_ => k_is)
    (case kp13 => k_is)
    (case a14 => k_is)
    (case l14 => k_is)
    (case cd14_ => k_is)
    (case kp14 => k_is)
    (case a15 => k_is)
    (case l15 => k_is)
    (case cd15_ => k_is)
    (case kp15 => k_is)
    (case a16 => k_is)
    (case l16 => k_is)
    (case cd16_ => k_is)
    (case kp16 => k_is)
    (case a17 => k_is)
    (case l17 => k_is)
    (case cd17_ => k_is)
    (case kp17 => k_is)
    (case a18 => k_is)
    (case l18 => k_is)
    (case cd18_ => k_is)
    (case kp18 => k_is)
    (case a19 => k_is)
    (case l19 => k_is)
    (case cd19_ => k_is)
    (case kp19 => k_is)
    (case a20 => k_is)
    (case l20 => k_is)
    (case cd20_ => k_is)
    (case kp20 => k_is)
    (case z_ValueError => k_is)
    (case z_all => k_is)
    (case z_bool => k_is)
    (case z_divmod => k_is)
    (case z_int => k_is)
    (case z_isinstance => k_is)
    (case z_len => k_is)
    (case z_max => k_is)
    (case z_min => k_is)
    (case z_range => k_is)
    (case z_str => k_is)
    (case z_tuple => k_is)
    (case gg0 => k_is)
    (case gg1 => k_is)
