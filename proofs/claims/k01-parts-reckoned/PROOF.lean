import PyProof.Rows.All
import Wide.All
import OpenK.AllK
import Wide.FinOn
import HandS.ForMost
import HandS.ForExc
import HandS.HeadHook1
import HandS.Wide
import HandS.IsInst
import HandS.Zip
import HandS.Defaults
import HandS.HeadEnd
import HandS.HeadHook2
import HandS.Head0
import HandS.Head1
import HandS.Head2
import PySem.Challenge.RW_dunnage_k01_parts_reckoned
set_option Elab.async false
set_option linter.all false
set_option maxRecDepth 100000
set_option maxHeartbeats 0
namespace VI
open PySem PySem.Spec PyProof.Rows L2

/-- data: a value as a tree; lists, dicts and objects by what they hold -/
inductive T where
  | non | bl (b : Bool) | int (i : Int) | str (x : Str)
  | scr (ns : List Int)
  | tup (xs : List T) | lst (xs : List T) | dct (kvs : List (Key × T)) | ins (c : Str) (fs : List (Key × T))

def fk (fs : List (Str × V)) : List (Key × V) := fs.map fun p => (Sum.inr p.1, p.2)

/-- a key whose text has code points alone -/
def kOk : Key → Bool
  | .inl _ => true
  | .inr x => PyData.strOk x

/-- every tracked thing stays as it is -/
def Same (H H' : Hp) : Prop := ∀ a o, H a = some o → H' a = some o
theorem Same.refl (H : Hp) : Same H H := fun _ _ e => e
theorem Same.trans {H H1 H2 : Hp} (a : Same H H1) (b : Same H1 H2) : Same H H2 := fun c o e => b c o (a c o e)
theorem Same.laid {H : Hp} {p : Addr} {o : HO} (n : H p = none) : Same H (upd H p o) := fun a u e => by
  rw [upd_ne (ne_of_none e n)]; exact e
theorem Same.dom {H H' : Hp} (s : Same H H') {a : Addr} (h : H a ≠ none) : H' a ≠ none := by
  cases e : H a with
  | none => exact absurd e h
  | some o => rw [s a o e]; simp
theorem Same.sqT {K : PySem.W.Frag} {H H' : Hp} (s : Same H H') {a : Addr} {xs : List V} (h : SqT K H a xs) : SqT K H' a xs := by
  rcases h with (h | ⟨o, h⟩) | h
  · exact .inl (.inl (s _ _ h))
  · exact .inl (.inr ⟨o, s _ _ h⟩)
  · exact .inr h
theorem Same.sqL {K : PySem.W.Frag} {H H' : Hp} (s : Same H H') {a : Addr} {xs : List V} (h : SqL K H a xs) : SqL K H' a xs := by
  rcases h with (h | ⟨o, h⟩) | h
  · exact .inl (.inl (s _ _ h))
  · exact .inl (.inr ⟨o, s _ _ h⟩)
  · exact .inr h

section
variable (K : PySem.W.Frag) (H : Hp) (A : Addr → Prop)
/- v stands for the tree t; the things of its first k levels lie at fp, all others are among A -/
mutual
def Ow : Nat → T → V → List Addr → Prop
  | _, .non, v, fp => v = .non ∧ fp = []
  | _, .bl b, v, fp => v = .bl b ∧ fp = []
  | _, .int i, v, fp => v = .int i ∧ fp = []
  | _, .str x, v, fp => v = .str x ∧ fp = [] ∧ PyData.strOk x = true
  | _, .scr ns, v, fp => ∃ a, v = .ref a ∧ (A a ∨ ∀ H', SqL K H' a (ns.map V.int)) ∧ SqL K H a (ns.map V.int) ∧ fp = []
  | _, .tup ts, v, fp => ∃ a xs, v = .ref a ∧ SqT K H a xs ∧ OwL 0 ts xs [] ∧ fp = []
  | 0, .lst ts, v, fp => ∃ a xs, v = .ref a ∧ A a ∧ H a = some (.lst xs) ∧ OwL 0 ts xs fp
  | 0, .dct ts, v, fp => ∃ a xs, v = .ref a ∧ A a ∧ H a = some (.dK xs) ∧ OwK 0 ts xs fp
  | 0, .ins c ts, v, fp => ∃ a dx xs, v = .ref a ∧ A a ∧ H a = some (.ins (He.ga K c) dx xs) ∧ OwK 0 ts (fk xs) fp
  | k + 1, .lst ts, v, fp => ∃ a xs f, v = .ref a ∧ fp = a :: f ∧ H a = some (.lst xs) ∧ OwL k ts xs f
  | k + 1, .dct ts, v, fp => ∃ a xs f, v = .ref a ∧ fp = a :: f ∧ H a = some (.dK xs) ∧ OwK k ts xs f
  | k + 1, .ins c ts, v, fp => ∃ a dx xs f, v = .ref a ∧ fp = a :: f ∧ H a = some (.ins (He.ga K c) dx xs) ∧ OwK k ts (fk xs) f
def OwL : Nat → List T → List V → List Addr → Prop
  | _, [], xs, fp => xs = [] ∧ fp = []
  | k, t :: ts, xs, fp => ∃ x r f g, xs = x :: r ∧ fp = f ++ g ∧ Ow k t x f ∧ OwL k ts r g
def OwK : Nat → List (Key × T) → List (Key × V) → List Addr → Prop
  | _, [], xs, fp => xs = [] ∧ fp = []
  | k, (q, t) :: ts, xs, fp => ∃ x r f g, xs = (q, x) :: r ∧ fp = f ++ g ∧ Ow k t x f ∧ OwK k ts r g ∧ kOk q = true
end
end

section
variable {K : PySem.W.Frag} {H H' : Hp} {A A' : Addr → Prop}
theorem fk_cons (p : Str × V) (r : List (Str × V)) : fk (p :: r) = (Sum.inr p.1, p.2) :: fk r := rfl
/- what the tree leans on stays: the tuples, what is among A, what lies at fp -/
mutual
theorem Ow.tr (ht : ∀ a xs, SqT K H a xs → SqT K H' a xs) (hA : ∀ a, A a → A' a ∧ ∀ o, H a = some o → H' a = some o) : ∀ {k : Nat} {t : T} {v : V} {fp : List Addr}, Ow K H A k t v fp → (∀ a ∈ fp, ∀ o, H a = some o → H' a = some o) → Ow K H' A' k t v fp
  | k, .non, v, fp, h, _ => by rw [Ow] at h ⊢; exact h
  | k, .bl b, v, fp, h, _ => by rw [Ow] at h ⊢; exact h
  | k, .int i, v, fp, h, _ => by rw [Ow] at h ⊢; exact h
  | k, .str x, v, fp, h, _ => by rw [Ow] at h ⊢; exact h
  | k, .scr ns, v, fp, h, _ => by
    rw [Ow] at h ⊢
    obtain ⟨a, e, m, q, f⟩ := h
    rcases m with m | m
    · refine ⟨a, e, .inl (hA a m).1, ?_, f⟩
      rcases q with (q | ⟨o, q⟩) | q
      · exact .inl (.inl ((hA a m).2 _ q))
      · exact .inl (.inr ⟨o, (hA a m).2 _ q⟩)
      · exact .inr q
    · exact ⟨a, e, .inr m, m H', f⟩
  | k, .tup ts, v, fp, h, hf => by
    rw [Ow] at h ⊢
    obtain ⟨a, xs, e, q, r, z⟩ := h
    exact ⟨a, xs, e, ht _ _ q, OwL.tr ht hA r (fun _ w => nomatch w), z⟩
  | 0, .lst ts, v, fp, h, hf => by
    rw [Ow] at h ⊢
    obtain ⟨a, xs, e, m, q, r⟩ := h
    exact ⟨a, xs, e, (hA a m).1, (hA a m).2 _ q, OwL.tr ht hA r hf⟩
  | 0, .dct ts, v, fp, h, hf => by
    rw [Ow] at h ⊢
    obtain ⟨a, xs, e, m, q, r⟩ := h
    exact ⟨a, xs, e, (hA a m).1, (hA a m).2 _ q, OwK.tr ht hA r hf⟩
  | 0, .ins c ts, v, fp, h, hf => by
    rw [Ow] at h ⊢
    obtain ⟨a, dx, xs, e, m, q, r⟩ := h
    exact ⟨a, dx, xs, e, (hA a m).1, (hA a m).2 _ q, OwK.tr ht hA r hf⟩
  | k + 1, .lst ts, v, fp, h, hf => by
    rw [Ow] at h ⊢
    obtain ⟨a, xs, f, e, rfl, q, r⟩ := h
    exact ⟨a, xs, f, e, rfl, hf a List.mem_cons_self _ q, OwL.tr ht hA r fun b hb => hf b (List.mem_cons_of_mem _ hb)⟩
  | k + 1, .dct ts, v, fp, h, hf => by
    rw [Ow] at h ⊢
    obtain ⟨a, xs, f, e, rfl, q, r⟩ := h
    exact ⟨a, xs, f, e, rfl, hf a List.mem_cons_self _ q, OwK.tr ht hA r fun b hb => hf b (List.mem_cons_of_mem _ hb)⟩
  | k + 1, .ins c ts, v, fp, h, hf => by
    rw [Ow] at h ⊢
    obtain ⟨a, dx, xs, f, e, rfl, q, r⟩ := h
    exact ⟨a, dx, xs, f, e, rfl, hf a List.mem_cons_self _ q, OwK.tr ht hA r fun b hb => hf b (List.mem_cons_of_mem _ hb)⟩
theorem OwL.tr (ht : ∀ a xs, SqT K H a xs → SqT K H' a xs) (hA : ∀ a, A a → A' a ∧ ∀ o, H a = some o → H' a = some o) : ∀ {k : Nat} {ts : List T} {xs : List V} {fp : List Addr}, OwL K H A k ts xs fp → (∀ a ∈ fp, ∀ o, H a = some o → H' a = some o) → OwL K H' A' k ts xs fp
  | k, [], xs, fp, h, _ => by rw [OwL] at h ⊢; exact h
  | k, t :: ts, xs, fp, h, hf => by
    rw [OwL] at h ⊢
    obtain ⟨x, r, f, g, e, rfl, q, z⟩ := h
    exact ⟨x, r, f, g, e, rfl, Ow.tr ht hA q fun b hb => hf b (List.mem_append_left _ hb), OwL.tr ht hA z fun b hb => hf b (List.mem_append_right _ hb)⟩
theorem OwK.tr (ht : ∀ a xs, SqT K H a xs → SqT K H' a xs) (hA : ∀ a, A a → A' a ∧ ∀ o, H a = some o → H' a = some o) : ∀ {k : Nat} {ts : List (Key × T)} {xs : List (Key × V)} {fp : List Addr}, OwK K H A k ts xs fp → (∀ a ∈ fp, ∀ o, H a = some o → H' a = some o) → OwK K H' A' k ts xs fp
  | k, [], xs, fp, h, _ => by rw [OwK] at h ⊢; exact h
  | k, (y, t) :: ts, xs, fp, h, hf => by
    rw [OwK] at h ⊢
    obtain ⟨x, r, f, g, e, rfl, q, z, ko⟩ := h
    exact ⟨x, r, f, g, e, rfl, Ow.tr ht hA q fun b hb => hf b (List.mem_append_left _ hb), OwK.tr ht hA z fun b hb => hf b (List.mem_append_right _ hb), ko⟩
end
theorem Ow.mono (s : Same H H') (hA : ∀ a, A a → A' a) {k : Nat} {t : T} {v : V} {fp : List Addr} (h : Ow K H A k t v fp) : Ow K H' A' k t v fp :=
  h.tr (fun _ _ q => s.sqT q) (fun a m => ⟨hA a m, s a⟩) fun a _ => s a
theorem OwL.mono (s : Same H H') (hA : ∀ a, A a → A' a) {k : Nat} {t : List T} {v : List V} {fp : List Addr} (h : OwL K H A k t v fp) : OwL K H' A' k t v fp :=
  h.tr (fun _ _ q => s.sqT q) (fun a m => ⟨hA a m, s a⟩) fun a _ => s a
theorem OwK.mono (s : Same H H') (hA : ∀ a, A a → A' a) {k : Nat} {t : List (Key × T)} {v : List (Key × V)} {fp : List Addr} (h : OwK K H A k t v fp) : OwK K H' A' k t v fp :=
  h.tr (fun _ _ q => s.sqT q) (fun a m => ⟨hA a m, s a⟩) fun a _ => s a
theorem sqT_upd {p : Addr} {o o' : HO} (e : H p = some o) (mu : Mut (some o)) {a : Addr} {xs : List V} (h : SqT K H a xs) : SqT K (upd H p o') a xs := by
  have ne : ∀ u, H a = some u → ¬ Mut (some u) → a ≠ p := fun u q n z => by subst z; rw [e] at q; cases q; exact n mu
  rcases h with (h | ⟨ob, h⟩) | h
  · exact .inl (.inl (by rw [upd_ne (ne _ h fun z => z)]; exact h))
  · exact .inl (.inr ⟨ob, by rw [upd_ne (ne _ h fun z => z)]; exact h⟩)
  · exact .inr h
/-- another thing is written -/
theorem Ow.upd {p : Addr} {o o' : HO} (e : H p = some o) (mu : Mut (some o)) (np : ¬ A p) {k : Nat} {t : T} {v : V} {fp : List Addr} (h : Ow K H A k t v fp) (nf : p ∉ fp) : Ow K (upd H p o') A k t v fp :=
  h.tr (fun _ _ q => sqT_upd e mu q) (fun a m => ⟨m, fun u q => by rw [upd_ne (fun z : a = p => np (by rw [← z]; exact m))]; exact q⟩) fun a ha u q => by rw [upd_ne (fun z : a = p => nf (by rw [← z]; exact ha))]; exact q
theorem OwL.upd {p : Addr} {o o' : HO} (e : H p = some o) (mu : Mut (some o)) (np : ¬ A p) {k : Nat} {t : List T} {v : List V} {fp : List Addr} (h : OwL K H A k t v fp) (nf : p ∉ fp) : OwL K (upd H p o') A k t v fp :=
  h.tr (fun _ _ q => sqT_upd e mu q) (fun a m => ⟨m, fun u q => by rw [upd_ne (fun z : a = p => np (by rw [← z]; exact m))]; exact q⟩) fun a ha u q => by rw [upd_ne (fun z : a = p => nf (by rw [← z]; exact ha))]; exact q
theorem OwK.upd {p : Addr} {o o' : HO} (e : H p = some o) (mu : Mut (some o)) (np : ¬ A p) {k : Nat} {t : List (Key × T)} {v : List (Key × V)} {fp : List Addr} (h : OwK K H A k t v fp) (nf : p ∉ fp) : OwK K (upd H p o') A k t v fp :=
  h.tr (fun _ _ q => sqT_upd e mu q) (fun a m => ⟨m, fun u q => by rw [upd_ne (fun z : a = p => np (by rw [← z]; exact m))]; exact q⟩) fun a ha u q => by rw [upd_ne (fun z : a = p => nf (by rw [← z]; exact ha))]; exact q
/- nothing is owned at depth 0 -/
mutual
theorem Ow.zero : ∀ {t : T} {v : V} {fp : List Addr}, Ow K H A 0 t v fp → fp = []
  | .non, v, fp, h => by rw [Ow] at h; exact h.2
  | .bl b, v, fp, h => by rw [Ow] at h; exact h.2
  | .int i, v, fp, h => by rw [Ow] at h; exact h.2
  | .str x, v, fp, h => by rw [Ow] at h; exact h.2.1
  | .scr ns, v, fp, h => by rw [Ow] at h; obtain ⟨_, _, _, _, f⟩ := h; exact f
  | .tup ts, v, fp, h => by rw [Ow] at h; obtain ⟨_, _, _, _, _, z⟩ := h; exact z
  | .lst ts, v, fp, h => by rw [Ow] at h; obtain ⟨_, _, _, _, _, r⟩ := h; exact OwL.zero r
  | .dct ts, v, fp, h => by rw [Ow] at h; obtain ⟨_, _, _, _, _, r⟩ := h; exact OwK.zero r
  | .ins c ts, v, fp, h => by rw [Ow] at h; obtain ⟨_, _, _, _, _, _, r⟩ := h; exact OwK.zero r
theorem OwL.zero : ∀ {ts : List T} {v : List V} {fp : List Addr}, OwL K H A 0 ts v fp → fp = []
  | [], v, fp, h => by rw [OwL] at h; exact h.2
  | t :: ts, v, fp, h => by
    rw [OwL] at h
    obtain ⟨_, _, _, _, _, rfl, q, z⟩ := h
    rw [Ow.zero q, OwL.zero z]; rfl
theorem OwK.zero : ∀ {ts : List (Key × T)} {v : List (Key × V)} {fp : List Addr}, OwK K H A 0 ts v fp → fp = []
  | [], v, fp, h => by rw [OwK] at h; exact h.2
  | (y, t) :: ts, v, fp, h => by
    rw [OwK] at h
    obtain ⟨_, _, _, _, _, rfl, q, z, _⟩ := h
    rw [Ow.zero q, OwK.zero z]; rfl
end
/- the owned things are given away -/
mutual
theorem Ow.frz (hA : ∀ a, A a → A' a) : ∀ {k : Nat} {t : T} {v : V} {fp : List Addr}, Ow K H A k t v fp → (∀ a ∈ fp, A' a) → Ow K H A' 0 t v []
  | k, .non, v, fp, h, _ => by rw [Ow] at h ⊢; exact ⟨h.1, rfl⟩
  | k, .bl b, v, fp, h, _ => by rw [Ow] at h ⊢; exact ⟨h.1, rfl⟩
  | k, .int i, v, fp, h, _ => by rw [Ow] at h ⊢; exact ⟨h.1, rfl⟩
  | k, .str x, v, fp, h, _ => by rw [Ow] at h ⊢; exact ⟨h.1, rfl, h.2.2⟩
  | k, .scr ns, v, fp, h, _ => by
    rw [Ow] at h ⊢
    obtain ⟨a, e, m, q, f⟩ := h
    exact ⟨a, e, m.imp (hA a) id, q, rfl⟩
  | k, .tup ts, v, fp, h, hf => by
    rw [Ow] at h ⊢
    obtain ⟨a, xs, e, q, r, z⟩ := h
    exact ⟨a, xs, e, q, OwL.frz hA r (fun _ w => nomatch w), rfl⟩
  | 0, .lst ts, v, fp, h, hf => by
    rw [Ow] at h ⊢
    obtain ⟨a, xs, e, m, q, r⟩ := h
    exact ⟨a, xs, e, hA a m, q, OwL.frz hA r hf⟩
  | 0, .dct ts, v, fp, h, hf => by
    rw [Ow] at h ⊢
    obtain ⟨a, xs, e, m, q, r⟩ := h
    exact ⟨a, xs, e, hA a m, q, OwK.frz hA r hf⟩
  | 0, .ins c ts, v, fp, h, hf => by
    rw [Ow] at h ⊢
    obtain ⟨a, dx, xs, e, m, q, r⟩ := h
    exact ⟨a, dx, xs, e, hA a m, q, OwK.frz hA r hf⟩
  | k + 1, .lst ts, v, fp, h, hf => by
    rw [Ow] at h
    rw [Ow]
    obtain ⟨a, xs, f, e, rfl, q, r⟩ := h
    exact ⟨a, xs, e, hf a List.mem_cons_self, q, OwL.frz hA r fun b hb => hf b (List.mem_cons_of_mem _ hb)⟩
  | k + 1, .dct ts, v, fp, h, hf => by
    rw [Ow] at h
    rw [Ow]
    obtain ⟨a, xs, f, e, rfl, q, r⟩ := h
    exact ⟨a, xs, e, hf a List.mem_cons_self, q, OwK.frz hA r fun b hb => hf b (List.mem_cons_of_mem _ hb)⟩
  | k + 1, .ins c ts, v, fp, h, hf => by
    rw [Ow] at h
    rw [Ow]
    obtain ⟨a, dx, xs, f, e, rfl, q, r⟩ := h
    exact ⟨a, dx, xs, e, hf a List.mem_cons_self, q, OwK.frz hA r fun b hb => hf b (List.mem_cons_of_mem _ hb)⟩
theorem OwL.frz (hA : ∀ a, A a → A' a) : ∀ {k : Nat} {ts : List T} {v : List V} {fp : List Addr}, OwL K H A k ts v fp → (∀ a ∈ fp, A' a) → OwL K H A' 0 ts v []
  | k, [], v, fp, h, _ => by rw [OwL] at h ⊢; exact ⟨h.1, rfl⟩
  | k, t :: ts, v, fp, h, hf => by
    rw [OwL] at h ⊢
    obtain ⟨x, r, f, g, e, rfl, q, z⟩ := h
    exact ⟨x, r, [], [], e, rfl, Ow.frz hA q fun b hb => hf b (List.mem_append_left _ hb), OwL.frz hA z fun b hb => hf b (List.mem_append_right _ hb)⟩
theorem OwK.frz (hA : ∀ a, A a → A' a) : ∀ {k : Nat} {ts : List (Key × T)} {v : List (Key × V)} {fp : List Addr}, OwK K H A k ts v fp → (∀ a ∈ fp, A' a) → OwK K H A' 0 ts v []
  | k, [], v, fp, h, _ => by rw [OwK] at h ⊢; exact ⟨h.1, rfl⟩
  | k, (y, t) :: ts, v, fp, h, hf => by
    rw [OwK] at h ⊢
    obtain ⟨x, r, f, g, e, rfl, q, z, ko⟩ := h
    exact ⟨x, r, [], [], e, rfl, Ow.frz hA q fun b hb => hf b (List.mem_append_left _ hb), OwK.frz hA z fun b hb => hf b (List.mem_append_right _ hb), ko⟩
end
/- what is owned stands -/
mutual
theorem Ow.dom : ∀ {k : Nat} {t : T} {v : V} {fp : List Addr}, Ow K H A k t v fp → ∀ a ∈ fp, H a ≠ none
  | k, .non, v, fp, h => by rw [Ow] at h; rw [h.2]; simp
  | k, .bl b, v, fp, h => by rw [Ow] at h; rw [h.2]; simp
  | k, .int i, v, fp, h => by rw [Ow] at h; rw [h.2]; simp
  | k, .str x, v, fp, h => by rw [Ow] at h; rw [h.2.1]; simp
  | k, .scr ns, v, fp, h => by rw [Ow] at h; obtain ⟨_, _, _, _, f⟩ := h; rw [f]; simp
  | k, .tup ts, v, fp, h => by
    rw [Ow] at h
    obtain ⟨a, xs, e, q, r, z⟩ := h
    rw [z]; simp
  | 0, .lst ts, v, fp, h => by rw [h.zero]; simp
  | 0, .dct ts, v, fp, h => by rw [h.zero]; simp
  | 0, .ins c ts, v, fp, h => by rw [h.zero]; simp
  | k + 1, .lst ts, v, fp, h => by
    rw [Ow] at h
    obtain ⟨a, xs, f, e, rfl, q, r⟩ := h
    intro b hb
    rcases List.mem_cons.mp hb with rfl | hb
    · rw [q]; simp
    · exact OwL.dom r b hb
  | k + 1, .dct ts, v, fp, h => by
    rw [Ow] at h
    obtain ⟨a, xs, f, e, rfl, q, r⟩ := h
    intro b hb
    rcases List.mem_cons.mp hb with rfl | hb
    · rw [q]; simp
    · exact OwK.dom r b hb
  | k + 1, .ins c ts, v, fp, h => by
    rw [Ow] at h
    obtain ⟨a, dx, xs, f, e, rfl, q, r⟩ := h
    intro b hb
    rcases List.mem_cons.mp hb with rfl | hb
    · rw [q]; simp
    · exact OwK.dom r b hb
theorem OwL.dom : ∀ {k : Nat} {ts : List T} {v : List V} {fp : List Addr}, OwL K H A k ts v fp → ∀ a ∈ fp, H a ≠ none
  | k, [], v, fp, h => by rw [OwL] at h; rw [h.2]; simp
  | k, t :: ts, v, fp, h => by
    rw [OwL] at h
    obtain ⟨x, r, f, g, e, rfl, q, z⟩ := h
    intro a ha
    rcases List.mem_append.mp ha with ha | ha
    · exact Ow.dom q a ha
    · exact OwL.dom z a ha
theorem OwK.dom : ∀ {k : Nat} {ts : List (Key × T)} {v : List (Key × V)} {fp : List Addr}, OwK K H A k ts v fp → ∀ a ∈ fp, H a ≠ none
  | k, [], v, fp, h => by rw [OwK] at h; rw [h.2]; simp
  | k, (y, t) :: ts, v, fp, h => by
    rw [OwK] at h
    obtain ⟨x, r, f, g, e, rfl, q, z, ko⟩ := h
    intro a ha
    rcases List.mem_append.mp ha with ha | ha
    · exact Ow.dom q a ha
    · exact OwK.dom z a ha
end
/- what is owned may be written -/
mutual
theorem Ow.mu : ∀ {k : Nat} {t : T} {v : V} {fp : List Addr}, Ow K H A k t v fp → ∀ a ∈ fp, ∃ o, H a = some o ∧ Mut (some o)
  | k, .non, v, fp, h => by rw [Ow] at h; rw [h.2]; simp
  | k, .bl b, v, fp, h => by rw [Ow] at h; rw [h.2]; simp
  | k, .int i, v, fp, h => by rw [Ow] at h; rw [h.2]; simp
  | k, .str x, v, fp, h => by rw [Ow] at h; rw [h.2.1]; simp
  | k, .scr ns, v, fp, h => by rw [Ow] at h; obtain ⟨_, _, _, _, f⟩ := h; rw [f]; simp
  | k, .tup ts, v, fp, h => by
    rw [Ow] at h
    obtain ⟨a, xs, e, q, r, z⟩ := h
    rw [z]; simp
  | 0, .lst ts, v, fp, h => by rw [h.zero]; simp
  | 0, .dct ts, v, fp, h => by rw [h.zero]; simp
  | 0, .ins c ts, v, fp, h => by rw [h.zero]; simp
  | k + 1, .lst ts, v, fp, h => by
    rw [Ow] at h
    obtain ⟨a, xs, f, e, rfl, q, r⟩ := h
    intro b hb
    rcases List.mem_cons.mp hb with rfl | hb
    · exact ⟨_, q, trivial⟩
    · exact OwL.mu r b hb
  | k + 1, .dct ts, v, fp, h => by
    rw [Ow] at h
    obtain ⟨a, xs, f, e, rfl, q, r⟩ := h
    intro b hb
    rcases List.mem_cons.mp hb with rfl | hb
    · exact ⟨_, q, trivial⟩
    · exact OwK.mu r b hb
  | k + 1, .ins c ts, v, fp, h => by
    rw [Ow] at h
    obtain ⟨a, dx, xs, f, e, rfl, q, r⟩ := h
    intro b hb
    rcases List.mem_cons.mp hb with rfl | hb
    · exact ⟨_, q, trivial⟩
    · exact OwK.mu r b hb
theorem OwL.mu : ∀ {k : Nat} {ts : List T} {v : List V} {fp : List Addr}, OwL K H A k ts v fp → ∀ a ∈ fp, ∃ o, H a = some o ∧ Mut (some o)
  | k, [], v, fp, h => by rw [OwL] at h; rw [h.2]; simp
  | k, t :: ts, v, fp, h => by
    rw [OwL] at h
    obtain ⟨x, r, f, g, e, rfl, q, z⟩ := h
    intro a ha
    rcases List.mem_append.mp ha with ha | ha
    · exact Ow.mu q a ha
    · exact OwL.mu z a ha
theorem OwK.mu : ∀ {k : Nat} {ts : List (Key × T)} {v : List (Key × V)} {fp : List Addr}, OwK K H A k ts v fp → ∀ a ∈ fp, ∃ o, H a = some o ∧ Mut (some o)
  | k, [], v, fp, h => by rw [OwK] at h; rw [h.2]; simp
  | k, (y, t) :: ts, v, fp, h => by
    rw [OwK] at h
    obtain ⟨x, r, f, g, e, rfl, q, z, _⟩ := h
    intro a ha
    rcases List.mem_append.mp ha with ha | ha
    · exact Ow.mu q a ha
    · exact OwK.mu z a ha
end
theorem OwL.length : ∀ {k : Nat} {ts : List T} {xs : List V} {fp : List Addr}, OwL K H A k ts xs fp → xs.length = ts.length
  | k, [], xs, fp, h => by rw [OwL] at h; rw [h.1]; rfl
  | k, t :: ts, xs, fp, h => by
    rw [OwL] at h
    obtain ⟨x, r, f, g, rfl, _, _, z⟩ := h
    rw [List.length_cons, List.length_cons, OwL.length z]
theorem OwK.length : ∀ {k : Nat} {ts : List (Key × T)} {xs : List (Key × V)} {fp : List Addr}, OwK K H A k ts xs fp → xs.length = ts.length
  | k, [], xs, fp, h => by rw [OwK] at h; rw [h.1]; rfl
  | k, (y, t) :: ts, xs, fp, h => by
    rw [OwK] at h
    obtain ⟨x, r, f, g, rfl, _, _, z, _⟩ := h
    rw [List.length_cons, List.length_cons, OwK.length z]
/-- a frozen list's items, one by one -/
theorem OwL.get : ∀ {ts : List T} {xs : List V} {i : Nat} {t : T}, OwL K H A 0 ts xs [] → ts[i]? = some t → ∃ x, xs[i]? = some x ∧ Ow K H A 0 t x []
  | [], xs, i, t, h, e => by simp at e
  | t :: ts, xs, 0, u, h, e => by
    rw [OwL] at h
    obtain ⟨x, r, f, g, rfl, hf, q, z⟩ := h
    simp at e; subst e
    have := q.zero; subst this
    exact ⟨x, rfl, q⟩
  | t :: ts, xs, i + 1, u, h, e => by
    rw [OwL] at h
    obtain ⟨x, r, f, g, rfl, hf, q, z⟩ := h
    have := z.zero; subst this
    exact OwL.get (i := i) z (by simpa using e)
theorem OwL.cons0 {t : T} {ts : List T} {x : V} {xs : List V} (h : Ow K H A 0 t x []) (r : OwL K H A 0 ts xs []) : OwL K H A 0 (t :: ts) (x :: xs) [] := by
  rw [OwL]; exact ⟨x, xs, [], [], rfl, rfl, h, r⟩
theorem OwL.nil0 {k : Nat} : OwL K H A k [] [] [] := by rw [OwL]; exact ⟨rfl, rfl⟩
theorem OwL.inv0 {t : T} {ts : List T} {xs : List V} (h : OwL K H A 0 (t :: ts) xs []) : ∃ x r, xs = x :: r ∧ Ow K H A 0 t x [] ∧ OwL K H A 0 ts r [] := by
  rw [OwL] at h
  obtain ⟨x, r, f, g, e, hf, q, z⟩ := h
  have := q.zero; subst this
  have := z.zero; subst this
  exact ⟨x, r, e, q, z⟩
theorem OwL.app0 : ∀ {ts us : List T} {xs ys : List V}, OwL K H A 0 ts xs [] → OwL K H A 0 us ys [] → OwL K H A 0 (ts ++ us) (xs ++ ys) []
  | [], us, xs, ys, h, z => by rw [OwL] at h; rw [h.1]; exact z
  | t :: ts, us, xs, ys, h, z => by
    obtain ⟨x, r, rfl, q, w⟩ := h.inv0
    exact OwL.cons0 q (OwL.app0 w z)
theorem OwL.take0 : ∀ {ts : List T} {xs : List V} (n : Nat), OwL K H A 0 ts xs [] → OwL K H A 0 (ts.take n) (xs.take n) []
  | ts, xs, 0, h => by simp only [List.take_zero]; exact OwL.nil0
  | [], xs, n + 1, h => by rw [OwL] at h; rw [h.1]; exact OwL.nil0
  | t :: ts, xs, n + 1, h => by
    obtain ⟨x, r, rfl, q, w⟩ := h.inv0
    exact OwL.cons0 q (OwL.take0 n w)
theorem OwL.drop0 : ∀ {ts : List T} {xs : List V} (n : Nat), OwL K H A 0 ts xs [] → OwL K H A 0 (ts.drop n) (xs.drop n) []
  | ts, xs, 0, h => h
  | [], xs, n + 1, h => by rw [OwL] at h; rw [h.1]; exact OwL.nil0
  | t :: ts, xs, n + 1, h => by
    obtain ⟨x, r, rfl, q, w⟩ := h.inv0
    exact OwL.drop0 n w
end
end VI

namespace VI
open PySem PySem.Spec PyProof.Rows L2

inductive Res (α : Type) where
  | ok (a : α)
  | exc (c : Str) (p : List T)
  | stuck
abbrev Fr := List (Option T)
def Res.bind {α β : Type} (x : Res α) (f : α → Res β) : Res β := match x with
  | .ok a => f a
  | .exc c p => .exc c p
  | .stuck => .stuck
theorem bind_ok {α β : Type} (a : α) (f : α → Res β) : (Res.ok a).bind f = f a := rfl
theorem bind_exc {α β : Type} (c : Str) (p : List T) (f : α → Res β) : (Res.exc c p : Res α).bind f = .exc c p := rfl
theorem bind_stuck {α β : Type} (f : α → Res β) : (Res.stuck : Res α).bind f = .stuck := rfl

/-- the frame: names' values by slot, as trees -/
structure FR (K : PySem.W.Frag) (dp : List Nat) (H : Hp) (A : Addr → Prop) (σ : L2.St) (ν : Fr) (fps : List (List Addr)) : Prop where
  lσ : σ.length = ν.length
  lf : fps.length = ν.length
  slot : ∀ (i : Nat) (t : T), ν[i]? = some (some t) → ∃ v fp, σ[i]? = some (some v) ∧ fps[i]? = some fp ∧ Ow K H A (dp.getD i 0) t v fp
  nd : fps.flatten.Nodup
  dj : ∀ a ∈ fps.flatten, ¬ A a
  dom : ∀ a, A a → H a ≠ none
  odom : ∀ a ∈ fps.flatten, H a ≠ none
  z : ∀ (i : Nat) (fp : List Addr), dp.getD i 0 = 0 → fps[i]? = some fp → fp = []
  dead : ∀ (i : Nat) (fp : List Addr), ν[i]? = some none → fps[i]? = some fp → fp = []
theorem FR.mono {K : PySem.W.Frag} {dp : List Nat} {H H' : Hp} {A : Addr → Prop} {σ : L2.St} {ν : Fr} {fps : List (List Addr)} (F : FR K dp H A σ ν fps) (s : Same H H') : FR K dp H' A σ ν fps where
  lσ := F.lσ
  lf := F.lf
  slot := fun i t e => let ⟨v, fp, h1, h2, h3⟩ := F.slot i t e; ⟨v, fp, h1, h2, h3.mono s fun _ z => z⟩
  nd := F.nd
  dj := F.dj
  dom := fun a h => s.dom (F.dom a h)
  odom := fun a h => s.dom (F.odom a h)
  z := F.z
  dead := F.dead

/-- what an exception bears: nothing, or one thing in its own dict -/
def XRel (K : PySem.W.Frag) (H : Hp) (p : List T) (d : Option Addr) : Prop := match p with
  | [] => d = none
  | [t] => ∃ a v, d = some a ∧ H a = some (.xd [("at", v)]) ∧ Ow K H (fun _ => False) 0 t v []
  | _ => False

/-- semantic reading of an expression, of a test -/
def wpE (X : Cx) (e : Expr) : TE := fun σ H Q => ∀ (pins : List (Addr × Obj)) (s : Shared), Inv X pins σ H s → wpAny (model X.prog X.w) X.A (eval e X.env) (EP X pins σ Q) X.xe s
def wpT (X : Cx) (e : Expr) : TT := fun σ H Q => ∀ (pins : List (Addr × Obj)) (s : Shared), Inv X pins σ H s → wpAny (model X.prog X.w) X.A (isTrue e X.env (eval e X.env)) (TP X pins σ Q) X.xe s
theorem pe_wp {X : Cx} {e : Expr} : PE X e (wpE X e) := ⟨fun pins s σ H Q I h => h pins s I⟩
theorem pt_wp {X : Cx} {e : Expr} : PT X e (wpT X e) := ⟨fun pins s σ H Q I h => h pins s I⟩
theorem wpE_of {X : Cx} {e : Expr} {t : TE} (h : PE X e t) {σ : L2.St} {H : Hp} {Q : VK} (q : t σ H Q) : wpE X e σ H Q := fun pins s I => h.run pins s σ H Q I q
theorem wpT_of {X : Cx} {e : Expr} {t : TT} (h : PT X e t) {σ : L2.St} {H : Hp} {Q : Bool → Hp → Prop} (q : t σ H Q) : wpT X e σ H Q := fun pins s I => h.run pins s σ H Q I q

/-- what a result may lean on: B, and what is new; not what lies at fp -/
def Nw (H H' : Hp) (B : Addr → Prop) (fp : List Addr) : Addr → Prop := fun a => (B a ∨ (H a = none ∧ H' a ≠ none)) ∧ a ∉ fp
/-- the base: what is among A; if not clean, what the frame owns too -/
def Bs (A : Addr → Prop) (own : List Addr) (c : Bool) : Addr → Prop := fun a => A a ∨ (c = false ∧ a ∈ own)

/-- what is wanted behind an expression, a test, several expressions -/
def PoE (X : Cx) (W : WX) (σ : L2.St) (H : Hp) (B : Addr → Prop) (k : Nat) (Q : VK) : Res T → Prop
  | .ok t => ∀ v H' fp, Same H H' → fp.Nodup → (∀ a ∈ fp, H a = none) → Ow X.K H' (Nw H H' B fp) k t v fp → Q v H'
  | .exc cl p => ∀ H' d, Same H H' → XRel X.K H' p d → W (.ref (He.ga X.K cl)) d σ H'
  | .stuck => False
def PoE0 (X : Cx) (W : WX) (σ : L2.St) (H : Hp) (B : Addr → Prop) (Q : VK) : Res T → Prop
  | .ok t => ∀ v H', Same H H' → Ow X.K H' (Nw H H' B []) 0 t v [] → Q v H'
  | .exc cl p => ∀ H' d, Same H H' → XRel X.K H' p d → W (.ref (He.ga X.K cl)) d σ H'
  | .stuck => False
def PoB (X : Cx) (W : WX) (σ : L2.St) (H : Hp) (Q : Bool → Hp → Prop) : Res Bool → Prop
  | .ok b => ∀ H', Same H H' → Q b H'
  | .exc cl p => ∀ H' d, Same H H' → XRel X.K H' p d → W (.ref (He.ga X.K cl)) d σ H'
  | .stuck => False
def PoL (X : Cx) (W : WX) (σ : L2.St) (H : Hp) (B : Addr → Prop) (Q : List V → Hp → Prop) : Res (List T) → Prop
  | .ok ts => ∀ vs H', Same H H' → OwL X.K H' (Nw H H' B []) 0 ts vs [] → Q vs H'
  | .exc cl p => ∀ H' d, Same H H' → XRel X.K H' p d → W (.ref (He.ga X.K cl)) d σ H'
  | .stuck => False
structure VE (X : Cx) (W : WX) (dp : List Nat) (e : Expr) (f : Fr → Res T) (c : Bool) (k : Nat) : Prop where
  run : ∀ {σ : L2.St} {H : Hp} {A : Addr → Prop} {ν : Fr} {fps : List (List Addr)}, FR X.K dp H A σ ν fps → ∀ Q : VK,
    (PoE X W σ H (Bs A fps.flatten c) k Q (f ν)) → wpE X e σ H Q
structure VT (X : Cx) (W : WX) (dp : List Nat) (e : Expr) (f : Fr → Res Bool) : Prop where
  run : ∀ {σ : L2.St} {H : Hp} {A : Addr → Prop} {ν : Fr} {fps : List (List Addr)}, FR X.K dp H A σ ν fps → ∀ Q : Bool → Hp → Prop,
    (PoB X W σ H Q (f ν)) → wpT X e σ H Q
/-- several, from the left -/
structure VEs (X : Cx) (W : WX) (dp : List Nat) (es : List Expr) (f : Fr → Res (List T)) (c : Bool) : Prop where
  pa : ∃ t : TA, PA X es t ∧ ∀ {σ : L2.St} {H : Hp} {A : Addr → Prop} {ν : Fr} {fps : List (List Addr)}, FR X.K dp H A σ ν fps → ∀ Q : List V → Hp → Prop,
    (PoL X W σ H (Bs A fps.flatten c) Q (f ν)) → t σ H Q

section
variable {X : Cx} {W : WX} {dp : List Nat} {e a b : Expr} {f g : Fr → Res T} {c c' : Bool} {k : Nat} {pos : Pos}

theorem Nw.to0 {H H' : Hp} {B : Addr → Prop} {fp : List Addr} {a : Addr} (h : Nw H H' B fp a) : Nw H H' B [] a := ⟨h.1, by simp⟩
theorem Nw.step {H H1 H2 : Hp} {B B' : Addr → Prop} {fp : List Addr} (s1 : Same H H1) (s2 : Same H1 H2) (hB : ∀ a, B a → Nw H H1 B' [] a) {a : Addr} (h : Nw H1 H2 B fp a) : Nw H H2 B' fp a := by
  obtain ⟨h | ⟨h1, h2⟩, nf⟩ := h
  · obtain ⟨q | ⟨q1, q2⟩, _⟩ := hB a h
    · exact ⟨.inl q, nf⟩
    · exact ⟨.inr ⟨q1, s2.dom q2⟩, nf⟩
  · refine ⟨.inr ⟨?_, h2⟩, nf⟩
    cases e : H a with
    | none => rfl
    | some o => rw [s1 _ _ e] at h1; cases h1
theorem Nw.up {H H1 H2 : Hp} {B B' : Addr → Prop} (s2 : Same H1 H2) (hB : ∀ a, B a → B' a) {a : Addr} (h : Nw H H1 B [] a) : Nw H H2 B' [] a := by
  obtain ⟨q | ⟨q1, q2⟩, _⟩ := h
  · exact ⟨.inl (hB a q), by simp⟩
  · exact ⟨.inr ⟨q1, s2.dom q2⟩, by simp⟩
theorem Bs.or {A : Addr → Prop} {own : List Addr} {c c' : Bool} {a : Addr} (h : Bs A own c a) : Bs A own (c && c') a := by
  rcases h with h | ⟨rfl, h⟩
  · exact .inl h
  · exact .inr ⟨rfl, h⟩
theorem Bs.or' {A : Addr → Prop} {own : List Addr} {c c' : Bool} {a : Addr} (h : Bs A own c' a) : Bs A own (c && c') a := by
  rcases h with h | ⟨rfl, h⟩
  · exact .inl h
  · exact .inr ⟨by simp, h⟩
theorem fresh_of {H H1 : Hp} (s : Same H H1) {a : Addr} (h : H1 a = none) : H a = none := by
  cases e : H a with
  | none => rfl
  | some o => rw [s _ _ e] at h; cases h

/-- the owned levels forgotten -/
theorem VE.k0 (h : VE X W dp e f c k) : VE X W dp e f c 0 := by
  refine ⟨fun {σ H A ν fps} F Q q => h.run F Q ?_⟩
  revert q
  cases f ν with
  | ok t =>
    intro q v H' fp s nd fr r
    refine q v H' [] s List.nodup_nil (fun _ z => nomatch z) (r.frz (fun a m => Nw.to0 m) fun a ha => ⟨.inr ⟨fr a ha, r.dom a ha⟩, by simp⟩)
  | exc cl p => exact fun q => q
  | stuck => exact fun q => q
/-- the plain use: a frozen result -/
theorem VE.use (h : VE X W dp e f c k) {σ : L2.St} {H : Hp} {A : Addr → Prop} {ν : Fr} {fps : List (List Addr)} (F : FR X.K dp H A σ ν fps) {Q : VK}
    (q : PoE0 X W σ H (Bs A fps.flatten c) Q (f ν)) : wpE X e σ H Q := by
  refine h.k0.run F Q ?_
  revert q
  cases f ν with
  | ok t =>
    intro q v H' fp s nd fr r
    have := r.zero
    subst this
    exact q v H' s r
  | exc cl p => exact fun q => q
  | stuck => exact fun q => q

/-! names, constants -/
def eVar (i : Nat) : Fr → Res T := fun ν => match ν[i]? with
  | some (some t) => .ok t
  | _ => .stuck
theorem ve_var {i : Nat} {x : Str} (hN : X.N[i]? = some x) (hv : Vis X.env.scope x) (hd : (x == ("__debug__" : Str)) = false) (hcd : (x == ("__classdict__" : Str)) = false) (hc : c = false ∨ dp.getD i 0 = 0) : VE X W dp (.Name x pos) (eVar i) c 0 := by
  refine ⟨fun {σ H A ν fps} F Q q => ?_⟩
  unfold eVar at q
  split at q
  · rename_i t e'
    obtain ⟨v, fp, h1, h2, h3⟩ := F.slot i t e'
    refine wpE_of (pe_var hN hv hd hcd) ⟨v, h1, q v H [] (Same.refl H) List.nodup_nil (fun _ z => nomatch z) (h3.frz (fun a m => ⟨.inl (.inl m), by simp⟩) fun a ha => ?_)⟩
    rcases hc with hc | hc
    · refine ⟨.inl (.inr ⟨hc, List.mem_flatten.mpr ⟨fp, List.mem_of_getElem? h2, ha⟩⟩), by simp⟩
    · rw [hc] at h3
      rw [h3.zero] at ha
      cases ha
  · exact q.elim
def eC (t : T) : Fr → Res T := fun _ => .ok t
theorem ve_int {i j} : VE X W dp (.Constant (.int i) j pos) (eC (.int i)) c k := ⟨fun {σ H A ν fps} F Q q => wpE_of pe_int (q (.int i) H [] (Same.refl H) List.nodup_nil (fun _ z => nomatch z) (by rw [Ow]; exact ⟨rfl, rfl⟩))⟩
theorem ve_bl {i j} : VE X W dp (.Constant (.bool i) j pos) (eC (.bl i)) c k := ⟨fun {σ H A ν fps} F Q q => wpE_of pe_bl (q (.bl i) H [] (Same.refl H) List.nodup_nil (fun _ z => nomatch z) (by rw [Ow]; exact ⟨rfl, rfl⟩))⟩
theorem ve_non {j} : VE X W dp (.Constant .none j pos) (eC .non) c k := ⟨fun {σ H A ν fps} F Q q => wpE_of pe_non (q .non H [] (Same.refl H) List.nodup_nil (fun _ z => nomatch z) (by rw [Ow]; exact ⟨rfl, rfl⟩))⟩
theorem ve_str {i j} (ho : PyData.strOk i = true) : VE X W dp (.Constant (.str i) j pos) (eC (.str i)) c k := ⟨fun {σ H A ν fps} F Q q => wpE_of pe_str (q (.str i) H [] (Same.refl H) List.nodup_nil (fun _ z => nomatch z) (by rw [Ow]; exact ⟨rfl, rfl, ho⟩))⟩

/-! two-place operations by values -/
/-- op does g; the result's first k levels are new -/
def OpS (X : Cx) (op : Value → Value → Sem Value) (g : T → T → Res T) (k : Nat) : Prop :=
  ∀ (x y : V) (tx ty t : T) (H : Hp) (B : Addr → Prop) (Q : VK), (∀ a, B a → H a ≠ none) → Ow X.K H B 0 tx x [] → Ow X.K H B 0 ty y [] → g tx ty = .ok t →
    (∀ v H' fp, Same H H' → fp.Nodup → (∀ a ∈ fp, H a = none) → Ow X.K H' (Nw H H' B fp) k t v fp → Q v H') →
    ∀ (pins : List (Addr × Obj)) (s : Shared) (σ : L2.St) (v u : Value), Inv X pins σ H s → RelV x v → RelV y u → wpAny (model X.prog X.w) X.A (op v u) (EP X pins σ Q) X.xe s
/-- g never ends in an exception -/
def NoX {α : Type} (r : Res α) : Prop := ∀ c p, r ≠ .exc c p
def eOp (g : T → T → Res T) (f1 f2 : Fr → Res T) : Fr → Res T := fun ν => (f1 ν).bind fun x => (f2 ν).bind fun y => g x y
theorem FR.nwdom {K : PySem.W.Frag} {H H' : Hp} {A : Addr → Prop} {σ : L2.St} {ν : Fr} {fps : List (List Addr)} (F : FR K dp H A σ ν fps) (s : Same H H') {a : Addr} (h : Nw H H' (Bs A fps.flatten c) [] a) : H' a ≠ none := by
  obtain ⟨(h | ⟨_, h⟩) | ⟨_, h⟩, _⟩ := h
  · exact s.dom (F.dom a h)
  · exact s.dom (F.odom a h)
  · exact h
/-- the two sides of an operation, evaluated -/
theorem ve_two {op : Value → Value → Sem Value} {g0 : T → T → Res T} {k1 k2 : Nat} (ho : OpS X op g0 k) (hx : ∀ x y, NoX (g0 x y)) (ha : VE X W dp a f c k1) (hb : VE X W dp b g c' k2)
    (rule : ∀ {r : R2}, OpR X op r → PE X e (tOp r (wpE X a) (wpE X b))) : VE X W dp e (eOp g0 f g) (c && c') k := by
  refine ⟨fun {σ H A ν fps} F Q q => ?_⟩
  -- the operation's own reading
  let r : R2 := fun x y H Q => ∀ (pins : List (Addr × Obj)) (s : Shared) (σ : L2.St) (v u : Value), Inv X pins σ H s → RelV x v → RelV y u → wpAny (model X.prog X.w) X.A (op v u) (EP X pins σ Q) X.xe s
  have hr : OpR X op r := fun pins s σ H x y v u Q I rx ry h => h pins s σ v u I rx ry
  refine wpE_of (rule hr) ?_
  refine ha.use F ?_
  unfold eOp at q
  cases e1 : f ν with
  | stuck => rw [e1] at q; exact q
  | exc cl p => rw [e1] at q; exact q
  | ok tx =>
    rw [e1] at q
    intro x H1 s1 r1
    refine hb.use (F.mono s1) ?_
    have q : (PoE X W σ H (Bs A fps.flatten (c && c')) k Q ((g ν).bind fun y => g0 tx y)) := q
    cases e2 : g ν with
    | stuck => rw [e2] at q; exact q
    | exc cl p => rw [e2] at q; exact fun H' d s2 => q H' d (s1.trans s2)
    | ok ty =>
      rw [e2] at q
      intro y H2 s2 r2
      have q : (PoE X W σ H (Bs A fps.flatten (c && c')) k Q (g0 tx ty)) := q
      cases e3 : g0 tx ty with
      | stuck => rw [e3] at q; exact q.elim
      | exc cl p => exact absurd e3 (hx tx ty cl p)
      | ok t =>
        rw [e3] at q
        have s12 := s1.trans s2
        refine ho x y tx ty t H2 (Nw H H2 (Bs A fps.flatten (c && c')) []) Q (fun a h => F.nwdom s12 h) (r1.mono s2 fun a m => Nw.up s2 (fun _ => Bs.or) m) (r2.mono (Same.refl _) fun a m => Nw.step s1 s2 (fun b z => ⟨.inl (Bs.or' z), by simp⟩) m) e3 fun v H3 fp s3 nd fr rr => ?_
        exact q v H3 fp (s12.trans s3) nd (fun a ha => fresh_of s12 (fr a ha)) (rr.mono (Same.refl _) fun a m => Nw.step s12 s3 (fun b z => z) m)
end
end VI

namespace VI
open PySem PySem.Spec PyProof.Rows L2

section
variable {K : PySem.W.Frag} {H : Hp} {A : Addr → Prop} {k : Nat}
theorem ow_non : Ow K H A k .non .non [] := by rw [Ow]; exact ⟨rfl, rfl⟩
theorem ow_bl (b : Bool) : Ow K H A k (.bl b) (.bl b) [] := by rw [Ow]; exact ⟨rfl, rfl⟩
theorem ow_int (i : Int) : Ow K H A k (.int i) (.int i) [] := by rw [Ow]; exact ⟨rfl, rfl⟩
theorem ow_str {x : Str} (h : PyData.strOk x = true) : Ow K H A k (.str x) (.str x) [] := by rw [Ow]; exact ⟨rfl, rfl, h⟩
theorem inv_bl {b : Bool} {v : V} {fp : List Addr} (h : Ow K H A k (.bl b) v fp) : v = .bl b := by rw [Ow] at h; exact h.1
theorem inv_int {i : Int} {v : V} {fp : List Addr} (h : Ow K H A k (.int i) v fp) : v = .int i := by rw [Ow] at h; exact h.1
theorem inv_non {v : V} {fp : List Addr} (h : Ow K H A k .non v fp) : v = .non := by rw [Ow] at h; exact h.1
theorem inv_str {x : Str} {v : V} {fp : List Addr} (h : Ow K H A k (.str x) v fp) : v = .str x ∧ PyData.strOk x = true := by rw [Ow] at h; exact ⟨h.1, h.2.2⟩
theorem inv_tup {ts : List T} {v : V} {fp : List Addr} (h : Ow K H A k (.tup ts) v fp) : ∃ a xs, v = .ref a ∧ SqT K H a xs ∧ OwL K H A 0 ts xs [] := by rw [Ow] at h; exact let ⟨a, xs, e, q, l, _⟩ := h; ⟨a, xs, e, q, l⟩
theorem inv_lst {ts : List T} {v : V} (h : Ow K H A 0 (.lst ts) v []) : ∃ a xs, v = .ref a ∧ A a ∧ H a = some (.lst xs) ∧ OwL K H A 0 ts xs [] := by rw [Ow] at h; exact h
theorem inv_dct {ts : List (Key × T)} {v : V} (h : Ow K H A 0 (.dct ts) v []) : ∃ a xs, v = .ref a ∧ A a ∧ H a = some (.dK xs) ∧ OwK K H A 0 ts xs [] := by rw [Ow] at h; exact h
theorem inv_ins {c : Str} {ts : List (Key × T)} {v : V} (h : Ow K H A 0 (.ins c ts) v []) : ∃ a dx xs, v = .ref a ∧ A a ∧ H a = some (.ins (He.ga K c) dx xs) ∧ OwK K H A 0 ts (fk xs) [] := by rw [Ow] at h; exact h
theorem ow_tup {ts : List T} {a : Addr} {xs : List V} (q : SqT K H a xs) (h : OwL K H A 0 ts xs []) : Ow K H A k (.tup ts) (.ref a) [] := by rw [Ow]; exact ⟨a, xs, rfl, q, h, rfl⟩
theorem ow_lst {ts : List T} {a : Addr} {xs : List V} (m : A a) (q : H a = some (.lst xs)) (h : OwL K H A 0 ts xs []) : Ow K H A 0 (.lst ts) (.ref a) [] := by rw [Ow]; exact ⟨a, xs, rfl, m, q, h⟩
theorem ow_lst1 {ts : List T} {a : Addr} {xs : List V} (q : H a = some (.lst xs)) (h : OwL K H A 0 ts xs []) : Ow K H A 1 (.lst ts) (.ref a) [a] := by rw [Ow]; exact ⟨a, xs, [], rfl, rfl, q, h⟩
end

/- a new tuple, list, dict: what a result that is just laid is -/
section
variable {K : PySem.W.Frag} {H : Hp} {B : Addr → Prop}
theorem nw_old {H' : Hp} {fp : List Addr} (hB : ∀ a, B a → H a ≠ none) (hf : ∀ a ∈ fp, H a = none) {a : Addr} (h : B a) : Nw H H' B fp a := ⟨.inl h, fun z => hB a h (hf a z)⟩
theorem new_tup {p : Addr} {xs : List V} {ts : List T} (hp : H p = none) (h : OwL K H B 0 ts xs []) : Ow K (upd H p (.tup xs)) (Nw H (upd H p (.tup xs)) B []) 0 (.tup ts) (.ref p) [] :=
  ow_tup (SqT.of upd_same) (h.mono (Same.laid hp) fun a m => ⟨.inl m, by simp⟩)
theorem new_lst {p : Addr} {xs : List V} {ts : List T} (hp : H p = none) (h : OwL K H B 0 ts xs []) : Ow K (upd H p (.lst xs)) (Nw H (upd H p (.lst xs)) B []) 0 (.lst ts) (.ref p) [] :=
  ow_lst ⟨.inr ⟨hp, by rw [upd_same]; simp⟩, by simp⟩ upd_same (h.mono (Same.laid hp) fun a m => ⟨.inl m, by simp⟩)
theorem new_lst1 {p : Addr} {xs : List V} {ts : List T} (hB : ∀ a, B a → H a ≠ none) (hp : H p = none) (h : OwL K H B 0 ts xs []) : Ow K (upd H p (.lst xs)) (Nw H (upd H p (.lst xs)) B [p]) 1 (.lst ts) (.ref p) [p] :=
  ow_lst1 upd_same (h.mono (Same.laid hp) fun a m => nw_old hB (fun b hb => by rw [List.mem_singleton] at hb; rw [hb]; exact hp) m)
end

/-! ### the operations on trees -/
def b2r (b : Bool) : Res T := .ok (.bl b)
def subT : T → T → Res T
  | .int a, .int b => .ok (.int (a - b))
  | _, _ => .stuck
def mulT : T → T → Res T
  | .int a, .int b => if a.natAbs.log2 + b.natAbs.log2 < 1000000 then .ok (.int (a * b)) else .stuck
  | _, _ => .stuck
def fdivT : T → T → Res T
  | .int a, .int b => if b ≠ 0 ∧ b.natAbs.log2 < 9000 then .ok (.int (a.fdiv b)) else .stuck
  | _, _ => .stuck
def modT : T → T → Res T
  | .int a, .int b => if b ≠ 0 then .ok (.int (a.fmod b)) else .stuck
  | _, _ => .stuck
def powT : T → T → Res T
  | .int a, .int b => if 0 ≤ b ∧ b ≤ 1000000 ∧ a.natAbs < 2 ^ 64 then .ok (.int (a ^ b.toNat)) else .stuck
  | _, _ => .stuck
def addT : T → T → Res T
  | .int a, .int b => .ok (.int (a + b))
  | .str a, .str b => if a.length + b.length ≤ sizeLine then .ok (.str (a ++ b)) else .stuck
  | .lst a, .lst b => if a.length + b.length ≤ sizeLine then .ok (.lst (a ++ b)) else .stuck
  | .tup (a :: as), .tup b => if (a :: as).length + b.length ≤ sizeLine then .ok (.tup (a :: as ++ b)) else .stuck
  | _, _ => .stuck
def addL : T → T → Res T
  | .lst a, .lst b => if a.length + b.length ≤ sizeLine then .ok (.lst (a ++ b)) else .stuck
  | _, _ => .stuck
def ltT : T → T → Res T
  | .int a, .int b => .ok (.bl (decide (a < b)))
  | _, _ => .stuck
def leT : T → T → Res T
  | .int a, .int b => .ok (.bl (decide (a ≤ b)))
  | _, _ => .stuck
def gtT : T → T → Res T
  | .int a, .int b => .ok (.bl (decide (b < a)))
  | _, _ => .stuck
def geT : T → T → Res T
  | .int a, .int b => .ok (.bl (decide (b ≤ a)))
  | _, _ => .stuck
/- data: as the library's trees, of depth n -/
mutual
def T.pd : T → PyData
  | .non => .none
  | .bl b => .bool b
  | .int i => .int i
  | .str x => .str x
  | .tup xs => .tuple (pdL xs)
  | .lst xs => .list (pdL xs)
  | .dct _ => .none
  | .scr _ => .none
  | .ins _ _ => .none
def pdL : List T → List PyData
  | [] => []
  | t :: ts => t.pd :: pdL ts
end
def T.pl : Nat → T → Bool
  | _, .non => true
  | _, .bl _ => true
  | _, .int _ => true
  | _, .str _ => true
  | n + 1, .tup xs => xs.all (T.pl n)
  | n + 1, .lst xs => xs.all (T.pl n)
  | _, _ => false
def eqT : T → T → Res T := fun x y => if x.pl 16 && y.pl 16 then .ok (.bl (PyData.eqv x.pd y.pd)) else .stuck
def neT : T → T → Res T := fun x y => if x.pl 16 && y.pl 16 then .ok (.bl (!PyData.eqv x.pd y.pd)) else .stuck
def isNT : T → T → Res T
  | .non, .non => .ok (.bl true)
  | _, .non => .ok (.bl false)
  | _, _ => .stuck
def isntNT : T → T → Res T
  | .non, .non => .ok (.bl false)
  | _, .non => .ok (.bl true)
  | _, _ => .stuck

section
variable {X : Cx}
theorem opS_of {op : Value → Value → Sem Value} {g : T → T → Res T} {k : Nat}
    (h : ∀ (x y : V) (tx ty t : T) (H : Hp) (B : Addr → Prop) (Q : VK), (∀ a, B a → H a ≠ none) → Ow X.K H B 0 tx x [] → Ow X.K H B 0 ty y [] → g tx ty = .ok t →
      (∀ v H' fp, Same H H' → fp.Nodup → (∀ a ∈ fp, H a = none) → Ow X.K H' (Nw H H' B fp) k t v fp → Q v H') → ∃ r : R2, OpR X op r ∧ r x y H Q) : OpS X op g k :=
  fun x y tx ty t H B Q hB h1 h2 e q pins s σ v u I rx ry => by
    obtain ⟨r, hr, hq⟩ := h x y tx ty t H B Q hB h1 h2 e q
    exact hr pins s σ H x y v u Q I rx ry hq
/-- a result without things of its own -/
theorem flat_q {K : PySem.W.Frag} {H : Hp} {B : Addr → Prop} {Q : VK} {k : Nat} {t : T} {v : V} (q : ∀ v H' fp, Same H H' → fp.Nodup → (∀ a ∈ fp, H a = none) → Ow K H' (Nw H H' B fp) k t v fp → Q v H') (h : Ow K H (Nw H H B []) k t v []) : Q v H :=
  q v H [] (Same.refl H) List.nodup_nil (fun _ z => nomatch z) h
theorem res_ok {α : Type} {a b : α} (h : (Res.ok a : Res α) = .ok b) : a = b := by cases h; rfl
theorem ite_ok {α : Type} {p : Prop} [Decidable p] {a : Res α} {b : α} (h : (if p then a else .stuck) = .ok b) : p ∧ a = .ok b := by
  by_cases hp : p
  · rw [if_pos hp] at h; exact ⟨hp, h⟩
  · rw [if_neg hp] at h; cases h

/-- int, int -/
theorem opS_II {op : Value → Value → Sem Value} {g : T → T → Res T} {k : Nat} {C : Int → Int → Prop} {z : Int → Int → V} {y : Int → Int → T} (ho : OpR X op (rI C z))
    (hg : ∀ a b t, g a b = .ok t → ∃ i j, a = .int i ∧ b = .int j ∧ C i j ∧ t = y i j) (hz : ∀ i j (H : Hp) (A : Addr → Prop), Ow X.K H A k (y i j) (z i j) []) : OpS X op g k :=
  opS_of fun x y tx ty t H B Q hB h1 h2 e q => by
    obtain ⟨i, j, rfl, rfl, hc, rfl⟩ := hg _ _ _ e
    rw [inv_int h1, inv_int h2]
    exact ⟨_, ho, i, j, rfl, rfl, hc, flat_q q (hz i j _ _)⟩
theorem opr_I0 {op : Value → Value → Sem Value} {z : Int → Int → V} (ho : OpR X op (rI0 z)) : OpR X op (rI (fun _ _ => True) z) := by
  intro pins s σ H x y v u Q I rx ry h
  obtain ⟨i, j, e1, e2, _, q⟩ := h
  exact ho pins s σ H x y v u Q I rx ry ⟨i, j, e1, e2, q⟩
theorem opS_sub {k : Nat} : OpS X (binaryOp .Sub) subT k := opS_II (y := fun i j => .int (i - j)) (opr_I0 op_sub) (fun a b t e => by
  unfold subT at e
  split at e
  · exact ⟨_, _, rfl, rfl, trivial, (res_ok e).symm⟩
  · cases e) fun _ _ _ _ => ow_int _
theorem opS_mul {k : Nat} : OpS X (binaryOp .Mult) mulT k := opS_II (y := fun i j => .int (i * j)) op_mulW (fun a b t e => by
  unfold mulT at e
  split at e
  · obtain ⟨h, e⟩ := ite_ok e
    exact ⟨_, _, rfl, rfl, h, (res_ok e).symm⟩
  · cases e) fun _ _ _ _ => ow_int _
theorem op_fdivA : OpR X (binaryOp .FloorDiv) (rI (fun _ j => j ≠ 0 ∧ j.natAbs.log2 < 9000) fun i j => .int (i.fdiv j)) := opI fun _ _ _ _ _ _ _ hc q => floordiv_int hc.1 q (.inl (PyProof.noPylong_of_log2 hc.2))
theorem opS_fdiv {k : Nat} : OpS X (binaryOp .FloorDiv) fdivT k := opS_II (y := fun i j => .int (i.fdiv j)) op_fdivA (fun a b t e => by
  unfold fdivT at e
  split at e
  · obtain ⟨h, e⟩ := ite_ok e
    exact ⟨_, _, rfl, rfl, h, (res_ok e).symm⟩
  · cases e) fun _ _ _ _ => ow_int _
theorem opS_mod {k : Nat} : OpS X (binaryOp .Mod) modT k := opS_II (y := fun i j => .int (i.fmod j)) op_modN (fun a b t e => by
  unfold modT at e
  split at e
  · obtain ⟨h, e⟩ := ite_ok e
    exact ⟨_, _, rfl, rfl, h, (res_ok e).symm⟩
  · cases e) fun _ _ _ _ => ow_int _
theorem opS_pow {k : Nat} : OpS X (binaryOp .Pow) powT k := opS_II (y := fun i j => .int (i ^ j.toNat)) op_pow (fun a b t e => by
  unfold powT at e
  split at e
  · obtain ⟨h, e⟩ := ite_ok e
    exact ⟨_, _, rfl, rfl, h, (res_ok e).symm⟩
  · cases e) fun _ _ _ _ => ow_int _
theorem opS_lt {k : Nat} : OpS X (compareOp .Lt) ltT k := opS_II (y := fun i j => .bl (decide (i < j))) (opr_I0 op_lt) (fun a b t e => by
  unfold ltT at e
  split at e
  · exact ⟨_, _, rfl, rfl, trivial, (res_ok e).symm⟩
  · cases e) fun _ _ _ _ => ow_bl _
theorem opS_le {k : Nat} : OpS X (compareOp .LtE) leT k := opS_II (y := fun i j => .bl (decide (i ≤ j))) (opr_I0 op_le) (fun a b t e => by
  unfold leT at e
  split at e
  · exact ⟨_, _, rfl, rfl, trivial, (res_ok e).symm⟩
  · cases e) fun _ _ _ _ => ow_bl _
theorem opS_gt {k : Nat} : OpS X (compareOp .Gt) gtT k := opS_II (y := fun i j => .bl (decide (j < i))) (opr_I0 op_gt) (fun a b t e => by
  unfold gtT at e
  split at e
  · exact ⟨_, _, rfl, rfl, trivial, (res_ok e).symm⟩
  · cases e) fun _ _ _ _ => ow_bl _
theorem opS_ge {k : Nat} : OpS X (compareOp .GtE) geT k := opS_II (y := fun i j => .bl (decide (j ≤ i))) (opr_I0 op_ge) (fun a b t e => by
  unfold geT at e
  split at e
  · exact ⟨_, _, rfl, rfl, trivial, (res_ok e).symm⟩
  · cases e) fun _ _ _ _ => ow_bl _
theorem strOk_app {x y : Str} (hx : PyData.strOk x = true) (hy : PyData.strOk y = true) : PyData.strOk (x ++ y) = true := by
  unfold PyData.strOk at *
  show ((x.cps ++ y.cps).all _) = true
  rw [Array.all_append, hx, hy]; rfl
theorem opS_addL : OpS X (binaryOp .Add) addL 1 := opS_of fun x y tx ty t H B Q hB h1 h2 e q => by
  unfold addL at e
  split at e
  · obtain ⟨h, e⟩ := ite_ok e
    have e := res_ok e
    subst e
    obtain ⟨a, xs, rfl, _, qa, la⟩ := inv_lst h1
    obtain ⟨b, ys, rfl, _, qb, lb⟩ := inv_lst h2
    refine ⟨_, op_cat, a, b, xs, ys, rfl, rfl, qa, qb, by rw [la.length, lb.length]; exact h, fun p hp => ?_⟩
    exact q _ _ [p] (Same.laid hp) (by simp) (fun a ha => by rw [List.mem_singleton] at ha; rw [ha]; exact hp) (new_lst1 hB hp (la.app0 lb))
  · cases e
theorem opS_add : OpS X (binaryOp .Add) addT 0 := opS_of fun x y tx ty t H B Q hB h1 h2 e q => by
  unfold addT at e
  split at e
  · have e := res_ok e
    subst e
    rw [inv_int h1, inv_int h2]
    exact ⟨_, op_add, _, _, rfl, rfl, flat_q q (ow_int _)⟩
  · obtain ⟨h, e⟩ := ite_ok e
    have e := res_ok e
    subst e
    obtain ⟨rfl, o1⟩ := inv_str h1
    obtain ⟨rfl, o2⟩ := inv_str h2
    exact ⟨_, op_add_str, _, _, rfl, rfl, h, flat_q q (ow_str (strOk_app o1 o2))⟩
  · obtain ⟨h, e⟩ := ite_ok e
    have e := res_ok e
    subst e
    obtain ⟨a, xs, rfl, _, qa, la⟩ := inv_lst h1
    obtain ⟨b, ys, rfl, _, qb, lb⟩ := inv_lst h2
    refine ⟨_, op_cat, a, b, xs, ys, rfl, rfl, qa, qb, by rw [la.length, lb.length]; exact h, fun p hp => ?_⟩
    exact q _ _ [] (Same.laid hp) List.nodup_nil (fun _ z => nomatch z) (new_lst hp (la.app0 lb))
  · obtain ⟨h, e⟩ := ite_ok e
    have e := res_ok e
    subst e
    obtain ⟨a, xs, rfl, qa, la⟩ := inv_tup h1
    obtain ⟨b, ys, rfl, qb, lb⟩ := inv_tup h2
    refine ⟨_, op_catT, a, b, xs, ys, rfl, rfl, qa, qb, fun z => ?_, by rw [la.length, lb.length]; exact h, fun z => ?_, fun _ p hp => ?_⟩
    · rw [z] at la
      have := la.length
      cases this
    · subst z
      refine flat_q q (ow_tup qa ?_)
      have z := la.app0 lb
      rw [List.append_nil] at z
      exact z.mono (Same.refl H) fun a m => ⟨.inl m, by simp⟩
    · exact q _ _ [] (Same.laid hp) List.nodup_nil (fun _ z => nomatch z) (new_tup hp (la.app0 lb))
  · cases e
end
end VI

namespace VI
open PySem PySem.Spec PyProof.Rows L2

/-! ### == of data -/
section
variable {K : PySem.W.Frag} {H : Hp} {A : Addr → Prop}
mutual
theorem dp_of : ∀ {n : Nat} {t : T} {v : V}, Ow K H A 0 t v [] → t.pl n = true → Dp K H v t.pd
  | _, .non, v, h, _ => by rw [inv_non h]; rw [T.pd]; exact .non
  | _, .bl b, v, h, _ => by rw [inv_bl h]; rw [T.pd]; exact .bl b
  | _, .int i, v, h, _ => by rw [inv_int h]; rw [T.pd]; exact .int i
  | _, .str x, v, h, _ => by rw [(inv_str h).1]; rw [T.pd]; exact .str x
  | n + 1, .tup xs, v, h, p => by
    obtain ⟨a, ys, rfl, q, l⟩ := inv_tup h
    rw [T.pd]
    exact .tup q (dpL_of l (by simpa [T.pl] using p))
  | n + 1, .lst xs, v, h, p => by
    obtain ⟨a, ys, rfl, m, q, l⟩ := inv_lst h
    rw [T.pd]
    exact .lst (SqL.of q) (dpL_of l (by simpa [T.pl] using p))
  | 0, .tup xs, v, h, p => by simp [T.pl] at p
  | 0, .lst xs, v, h, p => by simp [T.pl] at p
  | _, .dct xs, v, h, p => by simp [T.pl] at p
  | _, .scr xs, v, h, p => by simp [T.pl] at p
  | _, .ins c xs, v, h, p => by simp [T.pl] at p
theorem dpL_of : ∀ {n : Nat} {ts : List T} {vs : List V}, OwL K H A 0 ts vs [] → (∀ t ∈ ts, t.pl n = true) → DpAll K H vs (pdL ts)
  | _, [], vs, h, _ => by rw [OwL] at h; rw [h.1, pdL]; exact .nil
  | n, t :: ts, vs, h, p => by
    obtain ⟨x, r, rfl, q, w⟩ := h.inv0
    rw [pdL]
    exact .cons (dp_of q (p t List.mem_cons_self)) (dpL_of w fun u hu => p u (List.mem_cons_of_mem _ hu))
end
mutual
theorem can_of : ∀ {n : Nat} {t : T} {v : V}, Ow K H A 0 t v [] → t.pl n = true → t.pd.canLay0 = true
  | _, .non, v, h, _ => by rw [T.pd, PyData.canLay0]
  | _, .bl b, v, h, _ => by rw [T.pd, PyData.canLay0]
  | _, .int i, v, h, _ => by rw [T.pd, PyData.canLay0]
  | _, .str x, v, h, _ => by rw [T.pd, PyData.canLay0]; exact (inv_str h).2
  | n + 1, .tup xs, v, h, p => by
    obtain ⟨a, ys, rfl, q, l⟩ := inv_tup h
    rw [T.pd, PyData.canLay0]
    exact canL_of l (by simpa [T.pl] using p)
  | n + 1, .lst xs, v, h, p => by
    obtain ⟨a, ys, rfl, m, q, l⟩ := inv_lst h
    rw [T.pd, PyData.canLay0]
    exact canL_of l (by simpa [T.pl] using p)
  | 0, .tup xs, v, h, p => by simp [T.pl] at p
  | 0, .lst xs, v, h, p => by simp [T.pl] at p
  | _, .dct xs, v, h, p => by simp [T.pl] at p
  | _, .scr xs, v, h, p => by simp [T.pl] at p
  | _, .ins c xs, v, h, p => by simp [T.pl] at p
theorem canL_of : ∀ {n : Nat} {ts : List T} {vs : List V}, OwL K H A 0 ts vs [] → (∀ t ∈ ts, t.pl n = true) → PyData.canLayAll0 (pdL ts) = true
  | _, [], vs, h, _ => by rw [pdL, PyData.canLayAll0]
  | n, t :: ts, vs, h, p => by
    obtain ⟨x, r, rfl, q, w⟩ := h.inv0
    rw [pdL, PyData.canLayAll0, can_of q (p t List.mem_cons_self), canL_of w fun u hu => p u (List.mem_cons_of_mem _ hu)]
    rfl
end
mutual
theorem deep_of : ∀ {n : Nat} {t : T}, t.pl n = true → t.pd.depth ≤ n + 1
  | _, .non, _ => by rw [T.pd, PyData.depth]; omega
  | _, .bl b, _ => by rw [T.pd, PyData.depth]; omega
  | _, .int i, _ => by rw [T.pd, PyData.depth]; omega
  | _, .str x, _ => by rw [T.pd, PyData.depth]; omega
  | n + 1, .tup xs, p => by
    rw [T.pd, PyData.depth]
    have := deepL_of (n := n) (ts := xs) (by simpa [T.pl] using p)
    omega
  | n + 1, .lst xs, p => by
    rw [T.pd, PyData.depth]
    have := deepL_of (n := n) (ts := xs) (by simpa [T.pl] using p)
    omega
  | 0, .tup xs, p => by simp [T.pl] at p
  | 0, .lst xs, p => by simp [T.pl] at p
  | _, .dct xs, p => by simp [T.pl] at p
  | _, .scr xs, p => by simp [T.pl] at p
  | _, .ins c xs, p => by simp [T.pl] at p
theorem deepL_of : ∀ {n : Nat} {ts : List T}, (∀ t ∈ ts, t.pl n = true) → PyData.depthAll (pdL ts) ≤ n + 1
  | n, [], _ => by rw [pdL, PyData.depthAll]; omega
  | n, t :: ts, p => by
    rw [pdL, PyData.depthAll]
    have h1 := deep_of (p t List.mem_cons_self)
    have h2 := deepL_of (ts := ts) fun u hu => p u (List.mem_cons_of_mem _ hu)
    omega
end
end
end VI

namespace VI
open PySem PySem.Spec PyProof.Rows L2

section
variable {X : Cx} {W : WX} {dp : List Nat} {e a b : Expr} {f g : Fr → Res T} {c c' : Bool} {k : Nat} {pos : Pos}

theorem opS_eq {k : Nat} (hu : X.A.units + 64 < cLine) : OpS X (compareOp .Eq) eqT k := opS_of fun x y tx ty t H B Q hB h1 h2 e q => by
  unfold eqT at e
  obtain ⟨h, e⟩ := ite_ok e
  have e := res_ok e
  subst e
  obtain ⟨p1, p2⟩ := Bool.and_eq_true_iff.mp h
  refine ⟨_, op_eqD hu, tx.pd, ty.pd, dp_of h1 p1, dp_of h2 p2, ?_, ?_, flat_q q (ow_bl _)⟩
  · unfold SeqAt.shaped; rw [can_of h1 p1, Bool.true_and]; exact decide_eq_true (Nat.le_trans (deep_of p1) (by decide))
  · unfold SeqAt.shaped; rw [can_of h2 p2, Bool.true_and]; exact decide_eq_true (Nat.le_trans (deep_of p2) (by decide))
theorem opS_ne {k : Nat} (hu : X.A.units + 64 < cLine) : OpS X (compareOp .NotEq) neT k := opS_of fun x y tx ty t H B Q hB h1 h2 e q => by
  unfold neT at e
  obtain ⟨h, e⟩ := ite_ok e
  have e := res_ok e
  subst e
  obtain ⟨p1, p2⟩ := Bool.and_eq_true_iff.mp h
  refine ⟨_, op_neD hu, tx.pd, ty.pd, dp_of h1 p1, dp_of h2 p2, ?_, ?_, flat_q q (ow_bl _)⟩
  · unfold SeqAt.shaped; rw [can_of h1 p1, Bool.true_and]; exact decide_eq_true (Nat.le_trans (deep_of p1) (by decide))
  · unfold SeqAt.shaped; rw [can_of h2 p2, Bool.true_and]; exact decide_eq_true (Nat.le_trans (deep_of p2) (by decide))
def isNonT : T → Bool
  | .non => true
  | _ => false
theorem ow_isnon {K : PySem.W.Frag} {H : Hp} {A : Addr → Prop} {t : T} {v : V} (h : Ow K H A 0 t v []) : decide (v = V.non) = isNonT t := by
  cases t with
  | non => rw [inv_non h]; rfl
  | bl b => rw [inv_bl h]; rfl
  | int i => rw [inv_int h]; rfl
  | str x => rw [(inv_str h).1]; rfl
  | tup xs => obtain ⟨_, _, rfl, _⟩ := inv_tup h; rfl
  | lst xs => obtain ⟨_, _, rfl, _⟩ := inv_lst h; rfl
  | dct xs => obtain ⟨_, _, rfl, _⟩ := inv_dct h; rfl
  | scr xs => rw [Ow] at h; obtain ⟨_, rfl, _⟩ := h; rfl
  | ins c xs => obtain ⟨_, _, _, rfl, _⟩ := inv_ins h; rfl
theorem opS_isN {k : Nat} : OpS X (compareOp .Is) isNT k := opS_of fun x y tx ty t H B Q hB h1 h2 e q => by
  have z := ow_isnon h1
  cases ty with
  | non =>
    refine ⟨_, op_isN, inv_non h2, ?_⟩
    rw [z]
    cases tx <;> (cases e; exact flat_q q (ow_bl _))
  | _ => cases tx <;> cases e
theorem opS_isntN {k : Nat} : OpS X (compareOp .IsNot) isntNT k := opS_of fun x y tx ty t H B Q hB h1 h2 e q => by
  have z := ow_isnon h1
  cases ty with
  | non =>
    refine ⟨_, op_notN, inv_non h2, ?_⟩
    rw [z]
    cases tx <;> (cases e; exact flat_q q (ow_bl _))
  | _ => cases tx <;> cases e

/-! no exception -/
theorem nox_ite {α : Type} {p : Prop} [Decidable p] {r : Res α} (h : NoX r) : NoX (if p then r else .stuck) := by
  intro c q
  split
  · exact h c q
  · exact fun z => by cases z
theorem nox_ok {α : Type} {r : α} : NoX (Res.ok r) := fun _ _ z => by cases z
theorem nox_stuck {α : Type} : NoX (Res.stuck : Res α) := fun _ _ z => by cases z
theorem nox_sub (x y : T) : NoX (subT x y) := by unfold subT; split <;> first | exact nox_ok | exact nox_stuck
theorem nox_mul (x y : T) : NoX (mulT x y) := by unfold mulT; split <;> first | exact nox_ite nox_ok | exact nox_stuck
theorem nox_fdiv (x y : T) : NoX (fdivT x y) := by unfold fdivT; split <;> first | exact nox_ite nox_ok | exact nox_stuck
theorem nox_mod (x y : T) : NoX (modT x y) := by unfold modT; split <;> first | exact nox_ite nox_ok | exact nox_stuck
theorem nox_pow (x y : T) : NoX (powT x y) := by unfold powT; split <;> first | exact nox_ite nox_ok | exact nox_stuck
theorem nox_add (x y : T) : NoX (addT x y) := by unfold addT; split <;> first | exact nox_ok | exact nox_ite nox_ok | exact nox_stuck
theorem nox_addL (x y : T) : NoX (addL x y) := by unfold addL; split <;> first | exact nox_ite nox_ok | exact nox_stuck
theorem nox_lt (x y : T) : NoX (ltT x y) := by unfold ltT; split <;> first | exact nox_ok | exact nox_stuck
theorem nox_le (x y : T) : NoX (leT x y) := by unfold leT; split <;> first | exact nox_ok | exact nox_stuck
theorem nox_gt (x y : T) : NoX (gtT x y) := by unfold gtT; split <;> first | exact nox_ok | exact nox_stuck
theorem nox_ge (x y : T) : NoX (geT x y) := by unfold geT; split <;> first | exact nox_ok | exact nox_stuck
theorem nox_eq (x y : T) : NoX (eqT x y) := by unfold eqT; exact nox_ite nox_ok
theorem nox_ne (x y : T) : NoX (neT x y) := by unfold neT; exact nox_ite nox_ok
theorem nox_isN (x y : T) : NoX (isNT x y) := by unfold isNT; split <;> first | exact nox_ok | exact nox_stuck
theorem nox_isntN (x y : T) : NoX (isntNT x y) := by unfold isntNT; split <;> first | exact nox_ok | exact nox_stuck

theorem ve_op {op : Operator} {g0 : T → T → Res T} {k1 k2 : Nat} (ho : OpS X (binaryOp op) g0 k) (hx : ∀ x y, NoX (g0 x y)) (ha : VE X W dp a f c k1) (hb : VE X W dp b g c' k2) : VE X W dp (.BinOp a op b pos) (eOp g0 f g) (c && c') k :=
  ve_two ho hx ha hb fun hr => pe_op hr pe_wp pe_wp
theorem ve_cmp {op : CmpOp} {g0 : T → T → Res T} {k1 k2 : Nat} (ho : OpS X (compareOp op) g0 k) (hx : ∀ x y, NoX (g0 x y)) (ha : VE X W dp a f c k1) (hb : VE X W dp b g c' k2) (hm : behindInMarks op b = false) : VE X W dp (.Compare a [op] [b] pos) (eOp g0 f g) (c && c') k :=
  ve_two ho hx ha hb fun hr => pe_cmpR hr pe_wp pe_wp hm

/-! ### tests -/
def asB : Res T → Res Bool
  | .ok (.bl b) => .ok b
  | .exc c p => .exc c p
  | _ => .stuck
/-- a test whose value is a bool, by the value's own evaluation -/
theorem vt_of (h : VE X W dp e f c k) (ht : ∀ {t : TE}, PE X e t → PT X e (tTest t)) : VT X W dp e (fun ν => asB (f ν)) := by
  refine ⟨fun {σ H A ν fps} F Q q => wpT_of (ht pe_wp) ?_⟩
  refine h.use F ?_
  cases e1 : f ν with
  | stuck => rw [e1] at q; exact q
  | exc cl p => rw [e1] at q; exact q
  | ok t =>
    rw [e1] at q
    intro v H' s r
    cases t with
    | bl b => exact ⟨b, inv_bl r, q H' s⟩
    | _ => exact q.elim
theorem vt_cmp {op : CmpOp} {g0 : T → T → Res T} {k1 k2 : Nat} (ho : OpS X (compareOp op) g0 0) (hx : ∀ x y, NoX (g0 x y)) (ha : VE X W dp a f c k1) (hb : VE X W dp b g c' k2) (hm : behindInMarks op b = false) : VT X W dp (.Compare a [op] [b] pos) (fun ν => asB (eOp g0 f g ν)) := by
  refine ⟨fun {σ H A ν fps} F Q q => ?_⟩
  let r : R2 := fun x y H Q => ∀ (pins : List (Addr × Obj)) (s : Shared) (σ : L2.St) (v u : Value), Inv X pins σ H s → RelV x v → RelV y u → wpAny (model X.prog X.w) X.A (compareOp op v u) (EP X pins σ Q) X.xe s
  have hr : OpR X (compareOp op) r := fun pins s σ H x y v u Q I rx ry h => h pins s σ v u I rx ry
  refine wpT_of (pt_cmpR hr pe_wp pe_wp hm) ?_
  show tOp r (wpE X a) (wpE X b) σ H fun x H' => ∃ k, x = .bl k ∧ Q k H'
  refine ha.use F ?_
  have q : (PoB X W σ H Q (asB ((f ν).bind fun x => (g ν).bind fun y => g0 x y))) := q
  cases e1 : f ν with
  | stuck => rw [e1] at q; exact q
  | exc cl p => rw [e1] at q; exact q
  | ok tx =>
    rw [e1] at q
    intro x H1 s1 r1
    refine hb.use (F.mono s1) ?_
    have q : (PoB X W σ H Q (asB ((g ν).bind fun y => g0 tx y))) := q
    cases e2 : g ν with
    | stuck => rw [e2] at q; exact q
    | exc cl p => rw [e2] at q; exact fun H' d s2 => q H' d (s1.trans s2)
    | ok ty =>
      rw [e2] at q
      intro y H2 s2 r2
      have q : (PoB X W σ H Q (asB (g0 tx ty))) := q
      cases e3 : g0 tx ty with
      | stuck => rw [e3] at q; exact q.elim
      | exc cl p => exact absurd e3 (hx tx ty cl p)
      | ok t =>
        rw [e3] at q
        have s12 := s1.trans s2
        cases t with
        | bl b0 =>
          refine ho x y tx ty _ H2 (Nw H H2 (Bs A fps.flatten (c && c')) []) _ (fun a h => F.nwdom s12 h) (r1.mono s2 fun a m => Nw.up s2 (fun _ => Bs.or) m) (r2.mono (Same.refl _) fun a m => Nw.step s1 s2 (fun b z => ⟨.inl (Bs.or' z), by simp⟩) m) e3 fun v H3 fp s3 nd fr rr => ?_
          exact ⟨b0, inv_bl rr, q H3 (s12.trans s3)⟩
        | _ => exact q.elim

/-! truth of any value -/
def truT : T → Res Bool
  | .non => .ok false
  | .bl b => .ok b
  | .int i => .ok (i != 0)
  | .str x => if x.length ≤ sizeLine then .ok ((x.length : Int) != 0) else .stuck
  | .tup xs => .ok (!xs.isEmpty)
  | .lst xs => .ok (!xs.isEmpty)
  | .dct xs => .ok (!xs.isEmpty)
  | _ => .stuck
theorem isEmpty_len {α β : Type} {xs : List α} {ys : List β} (h : xs.length = ys.length) : xs.isEmpty = ys.isEmpty := by
  cases xs <;> cases ys <;> first | rfl | cases h
theorem truV_of {K : PySem.W.Frag} {H : Hp} {A : Addr → Prop} {t : T} {v : V} {b : Bool} (h : Ow K H A 0 t v []) (e : truT t = .ok b) : TruV K v H b := by
  cases t with
  | non => rw [inv_non h]; cases e; exact rfl
  | bl b' => rw [inv_bl h]; cases e; exact rfl
  | int i => rw [inv_int h]; cases e; exact rfl
  | str x =>
    rw [(inv_str h).1]
    obtain ⟨h1, e⟩ := ite_ok (show (if x.length ≤ sizeLine then Res.ok ((x.length : Int) != 0) else .stuck) = .ok b from e)
    cases e
    exact ⟨h1, rfl⟩
  | tup xs =>
    obtain ⟨a, ys, rfl, q, l⟩ := inv_tup h
    cases e
    exact .inr (.inl ⟨ys, q, by rw [isEmpty_len l.length]⟩)
  | lst xs =>
    obtain ⟨a, ys, rfl, _, q, l⟩ := inv_lst h
    cases e
    exact .inl ⟨ys, SqL.of q, by rw [isEmpty_len l.length]⟩
  | dct xs =>
    obtain ⟨a, ys, rfl, _, q, l⟩ := inv_dct h
    cases e
    exact .inr (.inr ⟨ys, q, by rw [isEmpty_len l.length]⟩)
  | scr xs => cases e
  | ins c xs => cases e
def tTru (f : Fr → Res T) : Fr → Res Bool := fun ν => (f ν).bind truT
theorem nox_tru (t : T) : NoX (truT t) := by unfold truT; split <;> first | exact nox_ok | exact nox_ite nox_ok | exact nox_stuck
theorem vt_tru (h : VE X W dp e f c k) (he : ∀ whole, isTrue e X.env whole = (do let v ← whole; standAt e.pos; holding [v] (truthy v))) : VT X W dp e (tTru f) := by
  refine ⟨fun {σ H A ν fps} F Q q => wpT_of (pt_truth pe_wp he) ?_⟩
  show wpE X e σ H _
  refine h.use F ?_
  unfold tTru at q
  cases e1 : f ν with
  | stuck => rw [e1] at q; exact q
  | exc cl p => rw [e1] at q; exact q
  | ok t =>
    rw [e1] at q
    intro v H' s r
    have q : (PoB X W σ H Q (truT t)) := q
    cases e2 : truT t with
    | stuck => rw [e2] at q; exact q.elim
    | exc cl p => exact absurd e2 (nox_tru t cl p)
    | ok b =>
      rw [e2] at q
      exact ⟨b, truV_of r e2, q H' s⟩
end
end VI

namespace VI
open PySem PySem.Spec PyProof.Rows L2

section
variable {X : Cx} {W : WX} {dp : List Nat} {e a b : Expr} {es rest : List Expr} {f g : Fr → Res T} {ft gt : Fr → Res Bool} {fs : Fr → Res (List T)} {c c' : Bool} {k k' : Nat} {pos : Pos}

/-! ### and, or, not, if -/
def tAndR (f g : Fr → Res Bool) : Fr → Res Bool := fun ν => (f ν).bind fun b => if b = true then g ν else .ok false
def tOrR (f g : Fr → Res Bool) : Fr → Res Bool := fun ν => (f ν).bind fun b => if b = true then .ok true else g ν
def tNotR (f : Fr → Res Bool) : Fr → Res Bool := fun ν => (f ν).bind fun b => .ok (!b)
/-- a test whatever its 'whole' is -/
structure VW (X : Cx) (W : WX) (dp : List Nat) (e : Expr) (f : Fr → Res Bool) : Prop where
  run : ∃ t : TT, PW X e t ∧ ∀ {σ : L2.St} {H : Hp} {A : Addr → Prop} {ν : Fr} {fps : List (List Addr)}, FR X.K dp H A σ ν fps → ∀ Q : Bool → Hp → Prop,
    (PoB X W σ H Q (f ν)) → t σ H Q
theorem VW.vt (h : VW X W dp e ft) : VT X W dp e ft := by
  obtain ⟨t, hp, hq⟩ := h.run
  exact ⟨fun F Q q => wpT_of hp.pt (hq F Q q)⟩
theorem vw_and1 (h : VT X W dp a ft) : VW X W dp (.BoolOp .And [a] pos) ft := ⟨_, pw_and1 pt_wp, fun F Q q => h.run F Q q⟩
theorem vw_or1 (h : VT X W dp a ft) : VW X W dp (.BoolOp .Or [a] pos) ft := ⟨_, pw_or1 pt_wp, fun F Q q => h.run F Q q⟩
theorem vw_and (h : VT X W dp a ft) (h2 : VW X W dp (.BoolOp .And (b :: rest) pos) gt) : VW X W dp (.BoolOp .And (a :: b :: rest) pos) (tAndR ft gt) := by
  obtain ⟨t, hp, hq⟩ := h2.run
  refine ⟨_, pw_and pt_wp hp, fun {σ H A ν fps} F Q q => ?_⟩
  refine h.run F _ ?_
  unfold tAndR at q
  cases e1 : ft ν with
  | stuck => rw [e1] at q; exact q
  | exc cl p => rw [e1] at q; exact q
  | ok b0 =>
    rw [e1] at q
    intro H1 s1
    cases b0 with
    | false => exact iteF (q H1 s1)
    | true =>
      refine iteT (hq (F.mono s1) Q ?_)
      have q : (PoB X W σ H Q (gt ν)) := q
      cases e2 : gt ν with
      | stuck => rw [e2] at q; exact q
      | exc cl p => rw [e2] at q; exact fun H' d s2 => q H' d (s1.trans s2)
      | ok b1 => rw [e2] at q; exact fun H' s2 => q H' (s1.trans s2)
theorem vw_or (h : VT X W dp a ft) (h2 : VW X W dp (.BoolOp .Or (b :: rest) pos) gt) : VW X W dp (.BoolOp .Or (a :: b :: rest) pos) (tOrR ft gt) := by
  obtain ⟨t, hp, hq⟩ := h2.run
  refine ⟨_, pw_or pt_wp hp, fun {σ H A ν fps} F Q q => ?_⟩
  refine h.run F _ ?_
  unfold tOrR at q
  cases e1 : ft ν with
  | stuck => rw [e1] at q; exact q
  | exc cl p => rw [e1] at q; exact q
  | ok b0 =>
    rw [e1] at q
    intro H1 s1
    cases b0 with
    | true => exact iteT (q H1 s1)
    | false =>
      refine iteF (hq (F.mono s1) Q ?_)
      have q : (PoB X W σ H Q (gt ν)) := q
      cases e2 : gt ν with
      | stuck => rw [e2] at q; exact q
      | exc cl p => rw [e2] at q; exact fun H' d s2 => q H' d (s1.trans s2)
      | ok b1 => rw [e2] at q; exact fun H' s2 => q H' (s1.trans s2)
theorem vt_not (h : VT X W dp a ft) : VT X W dp (.UnaryOp .Not a pos) (tNotR ft) := by
  refine ⟨fun {σ H A ν fps} F Q q => wpT_of (pt_not pt_wp) ?_⟩
  refine h.run F _ ?_
  unfold tNotR at q
  cases e1 : ft ν with
  | stuck => rw [e1] at q; exact q
  | exc cl p => rw [e1] at q; exact q
  | ok b0 => rw [e1] at q; exact q
/-! as values -/
def eAndR (f g : Fr → Res T) : Fr → Res T := fun ν => (f ν).bind fun x => match x with
  | .bl true => g ν
  | .bl false => .ok (.bl false)
  | _ => .stuck
def eOrR (f g : Fr → Res T) : Fr → Res T := fun ν => (f ν).bind fun x => match x with
  | .bl false => g ν
  | .bl true => .ok (.bl true)
  | _ => .stuck
def eNotR (f : Fr → Res T) : Fr → Res T := fun ν => (f ν).bind fun x => match x with
  | .bl b => .ok (.bl !b)
  | _ => .stuck
/-- a result of a later state, seen from the first -/
theorem later {σ : L2.St} {H H1 : Hp} {B B' : Addr → Prop} {Q : VK} {r : Res T} (s1 : Same H H1) (hc : ∀ a, B' a → B a) (q : PoE X W σ H B k Q r) : PoE X W σ H1 B' k Q r := by
  cases r with
  | ok t => exact fun v H' fp s nd fr rr => q v H' fp (s1.trans s) nd (fun a ha => fresh_of s1 (fr a ha)) (rr.mono (Same.refl _) fun a m => Nw.step s1 s (fun b z => ⟨.inl (hc b z), by simp⟩) m)
  | exc cl p => exact fun H' d s => q H' d (s1.trans s)
  | stuck => exact q
theorem laterB {σ : L2.St} {H H1 : Hp} {Q : Bool → Hp → Prop} {r : Res Bool} (s1 : Same H H1) (q : PoB X W σ H Q r) : PoB X W σ H1 Q r := by
  cases r with
  | ok t => exact fun H' s => q H' (s1.trans s)
  | exc cl p => exact fun H' d s => q H' d (s1.trans s)
  | stuck => exact q
theorem ve_one {op} (h : VE X W dp a f c k) : VE X W dp (.BoolOp op [a] pos) f c k := ⟨fun F Q q => wpE_of (pe_one pe_wp) (h.run F Q q)⟩
theorem ve_and (h : VE X W dp a f c k) (h2 : VE X W dp (.BoolOp .And (b :: rest) pos) g c' k') : VE X W dp (.BoolOp .And (a :: b :: rest) pos) (eAndR f g) c' k' := by
  refine ⟨fun {σ H A ν fps} F Q q => wpE_of (pe_and pe_wp pe_wp) ?_⟩
  refine h.use F ?_
  unfold eAndR at q
  cases e1 : f ν with
  | stuck => rw [e1] at q; exact q
  | exc cl p => rw [e1] at q; exact q
  | ok t =>
    rw [e1] at q
    intro v H1 s1 r1
    cases t with
    | bl b0 =>
      refine ⟨b0, inv_bl r1, ?_⟩
      cases b0 with
      | false => exact iteF (q (.bl false) H1 [] s1 List.nodup_nil (fun _ z => nomatch z) (ow_bl _))
      | true => exact iteT (h2.run (F.mono s1) Q (later s1 (fun _ z => z) (r := g ν) q))
    | _ => exact q.elim
theorem ve_or (h : VE X W dp a f c k) (h2 : VE X W dp (.BoolOp .Or (b :: rest) pos) g c' k') : VE X W dp (.BoolOp .Or (a :: b :: rest) pos) (eOrR f g) c' k' := by
  refine ⟨fun {σ H A ν fps} F Q q => wpE_of (pe_or pe_wp pe_wp) ?_⟩
  refine h.use F ?_
  unfold eOrR at q
  cases e1 : f ν with
  | stuck => rw [e1] at q; exact q
  | exc cl p => rw [e1] at q; exact q
  | ok t =>
    rw [e1] at q
    intro v H1 s1 r1
    cases t with
    | bl b0 =>
      refine ⟨b0, inv_bl r1, ?_⟩
      cases b0 with
      | true => exact iteT (q (.bl true) H1 [] s1 List.nodup_nil (fun _ z => nomatch z) (ow_bl _))
      | false => exact iteF (h2.run (F.mono s1) Q (later s1 (fun _ z => z) (r := g ν) q))
    | _ => exact q.elim
theorem ve_not (h : VE X W dp a f c k) : VE X W dp (.UnaryOp .Not a pos) (eNotR f) c' k' := by
  refine ⟨fun {σ H A ν fps} F Q q => wpE_of (pe_not pe_wp) ?_⟩
  refine h.use F ?_
  unfold eNotR at q
  cases e1 : f ν with
  | stuck => rw [e1] at q; exact q
  | exc cl p => rw [e1] at q; exact q
  | ok t =>
    rw [e1] at q
    intro v H1 s1 r1
    cases t with
    | bl b0 => exact ⟨b0, inv_bl r1, q (.bl !b0) H1 [] s1 List.nodup_nil (fun _ z => nomatch z) (ow_bl _)⟩
    | _ => exact q.elim
def eIfR (t : Fr → Res Bool) (f g : Fr → Res T) : Fr → Res T := fun ν => (t ν).bind fun b => if b = true then f ν else g ν
theorem ve_if {tst : Expr} (ht : VT X W dp tst ft) (h : VE X W dp a f c k) (h2 : VE X W dp b g c' k) : VE X W dp (.IfExp tst a b pos) (eIfR ft f g) (c && c') k := by
  refine ⟨fun {σ H A ν fps} F Q q => wpE_of (pe_ifExp pt_wp pe_wp pe_wp) ?_⟩
  refine ht.run F _ ?_
  unfold eIfR at q
  cases e1 : ft ν with
  | stuck => rw [e1] at q; exact q
  | exc cl p => rw [e1] at q; exact q
  | ok b0 =>
    rw [e1] at q
    intro H1 s1
    cases b0 with
    | true => exact iteT (h.run (F.mono s1) Q (later s1 (fun _ z => Bs.or z) (r := f ν) q))
    | false => exact iteF (h2.run (F.mono s1) Q (later s1 (fun _ z => Bs.or' z) (r := g ν) q))
/-! -x -/
def eNeg (f : Fr → Res T) : Fr → Res T := fun ν => (f ν).bind fun x => match x with
  | .int i => .ok (.int (-i))
  | _ => .stuck
theorem ve_neg (h : VE X W dp a f c k) : VE X W dp (.UnaryOp .USub a pos) (eNeg f) c' k' := by
  refine ⟨fun {σ H A ν fps} F Q q => wpE_of (pe_un un_neg pe_wp) ?_⟩
  refine h.use F ?_
  unfold eNeg at q
  cases e1 : f ν with
  | stuck => rw [e1] at q; exact q
  | exc cl p => rw [e1] at q; exact q
  | ok t =>
    rw [e1] at q
    intro v H1 s1 r1
    cases t with
    | int i => exact ⟨i, inv_int r1, q (.int (-i)) H1 [] s1 List.nodup_nil (fun _ z => nomatch z) (ow_int _)⟩
    | _ => exact q.elim

/-! ### several expressions; displays -/
def esNil : Fr → Res (List T) := fun _ => .ok []
def esCons (f : Fr → Res T) (fs : Fr → Res (List T)) : Fr → Res (List T) := fun ν => (f ν).bind fun x => (fs ν).bind fun xs => .ok (x :: xs)
theorem ves_nil : VEs X W dp [] esNil c := ⟨_, pa_nil, fun {σ H A ν fps} F Q q => q [] H (Same.refl H) OwL.nil0⟩
theorem ves_cons (h : VE X W dp e f c k) (hs : VEs X W dp es fs c) (hst : starEach (e :: es) X.env = (false, eval e X.env) :: starEach es X.env) : VEs X W dp (e :: es) (esCons f fs) c := by
  obtain ⟨t, hp, hq⟩ := hs.pa
  refine ⟨_, pa_cons pe_wp hp hst, fun {σ H A ν fps} F Q q => ?_⟩
  refine h.use F ?_
  unfold esCons at q
  cases e1 : f ν with
  | stuck => rw [e1] at q; exact q
  | exc cl p => rw [e1] at q; exact q
  | ok tx =>
    rw [e1] at q
    intro x H1 s1 r1
    refine hq (F.mono s1) _ ?_
    have q : (PoL X W σ H (Bs A fps.flatten c) Q ((fs ν).bind fun xs => Res.ok (tx :: xs))) := q
    cases e2 : fs ν with
    | stuck => rw [e2] at q; exact q
    | exc cl p => rw [e2] at q; exact fun H' d s2 => q H' d (s1.trans s2)
    | ok ts =>
      rw [e2] at q
      intro xs H2 s2 r2
      exact q (x :: xs) H2 (s1.trans s2) (OwL.cons0 (r1.mono s2 fun a m => Nw.up s2 (fun _ z => z) m) (r2.mono (Same.refl _) fun a m => Nw.step s1 s2 (fun b z => ⟨.inl z, by simp⟩) m))
def eTup (fs : Fr → Res (List T)) : Fr → Res T := fun ν => (fs ν).bind fun xs => if xs.length ≤ sizeLine then .ok (.tup xs) else .stuck
def eLst (fs : Fr → Res (List T)) : Fr → Res T := fun ν => (fs ν).bind fun xs => if xs.length ≤ sizeLine then .ok (.lst xs) else .stuck
theorem ve_tup {x1} (hs : VEs X W dp es fs c) : VE X W dp (.Tuple es x1 pos) (eTup fs) c 0 := by
  obtain ⟨t, hp, hq⟩ := hs.pa
  refine ⟨fun {σ H A ν fps} F Q q => wpE_of (pe_tup hp) (hq F _ ?_)⟩
  unfold eTup at q
  cases e1 : fs ν with
  | stuck => rw [e1] at q; exact q
  | exc cl p => rw [e1] at q; exact q
  | ok ts =>
    rw [e1] at q
    intro xs H1 s1 r1
    by_cases hz : ts.length ≤ sizeLine
    · have q : (PoE X W σ H (Bs A fps.flatten c) 0 Q ((if ts.length ≤ sizeLine then Res.ok (T.tup ts) else .stuck))) := q
      rw [if_pos hz] at q
      refine ⟨by rw [r1.length]; exact hz, fun p hp => ?_⟩
      refine q _ _ [] (s1.trans (Same.laid hp)) List.nodup_nil (fun _ z => nomatch z) ((new_tup hp r1).mono (Same.refl _) fun a m => Nw.step s1 (Same.laid hp) (fun b z => z) m)
    · have q : (PoE X W σ H (Bs A fps.flatten c) 0 Q ((if ts.length ≤ sizeLine then Res.ok (T.tup ts) else .stuck))) := q
      rw [if_neg hz] at q
      exact q.elim
theorem ve_lst (hs : VEs X W dp es fs c) : VE X W dp (.List es pos) (eLst fs) c 1 := by
  obtain ⟨t, hp, hq⟩ := hs.pa
  refine ⟨fun {σ H A ν fps} F Q q => wpE_of (pe_lst hp) (hq F _ ?_)⟩
  unfold eLst at q
  cases e1 : fs ν with
  | stuck => rw [e1] at q; exact q
  | exc cl p => rw [e1] at q; exact q
  | ok ts =>
    rw [e1] at q
    intro xs H1 s1 r1
    have q : (PoE X W σ H (Bs A fps.flatten c) 1 Q ((if ts.length ≤ sizeLine then Res.ok (T.lst ts) else .stuck))) := q
    by_cases hz : ts.length ≤ sizeLine
    · rw [if_pos hz] at q
      refine ⟨by rw [r1.length]; exact hz, fun p hp => ?_⟩
      refine q _ _ [p] (s1.trans (Same.laid hp)) (by simp) (fun a ha => by rw [List.mem_singleton] at ha; rw [ha]; exact fresh_of s1 hp) ((new_lst1 (H := H1) (B := Nw H H1 (Bs A fps.flatten c) []) (fun a h => F.nwdom s1 h) hp r1).mono (Same.refl _) fun a m => Nw.step s1 (Same.laid hp) (fun b z => z) m)
    · rw [if_neg hz] at q
      exact q.elim
end
end VI

namespace VI
open PySem PySem.Spec PyProof.Rows L2

/-! ### items, slices -/
def T.key : T → Option Key
  | .int i => some (.inl i)
  | .str x => some (.inr x)
  | _ => none
def valT {κ α : Type} [DecidableEq κ] (kvs : List (κ × α)) (k : κ) : Option α := (kvs.find? fun kv => decide (kv.1 = k)).map (·.2)
def optR (o : Option T) : Res T := match o with
  | some t => .ok t
  | none => .stuck
def ixT : T → T → Res T
  | .lst xs, .int i => optR (atI xs i)
  | .tup xs, .int i => optR (atI xs i)
  | .str z, .int i => if z.length ≤ sizeLine then (match atI z.cps.toList i with
    | some c => .ok (.str ⟨#[c]⟩)
    | none => .stuck) else .stuck
  | .dct kvs, y => (match y.key with
    | some k => optR (valT kvs k)
    | none => .stuck)
  | _, _ => .stuck
section
variable {K : PySem.W.Frag} {H : Hp} {A : Addr → Prop}
theorem OwL.atI {ts : List T} {xs : List V} {i : Int} {t : T} (h : OwL K H A 0 ts xs []) (e : L2.atI ts i = some t) : ∃ x, L2.atI xs i = some x ∧ Ow K H A 0 t x [] := by
  unfold L2.atI at e ⊢
  rw [h.length]
  cases hj : ixN ts.length i with
  | none => rw [hj] at e; cases e
  | some j =>
    rw [hj] at e
    obtain ⟨x, h1, h2⟩ := h.get (show ts[j]? = some t from e)
    exact ⟨x, h1, h2⟩
theorem OwK.val : ∀ {ts : List (Key × T)} {xs : List (Key × V)} {k : Key} {t : T}, OwK K H A 0 ts xs [] → valT ts k = some t → ∃ x, valV xs k = some x ∧ Ow K H A 0 t x []
  | [], xs, k, t, h, e => by cases e
  | (q, u) :: ts, xs, k, t, h, e => by
    rw [OwK] at h
    obtain ⟨x, r, f, g, rfl, hf, o, z, ko⟩ := h
    have := o.zero; subst this
    have := z.zero; subst this
    unfold valT at e
    rw [List.find?_cons] at e
    by_cases hq : q = k
    · simp only [hq, decide_true, Option.map_some, Option.some.injEq] at e
      subst e
      exact ⟨x, valV_pos hq, o⟩
    · simp only [hq, decide_false] at e
      obtain ⟨y, h1, h2⟩ := OwK.val z e
      exact ⟨y, by rw [valV_neg (p := (q, x)) hq]; exact h1, h2⟩
theorem OwK.valN : ∀ {n : Nat} {ts : List (Key × T)} {xs : List (Key × V)} {fp : List Addr} {k : Key}, OwK K H A n ts xs fp → (valV xs k).isSome = (valT ts k).isSome
  | _, [], xs, fp, k, h => by rw [OwK] at h; rw [h.1]; rfl
  | _, (q, u) :: ts, xs, fp, k, h => by
    rw [OwK] at h
    obtain ⟨x, r, f, g, rfl, hf, o, z, ko⟩ := h
    unfold valT
    rw [List.find?_cons]
    by_cases hq : q = k
    · rw [valV_pos (p := (q, x)) hq]
      simp [hq]
    · rw [valV_neg (p := (q, x)) hq]
      simp only [hq, decide_false]
      exact OwK.valN z
theorem key_V {t : T} {v : V} {k : Key} (h : Ow K H A 0 t v []) (e : t.key = some k) : v = kV k := by
  cases t with
  | int i => cases e; exact inv_int h
  | str x => cases e; exact (inv_str h).1
  | _ => cases e
theorem strOk_one {z : Str} {c : Nat} {i : Int} (h : PyData.strOk z = true) (e : atI z.cps.toList i = some c) : PyData.strOk ⟨#[c]⟩ = true := by
  obtain ⟨j, _, hj, _⟩ := atI_get e
  have hm : c ∈ z.cps.toList := List.mem_of_getElem? hj
  unfold PyData.strOk at h ⊢
  rw [Array.all_eq_true'] at h
  have := h c (by simpa using hm)
  simpa using this
end
section
variable {X : Cx} {W : WX} {dp : List Nat} {e a b : Expr} {f g : Fr → Res T} {c c' : Bool} {k k' : Nat} {pos : Pos}
theorem plainIx_of {b : Expr} (h : match b with | .Slice .. => False | _ => True) : PlainIx b := by
  intro o i
  cases b <;> first | rfl | exact h.elim
theorem ve_ix {k1 k2 : Nat} (hu : X.A.units + 1 < cLine) (ha : VE X W dp a f c k1) (hb : VE X W dp b g c' k2) (hs : PlainIx b) : VE X W dp (.Subscript a b pos) (eOp ixT f g) c 0 := by
  refine ⟨fun {σ H A ν fps} F Q q => ?_⟩
  unfold eOp at q
  -- evaluate both, then by what they are
  have both : ∀ {r : R2} (rule : PE X (.Subscript a b pos) (tOp r (wpE X a) (wpE X b))) (tx ty : T), f ν = .ok tx → g ν = .ok ty →
      (∀ x y H2, Same H H2 → Ow X.K H2 (Nw H H2 (Bs A fps.flatten c) []) 0 tx x [] → Ow X.K H2 (Nw H H2 (Bs A fps.flatten c') []) 0 ty y [] → r x y H2 Q) → wpE X (.Subscript a b pos) σ H Q := by
    intro r rule tx ty e1 e2 hr
    refine wpE_of rule ?_
    refine ha.use F ?_
    rw [e1]
    intro x H1 s1 r1
    refine hb.use (F.mono s1) ?_
    rw [e2]
    intro y H2 s2 r2
    exact hr x y H2 (s1.trans s2) (r1.mono s2 fun a m => Nw.up s2 (fun _ z => z) m) (r2.mono (Same.refl _) fun a m => Nw.step s1 s2 (fun b z => ⟨.inl z, by simp⟩) m)
  have bad : ∀ {r : R2} (rule : PE X (.Subscript a b pos) (tOp r (wpE X a) (wpE X b))), (∀ t, f ν ≠ .ok t) → PoE X W σ H (Bs A fps.flatten c) 0 Q (f ν) → wpE X (.Subscript a b pos) σ H Q := by
    intro r rule hn hq
    refine wpE_of rule (ha.use F ?_)
    cases e1 : f ν with
    | ok t => exact absurd e1 (hn t)
    | exc cl p => rw [e1] at hq; exact hq
    | stuck => rw [e1] at hq; exact hq
  have rl := pe_ix (pos := pos) (ix_list (X := X)) (pe_wp (e := a)) (pe_wp (e := b)) hs
  cases e1 : f ν with
  | stuck => rw [e1] at q; exact q.elim
  | exc cl p =>
    rw [e1] at q
    refine bad rl (fun t z => by rw [e1] at z; cases z) (by rw [e1]; exact q)
  | ok tx =>
    rw [e1] at q
    cases e2 : g ν with
    | stuck =>
      have q : PoE X W σ H (Bs A fps.flatten c) 0 Q ((g ν).bind fun y => ixT tx y) := q
      rw [e2] at q; exact q.elim
    | exc cl p =>
      have q : PoE X W σ H (Bs A fps.flatten c) 0 Q ((g ν).bind fun y => ixT tx y) := q
      rw [e2] at q
      refine wpE_of rl (ha.use F ?_)
      rw [e1]
      intro x H1 s1 r1
      refine hb.use (F.mono s1) ?_
      rw [e2]
      exact fun H' d s2 => q H' d (s1.trans s2)
    | ok ty =>
      have q : PoE X W σ H (Bs A fps.flatten c) 0 Q ((g ν).bind fun y => ixT tx y) := q
      rw [e2] at q
      have q : PoE X W σ H (Bs A fps.flatten c) 0 Q (ixT tx ty) := q
      cases tx with
      | lst xs =>
        cases ty with
        | int i =>
          have q : PoE X W σ H (Bs A fps.flatten c) 0 Q (optR (atI xs i)) := q
          refine both rl _ _ e1 e2 fun x y H2 s r1 r2 => ?_
          obtain ⟨p, ys, rfl, m, h1, l⟩ := inv_lst r1
          rw [inv_int r2]
          cases h : atI xs i with
          | none => rw [h] at q; exact q.elim
          | some t =>
            rw [h] at q
            obtain ⟨z, hz, rz⟩ := l.atI h
            exact ⟨p, ys, i, z, rfl, rfl, SqL.of h1, hz, q z H2 [] s List.nodup_nil (fun _ z => nomatch z) rz⟩
        | _ => exact q.elim
      | tup xs =>
        cases ty with
        | int i =>
          have q : PoE X W σ H (Bs A fps.flatten c) 0 Q (optR (atI xs i)) := q
          refine both (pe_ix (pos := pos) (ix_tup (X := X)) (pe_wp (e := a)) (pe_wp (e := b)) hs) _ _ e1 e2 fun x y H2 s r1 r2 => ?_
          obtain ⟨p, ys, rfl, h1, l⟩ := inv_tup r1
          rw [inv_int r2]
          cases h : atI xs i with
          | none => rw [h] at q; exact q.elim
          | some t =>
            rw [h] at q
            obtain ⟨z, hz, rz⟩ := l.atI h
            exact ⟨p, ys, i, z, rfl, rfl, h1, hz, q z H2 [] s List.nodup_nil (fun _ z => nomatch z) rz⟩
        | _ => exact q.elim
      | str z =>
        cases ty with
        | int i =>
          have q : PoE X W σ H (Bs A fps.flatten c) 0 Q (if z.length ≤ sizeLine then (match atI z.cps.toList i with
            | some c => .ok (.str ⟨#[c]⟩)
            | none => .stuck) else .stuck) := q
          refine both (pe_ix (pos := pos) (ix_str (X := X)) (pe_wp (e := a)) (pe_wp (e := b)) hs) _ _ e1 e2 fun x y H2 s r1 r2 => ?_
          obtain ⟨rfl, so⟩ := inv_str r1
          rw [inv_int r2]
          by_cases hz : z.length ≤ sizeLine
          · rw [if_pos hz] at q
            cases h : atI z.cps.toList i with
            | none => rw [h] at q; exact q.elim
            | some ch =>
              rw [h] at q
              exact ⟨z, i, ch, rfl, rfl, hz, h, q _ H2 [] s List.nodup_nil (fun _ z => nomatch z) (ow_str (strOk_one so h))⟩
          · rw [if_neg hz] at q; exact q.elim
        | _ => exact q.elim
      | dct kvs =>
        have q : PoE X W σ H (Bs A fps.flatten c) 0 Q (match ty.key with
          | some k => optR (valT kvs k)
          | none => .stuck) := q
        cases h : ty.key with
        | none => rw [h] at q; exact q.elim
        | some kk =>
          rw [h] at q
          cases h2 : valT kvs kk with
          | none =>
            have q : PoE X W σ H (Bs A fps.flatten c) 0 Q (optR (valT kvs kk)) := q
            rw [h2] at q; exact q.elim
          | some t =>
            have q : PoE X W σ H (Bs A fps.flatten c) 0 Q (optR (valT kvs kk)) := q
            rw [h2] at q
            refine both (r := fun x y H Q => ∃ a v, x = .ref a ∧ DGet H a y (some v) ∧ Q v H) (pe_dget (pos := pos) hu (pe_wp (e := a)) (pe_wp (e := b)) hs) _ _ e1 e2 fun x y H2 s r1 r2 => ?_
            obtain ⟨p, ys, rfl, m, h1, l⟩ := inv_dct r1
            obtain ⟨z, hz, rz⟩ := l.val h2
            have g := DGet.k (k := kk) h1
            rw [hz] at g
            exact ⟨p, z, rfl, by rw [key_V r2 h]; exact g, q z H2 [] s List.nodup_nil (fun _ z => nomatch z) rz⟩
      | _ => cases ty <;> exact q.elim
end
end VI

namespace VI
open PySem PySem.Spec PyProof.Rows L2

section
variable {X : Cx} {W : WX} {dp : List Nat} {e a b : Expr} {es : List Expr} {f g : Fr → Res T} {fs : Fr → Res (List T)} {c c' : Bool} {k k' : Nat} {pos p : Pos}

/-! ### one operand; several arguments -/
def eU (g0 : T → Res T) (f : Fr → Res T) : Fr → Res T := fun ν => (f ν).bind g0
def eA (g0 : List T → Res T) (fs : Fr → Res (List T)) : Fr → Res T := fun ν => (fs ν).bind g0
theorem ve_un1 {g0 : T → Res T} {k1 : Nat} (ha : VE X W dp a f c k1) (hx : ∀ t, NoX (g0 t)) (any : ∃ r, PE X e (tUn r (wpE X a)))
    (h : ∀ t t', g0 t = .ok t' → ∃ r : V → Hp → VK → Prop, PE X e (tUn r (wpE X a)) ∧ ∀ x H B Q, (∀ a, B a → H a ≠ none) → Ow X.K H B 0 t x [] →
      (∀ v H' fp, Same H H' → fp.Nodup → (∀ a ∈ fp, H a = none) → Ow X.K H' (Nw H H' B fp) k t' v fp → Q v H') → r x H Q) : VE X W dp e (eU g0 f) c k := by
  refine ⟨fun {σ H A ν fps} F Q q => ?_⟩
  unfold eU at q
  cases e1 : f ν with
  | stuck => rw [e1] at q; exact q.elim
  | exc cl p =>
    rw [e1] at q
    obtain ⟨r, rule⟩ := any
    refine wpE_of rule (ha.use F ?_)
    rw [e1]; exact q
  | ok t =>
    rw [e1] at q
    have q : PoE X W σ H (Bs A fps.flatten c) k Q (g0 t) := q
    cases e2 : g0 t with
    | stuck => rw [e2] at q; exact q.elim
    | exc cl p => exact absurd e2 (hx t cl p)
    | ok t' =>
      rw [e2] at q
      obtain ⟨r, rule, hr⟩ := h t t' e2
      refine wpE_of rule (ha.use F ?_)
      rw [e1]
      intro x H1 s1 r1
      refine hr x H1 (Nw H H1 (Bs A fps.flatten c) []) Q (fun a h => F.nwdom s1 h) r1 fun v H2 fp s2 nd fr rr => ?_
      exact q v H2 fp (s1.trans s2) nd (fun a ha => fresh_of s1 (fr a ha)) (rr.mono (Same.refl _) fun a m => Nw.step s1 s2 (fun b z => z) m)
theorem ve_args {g0 : List T → Res T} (hs : VEs X W dp es fs c) (hx : ∀ t, NoX (g0 t)) (any : ∀ {t : TA}, PA X es t → ∃ r, PE X e (tCB r t))
    (h : ∀ {t : TA}, PA X es t → ∀ ts t', g0 ts = .ok t' → ∃ r : List V → Hp → VK → Prop, PE X e (tCB r t) ∧ ∀ vs H B Q, (∀ a, B a → H a ≠ none) → OwL X.K H B 0 ts vs [] →
      (∀ v H' fp, Same H H' → fp.Nodup → (∀ a ∈ fp, H a = none) → Ow X.K H' (Nw H H' B fp) k t' v fp → Q v H') → r vs H Q) : VE X W dp e (eA g0 fs) c k := by
  obtain ⟨t, hp, hq⟩ := hs.pa
  refine ⟨fun {σ H A ν fps} F Q q => ?_⟩
  unfold eA at q
  cases e1 : fs ν with
  | stuck => rw [e1] at q; exact q.elim
  | exc cl p =>
    rw [e1] at q
    obtain ⟨r, rule⟩ := any hp
    refine wpE_of rule (hq F _ ?_)
    rw [e1]; exact q
  | ok ts =>
    rw [e1] at q
    have q : PoE X W σ H (Bs A fps.flatten c) k Q (g0 ts) := q
    cases e2 : g0 ts with
    | stuck => rw [e2] at q; exact q.elim
    | exc cl p => exact absurd e2 (hx ts cl p)
    | ok t' =>
      rw [e2] at q
      obtain ⟨r, rule, hr⟩ := h hp ts t' e2
      refine wpE_of rule (hq F _ ?_)
      rw [e1]
      intro vs H1 s1 r1
      refine hr vs H1 (Nw H H1 (Bs A fps.flatten c) []) Q (fun a h => F.nwdom s1 h) r1 fun v H2 fp s2 nd fr rr => ?_
      exact q v H2 fp (s1.trans s2) nd (fun a ha => fresh_of s1 (fr a ha)) (rr.mono (Same.refl _) fun a m => Nw.step s1 s2 (fun b z => z) m)
/-- a built-in's call, by values -/
def CallS (X : Cx) (f : Value) (g0 : List T → Res T) (k : Nat) : Prop :=
  ∀ ts t', g0 ts = .ok t' → ∃ r : List V → Hp → VK → Prop, CallR X f r ∧ ∀ vs H B Q, (∀ a, B a → H a ≠ none) → OwL X.K H B 0 ts vs [] →
      (∀ v H' fp, Same H H' → fp.Nodup → (∀ a ∈ fp, H a = none) → Ow X.K H' (Nw H H' B fp) k t' v fp → Q v H') → r vs H Q
theorem callR_never {f : Value} : CallR X f (fun _ _ _ => False) := fun _ _ _ _ _ _ _ _ _ h => h.elim
theorem ve_callB {x : Str} {id : String} {g0 : List T → Res T} (hc : CallS X (.builtin id) g0 k) (hx : ∀ t, NoX (g0 t)) (hg : Gl X x) (hm : X.mg x = none) (hv : bootBuiltins x = some (.builtin id)) (hs : VEs X W dp (e :: es) fs c)
    (hn : x ≠ "__name__") (hdb : (x == ("__debug__" : Str)) = false) (he : starEach (e :: es) X.env = (false, eval e X.env) :: starEach es X.env) (hpl : (backTo pos (starEach es X.env)).any (·.1) = false) :
    VE X W dp (.Call (.Name x p) (e :: es) [] pos) (eA g0 fs) c k :=
  ve_args hs hx (fun hp => ⟨_, pe_callB callR_never hg hm hv hp hn hdb he hpl⟩) fun hp ts t' e1 => by
    obtain ⟨r, hr, h⟩ := hc ts t' e1
    exact ⟨r, pe_callB hr hg hm hv hp hn hdb he hpl, h⟩
theorem ve_callTy {x : Str} {id : String} {g0 : List T → Res T} (hc : CallS X (.type id) g0 k) (hx : ∀ t, NoX (g0 t)) (hg : Gl X x) (hm : X.mg x = none) (hv : bootBuiltins x = some (.type id)) (hs : VEs X W dp (e :: es) fs c)
    (hn : x ≠ "__name__") (hdb : (x == ("__debug__" : Str)) = false) (he : starEach (e :: es) X.env = (false, eval e X.env) :: starEach es X.env) (hpl : (backTo pos (starEach es X.env)).any (·.1) = false) :
    VE X W dp (.Call (.Name x p) (e :: es) [] pos) (eA g0 fs) c k :=
  ve_args hs hx (fun hp => ⟨_, pe_callTy callR_never hg hm hv hp hn hdb he hpl⟩) fun hp ts t' e1 => by
    obtain ⟨r, hr, h⟩ := hc ts t' e1
    exact ⟨r, pe_callTy hr hg hm hv hp hn hdb he hpl, h⟩

/-! ### the built-ins on trees -/
theorem inv1 {K : PySem.W.Frag} {H : Hp} {A : Addr → Prop} {t : T} {vs : List V} (h : OwL K H A 0 [t] vs []) : ∃ x, vs = [x] ∧ Ow K H A 0 t x [] := by
  obtain ⟨x, r, rfl, q, z⟩ := h.inv0
  rw [OwL] at z
  rw [z.1]
  exact ⟨x, rfl, q⟩
theorem inv2 {K : PySem.W.Frag} {H : Hp} {A : Addr → Prop} {t u : T} {vs : List V} (h : OwL K H A 0 [t, u] vs []) : ∃ x y, vs = [x, y] ∧ Ow K H A 0 t x [] ∧ Ow K H A 0 u y [] := by
  obtain ⟨x, r, rfl, q, z⟩ := h.inv0
  obtain ⟨y, rfl, w⟩ := inv1 z
  exact ⟨x, y, rfl, q, w⟩
def lenT : List T → Res T
  | [.lst xs] => .ok (.int xs.length)
  | [.tup xs] => .ok (.int xs.length)
  | [.dct xs] => .ok (.int xs.length)
  | [.str x] => if x.length ≤ sizeLine then .ok (.int x.length) else .stuck
  | _ => .stuck
theorem nox_len (ts : List T) : NoX (lenT ts) := by unfold lenT; split <;> first | exact nox_ok | exact nox_ite nox_ok | exact nox_stuck
theorem cs_len : CallS X (.builtin "len") lenT k := by
  intro ts t' e
  unfold lenT at e
  split at e
  · cases e
    refine ⟨_, call_len_seq, fun vs H B Q hB h q => ?_⟩
    obtain ⟨x, rfl, r⟩ := inv1 h
    obtain ⟨a, ys, rfl, m, h1, l⟩ := inv_lst r
    refine ⟨a, ys, rfl, .inl (SqL.of h1), ?_⟩
    rw [l.length]
    exact flat_q q (ow_int _)
  · cases e
    refine ⟨_, call_len_seq, fun vs H B Q hB h q => ?_⟩
    obtain ⟨x, rfl, r⟩ := inv1 h
    obtain ⟨a, ys, rfl, h1, l⟩ := inv_tup r
    refine ⟨a, ys, rfl, .inr h1, ?_⟩
    rw [l.length]
    exact flat_q q (ow_int _)
  · cases e
    refine ⟨_, call_lenD, fun vs H B Q hB h q => ?_⟩
    obtain ⟨x, rfl, r⟩ := inv1 h
    obtain ⟨a, ys, rfl, m, h1, l⟩ := inv_dct r
    refine ⟨a, ys, rfl, h1, ?_⟩
    rw [l.length]
    exact flat_q q (ow_int _)
  · obtain ⟨hz, e⟩ := ite_ok e
    cases e
    refine ⟨_, call_len_str, fun vs H B Q hB h q => ?_⟩
    obtain ⟨x, rfl, r⟩ := inv1 h
    obtain ⟨rfl, _⟩ := inv_str r
    exact ⟨_, rfl, hz, flat_q q (ow_int _)⟩
  · cases e
def absT : List T → Res T
  | [.int i] => .ok (.int (if i < 0 then -i else i))
  | _ => .stuck
theorem nox_abs (ts : List T) : NoX (absT ts) := by unfold absT; split <;> first | exact nox_ok | exact nox_stuck
theorem cs_abs : CallS X (.builtin "abs") absT k := by
  intro ts t' e
  unfold absT at e
  split at e
  · cases e
    refine ⟨_, call_abs, fun vs H B Q hB h q => ?_⟩
    obtain ⟨x, rfl, r⟩ := inv1 h
    rw [inv_int r]
    exact ⟨_, rfl, flat_q q (ow_int _)⟩
  · cases e
/-- a list of bools -/
def bools : List T → Option (List Bool)
  | [] => some []
  | .bl b :: r => (bools r).map (b :: ·)
  | _ :: _ => none
theorem bools_V {K : PySem.W.Frag} {H : Hp} {A : Addr → Prop} : ∀ {ts : List T} {vs : List V} {bs : List Bool}, OwL K H A 0 ts vs [] → bools ts = some bs → vs = bs.map V.bl
  | [], vs, bs, h, e => by cases e; rw [OwL] at h; rw [h.1]; rfl
  | t :: ts, vs, bs, h, e => by
    obtain ⟨x, r, rfl, q, z⟩ := h.inv0
    cases t with
    | bl b =>
      have e : (bools ts).map (b :: ·) = some bs := e
      cases h2 : bools ts with
      | none => rw [h2] at e; cases e
      | some cs =>
        rw [h2] at e
        cases e
        rw [inv_bl q, bools_V z h2]; rfl
    | _ => cases e
def allT : List T → Res T
  | [.lst xs] => (match bools xs with
    | some bs => .ok (.bl (bs.all id))
    | none => .stuck)
  | _ => .stuck
def anyT : List T → Res T
  | [.lst xs] => (match bools xs with
    | some bs => .ok (.bl (bs.any id))
    | none => .stuck)
  | _ => .stuck
theorem nox_all (ts : List T) : NoX (allT ts) := by
  unfold allT
  split
  · split
    · exact nox_ok
    · exact nox_stuck
  · exact nox_stuck
theorem nox_any (ts : List T) : NoX (anyT ts) := by
  unfold anyT
  split
  · split
    · exact nox_ok
    · exact nox_stuck
  · exact nox_stuck
theorem cs_all (hc : X.calm = true) : CallS X (.builtin "all") allT k := by
  intro ts t' e
  unfold allT at e
  split at e
  · split at e
    · rename_i xs bs hb
      cases e
      refine ⟨_, cr_all hc, fun vs H B Q hB h q => ?_⟩
      obtain ⟨x, rfl, r⟩ := inv1 h
      obtain ⟨a, ys, rfl, m, h1, l⟩ := inv_lst r
      rw [bools_V l hb] at h1
      exact ⟨a, bs, rfl, SqL.of h1, flat_q q (ow_bl _)⟩
    · cases e
  · cases e
theorem cs_any (hc : X.calm = true) : CallS X (.builtin "any") anyT k := by
  intro ts t' e
  unfold anyT at e
  split at e
  · split at e
    · rename_i xs bs hb
      cases e
      refine ⟨_, cr_any hc, fun vs H B Q hB h q => ?_⟩
      obtain ⟨x, rfl, r⟩ := inv1 h
      obtain ⟨a, ys, rfl, m, h1, l⟩ := inv_lst r
      rw [bools_V l hb] at h1
      exact ⟨a, bs, rfl, SqL.of h1, flat_q q (ow_bl _)⟩
    · cases e
  · cases e
/-! isinstance(x, T), T a built-in class -/
def tyN : T → Option String
  | .non => some "NoneType"
  | .bl _ => some "bool"
  | .int _ => some "int"
  | .str _ => some "str"
  | .tup _ => some "tuple"
  | .lst _ => some "list"
  | .dct _ => some "dict"
  | _ => none
theorem tyX_of {K : PySem.W.Frag} {H : Hp} {A : Addr → Prop} {t : T} {v : V} {n : String} (h : Ow K H A 0 t v []) (e : tyN t = some n) : TyX K H v (.type n) := by
  cases t with
  | non => cases e; rw [inv_non h]; exact .base .non
  | bl b => cases e; rw [inv_bl h]; exact .base (.bl b)
  | int i => cases e; rw [inv_int h]; exact .base (.int i)
  | str x => cases e; rw [(inv_str h).1]; exact .base (.str x)
  | tup xs =>
    cases e
    obtain ⟨a, ys, rfl, q, l⟩ := inv_tup h
    rcases q with (q | ⟨o, q⟩) | ⟨o, its, n, q, hc, _⟩
    · exact .base (.tup q)
    · exact .fTuple q
    · exact .kTuple q hc
  | lst xs => cases e; obtain ⟨a, ys, rfl, _, q, l⟩ := inv_lst h; exact .base (.lst q)
  | dct xs => cases e; obtain ⟨a, ys, rfl, _, q, l⟩ := inv_dct h; exact .base (.dK q)
  | scr xs => cases e
  | ins c xs => cases e
def isiT (n : String) : T → Res T := fun t => match tyN t with
  | some m => (match kitB m n with
    | some b => .ok (.bl b)
    | none => .stuck)
  | none => .stuck
theorem nox_isi (n : String) (t : T) : NoX (isiT n t) := by
  unfold isiT
  split
  · split
    · exact nox_ok
    · exact nox_stuck
  · exact nox_stuck
theorem ve_isi {y : Str} {n : String} {k1 : Nat} {p2 : Pos} (ha : VE X W dp a f c k1) (hg : Gl X "isinstance") (hm : X.mg "isinstance" = none) (hgy : Gl X y) (hmy : X.mg y = none) (hv : bootBuiltins y = some (.type n)) (hn : y ≠ "__name__") (hdb : (y == ("__debug__" : Str)) = false)
    (he : starEach [a, .Name y p2] X.env = (false, eval a X.env) :: starEach [.Name y p2] X.env) (he2 : starEach [.Name y p2] X.env = (false, eval (.Name y p2) X.env) :: starEach [] X.env) (hpl : (backTo pos (starEach [.Name y p2] X.env)).any (·.1) = false) :
    VE X W dp (.Call (.Name "isinstance" p) [a, .Name y p2] [] pos) (eU (isiT n) f) c k := by
  have mk : ∀ {r : List V → Hp → VK → Prop}, CallR X (.builtin "isinstance") r → PE X (.Call (.Name "isinstance" p) [a, .Name y p2] [] pos) (tUn (fun x H Q => r [x, .ty n] H Q) (wpE X a)) := fun {r} hr => by
    have h := pe_callB (pos := pos) (p := p) hr hg hm (by decide +kernel) (pa_cons (pe_wp (e := a)) (pa_cons (pe_bltn (v := .ty n) hgy hmy hv rfl hn hdb) pa_nil he2) he) (by decide) (by decide) he hpl
    exact h
  refine ve_un1 ha (nox_isi n) ⟨_, mk callR_never⟩ fun t t' e1 => ?_
  refine ⟨_, mk call_isi, fun x H B Q hB h q => ?_⟩
  unfold isiT at e1
  split at e1
  · rename_i m hm
    split at e1
    · rename_i b0 hb
      cases e1
      exact ⟨x, .ty n, .type m, .type n, b0, rfl, .ty n, tyX_of h hm, kit_ty hb, flat_q q (ow_bl _)⟩
    · cases e1
  · cases e1
end
end VI

namespace VI
open PySem PySem.Spec PyProof.Rows L2

/-- xs[lo:hi] -/
def cutL {α : Type} (xs : List α) (lo hi : Option Int) : List α := (xs.drop (HT.sIx xs.length 0 lo)).take (HT.sIx xs.length xs.length hi - HT.sIx xs.length 0 lo)
theorem cutL_V (xs : List V) (lo hi : Option Int) : cutV xs lo hi = cutL xs lo hi := rfl
theorem OwL.cut {K : PySem.W.Frag} {H : Hp} {A : Addr → Prop} {ts : List T} {xs : List V} (lo hi : Option Int) (h : OwL K H A 0 ts xs []) : OwL K H A 0 (cutL ts lo hi) (cutV xs lo hi) [] := by
  unfold cutL cutV
  rw [h.length]
  exact (h.drop0 _).take0 _
theorem cut_map {α β : Type} (f : α → β) (xs : List α) (lo hi : Option Int) : cutL (xs.map f) lo hi = (cutL xs lo hi).map f := by
  unfold cutL
  rw [List.length_map, List.map_take, List.map_drop]
def cutT (lo hi : Option Int) : T → Res T
  | .lst xs => .ok (.lst (cutL xs lo hi))
  | .scr ns => .ok (.lst ((cutL ns lo hi).map T.int))
  | .tup xs => if HT.sIx xs.length 0 lo = 0 ∧ HT.sIx xs.length xs.length hi = xs.length then .stuck else .ok (.tup (cutL xs lo hi))
  | .str z => if z.length ≤ sizeLine then .ok (.str (cutS z lo hi)) else .stuck
  | _ => .stuck
def cutTL (lo hi : Option Int) : T → Res T
  | .lst xs => .ok (.lst (cutL xs lo hi))
  | .scr ns => .ok (.lst ((cutL ns lo hi).map T.int))
  | _ => .stuck
theorem OwL.ints {K : PySem.W.Frag} {H : Hp} {A : Addr → Prop} : ∀ ns : List Int, OwL K H A 0 (ns.map T.int) (ns.map V.int) []
  | [] => OwL.nil0
  | n :: ns => OwL.cons0 (ow_int n) (OwL.ints ns)
theorem strOk_iff {z : Str} : PyData.strOk z = true ↔ ∀ c ∈ z.cps.toList, c < 0x110000 := by
  unfold PyData.strOk
  rw [Array.all_eq_true']
  simp
theorem strOk_cut {z : Str} {lo hi : Option Int} (h : PyData.strOk z = true) : PyData.strOk (cutS z lo hi) = true := by
  rw [strOk_iff] at h ⊢
  intro c hc
  unfold cutS at hc
  exact h c (List.mem_of_mem_drop (List.mem_of_mem_take hc))
section
variable {X : Cx} {W : WX} {dp : List Nat} {e a b : Expr} {es : List Expr} {f g : Fr → Res T} {fs : Fr → Res (List T)} {c c' : Bool} {k k' : Nat} {pos p p2 : Pos} {lo hi : Option Expr} {fl fh : Fr → Res (Option Int)}
/-- a slice's part -/
structure VO (X : Cx) (W : WX) (dp : List Nat) (e : Option Expr) (f : Fr → Res (Option Int)) : Prop where
  po : ∃ t : TO, PO X e t ∧ ∀ {σ : L2.St} {H : Hp} {A : Addr → Prop} {ν : Fr} {fps : List (List Addr)}, FR X.K dp H A σ ν fps → ∀ Q : Option Int → Hp → Prop,
    (match f ν with
      | .ok o => ∀ H', Same H H' → Q o H'
      | .exc cl p => ∀ H' d, Same H H' → XRel X.K H' p d → W (.ref (He.ga X.K cl)) d σ H'
      | .stuck => False) → t σ H Q
def oNo : Fr → Res (Option Int) := fun _ => .ok none
def oSome (f : Fr → Res T) : Fr → Res (Option Int) := fun ν => (f ν).bind fun t => match t with
  | .int i => .ok (some i)
  | _ => .stuck
theorem vo_none : VO X W dp none oNo := ⟨_, po_none, fun {σ H A ν fps} F Q q => q H (Same.refl H)⟩
theorem vo_some (h : VE X W dp e f c k) : VO X W dp (some e) (oSome f) := by
  refine ⟨_, po_some pe_wp, fun {σ H A ν fps} F Q q => ?_⟩
  refine h.use F ?_
  unfold oSome at q
  cases e1 : f ν with
  | stuck => rw [e1] at q; exact q
  | exc cl p => rw [e1] at q; exact q
  | ok t =>
    rw [e1] at q
    intro v H1 s1 r1
    cases t with
    | int i => exact ⟨i, inv_int r1, q H1 s1⟩
    | _ => exact q.elim
def eSl (g0 : Option Int → Option Int → T → Res T) (f : Fr → Res T) (fl fh : Fr → Res (Option Int)) : Fr → Res T := fun ν => (f ν).bind fun x => (fl ν).bind fun l => (fh ν).bind fun h => g0 l h x
theorem ve_sl {g0 : Option Int → Option Int → T → Res T} (ha : VE X W dp a f c k') (hl : VO X W dp lo fl) (hh : VO X W dp hi fh) (hx : ∀ l h t, NoX (g0 l h t))
    (h : ∀ l h t t', g0 l h t = .ok t' → ∃ r, SlR X r ∧ ∀ x H B Q, (∀ a, B a → H a ≠ none) → Ow X.K H B 0 t x [] →
      (∀ v H' fp, Same H H' → fp.Nodup → (∀ a ∈ fp, H a = none) → Ow X.K H' (Nw H H' B fp) k t' v fp → Q v H') → r x l h H Q) :
    VE X W dp (.Subscript a (.Slice lo hi none p2) pos) (eSl g0 f fl fh) c k := by
  obtain ⟨tl, pl, ql⟩ := hl.po
  obtain ⟨th, ph, qh⟩ := hh.po
  refine ⟨fun {σ H A ν fps} F Q q => ?_⟩
  unfold eSl at q
  have never : SlR X (fun _ _ _ _ _ => False) := fun _ _ _ _ _ _ _ _ _ _ _ _ _ _ _ _ _ h => h.elim
  cases e1 : f ν with
  | stuck => rw [e1] at q; exact q.elim
  | exc cl p =>
    rw [e1] at q
    refine wpE_of (pe_slice never pe_wp pl ph) (ha.use F ?_)
    rw [e1]; exact q
  | ok tx =>
    rw [e1] at q
    have q : PoE X W σ H (Bs A fps.flatten c) k Q ((fl ν).bind fun l => (fh ν).bind fun h => g0 l h tx) := q
    cases e2 : fl ν with
    | stuck => rw [e2] at q; exact q.elim
    | exc cl p =>
      rw [e2] at q
      refine wpE_of (pe_slice never pe_wp pl ph) (ha.use F ?_)
      rw [e1]
      intro x H1 s1 r1
      refine ql (F.mono s1) _ ?_
      rw [e2]
      exact fun H' d s2 => q H' d (s1.trans s2)
    | ok l =>
      rw [e2] at q
      have q : PoE X W σ H (Bs A fps.flatten c) k Q ((fh ν).bind fun h => g0 l h tx) := q
      cases e3 : fh ν with
      | stuck => rw [e3] at q; exact q.elim
      | exc cl p =>
        rw [e3] at q
        refine wpE_of (pe_slice never pe_wp pl ph) (ha.use F ?_)
        rw [e1]
        intro x H1 s1 r1
        refine ql (F.mono s1) _ ?_
        rw [e2]
        intro H2 s2
        refine qh (F.mono (s1.trans s2)) _ ?_
        rw [e3]
        exact fun H' d s3 => q H' d ((s1.trans s2).trans s3)
      | ok u =>
        rw [e3] at q
        have q : PoE X W σ H (Bs A fps.flatten c) k Q (g0 l u tx) := q
        cases e4 : g0 l u tx with
        | stuck => rw [e4] at q; exact q.elim
        | exc cl p => exact absurd e4 (hx l u tx cl p)
        | ok t' =>
          rw [e4] at q
          obtain ⟨r, hr, hq⟩ := h l u tx t' e4
          refine wpE_of (pe_slice hr pe_wp pl ph) (ha.use F ?_)
          rw [e1]
          intro x H1 s1 r1
          refine ql (F.mono s1) _ ?_
          rw [e2]
          intro H2 s2
          refine qh (F.mono (s1.trans s2)) _ ?_
          rw [e3]
          intro H3 s3
          have s13 := (s1.trans s2).trans s3
          refine hq x H3 (Nw H H3 (Bs A fps.flatten c) []) Q (fun a h => F.nwdom s13 h) (r1.mono (s2.trans s3) fun a m => Nw.up (s2.trans s3) (fun _ z => z) m) fun v H4 fp s4 nd fr rr => ?_
          exact q v H4 fp (s13.trans s4) nd (fun a ha => fresh_of s13 (fr a ha)) (rr.mono (Same.refl _) fun a m => Nw.step s13 s4 (fun b z => z) m)
theorem ve_slice (ha : VE X W dp a f c k') (hl : VO X W dp lo fl) (hh : VO X W dp hi fh) : VE X W dp (.Subscript a (.Slice lo hi none p2) pos) (eSl cutT f fl fh) c 0 := by
  refine ve_sl ha hl hh (fun l h t => ?_) fun l h t t' e => ?_
  · unfold cutT
    split
    · exact nox_ok
    · exact nox_ok
    · split
      · exact nox_stuck
      · exact nox_ok
    · exact nox_ite nox_ok
    · exact nox_stuck
  · unfold cutT at e
    split at e
    · cases e
      refine ⟨_, sl_list, fun x H B Q hB h q => ?_⟩
      obtain ⟨a, ys, rfl, m, h1, l⟩ := inv_lst h
      exact ⟨a, ys, rfl, SqL.of h1, fun p hp => q _ _ [] (Same.laid hp) List.nodup_nil (fun _ z => nomatch z) (new_lst hp (l.cut _ _))⟩
    · cases e
      refine ⟨_, sl_list, fun x H B Q hB h q => ?_⟩
      rw [Ow] at h
      obtain ⟨a, rfl, m, h1, _⟩ := h
      refine ⟨a, _, rfl, h1, fun p hp => q _ _ [] (Same.laid hp) List.nodup_nil (fun _ z => nomatch z) ?_⟩
      rw [cutL_V, cut_map]
      exact new_lst hp (OwL.ints _)
    · rename_i xs
      by_cases hw : HT.sIx xs.length 0 l = 0 ∧ HT.sIx xs.length xs.length h = xs.length
      · rw [if_pos hw] at e; cases e
      · rw [if_neg hw] at e
        cases e
        refine ⟨_, sl_tup, fun x H B Q hB h q => ?_⟩
        obtain ⟨a, ys, rfl, h1, l⟩ := inv_tup h
        exact ⟨a, ys, rfl, h1, by rw [l.length]; exact hw, fun p hp => q _ _ [] (Same.laid hp) List.nodup_nil (fun _ z => nomatch z) (new_tup hp (l.cut _ _))⟩
    · obtain ⟨hz, e⟩ := ite_ok e
      cases e
      refine ⟨_, sl_str, fun x H B Q hB h q => ?_⟩
      obtain ⟨rfl, so⟩ := inv_str h
      exact ⟨_, rfl, hz, flat_q q (ow_str (strOk_cut so))⟩
    · cases e
theorem ve_sliceL (ha : VE X W dp a f c k') (hl : VO X W dp lo fl) (hh : VO X W dp hi fh) : VE X W dp (.Subscript a (.Slice lo hi none p2) pos) (eSl cutTL f fl fh) c 1 := by
  refine ve_sl ha hl hh (fun l h t => ?_) fun l h t t' e => ?_
  · unfold cutTL
    split
    · exact nox_ok
    · exact nox_ok
    · exact nox_stuck
  · unfold cutTL at e
    split at e
    · cases e
      refine ⟨_, sl_list, fun x H B Q hB h q => ?_⟩
      obtain ⟨a, ys, rfl, m, h1, l⟩ := inv_lst h
      exact ⟨a, ys, rfl, SqL.of h1, fun p hp => q _ _ [p] (Same.laid hp) (by simp) (fun a ha => by rw [List.mem_singleton] at ha; rw [ha]; exact hp) (new_lst1 hB hp (l.cut _ _))⟩
    · cases e
      refine ⟨_, sl_list, fun x H B Q hB h q => ?_⟩
      rw [Ow] at h
      obtain ⟨a, rfl, m, h1, _⟩ := h
      refine ⟨a, _, rfl, h1, fun p hp => q _ _ [p] (Same.laid hp) (by simp) (fun a ha => by rw [List.mem_singleton] at ha; rw [ha]; exact hp) ?_⟩
      rw [cutL_V, cut_map]
      exact new_lst1 hB hp (OwL.ints _)
    · cases e
end
end VI

namespace VI
open PySem PySem.Spec PyProof.Rows L2

/-! ### what a def promises, by trees -/
inductive FRes where
  | ok (t : T) (outs : List T)
  | exc (c : Str) (p : List T) (outs : List T)
  | stuck
/-- parameters, their depths (0: read alone; else handed in and given back changed), how many levels of the result are new -/
structure FI where
  ps : List Str
  pd : List Nat
  rk : Nat
def OwA (K : PySem.W.Frag) (H : Hp) (A : Addr → Prop) : List Nat → List T → List V → List (List Addr) → Prop
  | [], [], [], [] => True
  | d :: ds, t :: ts, v :: vs, f :: fs => Ow K H A d t v f ∧ OwA K H A ds ts vs fs
  | _, _, _, _ => False
def OwO (K : PySem.W.Frag) (H : Hp) (A : Addr → Prop) : List Nat → List T → List V → List (List Addr) → Prop
  | [], _, [], [] => True
  | d :: ds, outs, v :: vs, f :: fs => (match d, outs with
    | 0, _ => f = []
    | d + 1, t :: _ => Ow K H A (d + 1) t v f
    | _ + 1, [] => False) ∧ OwO K H A ds outs.tail vs fs
  | _, _, _, _ => False
/-- what stood and was not handed in to be changed stays; what is frozen is so ever more -/
structure Ext (H : Hp) (A : Addr → Prop) (own : List Addr) (H' : Hp) (A' : Addr → Prop) : Prop where
  keep : ∀ a o, H a = some o → a ∉ own → H' a = some o
  more : ∀ a, A a → A' a
  new : ∀ a, A' a → A a ∨ H a = none ∨ a ∈ own
  dom : ∀ a, A' a → H' a ≠ none
  dm : ∀ a, H a ≠ none → H' a ≠ none
def PoF (K : PySem.W.Frag) (fi : FI) (vs : List V) (H : Hp) (A : Addr → Prop) (own : List Addr) (Q : VK) (E : XK) : FRes → Prop
  | .ok t outs => ∀ v H' A' fp fps', Ext H A own H' A' → Ow K H' A' fi.rk t v fp → OwO K H' A' fi.pd outs vs fps' → (fp ++ fps'.flatten).Nodup → (∀ a ∈ fp, H a = none) → (∀ a ∈ fps'.flatten, a ∈ own ∨ H a = none) → (∀ a ∈ fp ++ fps'.flatten, ¬ A' a) → Q v H'
  | .exc cl p outs => ∀ d H' A' fps', Ext H A own H' A' → XRel K H' p d → OwO K H' A' fi.pd outs vs fps' → fps'.flatten.Nodup → (∀ a ∈ fps'.flatten, a ∈ own ∨ H a = none) → (∀ a ∈ fps'.flatten, ¬ A' a) → E (.ref (He.ga K cl)) d H'
  | .stuck => False
def spOf (K : PySem.W.Frag) (fi : FI) (F : List T → FRes) : Sp := fun vs H Q E => ∃ (A : Addr → Prop) (ts : List T) (fps : List (List Addr)), vs.length = fi.ps.length ∧ OwA K H A fi.pd ts vs fps ∧ fps.flatten.Nodup ∧ (∀ a ∈ fps.flatten, ¬ A a) ∧ (∀ a, A a → H a ≠ none) ∧ PoF K fi vs H A fps.flatten Q E (F ts)

/-- the def named x is there, and does F -/
structure FnC (X : Cx) (x : Str) (fi : FI) (F : List T → FRes) : Prop where
  ex : ∃ (f : Addr) (fd : FuncData) (k : Nat), X.mg x = some (.ref f) ∧ PySem.W.keepIn X.K (.ref f) = true ∧ Binds X.K fd fi.ps [] ∧ FnOk X.prog X.w X.K X.mg X.base (L2.CX X.prog X.w) k f fd fi.ps (spOf X.K fi F) ∧ Room k X.A
def pureB (pd : List Nat) : Bool := pd.all (· == 0)

section
variable {K : PySem.W.Frag} {H H' : Hp} {A A' : Addr → Prop}
theorem owA_pure : ∀ {pd : List Nat} {ts : List T} {vs : List V}, pureB pd = true → pd.length = vs.length → OwL K H A 0 ts vs [] → OwA K H A pd ts vs (pd.map fun _ => [])
  | [], ts, vs, _, hl, h => by
    cases vs with
    | nil =>
      have := h.length
      cases ts with
      | nil => trivial
      | cons _ _ => cases this
    | cons _ _ => cases hl
  | d :: pd, ts, vs, hp, hl, h => by
    cases vs with
    | nil => cases hl
    | cons v vs =>
      cases ts with
      | nil => have := h.length; cases this
      | cons t ts =>
        obtain ⟨x, r, e, q, z⟩ := h.inv0
        cases e
        have hp : (d == 0) = true ∧ pureB pd = true := by simpa [pureB] using hp
        have hd : d = 0 := by simpa using hp.1
        subst hd
        exact ⟨q, owA_pure hp.2 (by simpa using hl) z⟩
theorem flat_nil (pd : List Nat) : (pd.map fun _ => ([] : List Addr)).flatten = [] := by
  induction pd with
  | nil => rfl
  | cons d pd ih => rw [List.map_cons, List.flatten_cons, ih]; rfl
end

section
variable {X : Cx} {W : WX} {dp : List Nat} {e a b : Expr} {es : List Expr} {f g : Fr → Res T} {fs : Fr → Res (List T)} {c c' : Bool} {k k' : Nat} {pos p p2 : Pos}
/-- a call of a def that changes nothing that it is handed -/
def fr2r : FRes → Res T
  | .ok t _ => .ok t
  | .exc c p _ => .exc c p
  | .stuck => .stuck
def eCall (F : List T → FRes) (fs : Fr → Res (List T)) : Fr → Res T := fun ν => (fs ν).bind fun ts => fr2r (F ts)
theorem pe_callS0 {CX : CXT} {f : Addr} {fd : FuncData} {ps : List Str} {sp : Sp} {E : L2.St → XK} {x : Str} (F : FnOk X.prog X.w X.K X.mg X.base CX k f fd ps sp) (hr : Room k X.A) (hg : Gl X x) (hm : X.mg x = some (.ref f)) (hk : PySem.W.keepIn X.K (.ref f) = true) (hb : Binds X.K fd ps [])
    (hx : ∀ σ, PassesAt CX X σ (E σ)) (hdb : (x == ("__debug__" : Str)) = false) : PE X (.Call (.Name x p) [] [] pos) (tCallS sp E tNil) := by
  refine ⟨fun pins s σ H Q I h => ?_⟩
  refine wpAny_Call_Name_kw (ld_glob I hg hm ?_ hdb)
  exact PySem.W.callWith_K0 I.kIn hk (run_fnS (us := []) F hr hb (hx σ) I .nil h)
/-- the promise of a pure def, at frozen arguments -/
theorem sp_pure {fi : FI} {F : List T → FRes} {σ : L2.St} {H H1 : Hp} {B : Addr → Prop} {ts : List T} {vs : List V} {Q : VK} (hp : pureB fi.pd = true) (hpd : fi.pd.length = fi.ps.length) (hl : vs.length = fi.ps.length) (s1 : Same H H1)
    (hB : ∀ a, Nw H H1 B [] a → H1 a ≠ none) (r1 : OwL X.K H1 (Nw H H1 B []) 0 ts vs []) (q : PoE X W σ H B fi.rk Q (fr2r (F ts))) : spOf X.K fi F vs H1 Q (WE W σ) := by
  refine ⟨Nw H H1 B [], ts, fi.pd.map fun _ => [], hl, owA_pure hp (by omega) r1, by rw [flat_nil]; exact List.nodup_nil, by rw [flat_nil]; simp, hB, ?_⟩
  rw [flat_nil]
  cases e1 : F ts with
  | stuck => rw [e1] at q; exact q
  | exc cl p outs =>
    rw [e1] at q
    intro d H2 A2 fps' x xr _ _ _ _
    exact q H2 d (s1.trans fun a o z => x.keep a o z (by simp)) xr
  | ok t outs =>
    rw [e1] at q
    intro v H2 A2 fp fps' x r2 _ nd fr _ nA
    have s2 : Same H1 H2 := fun a o z => x.keep a o z (by simp)
    refine q v H2 fp (s1.trans s2) (List.nodup_append.mp nd).1 (fun a ha => fresh_of s1 (fr a ha)) (r2.mono (Same.refl _) fun a m => ?_)
    have nf : a ∉ fp := fun z => nA a (List.mem_append_left _ z) m
    rcases x.new a m with z | z | z
    · obtain ⟨z | ⟨z1, z2⟩, _⟩ := z
      · exact ⟨.inl z, nf⟩
      · exact ⟨.inr ⟨z1, s2.dom z2⟩, nf⟩
    · exact ⟨.inr ⟨fresh_of s1 z, x.dom a m⟩, nf⟩
    · cases z
theorem ve_call {x : Str} {fi : FI} {F : List T → FRes} (hf : FnC X x fi F) (hp : pureB fi.pd = true) (hpd : fi.pd.length = fi.ps.length) (hn : (e :: es).length = fi.ps.length) (tk : Takes X W) (hg : Gl X x) (hdb : (x == ("__debug__" : Str)) = false) (hs : VEs X W dp (e :: es) fs c)
    (hfl : ∀ ν ts, fs ν = .ok ts → ts.length = (e :: es).length)
    (he : starEach (e :: es) X.env = (false, eval e X.env) :: starEach es X.env) (hpl : (backTo pos (starEach es X.env)).any (·.1) = false) : VE X W dp (.Call (.Name x p) (e :: es) [] pos) (eCall F fs) c fi.rk := by
  obtain ⟨f, fd, k, hm, hk, hb, F0, hr⟩ := hf.ex
  obtain ⟨t, hpa, hq⟩ := hs.pa
  refine ⟨fun {σ H A ν fps} Fr0 Q q => ?_⟩
  refine wpE_of (pe_callS F0 hr hg hm hk hb (fun σ => passAt tk σ) hpa hdb he hpl) (hq Fr0 _ ?_)
  unfold eCall at q
  cases e1 : fs ν with
  | stuck => rw [e1] at q; exact q
  | exc cl p => rw [e1] at q; exact q
  | ok ts =>
    rw [e1] at q
    intro vs H1 s1 r1
    exact sp_pure hp hpd (by rw [r1.length, hfl ν ts e1, hn]) s1 (fun a h => Fr0.nwdom s1 h) r1 q
theorem ve_call0 {x : Str} {fi : FI} {F : List T → FRes} (hf : FnC X x fi F) (hp : pureB fi.pd = true) (hpd : fi.pd.length = fi.ps.length) (hn : fi.ps.length = 0) (tk : Takes X W) (hg : Gl X x) (hdb : (x == ("__debug__" : Str)) = false) : VE X W dp (.Call (.Name x p) [] [] pos) (eCall F esNil) c fi.rk := by
  obtain ⟨f, fd, k, hm, hk, hb, F0, hr⟩ := hf.ex
  refine ⟨fun {σ H A ν fps} Fr0 Q q => ?_⟩
  refine wpE_of (pe_callS0 F0 hr hg hm hk hb (fun σ => passAt tk σ) hdb) ?_
  exact sp_pure (H := H) hp hpd (by rw [hn]; rfl) (Same.refl H) (fun a h => Fr0.nwdom (Same.refl H) h) OwL.nil0 q
end
end VI

namespace VI
open PySem PySem.Spec PyProof.Rows L2

/-! ### what is walked -/
/-- what is among B, and the tuples, stay -/
structure Kp (K : PySem.W.Frag) (B : Addr → Prop) (H H' : Hp) : Prop where
  keep : ∀ a o, B a → H a = some o → H' a = some o
  tup : ∀ a xs, SqT K H a xs → SqT K H' a xs
theorem Kp.refl {K : PySem.W.Frag} {B : Addr → Prop} {H : Hp} : Kp K B H H := ⟨fun _ _ _ h => h, fun _ _ h => h⟩
theorem Kp.trans {K : PySem.W.Frag} {B B' : Addr → Prop} {H H1 H2 : Hp} (a : Kp K B H H1) (b : Kp K B' H1 H2) (hB : ∀ a, B a → B' a) : Kp K B H H2 := ⟨fun c o m h => b.keep c o (hB c m) (a.keep c o m h), fun c xs h => b.tup c xs (a.tup c xs h)⟩
theorem Kp.of_same {K : PySem.W.Frag} {B : Addr → Prop} {H H' : Hp} (s : Same H H') : Kp K B H H' := ⟨fun a o _ h => s a o h, fun _ _ h => s.sqT h⟩
theorem Ow.kp {K : PySem.W.Frag} {B B' : Addr → Prop} {H H' : Hp} (k : Kp K B H H') (hB : ∀ a, B a → B' a) {t : T} {v : V} (h : Ow K H B 0 t v []) : Ow K H' B' 0 t v [] :=
  h.tr k.tup (fun a m => ⟨hB a m, fun o z => k.keep a o m z⟩) fun _ z => nomatch z
theorem OwL.kp {K : PySem.W.Frag} {B B' : Addr → Prop} {H H' : Hp} (k : Kp K B H H') (hB : ∀ a, B a → B' a) {t : List T} {v : List V} (h : OwL K H B 0 t v []) : OwL K H' B' 0 t v [] :=
  h.tr k.tup (fun a m => ⟨hB a m, fun o z => k.keep a o m z⟩) fun _ z => nomatch z
/-- the walk J yields the trees ts, one a turn, wherever B and the tuples stay as at H -/
structure ItOk (K : PySem.W.Frag) (B : Addr → Prop) (H : Hp) (J : It) (ts : List T) : Prop where
  go : ∀ H2, Kp K B H H2 → ∀ (i : Nat) (t : T), ts[i]? = some t → J.go i H2 ∧ ∀ x H', J.yld i H2 x H' → Same H2 H' ∧ Ow K H' (Nw H2 H' B []) 0 t x []
  stop : ∀ H2, Kp K B H H2 → ∀ i : Nat, ts.length ≤ i → J.stop i H2
def PoI (X : Cx) (W : WX) (σ : L2.St) (H : Hp) (B : Addr → Prop) (R : It → Hp → Prop) : Res (List T) → Prop
  | .ok ts => ∀ J H1, Same H H1 → ItOk X.K (Nw H H1 B []) H1 J ts → R J H1
  | .exc cl p => ∀ H' d, Same H H' → XRel X.K H' p d → W (.ref (He.ga X.K cl)) d σ H'
  | .stuck => False

structure VI (X : Cx) (W : WX) (dp : List Nat) (tg iter : Expr) (f : Fr → Res (List T)) (c : Bool) : Prop where
  pi : ∃ wi : TI, PI X tg iter wi ∧ ∀ {σ : L2.St} {H : Hp} {A : Addr → Prop} {ν : Fr} {fps : List (List Addr)}, FR X.K dp H A σ ν fps → ∀ R : It → Hp → Prop, PoI X W σ H (Bs A fps.flatten c) R (f ν) → wi σ H R

section
variable {K : PySem.W.Frag} {B : Addr → Prop} {H : Hp}
theorem it_list {a : Addr} {xs : List V} {ts : List T} (m : B a) (h1 : H a = some (.lst xs)) (l : OwL K H B 0 ts xs []) : ItOk K B H (Itl K a) ts where
  go := fun H2 kp i t e => by
    obtain ⟨x, hx, rx⟩ := l.get e
    have h2 := kp.keep a _ m h1
    refine ⟨⟨xs, x, SqL.of h2, hx⟩, fun y H' z => ?_⟩
    obtain ⟨rfl, z⟩ := z
    have := z xs (SqL.of h2)
    rw [hx] at this
    cases this
    exact ⟨Same.refl _, rx.kp kp fun a m => ⟨.inl m, by simp⟩⟩
  stop := fun H2 kp i hi => ⟨xs, SqL.of (kp.keep a _ m h1), by rw [l.length]; exact hi⟩
theorem it_tup {a : Addr} {xs : List V} {ts : List T} (h1 : SqT K H a xs) (l : OwL K H B 0 ts xs []) : ItOk K B H (Itt K a) ts where
  go := fun H2 kp i t e => by
    obtain ⟨x, hx, rx⟩ := l.get e
    have h2 := kp.tup a _ h1
    refine ⟨⟨xs, x, h2, hx⟩, fun y H' z => ?_⟩
    obtain ⟨rfl, z⟩ := z
    have := z xs h2
    rw [hx] at this
    cases this
    exact ⟨Same.refl _, rx.kp kp fun a m => ⟨.inl m, by simp⟩⟩
  stop := fun H2 kp i hi => ⟨xs, kp.tup a _ h1, by rw [l.length]; exact hi⟩
theorem it_range (lo : Int) (n : Nat) : ItOk K B H (Itr lo n) ((List.range n).map fun i : Nat => T.int (lo + (i : Int))) where
  go := fun H2 kp i t e => by
    rw [List.getElem?_map] at e
    cases hi : (List.range n)[i]? with
    | none => rw [hi] at e; cases e
    | some j =>
      rw [hi] at e
      have hlt : i < n := by
        have := (List.getElem?_eq_some_iff.mp hi).1
        simpa using this
      have hj : j = i := by
        rw [List.getElem?_range hlt] at hi
        cases hi; rfl
      subst hj
      cases e
      refine ⟨hlt, fun y H' z => ?_⟩
      obtain ⟨rfl, rfl⟩ := z
      exact ⟨Same.refl _, ow_int _⟩
  stop := fun H2 kp i hi => by
    rw [List.length_map, List.length_range] at hi
    exact hi
def pairT (p : T × T) : T := .tup [p.1, p.2]
theorem it_zip {a b : Addr} {xs ys : List V} {ts us : List T} (m : B a) (h1 : H a = some (.lst xs)) (l : OwL K H B 0 ts xs []) (m2 : B b) (h2 : H b = some (.lst ys)) (l2 : OwL K H B 0 us ys []) : ItOk K B H (Itz K a b) ((ts.zip us).map pairT) where
  go := fun H2 kp i t e => by
    rw [List.getElem?_map] at e
    cases hi : (ts.zip us)[i]? with
    | none => rw [hi] at e; cases e
    | some q =>
      rw [hi] at e
      cases e
      obtain ⟨t1, t2⟩ := q
      obtain ⟨g1, g2⟩ := List.getElem?_zip_eq_some.mp hi
      obtain ⟨x, hx, rx⟩ := l.get g1
      obtain ⟨y, hy, ry⟩ := l2.get g2
      have q1 := SqL.of (K := K) (kp.keep a _ m h1)
      have q2 := SqL.of (K := K) (kp.keep b _ m2 h2)
      refine ⟨⟨xs, ys, x, y, q1, q2, hx, hy⟩, fun v H' z => ?_⟩
      obtain ⟨T', x', y', rfl, hT, rfl, z1, z2⟩ := z
      have := z1 xs q1
      rw [hx] at this; cases this
      have := z2 ys q2
      rw [hy] at this; cases this
      exact ⟨Same.laid hT, new_tup hT (OwL.cons0 (rx.kp kp fun a m => m) (OwL.cons0 (ry.kp kp fun a m => m) OwL.nil0))⟩
  stop := fun H2 kp i hi => by
    rw [List.length_map, List.length_zip] at hi
    refine ⟨xs, ys, SqL.of (kp.keep a _ m h1), SqL.of (kp.keep b _ m2 h2), ?_⟩
    rw [l.length, l2.length]
    omega
theorem it_zipT {a b : Addr} {xs ys : List V} {ts us : List T} (h1 : SqT K H a xs) (l : OwL K H B 0 ts xs []) (h2 : SqT K H b ys) (l2 : OwL K H B 0 us ys []) : ItOk K B H (RZ.ItzT K a b) ((ts.zip us).map pairT) where
  go := fun H2 kp i t e => by
    rw [List.getElem?_map] at e
    cases hi : (ts.zip us)[i]? with
    | none => rw [hi] at e; cases e
    | some q =>
      rw [hi] at e
      cases e
      obtain ⟨t1, t2⟩ := q
      obtain ⟨g1, g2⟩ := List.getElem?_zip_eq_some.mp hi
      obtain ⟨x, hx, rx⟩ := l.get g1
      obtain ⟨y, hy, ry⟩ := l2.get g2
      have q1 := kp.tup a _ h1
      have q2 := kp.tup b _ h2
      refine ⟨⟨xs, ys, x, y, q1, q2, hx, hy⟩, fun v H' z => ?_⟩
      obtain ⟨T', x', y', rfl, hT, rfl, z1, z2⟩ := z
      have := z1 xs q1
      rw [hx] at this; cases this
      have := z2 ys q2
      rw [hy] at this; cases this
      exact ⟨Same.laid hT, new_tup hT (OwL.cons0 (rx.kp kp fun a m => m) (OwL.cons0 (ry.kp kp fun a m => m) OwL.nil0))⟩
  stop := fun H2 kp i hi => by
    rw [List.length_map, List.length_zip] at hi
    refine ⟨xs, ys, kp.tup a _ h1, kp.tup b _ h2, ?_⟩
    rw [l.length, l2.length]
    omega
theorem it_enum {a : Addr} {xs : List V} {ts : List T} (m : B a) (h1 : H a = some (.lst xs)) (l : OwL K H B 0 ts xs []) : ItOk K B H (Ite K a) (ts.zipIdx.map fun p => T.tup [.int (p.2 : Nat), p.1]) where
  go := fun H2 kp i t e => by
    rw [List.getElem?_map] at e
    cases hi : ts.zipIdx[i]? with
    | none => rw [hi] at e; cases e
    | some q =>
      rw [hi] at e
      cases e
      rw [List.getElem?_zipIdx] at hi
      cases ht : ts[i]? with
      | none => rw [ht] at hi; cases hi
      | some t1 =>
        rw [ht] at hi
        cases hi
        obtain ⟨x, hx, rx⟩ := l.get ht
        have q1 := SqL.of (K := K) (kp.keep a _ m h1)
        refine ⟨⟨xs, x, q1, hx⟩, fun v H' z => ?_⟩
        obtain ⟨T', x', rfl, hT, rfl, z1⟩ := z
        have := z1 xs q1
        rw [hx] at this; cases this
        rw [Nat.zero_add]
        exact ⟨Same.laid hT, new_tup hT (OwL.cons0 (ow_int _) (OwL.cons0 (rx.kp kp fun a m => m) OwL.nil0))⟩
  stop := fun H2 kp i hi => by
    rw [List.length_map, List.length_zipIdx] at hi
    exact ⟨xs, SqL.of (kp.keep a _ m h1), by rw [l.length]; exact hi⟩
end

section
variable {X : Cx} {W : WX} {dp : List Nat} {e a b tg : Expr} {es : List Expr} {f g : Fr → Res T} {fs : Fr → Res (List T)} {c c' : Bool} {k k' : Nat} {pos p p2 : Pos}
/-- the items of a list or tuple -/
def itemsT : T → Res (List T)
  | .lst xs => .ok xs
  | .tup xs => .ok xs
  | _ => .stuck
def iSeq (f : Fr → Res T) : Fr → Res (List T) := fun ν => (f ν).bind itemsT
theorem vi_seq (ha : VE X W dp a f c k) : VI X W dp tg a (iSeq f) c := by
  refine ⟨fun σ H R => ∃ (A : Addr → Prop) (ν : Fr) (fps : List (List Addr)), FR X.K dp H A σ ν fps ∧ PoI X W σ H (Bs A fps.flatten c) R (iSeq f ν), ⟨fun pins s σ H R I h => ?_⟩, fun {σ H A ν fps} F R q => ⟨A, ν, fps, F, q⟩⟩
  obtain ⟨A, ν, fps, F, q⟩ := h
  unfold iSeq at q
  cases e1 : f ν with
  | stuck => rw [e1] at q; exact q.elim
  | exc cl p =>
    rw [e1] at q
    refine (pi_list (tg := tg) (pe_wp (X := X) (e := a))).run pins s σ H R I ?_
    refine ha.use F ?_
    rw [e1]; exact q
  | ok t =>
    rw [e1] at q
    cases t with
    | lst ts =>
      have q : ∀ J H1, Same H H1 → ItOk X.K (Nw H H1 (Bs A fps.flatten c) []) H1 J ts → R J H1 := q
      refine (pi_list (tg := tg) (pe_wp (X := X) (e := a))).run pins s σ H R I ?_
      refine ha.use F ?_
      rw [e1]
      intro v H1 s1 r1
      obtain ⟨l, ys, rfl, m, h1, ll⟩ := inv_lst r1
      exact ⟨l, rfl, ⟨ys, SqL.of h1⟩, q _ H1 s1 (it_list m h1 ll)⟩
    | tup ts =>
      have q : ∀ J H1, Same H H1 → ItOk X.K (Nw H H1 (Bs A fps.flatten c) []) H1 J ts → R J H1 := q
      refine (pi_tup (tg := tg) (pe_wp (X := X) (e := a))).run pins s σ H R I ?_
      refine ha.use F ?_
      rw [e1]
      intro v H1 s1 r1
      obtain ⟨l, ys, rfl, h1, ll⟩ := inv_tup r1
      exact ⟨l, rfl, ⟨ys, h1⟩, q _ H1 s1 (it_tup h1 ll)⟩
    | _ => exact q.elim
def iRng (f : Fr → Res T) : Fr → Res (List T) := fun ν => (f ν).bind fun t => match t with
  | .int j => if -(2 ^ 62) ≤ j ∧ j < 2 ^ 62 then .ok ((List.range j.toNat).map fun i : Nat => T.int (i : Int)) else .stuck
  | _ => .stuck
theorem vi_range (ha : VE X W dp a f c k) (hg : Gl X "range") (hm : X.mg "range" = none) (hs : starEach [a] X.env = [(false, eval a X.env)]) : VI X W dp tg (.Call (.Name "range" p) [a] [] pos) (iRng f) c' := by
  refine ⟨_, pi_range1 hg hm (pa_cons (pe_wp (X := X) (e := a)) pa_nil hs) hs, fun {σ H A ν fps} F R q => ?_⟩
  refine ha.use F ?_
  unfold iRng at q
  cases e1 : f ν with
  | stuck => rw [e1] at q; exact q.elim
  | exc cl p => rw [e1] at q; exact q
  | ok t =>
    rw [e1] at q
    intro v H1 s1 r1
    cases t with
    | int j =>
      by_cases hj : -(2 ^ 62) ≤ j ∧ j < 2 ^ 62
      · have q : PoI X W σ H (Bs A fps.flatten c') R (if -(2 ^ 62) ≤ j ∧ j < 2 ^ 62 then .ok ((List.range j.toNat).map fun i : Nat => T.int (i : Int)) else .stuck) := q
        rw [if_pos hj] at q
        refine ⟨j, by rw [inv_int r1], hj.1, hj.2, q _ H1 s1 ?_⟩
        have := it_range (K := X.K) (B := Nw H H1 (Bs A fps.flatten c') []) (H := H1) 0 j.toNat
        simpa only [Int.zero_add] using this
      · have q : PoI X W σ H (Bs A fps.flatten c') R (if -(2 ^ 62) ≤ j ∧ j < 2 ^ 62 then .ok ((List.range j.toNat).map fun i : Nat => T.int (i : Int)) else .stuck) := q
        rw [if_neg hj] at q
        exact q.elim
    | _ => exact q.elim
def zipT : T → T → Res (List T)
  | .lst xs, .lst ys => .ok ((xs.zip ys).map pairT)
  | .tup xs, .tup ys => .ok ((xs.zip ys).map pairT)
  | _, _ => .stuck
def iZip2 (f g : Fr → Res T) : Fr → Res (List T) := fun ν => (f ν).bind fun x => (g ν).bind fun y => zipT x y
theorem vi_zip {elts : List Expr} {kk : Nat} {tpos : Pos} (ha : VE X W dp a f c k) (hb : VE X W dp b g c' k') (hg : Gl X "zip") (hm : X.mg "zip" = none) (hs : starEach [a, b] X.env = (false, eval a X.env) :: starEach [b] X.env) (hs2 : starEach [b] X.env = (false, eval b X.env) :: starEach [] X.env)
    (hpl : (backTo pos (starEach [b] X.env)).any (·.1) = false) : VI X W dp (.Tuple elts kk tpos) (.Call (.Name "zip" p) [a, b] [] pos) (iZip2 f g) (c && c') := by
  refine ⟨_, RZ.pi_zipA hg hm (pa_cons (pe_wp (X := X) (e := a)) (pa_cons (pe_wp (X := X) (e := b)) pa_nil hs2) hs) hs hpl, fun {σ H A ν fps} F R q => ?_⟩
  refine ha.use F ?_
  unfold iZip2 at q
  cases e1 : f ν with
  | stuck => rw [e1] at q; exact q.elim
  | exc cl p => rw [e1] at q; exact q
  | ok tx =>
    rw [e1] at q
    intro x H1 s1 r1
    refine hb.use (F.mono s1) ?_
    have q : PoI X W σ H (Bs A fps.flatten (c && c')) R ((g ν).bind fun y => zipT tx y) := q
    cases e2 : g ν with
    | stuck => rw [e2] at q; exact q.elim
    | exc cl p => rw [e2] at q; exact fun H' d s2 => q H' d (s1.trans s2)
    | ok ty =>
      rw [e2] at q
      intro y H2 s2 r2
      cases tx with
      | lst xs =>
        cases ty with
        | lst ys =>
          have q : ∀ J H1, Same H H1 → ItOk X.K (Nw H H1 (Bs A fps.flatten (c && c')) []) H1 J ((xs.zip ys).map pairT) → R J H1 := q
          have r1' := r1.mono (A' := Nw H H2 (Bs A fps.flatten (c && c')) []) s2 fun a m => Nw.up s2 (fun _ => Bs.or) m
          have r2' := r2.mono (A' := Nw H H2 (Bs A fps.flatten (c && c')) []) (Same.refl _) fun a m => Nw.step s1 s2 (fun b z => ⟨.inl (Bs.or' z), by simp⟩) m
          obtain ⟨l, vs, rfl, m, h1, ll⟩ := inv_lst r1'
          obtain ⟨l2, vs2, rfl, m2, h2, ll2⟩ := inv_lst r2'
          exact ⟨l, l2, vs, vs2, rfl, .inl ⟨SqL.of h1, SqL.of h2, q _ H2 (s1.trans s2) (it_zip m h1 ll m2 h2 ll2)⟩⟩
        | _ => exact q.elim
      | tup xs =>
        cases ty with
        | tup ys =>
          have q : ∀ J H1, Same H H1 → ItOk X.K (Nw H H1 (Bs A fps.flatten (c && c')) []) H1 J ((xs.zip ys).map pairT) → R J H1 := q
          have r1' := r1.mono (A' := Nw H H2 (Bs A fps.flatten (c && c')) []) s2 fun a m => Nw.up s2 (fun _ => Bs.or) m
          have r2' := r2.mono (A' := Nw H H2 (Bs A fps.flatten (c && c')) []) (Same.refl _) fun a m => Nw.step s1 s2 (fun b z => ⟨.inl (Bs.or' z), by simp⟩) m
          obtain ⟨l, vs, rfl, h1, ll⟩ := inv_tup r1'
          obtain ⟨l2, vs2, rfl, h2, ll2⟩ := inv_tup r2'
          exact ⟨l, l2, vs, vs2, rfl, .inr ⟨h1, h2, q _ H2 (s1.trans s2) (it_zipT h1 ll h2 ll2)⟩⟩
        | _ => exact q.elim
      | _ => cases ty <;> exact q.elim
def iEnumR (f : Fr → Res T) : Fr → Res (List T) := fun ν => (f ν).bind fun x => match x with
  | .lst xs => .ok (xs.zipIdx.map fun p => T.tup [.int (p.2 : Nat), p.1])
  | _ => .stuck
theorem vi_enum {elts : List Expr} {kk : Nat} {tpos : Pos} (ha : VE X W dp a f c k) (hg : Gl X "enumerate") (hm : X.mg "enumerate" = none) (hs : starEach [a] X.env = [(false, eval a X.env)]) : VI X W dp (.Tuple elts kk tpos) (.Call (.Name "enumerate" p) [a] [] pos) (iEnumR f) c := by
  refine ⟨_, pi_enum hg hm (pa_cons (pe_wp (X := X) (e := a)) pa_nil hs) hs, fun {σ H A ν fps} F R q => ?_⟩
  refine ha.use F ?_
  unfold iEnumR at q
  cases e1 : f ν with
  | stuck => rw [e1] at q; exact q.elim
  | exc cl p => rw [e1] at q; exact q
  | ok t =>
    rw [e1] at q
    intro v H1 s1 r1
    cases t with
    | lst xs =>
      have q : ∀ J H1, Same H H1 → ItOk X.K (Nw H H1 (Bs A fps.flatten c) []) H1 J (xs.zipIdx.map fun p => T.tup [.int (p.2 : Nat), p.1]) → R J H1 := q
      obtain ⟨l, vs, rfl, m, h1, ll⟩ := inv_lst r1
      exact ⟨l, vs, rfl, SqL.of h1, q _ H1 s1 (it_enum m h1 ll)⟩
    | _ => exact q.elim
end
end VI

namespace VI
open PySem PySem.Spec PyProof.Rows L2

section
variable {K : PySem.W.Frag} {dp : List Nat} {H H' : Hp} {A A' : Addr → Prop} {σ : L2.St} {ν : Fr} {fps : List (List Addr)}
/-- a frozen value into a slot -/
theorem FR.set (F : FR K dp H A σ ν fps) {i : Nat} {t : T} {v : V} (hi : i < ν.length) (hd : dp.getD i 0 = 0) (h : Ow K H A 0 t v []) : FR K dp H A (σ.set i (some v)) (ν.set i (some t)) fps where
  lσ := by rw [List.length_set, List.length_set]; exact F.lσ
  lf := by rw [List.length_set]; exact F.lf
  slot := fun j u e => by
    by_cases hj : i = j
    · subst hj
      rw [List.getElem?_set_self hi] at e
      cases e
      have hf : i < fps.length := by rw [F.lf]; exact hi
      refine ⟨v, fps[i], by rw [List.getElem?_set_self (by rw [F.lσ]; exact hi)], List.getElem?_eq_getElem hf, ?_⟩
      rw [hd, F.z i fps[i] hd (List.getElem?_eq_getElem hf)]
      exact h
    · rw [List.getElem?_set_ne hj] at e ⊢
      exact F.slot j u e
  nd := F.nd
  dj := F.dj
  dom := F.dom
  odom := F.odom
  z := F.z
  dead := fun j fp e1 e2 => by
    by_cases hj : i = j
    · subst hj
      rw [List.getElem?_set_self hi] at e1; cases e1
    · rw [List.getElem?_set_ne hj] at e1
      exact F.dead j fp e1 e2
theorem FR.clear (F : FR K dp H A σ ν fps) (i : Nat) (v : Option V) (hd : dp.getD i 0 = 0) : FR K dp H A (σ.set i v) (ν.set i none) fps where
  lσ := by rw [List.length_set, List.length_set]; exact F.lσ
  lf := by rw [List.length_set]; exact F.lf
  slot := fun j u e => by
    by_cases hj : i = j
    · subst hj
      by_cases hi : i < ν.length
      · rw [List.getElem?_set_self hi] at e; cases e
      · rw [List.getElem?_eq_none (by rw [List.length_set]; omega)] at e; cases e
    · rw [List.getElem?_set_ne hj] at e ⊢
      exact F.slot j u e
  nd := F.nd
  dj := F.dj
  dom := F.dom
  odom := F.odom
  z := F.z
  dead := fun j fp e1 e2 => by
    by_cases hj : i = j
    · subst hj
      exact F.z i fp hd e2
    · rw [List.getElem?_set_ne hj] at e1
      exact F.dead j fp e1 e2
/-- more is frozen -/
theorem FR.more (F : FR K dp H A σ ν fps) (hA : ∀ a, A a → A' a) (dj : ∀ a ∈ fps.flatten, ¬ A' a) (dom : ∀ a, A' a → H a ≠ none) : FR K dp H A' σ ν fps where
  lσ := F.lσ
  lf := F.lf
  slot := fun i t e => let ⟨v, fp, h1, h2, h3⟩ := F.slot i t e; ⟨v, fp, h1, h2, h3.mono (Same.refl H) hA⟩
  nd := F.nd
  dj := dj
  dom := dom
  odom := F.odom
  z := F.z
  dead := F.dead
theorem map_nil_flat (fps : List (List Addr)) : (fps.map fun _ => ([] : List Addr)).flatten = [] := by
  induction fps with
  | nil => rfl
  | cons d pd ih => rw [List.map_cons, List.flatten_cons, ih]; rfl
/-- the whole frame seen as frozen -/
theorem FR.freeze (F : FR K dp H A σ ν fps) (hA : ∀ a, A a ∨ a ∈ fps.flatten → A' a) (dom : ∀ a, A' a → H a ≠ none) : FR K [] H A' σ ν (fps.map fun _ => []) where
  lσ := F.lσ
  lf := by rw [List.length_map]; exact F.lf
  slot := fun i t e => by
    obtain ⟨v, fp, h1, h2, h3⟩ := F.slot i t e
    refine ⟨v, [], h1, by rw [List.getElem?_map, h2]; rfl, ?_⟩
    exact h3.frz (fun a m => hA a (.inl m)) fun a ha => hA a (.inr (List.mem_flatten.mpr ⟨fp, List.mem_of_getElem? h2, ha⟩))
  nd := by rw [map_nil_flat]; exact List.nodup_nil
  dj := by rw [map_nil_flat]; simp
  dom := dom
  odom := by rw [map_nil_flat]; simp
  z := fun i fp _ e => by
    rw [List.getElem?_map] at e
    cases h : fps[i]? with
    | none => rw [h] at e; cases e
    | some _ => rw [h] at e; cases e; rfl
  dead := fun i fp _ e => by
    rw [List.getElem?_map] at e
    cases h : fps[i]? with
    | none => rw [h] at e; cases e
    | some _ => rw [h] at e; cases e; rfl
/-- what the frame leans on stays -/
theorem FR.tr (F : FR K dp H A σ ν fps) (ht : ∀ a xs, SqT K H a xs → SqT K H' a xs) (hA : ∀ a, A a → ∀ o, H a = some o → H' a = some o) (hf : ∀ a ∈ fps.flatten, ∀ o, H a = some o → H' a = some o) : FR K dp H' A σ ν fps where
  lσ := F.lσ
  lf := F.lf
  slot := fun i t e => by
    obtain ⟨v, fp, h1, h2, h3⟩ := F.slot i t e
    exact ⟨v, fp, h1, h2, h3.tr ht (fun a m => ⟨m, hA a m⟩) fun a ha => hf a (List.mem_flatten.mpr ⟨fp, List.mem_of_getElem? h2, ha⟩)⟩
  nd := F.nd
  dj := F.dj
  dom := fun a m => by
    cases e : H a with
    | none => exact absurd e (F.dom a m)
    | some o => rw [hA a m o e]; simp
  odom := fun a m => by
    cases e : H a with
    | none => exact absurd e (F.odom a m)
    | some o => rw [hf a m o e]; simp
  z := F.z
  dead := F.dead
def wipeF (ν : Fr) : List Nat → Fr
  | [] => ν
  | v :: vs => (wipeF ν vs).set v none
theorem FR.wipe (F : FR K [] H A σ ν fps) : ∀ vs : List Nat, FR K [] H A (L2.wipe σ vs) (wipeF ν vs) fps
  | [] => F
  | v :: vs => (FR.wipe F vs).clear v none (by rfl)
theorem wipeF_length (ν : Fr) : ∀ vs : List Nat, (wipeF ν vs).length = ν.length
  | [] => rfl
  | v :: vs => by unfold wipeF; rw [List.length_set, wipeF_length ν vs]
theorem wipe_get (σ : L2.St) (j : Nat) : ∀ vs : List Nat, (L2.wipe σ vs)[j]? = if j ∈ vs then (if j < σ.length then some none else none) else σ[j]?
  | [] => by unfold L2.wipe; simp
  | v :: vs => by
    unfold L2.wipe
    by_cases hv : v = j
    · subst hv
      rw [if_pos List.mem_cons_self, List.getElem?_set]
      rw [if_pos rfl, wipe_length]
    · rw [List.getElem?_set_ne hv, wipe_get σ j vs]
      have : (j ∈ v :: vs) ↔ j ∈ vs := by simp [Ne.symm hv]
      by_cases h : j ∈ vs
      · rw [if_pos h, if_pos (this.mpr h)]
      · rw [if_neg h, if_neg fun z => h (this.mp z)]
theorem wipe_eq {σ σ' : L2.St} {vs : List Nat} (hl : σ'.length = σ.length) (h : ∀ j, j ∉ vs → σ'[j]? = (L2.wipe σ vs)[j]?) : L2.wipe σ' vs = L2.wipe σ vs := by
  refine List.ext_getElem? fun j => ?_
  rw [wipe_get]
  by_cases hj : j ∈ vs
  · rw [if_pos hj, wipe_get, if_pos hj, hl]
  · rw [if_neg hj]
    exact h j hj
end

/-! ### targets -/
def PoG (K : PySem.W.Frag) (dp : List Nat) (ws : List Nat) (H : Hp) (A : Addr → Prop) (fps : List (List Addr)) (σ : L2.St) (Q : L2.St → Hp → Prop) : Res Fr → Prop
  | .ok ν' => ∀ σ', FR K dp H A σ' ν' fps → σ'.length = σ.length → (∀ j, j ∉ ws → σ'[j]? = σ[j]?) → Q σ' H
  | _ => False
/-- tg takes a frozen value apart into the slots ws -/
structure VG (X : Cx) (dp : List Nat) (tg : Expr) (h : T → Fr → Res Fr) (ws : List Nat) : Prop where
  pg : ∃ g : TG, PG X tg g ∧ ∀ {σ : L2.St} {H : Hp} {A : Addr → Prop} {ν : Fr} {fps : List (List Addr)} {t : T} {v : V}, FR X.K dp H A σ ν fps → Ow X.K H A 0 t v [] → ∀ Q, PoG X.K dp ws H A fps σ Q (h t ν) → g v σ H Q
structure VGs (X : Cx) (dp : List Nat) (tgs : List Expr) (h : List T → Fr → Res Fr) (ws : List Nat) : Prop where
  pg : ∃ g : TGs, PGs X tgs g ∧ ∀ {σ : L2.St} {H : Hp} {A : Addr → Prop} {ν : Fr} {fps : List (List Addr)} {ts : List T} {vs : List V}, FR X.K dp H A σ ν fps → OwL X.K H A 0 ts vs [] → ∀ Q, PoG X.K dp ws H A fps σ Q (h ts ν) → g vs σ H Q
def gSet (i : Nat) : T → Fr → Res Fr := fun t ν => if i < ν.length then .ok (ν.set i (some t)) else .stuck
def gsNil : List T → Fr → Res Fr := fun ts ν => match ts with
  | [] => .ok ν
  | _ => .stuck
def gsCons (h : T → Fr → Res Fr) (hs : List T → Fr → Res Fr) : List T → Fr → Res Fr := fun ts ν => match ts with
  | t :: r => (h t ν).bind fun ν' => hs r ν'
  | [] => .stuck
def gSeq (hs : List T → Fr → Res Fr) : T → Fr → Res Fr := fun t ν => match t with
  | .tup xs => hs xs ν
  | .lst xs => hs xs ν
  | _ => .stuck
section
variable {X : Cx} {dp : List Nat} {tg : Expr} {tgs : List Expr} {h : T → Fr → Res Fr} {hs : List T → Fr → Res Fr} {ws ws' : List Nat} {pos : Pos}
theorem vg_name {i : Nat} {x : Str} (hN : X.N.Nodup) (hi : X.N[i]? = some x) (hx : Loc X.env.scope x) (hf : X.fn x = true ∨ X.env.scope.names.lookup x = some .local) (hd : dp.getD i 0 = 0) (hw : i ∈ ws) : VG X dp (.Name x pos) (gSet i) ws := by
  refine ⟨_, pg_name hN hi hx hf, fun {σ H A ν fps t v} F r Q q => ?_⟩
  unfold gSet at q
  by_cases hl : i < ν.length
  · rw [if_pos hl] at q
    exact q _ (F.set hl hd r) (by rw [List.length_set]) fun j hj => List.getElem?_set_ne fun z : i = j => hj (by rw [← z]; exact hw)
  · rw [if_neg hl] at q
    exact q.elim
theorem vgs_nil : VGs X dp [] gsNil ws := by
  refine ⟨_, pgs_nil, fun {σ H A ν fps ts vs} F r Q q => ?_⟩
  cases ts with
  | nil =>
    rw [OwL] at r
    exact ⟨r.1, q σ F rfl fun _ _ => rfl⟩
  | cons _ _ => exact q.elim
theorem vgs_cons (h1 : VG X dp tg h ws) (h2 : VGs X dp tgs hs ws) (ha : (assignEach (tg :: tgs) X.env).map (·.2) = assign tg X.env :: (assignEach tgs X.env).map (·.2)) : VGs X dp (tg :: tgs) (gsCons h hs) ws := by
  obtain ⟨g, pg, qg⟩ := h1.pg
  obtain ⟨g', pg', qg'⟩ := h2.pg
  refine ⟨_, pgs_cons pg pg' ha, fun {σ H A ν fps ts vs} F r Q q => ?_⟩
  cases ts with
  | nil => exact q.elim
  | cons t ts =>
    obtain ⟨x, xs, rfl, r1, r2⟩ := r.inv0
    refine ⟨x, xs, rfl, qg F r1 _ ?_⟩
    have q : PoG X.K dp ws H A fps σ Q ((h t ν).bind fun ν' => hs ts ν') := q
    cases e1 : h t ν with
    | stuck => rw [e1] at q; exact q
    | exc _ _ => rw [e1] at q; exact q
    | ok ν' =>
      rw [e1] at q
      intro σ' F' hl hk
      refine qg' F' r2 Q ?_
      have q : PoG X.K dp ws H A fps σ Q (hs ts ν') := q
      cases e2 : hs ts ν' with
      | stuck => rw [e2] at q; exact q
      | exc _ _ => rw [e2] at q; exact q
      | ok ν2 =>
        rw [e2] at q
        exact fun σ2 F2 hl2 hk2 => q σ2 F2 (hl2.trans hl) fun j hj => (hk2 j hj).trans (hk j hj)
theorem vg_tup {n : Nat} (hc : X.calm = true) (h : VGs X dp tgs hs ws) (hn : ∀ ts ν ν', hs ts ν = .ok ν' → ts.length = tgs.length) (hl : (assignEach tgs X.env).length = tgs.length) (hst : (assignEach tgs X.env).findIdx? (·.1) = none) : VG X dp (.Tuple tgs n pos) (gSeq hs) ws := by
  obtain ⟨g, pg, qg⟩ := h.pg
  refine ⟨fun v σ H Q => gTup X.K tgs.length g v σ H Q ∨ gLst X.K tgs.length g v σ H Q, ⟨fun pins s σ H v u Q I r hq => ?_⟩, fun {σ H A ν fps t v} F r Q q => ?_⟩
  · rcases hq with hq | hq
    · exact (pg_tup hc pg hl hst).run pins s σ H v u Q I r hq
    · exact (pg_lst hc pg hl hst).run pins s σ H v u Q I r hq
  · cases t with
    | tup xs =>
      obtain ⟨a, ys, rfl, h1, l⟩ := inv_tup r
      have q : PoG X.K dp ws H A fps σ Q (hs xs ν) := q
      refine .inl ⟨a, ys, rfl, h1, ?_, qg F l Q q⟩
      cases e1 : hs xs ν with
      | stuck => rw [e1] at q; exact q.elim
      | exc _ _ => rw [e1] at q; exact q.elim
      | ok ν' => rw [l.length, hn _ _ _ e1]
    | lst xs =>
      obtain ⟨a, ys, rfl, m, h1, l⟩ := inv_lst r
      have q : PoG X.K dp ws H A fps σ Q (hs xs ν) := q
      refine .inr ⟨a, ys, rfl, SqL.of h1, ?_, qg F l Q q⟩
      cases e1 : hs xs ν with
      | stuck => rw [e1] at q; exact q.elim
      | exc _ _ => rw [e1] at q; exact q.elim
      | ok ν' => rw [l.length, hn _ _ _ e1]
    | _ => exact q.elim
end
end VI

namespace VI
open PySem PySem.Spec PyProof.Rows L2

/-! ### list comprehensions -/
/-- one turn: an element, or none -/
def turnR (h : T → Fr → Res Fr) (tt : Fr → Res Bool) (fe : Fr → Res T) (ν : Fr) (t : T) : Res (Option T) :=
  (h t ν).bind fun ν1 => (tt ν1).bind fun b => if b = true then (fe ν1).bind fun y => .ok (some y) else .ok none
def compA (turn : T → Res (Option T)) (acc : List T) : List T → Res (List T)
  | [] => .ok acc
  | t :: ts => (turn t).bind fun o => compA turn (acc ++ o.toList) ts
def lstR (r : Res (List T)) : Res T := match r with
  | .ok ys => .ok (.lst ys)
  | _ => .stuck
def eComp (fi : Fr → Res (List T)) (vs : List Nat) (h : T → Fr → Res Fr) (tt : Fr → Res Bool) (fe : Fr → Res T) : Fr → Res T := fun ν => (fi ν).bind fun ts =>
  if ts.length ≤ sizeLine then lstR (compA (turnR h tt fe (wipeF ν vs)) [] ts) else .stuck
theorem OwL.snoc {K : PySem.W.Frag} {H : Hp} {A : Addr → Prop} {k : Nat} : ∀ {ts : List T} {xs : List V} {fp : List Addr} {t : T} {x : V} {f : List Addr}, OwL K H A k ts xs fp → Ow K H A k t x f → OwL K H A k (ts ++ [t]) (xs ++ [x]) (fp ++ f)
  | [], xs, fp, t, x, f, h, r => by
    rw [OwL] at h
    rw [h.1, h.2]
    show OwL K H A k [t] [x] f
    rw [OwL]
    exact ⟨x, [], f, [], rfl, (List.append_nil f).symm, r, OwL.nil0⟩
  | u :: ts, xs, fp, t, x, f, h, r => by
    rw [OwL] at h
    obtain ⟨y, s, f1, g1, rfl, rfl, q, z⟩ := h
    show OwL K H A k (u :: (ts ++ [t])) (y :: (s ++ [x])) _
    rw [OwL]
    exact ⟨y, s ++ [x], f1, g1 ++ f, rfl, List.append_assoc f1 g1 f, q, OwL.snoc z r⟩
section
variable {X : Cx} {W : WX} {dp : List Nat} {elt tg iter : Expr} {ifs : List Expr} {fi : Fr → Res (List T)} {h : T → Fr → Res Fr} {tt : Fr → Res Bool} {fe : Fr → Res T} {c : Bool} {ke : Nat} {pos : Pos} {scope : Scope} {own : List (Str × Nat)}
abbrev W0 : WX := fun _ _ _ _ => False
/-- the tests of a clause -/
structure VTs (X : Cx) (ifs : List Expr) (tt : Fr → Res Bool) : Prop where
  pt : ∃ t : TT, PTs X ifs t ∧ ∀ {σ : L2.St} {H : Hp} {A : Addr → Prop} {ν : Fr} {fps : List (List Addr)}, FR X.K [] H A σ ν fps → ∀ Q, PoB X W0 σ H Q (tt ν) → t σ H Q
def ttYes : Fr → Res Bool := fun _ => .ok true
theorem vts_nil : VTs X [] ttYes := ⟨_, pts_nil, fun {σ H A ν fps} F Q q => q H (Same.refl H)⟩
theorem vts_one {e : Expr} (ht : VT X W0 [] e tt) : VTs X [e] tt := ⟨_, pts_one pt_wp, fun F Q q => ht.run F Q q⟩
/-- the reading of a comprehension, from its parts -/
theorem lc_read {σ : L2.St} {H : Hp} {A : Addr → Prop} {ν : Fr} {fps : List (List Addr)} {Q : VK} {wi : TI} {g : TG} {ttr : TT} {te : TE} (F : FR X.K dp H A σ ν fps)
    (qi : ∀ R : It → Hp → Prop, PoI X W σ H (Bs A fps.flatten c) R (fi ν) → wi σ H R)
    (qg : ∀ {σ : L2.St} {H : Hp} {A : Addr → Prop} {ν : Fr} {fps : List (List Addr)} {t : T} {v : V}, FR X.K [] H A σ ν fps → Ow X.K H A 0 t v [] → ∀ Q, PoG X.K [] (own.map (·.2)) H A fps σ Q (h t ν) → g v σ H Q)
    (qt : ∀ {σ : L2.St} {H : Hp} {A : Addr → Prop} {ν : Fr} {fps : List (List Addr)}, FR X.K [] H A σ ν fps → ∀ Q, PoB X W0 σ H Q (tt ν) → ttr σ H Q)
    (qe : ∀ {σ : L2.St} {H : Hp} {A : Addr → Prop} {ν : Fr} {fps : List (List Addr)}, FR X.K [] H A σ ν fps → ∀ Q : VK, PoE X W0 σ H (Bs A fps.flatten true) ke Q (fe ν) → te σ H Q)
    (q : PoE X W σ H (Bs A fps.flatten (dp == [])) (ke + 1) Q (eComp fi (own.map (·.2)) h tt fe ν)) : tLc wi g ttr te (own.map (·.2)) σ H Q := by
  refine qi _ ?_
  unfold eComp at q
  cases e1 : fi ν with
  | stuck => rw [e1] at q; exact q.elim
  | exc cl p => rw [e1] at q; exact q
  | ok ts =>
    rw [e1] at q
    have q : PoE X W σ H (Bs A fps.flatten (dp == [])) (ke + 1) Q (if ts.length ≤ sizeLine then lstR (compA (turnR h tt fe (wipeF ν (own.map (·.2)))) [] ts) else .stuck) := q
    by_cases hz : ts.length ≤ sizeLine
    case neg => rw [if_neg hz] at q; exact q.elim
    rw [if_pos hz] at q
    intro J H1 s1 it D hD
    -- the result
    cases eR : compA (turnR h tt fe (wipeF ν (own.map (·.2)))) [] ts with
    | stuck => rw [eR] at q; exact q.elim
    | exc _ _ => rw [eR] at q; exact q.elim
    | ok R =>
      rw [eR] at q
      have q : ∀ v H' fp, Same H H' → fp.Nodup → (∀ a ∈ fp, H a = none) → Ow X.K H' (Nw H H' (Bs A fps.flatten (dp == [])) fp) (ke + 1) (.lst R) v fp → Q v H' := q
      have hDH : H D = none := fresh_of s1 hD
      -- all that may be leant on within: what was, what is owned, what is new but D and the elements' own
      let B (H' : Hp) (fa : List Addr) : Addr → Prop := fun a => (A a ∨ a ∈ fps.flatten ∨ (H a = none ∧ H' a ≠ none)) ∧ a ≠ D ∧ a ∉ fa
      have inB : ∀ {H' : Hp} {fa : List Addr} {a : Addr}, (A a ∨ a ∈ fps.flatten ∨ (H a = none ∧ H' a ≠ none)) → a ≠ D → a ∉ fa → B H' fa a := fun h1 h2 h3 => ⟨h1, h2, h3⟩
      have domB : ∀ {H' : Hp} {fa : List Addr}, Same H H' → ∀ {a : Addr}, B H' fa a → H' a ≠ none := fun {H' fa} s' {a} z => by
        rcases z.1 with w | w | w
        · exact s'.dom (F.dom a w)
        · exact s'.dom (F.odom a w)
        · exact w.2
      have oldD : ∀ {a : Addr}, H1 a ≠ none → a ≠ D := fun {a} ha z => ha (by rw [z]; exact hD)
      generalize hturn : turnR h tt fe (wipeF ν (own.map (·.2))) = turn at eR
      refine ⟨fun i m H2 => m = ts.length - i ∧ i ≤ ts.length ∧ ∃ acc accV fa, compA turn acc (ts.drop i) = .ok R ∧ acc.length ≤ i ∧ H2 D = some (.lst accV) ∧ OwL X.K H2 (B H2 fa) ke acc accV fa ∧ fa.Nodup ∧ (∀ a ∈ fa, H1 a = none ∧ a ≠ D) ∧ Same H1 H2, ?_, ?_⟩
      · exact ⟨ts.length, by simp, Nat.zero_le _, [], [], [], by rw [List.drop_zero]; exact eR, Nat.le_refl _, upd_same, OwL.nil0, List.nodup_nil, (fun _ z => nomatch z), Same.laid hD⟩
      · rintro i m H2 ⟨rfl, hi, acc, accV, fa, ec, la, hD2, oa, nda, fra, s12⟩
        have sH2 : Same H H2 := s1.trans s12
        by_cases hlt : i < ts.length
        · right
          have ht : ts[i]? = some ts[i] := List.getElem?_eq_getElem hlt
          rw [List.drop_eq_getElem_cons hlt] at ec
          generalize ts[i] = t at ht ec
          obtain ⟨hgo, hyl⟩ := it.go H2 (Kp.of_same s12) i t ht
          have ec : (turn t).bind (fun o => compA turn (acc ++ o.toList) (ts.drop (i + 1))) = .ok R := ec
          refine ⟨hgo, fun H3 => ∃ acc accV fa, compA turn acc (ts.drop (i + 1)) = .ok R ∧ acc.length ≤ i + 1 ∧ H3 D = some (.lst accV) ∧ OwL X.K H3 (B H3 fa) ke acc accV fa ∧ fa.Nodup ∧ (∀ a ∈ fa, H1 a = none ∧ a ≠ D) ∧ Same H1 H3, fun H3 h3 => ⟨ts.length - (i + 1), by omega, rfl, hlt, h3⟩, ?_⟩
          intro x H3 y3
          obtain ⟨s23, rx⟩ := hyl x H3 y3
          have s13 : Same H1 H3 := s12.trans s23
          have sH3 : Same H H3 := s1.trans s13
          have nfa : ∀ {a : Addr}, H1 a ≠ none → a ∉ fa := fun ha z => ha (fra _ z).1
          have Fz : FR X.K [] H3 (B H3 fa) σ ν (fps.map fun _ => []) := by
            refine (F.mono sH3).freeze (A' := B H3 fa) (fun a z => ?_) fun a z => domB sH3 z
            rcases z with z | z
            · exact inB (.inl z) (oldD (s1.dom (F.dom a z))) (nfa (s1.dom (F.dom a z)))
            · exact inB (.inr (.inl z)) (oldD (s1.dom (F.odom a z))) (nfa (s1.dom (F.odom a z)))
          have Fw := Fz.wipe (own.map (·.2))
          have rx' : Ow X.K H3 (B H3 fa) 0 t x [] := rx.mono (Same.refl _) fun a mm => by
            obtain ⟨z | ⟨z1, z2⟩, _⟩ := mm
            · have a1 : H1 a ≠ none := F.nwdom s1 z
              obtain ⟨w | ⟨w1, w2⟩, _⟩ := z
              · rcases w with w | ⟨_, w⟩
                · exact inB (.inl w) (oldD a1) (nfa a1)
                · exact inB (.inr (.inl w)) (oldD a1) (nfa a1)
              · exact inB (.inr (.inr ⟨w1, s13.dom w2⟩)) (oldD a1) (nfa a1)
            · refine inB (.inr (.inr ⟨fresh_of sH2 z1, z2⟩)) (fun z => ?_) fun z => oa.dom a z z1
              rw [z, hD2] at z1; cases z1
          refine qg Fw rx' _ ?_
          rw [← hturn] at ec
          unfold turnR at ec
          cases e2 : h t (wipeF ν (own.map (·.2))) with
          | stuck => rw [e2] at ec; cases ec
          | exc _ _ => rw [e2] at ec; cases ec
          | ok ν1 =>
            rw [e2] at ec
            intro σ2 F2 hl2 hk2
            refine ⟨wipe_eq (by rw [hl2, wipe_length]) hk2, ?_⟩
            refine qt F2 _ ?_
            have ec : ((tt ν1).bind fun b => if b = true then (fe ν1).bind fun y => Res.ok (some y) else .ok none).bind (fun o => compA (turnR h tt fe (wipeF ν (own.map (·.2)))) (acc ++ o.toList) (ts.drop (i + 1))) = .ok R := ec
            rw [hturn] at ec
            cases e3 : tt ν1 with
            | stuck => rw [e3] at ec; cases ec
            | exc _ _ => rw [e3] at ec; cases ec
            | ok b =>
              rw [e3] at ec
              intro H4 s34
              have s14 := s13.trans s34
              have sH4 := s1.trans s14
              cases b with
              | false =>
                refine iteF ⟨acc, accV, fa, ?_, by omega, s34 _ _ (s23 _ _ hD2), oa.mono (s23.trans s34) (fun a z => inB ?_ z.2.1 z.2.2), nda, fra, s14⟩
                · have ec : compA turn (acc ++ []) (ts.drop (i + 1)) = .ok R := ec
                  rw [List.append_nil] at ec
                  exact ec
                · rcases z.1 with w | w | w
                  · exact .inl w
                  · exact .inr (.inl w)
                  · exact .inr (.inr ⟨w.1, (s23.trans s34).dom w.2⟩)
              | true =>
                refine iteT (qe (F2.mono s34) _ ?_)
                have ec : ((fe ν1).bind fun y => Res.ok (some y)).bind (fun o => compA turn (acc ++ o.toList) (ts.drop (i + 1))) = .ok R := ec
                cases e4 : fe ν1 with
                | stuck => rw [e4] at ec; cases ec
                | exc _ _ => rw [e4] at ec; cases ec
                | ok ty =>
                  rw [e4] at ec
                  have ec : compA turn (acc ++ [ty]) (ts.drop (i + 1)) = .ok R := ec
                  intro y H5 fp s45 ndp frp ry
                  have s15 := s14.trans s45
                  have sH5 := s1.trans s15
                  have s25 := (s23.trans s34).trans s45
                  have hD5 : H5 D = some (.lst accV) := s25 _ _ hD2
                  have fp1 : ∀ a ∈ fp, H1 a = none ∧ a ≠ D := fun a ha => ⟨fresh_of s14 (frp a ha), fun z => by
                    have := frp a ha
                    rw [z, s34 _ _ (s23 _ _ hD2)] at this
                    cases this⟩
                  have fpfa : ∀ a ∈ fp, a ∉ fa := fun a ha z => oa.dom a z (fresh_of (s23.trans s34) (frp a ha))
                  refine ⟨accV, hD5, ?_, acc ++ [ty], accV ++ [y], fa ++ fp, ec, ?_, upd_same, ?_, ?_, ?_, ?_⟩
                  · rw [oa.length]; omega
                  · rw [List.length_append]; show acc.length + 1 ≤ i + 1; omega
                  · -- the elements, behind the store
                    have o1 : OwL X.K H5 (B H5 (fa ++ fp)) ke acc accV fa := oa.mono s25 fun a z => inB (by
                      rcases z.1 with w | w | w
                      · exact .inl w
                      · exact .inr (.inl w)
                      · exact .inr (.inr ⟨w.1, s25.dom w.2⟩)) z.2.1 fun w => (List.mem_append.mp w).elim z.2.2 fun w => domB sH2 z (fresh_of (s23.trans s34) (frp a w))
                    have o2 : Ow X.K H5 (B H5 (fa ++ fp)) ke ty y fp := ry.mono (Same.refl _) fun a z => by
                      obtain ⟨w | ⟨w1, w2⟩, nf⟩ := z
                      · rcases w with w | ⟨_, w⟩
                        · refine inB ?_ w.2.1 fun u => (List.mem_append.mp u).elim w.2.2 nf
                          rcases w.1 with v | v | v
                          · exact .inl v
                          · exact .inr (.inl v)
                          · exact .inr (.inr ⟨v.1, (s34.trans s45).dom v.2⟩)
                        · rw [map_nil_flat] at w; cases w
                      · refine inB (.inr (.inr ⟨fresh_of sH4 w1, w2⟩)) (fun u => ?_) fun u => (List.mem_append.mp u).elim (fun v => oa.dom a v (fresh_of (s23.trans s34) w1)) nf
                        rw [u, s34 _ _ (s23 _ _ hD2)] at w1; cases w1
                    have o3 := OwL.snoc o1 o2
                    have nB : ¬ B H5 (fa ++ fp) D := fun z => z.2.1 rfl
                    have nD : D ∉ fa ++ fp := fun z => (List.mem_append.mp z).elim (fun w => (fra D w).2 rfl) fun w => (fp1 D w).2 rfl
                    refine (o3.upd hD5 trivial nB nD).mono (Same.refl _) fun a z => inB ?_ z.2.1 z.2.2
                    rcases z.1 with w | w | w
                    · exact .inl w
                    · exact .inr (.inl w)
                    · exact .inr (.inr ⟨w.1, by rw [upd_ne z.2.1]; exact w.2⟩)
                  · exact List.nodup_append.mpr ⟨nda, ndp, fun a ha b hb e => fpfa b hb (e ▸ ha)⟩
                  · exact fun a ha => (List.mem_append.mp ha).elim (fra a) (fp1 a)
                  · exact fun a o z => by rw [upd_ne (oldD (by rw [z]; simp))]; exact s15 a o z
        · left
          have hie : i = ts.length := by omega
          refine ⟨it.stop H2 (Kp.of_same s12) i (by omega), ?_⟩
          have ec : compA turn acc (ts.drop i) = .ok R := ec
          rw [List.drop_eq_nil_of_le (by omega)] at ec
          have hR : acc = R := res_ok ec
          subst hR
          refine q (.ref D) H2 (D :: fa) sH2 (List.nodup_cons.mpr ⟨fun z => (fra D z).2 rfl, nda⟩) (fun a ha => ?_) ?_
          · rcases List.mem_cons.mp ha with rfl | ha
            · exact hDH
            · exact fresh_of s1 (fra a ha).1
          · rw [Ow]
            refine ⟨D, accV, fa, rfl, rfl, hD2, oa.mono (Same.refl _) fun a z => ⟨?_, fun w => (List.mem_cons.mp w).elim z.2.1 z.2.2⟩⟩
            rcases z.1 with w | w | w
            · exact .inl (.inl w)
            · refine .inl (.inr ⟨?_, w⟩)
              cases hdp : dp with
              | nil =>
                subst hdp
                obtain ⟨fpx, h1, h2⟩ := List.mem_flatten.mp w
                obtain ⟨ix, h3⟩ := List.getElem?_of_mem h1
                rw [F.z ix fpx rfl h3] at h2
                cases h2
              | cons _ _ => rfl
            · exact .inr w
end
end VI

namespace VI
open PySem PySem.Spec PyProof.Rows L2

def wpG (X : Cx) (tg : Expr) : TG := fun v σ H Q => ∀ (pins : List (Addr × Obj)) (s : Shared) (u : Value), Inv X pins σ H s → RelV v u → wpAny (model X.prog X.w) X.A (assign tg X.env u) (fun _ s' => ∃ σ' H', Inv X pins σ' H' s' ∧ Q σ' H') X.xe s
theorem pg_wp {X : Cx} {tg : Expr} : PG X tg (wpG X tg) := ⟨fun pins s σ H v u Q I r h => h pins s u I r⟩
theorem wpG_of {X : Cx} {tg : Expr} {g : TG} (h : PG X tg g) {v : V} {σ : L2.St} {H : Hp} {Q : L2.St → Hp → Prop} (q : g v σ H Q) : wpG X tg v σ H Q := fun pins s u I r => h.run pins s σ H v u Q I r q
def wpTs (X : Cx) (ifs : List Expr) (t : TT) : Prop := PTs X ifs t
section
variable {X : Cx} {W : WX} {dp : List Nat} {elt tg iter : Expr} {ifs : List Expr} {fi : Fr → Res (List T)} {h : T → Fr → Res Fr} {tt : Fr → Res Bool} {fe : Fr → Res T} {c : Bool} {ke : Nat} {pos spos py : Pos} {scope : Scope} {own : List (Str × Nat)}
/-- the parts of a comprehension, in every block -/
structure BlkV (X : Cx) (scope : Scope) (own : List (Str × Nat)) (tg elt : Expr) (ifs : List Expr) (h : T → Fr → Res Fr) (tt : Fr → Res Bool) (fe : Fr → Res T) (ke : Nat) : Prop where
  ok : BlkOk X.N X.env.scope scope own
  g : ∀ (s : Shared) (H : Hp) (C : Addr) (cl : List (Str × Addr)) (fp : List Addr), VG (X.blk s H scope (compEnvC scope cl C X.env) fp) [] tg h (own.map (·.2))
  t : ∀ (s : Shared) (H : Hp) (C : Addr) (cl : List (Str × Addr)) (fp : List Addr), VTs (X.blk s H scope (compEnvC scope cl C X.env) fp) ifs tt
  e : ∀ (s : Shared) (H : Hp) (C : Addr) (cl : List (Str × Addr)) (fp : List Addr), VE (X.blk s H scope (compEnvC scope cl C X.env) fp) W0 [] elt fe true ke
/-- the readings that serve in every block -/
def gB (X : Cx) (scope : Scope) (tg : Expr) : TG := fun v σ H Q => ∀ (s : Shared) (H0 : Hp) (C : Addr) (cl : List (Str × Addr)) (fp : List Addr), wpG (X.blk s H0 scope (compEnvC scope cl C X.env) fp) tg v σ H Q
def eB (X : Cx) (scope : Scope) (elt : Expr) : TE := fun σ H Q => ∀ (s : Shared) (H0 : Hp) (C : Addr) (cl : List (Str × Addr)) (fp : List Addr), wpE (X.blk s H0 scope (compEnvC scope cl C X.env) fp) elt σ H Q
def tB2 (X : Cx) (scope : Scope) (ifs : List Expr) : TT := fun σ H Q => ∀ (s : Shared) (H0 : Hp) (C : Addr) (cl : List (Str × Addr)) (fp : List Addr), ∃ t : TT, PTs (X.blk s H0 scope (compEnvC scope cl C X.env) fp) ifs t ∧ t σ H Q
theorem pg_B (s : Shared) (H : Hp) (C : Addr) (cl : List (Str × Addr)) (fp : List Addr) : PG (X.blk s H scope (compEnvC scope cl C X.env) fp) tg (gB X scope tg) := ⟨fun pins s1 σ H1 v u Q I r q => q s H C cl fp pins s1 u I r⟩
theorem pe_B (s : Shared) (H : Hp) (C : Addr) (cl : List (Str × Addr)) (fp : List Addr) : PE (X.blk s H scope (compEnvC scope cl C X.env) fp) elt (eB X scope elt) := ⟨fun pins s1 σ H1 Q I q => q s H C cl fp pins s1 I⟩
theorem pt_B (s : Shared) (H : Hp) (C : Addr) (cl : List (Str × Addr)) (fp : List Addr) : PTs (X.blk s H scope (compEnvC scope cl C X.env) fp) ifs (tB2 X scope ifs) := ⟨fun pins s1 σ H1 Q I q => by
  obtain ⟨t, ht, hq⟩ := q s H C cl fp
  exact ht.run pins s1 σ H1 Q I hq⟩
theorem comp_q {σ : L2.St} {H : Hp} {A : Addr → Prop} {ν : Fr} {fps : List (List Addr)} {Q : VK} {wi : TI} (b : BlkV X scope own tg elt ifs h tt fe ke) (F : FR X.K dp H A σ ν fps)
    (qi : ∀ R : It → Hp → Prop, PoI X W σ H (Bs A fps.flatten c) R (fi ν) → wi σ H R) (q : PoE X W σ H (Bs A fps.flatten (dp == [])) (ke + 1) Q (eComp fi (own.map (·.2)) h tt fe ν)) :
    tLc wi (gB X scope tg) (tB2 X scope ifs) (eB X scope elt) (own.map (·.2)) σ H Q := by
  refine lc_read (X := X) (W := W) (tt := tt) (fe := fe) (h := h) F qi ?_ ?_ ?_ q
  · intro σ H A ν fps t v F r Q q s H0 C cl fp
    obtain ⟨g, pg, qg⟩ := (b.g s H0 C cl fp).pg
    exact wpG_of pg (qg F r Q q)
  · intro σ H A ν fps F Q q s H0 C cl fp
    obtain ⟨t, pt, qt⟩ := (b.t s H0 C cl fp).pt
    refine ⟨t, pt, qt F Q ?_⟩
    revert q
    cases tt ν with
    | ok b => exact fun q => q
    | exc _ _ => exact fun q => q
    | stuck => exact fun q => q
  · intro σ H A ν fps F Q q s H0 C cl fp
    refine (b.e s H0 C cl fp).run F Q ?_
    revert q
    cases fe ν with
    | ok b => exact fun q => q
    | exc _ _ => exact fun q => q
    | stuck => exact fun q => q
theorem ve_comp (hc : X.calm = true) (hN : X.N.Nodup) (hi : VI X W dp tg iter fi c) (b : BlkV X scope own tg elt ifs h tt fe ke) (hs : ∀ x, foldedSetIterable iter X.env x = pure x) :
    VE X W dp (.ListComp elt [⟨tg, iter, ifs, 0⟩] scope pos) (eComp fi (own.map (·.2)) h tt fe) (dp == []) (ke + 1) := by
  obtain ⟨wi, pi, qi⟩ := hi.pi
  refine ⟨fun {σ H A ν fps} F Q q => wpE_of (pe_lc hc hN pi b.ok pg_B pt_B pe_B hs) ?_⟩
  exact comp_q b F (fun R q => qi F R q) q
end
end VI

namespace VI
open PySem PySem.Spec PyProof.Rows L2

/-! ### some levels given away -/
section
variable {K : PySem.W.Frag} {H : Hp} {A : Addr → Prop}
/-- fp' of fp is kept, the rest is given away -/
def LowP (K : PySem.W.Frag) (H : Hp) (A : Addr → Prop) (k' : Nat) (t : T) (v : V) (fp fp' : List Addr) : Prop :=
  fp'.Sublist fp ∧ ∀ A' : Addr → Prop, (∀ a, A a → A' a) → (∀ a ∈ fp, a ∉ fp' → A' a) → Ow K H A' k' t v fp'
theorem low_zero {k : Nat} {t : T} {v : V} {fp : List Addr} (h : Ow K H A k t v fp) : LowP K H A 0 t v fp [] :=
  ⟨List.nil_sublist _, fun A' hA hf => h.frz hA fun a ha => hf a ha (by simp)⟩
mutual
theorem Ow.low : ∀ {k : Nat} {t : T} {v : V} {fp : List Addr}, Ow K H A k t v fp → fp.Nodup → ∀ k' : Nat, k' ≤ k → ∃ fp', LowP K H A k' t v fp fp'
  | k, t, v, fp, h, nd, 0, hk => ⟨[], low_zero h⟩
  | k, .non, v, fp, h, nd, k' + 1, hk => by rw [Ow] at h; exact ⟨[], List.nil_sublist _, fun A' _ _ => by rw [Ow]; exact ⟨h.1, rfl⟩⟩
  | k, .bl b, v, fp, h, nd, k' + 1, hk => by rw [Ow] at h; exact ⟨[], List.nil_sublist _, fun A' _ _ => by rw [Ow]; exact ⟨h.1, rfl⟩⟩
  | k, .int i, v, fp, h, nd, k' + 1, hk => by rw [Ow] at h; exact ⟨[], List.nil_sublist _, fun A' _ _ => by rw [Ow]; exact ⟨h.1, rfl⟩⟩
  | k, .str x, v, fp, h, nd, k' + 1, hk => by rw [Ow] at h; exact ⟨[], List.nil_sublist _, fun A' _ _ => by rw [Ow]; exact ⟨h.1, rfl, h.2.2⟩⟩
  | k, .scr ns, v, fp, h, nd, k' + 1, hk => by
    rw [Ow] at h
    obtain ⟨a, e, m, q, f⟩ := h
    exact ⟨[], List.nil_sublist _, fun A' hA _ => by rw [Ow]; exact ⟨a, e, m.imp (hA a) id, q, rfl⟩⟩
  | k, .tup ts, v, fp, h, nd, k' + 1, hk => by
    rw [Ow] at h
    obtain ⟨a, xs, e, q, r, z⟩ := h
    exact ⟨[], List.nil_sublist _, fun A' hA _ => by rw [Ow]; exact ⟨a, xs, e, q, r.mono (Same.refl _) hA, rfl⟩⟩
  | 0, .lst ts, v, fp, h, nd, k' + 1, hk => absurd hk (by omega)
  | 0, .dct ts, v, fp, h, nd, k' + 1, hk => absurd hk (by omega)
  | 0, .ins c ts, v, fp, h, nd, k' + 1, hk => absurd hk (by omega)
  | k + 1, .lst ts, v, fp, h, nd, k' + 1, hk => by
    rw [Ow] at h
    obtain ⟨a, xs, f, e, rfl, q, r⟩ := h
    obtain ⟨na, nd⟩ := List.nodup_cons.mp nd
    obtain ⟨f', s, g⟩ := OwL.low r nd k' (by omega)
    exact ⟨a :: f', s.cons_cons a, fun A' hA hf => by
      rw [Ow]
      exact ⟨a, xs, f', e, rfl, q, g A' hA fun b hb n => hf b (List.mem_cons_of_mem _ hb) fun z => (List.mem_cons.mp z).elim (fun w => na (w ▸ hb)) n⟩⟩
  | k + 1, .dct ts, v, fp, h, nd, k' + 1, hk => by
    rw [Ow] at h
    obtain ⟨a, xs, f, e, rfl, q, r⟩ := h
    obtain ⟨na, nd⟩ := List.nodup_cons.mp nd
    obtain ⟨f', s, g⟩ := OwK.low r nd k' (by omega)
    exact ⟨a :: f', s.cons_cons a, fun A' hA hf => by
      rw [Ow]
      exact ⟨a, xs, f', e, rfl, q, g A' hA fun b hb n => hf b (List.mem_cons_of_mem _ hb) fun z => (List.mem_cons.mp z).elim (fun w => na (w ▸ hb)) n⟩⟩
  | k + 1, .ins c ts, v, fp, h, nd, k' + 1, hk => by
    rw [Ow] at h
    obtain ⟨a, dx, xs, f, e, rfl, q, r⟩ := h
    obtain ⟨na, nd⟩ := List.nodup_cons.mp nd
    obtain ⟨f', s, g⟩ := OwK.low r nd k' (by omega)
    exact ⟨a :: f', s.cons_cons a, fun A' hA hf => by
      rw [Ow]
      exact ⟨a, dx, xs, f', e, rfl, q, g A' hA fun b hb n => hf b (List.mem_cons_of_mem _ hb) fun z => (List.mem_cons.mp z).elim (fun w => na (w ▸ hb)) n⟩⟩
theorem OwL.low : ∀ {k : Nat} {ts : List T} {v : List V} {fp : List Addr}, OwL K H A k ts v fp → fp.Nodup → ∀ k' : Nat, k' ≤ k → ∃ fp' : List Addr, fp'.Sublist fp ∧ ∀ A' : Addr → Prop, (∀ a, A a → A' a) → (∀ a ∈ fp, a ∉ fp' → A' a) → OwL K H A' k' ts v fp'
  | k, [], v, fp, h, nd, k', hk => by rw [OwL] at h; exact ⟨[], List.nil_sublist _, fun A' _ _ => by rw [OwL]; exact ⟨h.1, rfl⟩⟩
  | k, t :: ts, v, fp, h, nd, k', hk => by
    rw [OwL] at h
    obtain ⟨x, r, f, g, e, rfl, q, z⟩ := h
    obtain ⟨n1, n2, n3⟩ := List.nodup_append.mp nd
    obtain ⟨f', s1, w1⟩ := Ow.low q n1 k' hk
    obtain ⟨g', s2, w2⟩ := OwL.low z n2 k' hk
    exact ⟨f' ++ g', s1.append s2, fun A' hA hf => by
      rw [OwL]
      refine ⟨x, r, f', g', e, rfl, w1 A' hA fun b hb n => hf b (List.mem_append_left _ hb) fun y => ?_, w2 A' hA fun b hb n => hf b (List.mem_append_right _ hb) fun y => ?_⟩
      · exact (List.mem_append.mp y).elim n fun u => n3 b hb b (s2.subset u) rfl
      · exact (List.mem_append.mp y).elim (fun u => n3 b (s1.subset u) b hb rfl) n⟩
theorem OwK.low : ∀ {k : Nat} {ts : List (Key × T)} {v : List (Key × V)} {fp : List Addr}, OwK K H A k ts v fp → fp.Nodup → ∀ k' : Nat, k' ≤ k → ∃ fp' : List Addr, fp'.Sublist fp ∧ ∀ A' : Addr → Prop, (∀ a, A a → A' a) → (∀ a ∈ fp, a ∉ fp' → A' a) → OwK K H A' k' ts v fp'
  | k, [], v, fp, h, nd, k', hk => by rw [OwK] at h; exact ⟨[], List.nil_sublist _, fun A' _ _ => by rw [OwK]; exact ⟨h.1, rfl⟩⟩
  | k, (y, t) :: ts, v, fp, h, nd, k', hk => by
    rw [OwK] at h
    obtain ⟨x, r, f, g, e, rfl, q, z, ko⟩ := h
    obtain ⟨n1, n2, n3⟩ := List.nodup_append.mp nd
    obtain ⟨f', s1, w1⟩ := Ow.low q n1 k' hk
    obtain ⟨g', s2, w2⟩ := OwK.low z n2 k' hk
    exact ⟨f' ++ g', s1.append s2, fun A' hA hf => by
      rw [OwK]
      refine ⟨x, r, f', g', e, rfl, w1 A' hA fun b hb n => hf b (List.mem_append_left _ hb) fun y => ?_, w2 A' hA fun b hb n => hf b (List.mem_append_right _ hb) fun y => ?_, ko⟩
      · exact (List.mem_append.mp y).elim n fun u => n3 b hb b (s2.subset u) rfl
      · exact (List.mem_append.mp y).elim (fun u => n3 b (s1.subset u) b hb rfl) n⟩
end
end

/-! ### lists of addresses by slots -/
theorem mem_flat {fps : List (List Addr)} {j : Nat} {q : List Addr} {a : Addr} (h : fps[j]? = some q) (ha : a ∈ q) : a ∈ fps.flatten := List.mem_flatten.mpr ⟨q, List.mem_of_getElem? h, ha⟩
theorem of_flat {fps : List (List Addr)} {a : Addr} (h : a ∈ fps.flatten) : ∃ (j : Nat) (q : List Addr), fps[j]? = some q ∧ a ∈ q := by
  obtain ⟨q, h1, h2⟩ := List.mem_flatten.mp h
  obtain ⟨j, h3⟩ := List.getElem?_of_mem h1
  exact ⟨j, q, h3, h2⟩
theorem flat_inj : ∀ {fps : List (List Addr)} {i j : Nat} {p q : List Addr} {a : Addr}, fps.flatten.Nodup → fps[i]? = some p → fps[j]? = some q → a ∈ p → a ∈ q → i = j
  | [], i, j, p, q, a, _, h1, _, _, _ => by cases h1
  | f :: fps, 0, 0, p, q, a, _, _, _, _, _ => rfl
  | f :: fps, 0, j + 1, p, q, a, nd, h1, h2, h3, h4 => by
    cases h1
    rw [List.flatten_cons] at nd
    exact absurd rfl ((List.nodup_append.mp nd).2.2 a h3 a (mem_flat (by simpa using h2) h4))
  | f :: fps, i + 1, 0, p, q, a, nd, h1, h2, h3, h4 => by
    cases h2
    rw [List.flatten_cons] at nd
    exact absurd rfl ((List.nodup_append.mp nd).2.2 a h4 a (mem_flat (by simpa using h1) h3))
  | f :: fps, i + 1, j + 1, p, q, a, nd, h1, h2, h3, h4 => by
    rw [List.flatten_cons] at nd
    exact congrArg (· + 1) (flat_inj (List.nodup_append.mp nd).2.1 (by simpa using h1) (by simpa using h2) h3 h4)
theorem flat_sub : ∀ {fps : List (List Addr)} {f : Nat → List Addr}, (∀ (i : Nat) (fp : List Addr), fps[i]? = some fp → (f i).Sublist fp) → (fps.mapIdx fun i _ => f i).flatten.Sublist fps.flatten
  | [], f, h => by simp
  | p :: fps, f, h => by
    rw [List.mapIdx_cons, List.flatten_cons, List.flatten_cons]
    exact (h 0 p rfl).append (flat_sub fun i fp e => h (i + 1) fp (by simpa using e))
theorem flat_set {fps : List (List Addr)} {i : Nat} {fp : List Addr} {a : Addr} (h : a ∈ (fps.set i fp).flatten) : a ∈ fp ∨ ∃ (j : Nat) (q : List Addr), j ≠ i ∧ fps[j]? = some q ∧ a ∈ q := by
  obtain ⟨j, q, h3, h2⟩ := of_flat h
  by_cases hj : i = j
  · subst hj
    by_cases hl : i < fps.length
    · rw [List.getElem?_set_self hl] at h3; cases h3; exact .inl h2
    · rw [List.getElem?_eq_none (by rw [List.length_set]; omega)] at h3; cases h3
  · rw [List.getElem?_set_ne hj] at h3
    exact .inr ⟨j, q, Ne.symm hj, h3, h2⟩
theorem nodup_set {fp : List Addr} (nd : fp.Nodup) : ∀ {fps : List (List Addr)} {i : Nat}, fps.flatten.Nodup → (∀ a ∈ fp, ∀ (j : Nat) (q : List Addr), j ≠ i → fps[j]? = some q → a ∉ q) → (fps.set i fp).flatten.Nodup
  | [], i, _, _ => by simp
  | q :: fps, 0, h, hd => by
    rw [List.set_cons_zero, List.flatten_cons]
    rw [List.flatten_cons] at h
    refine List.nodup_append.mpr ⟨nd, (List.nodup_append.mp h).2.1, fun a ha b hb e => ?_⟩
    subst e
    obtain ⟨j, r, h3, h2⟩ := of_flat hb
    exact hd a ha (j + 1) r (by omega) (by simpa using h3) h2
  | q :: fps, i + 1, h, hd => by
    rw [List.set_cons_succ, List.flatten_cons]
    rw [List.flatten_cons] at h
    obtain ⟨h1, h2, h3⟩ := List.nodup_append.mp h
    refine List.nodup_append.mpr ⟨h1, nodup_set nd h2 fun a ha j r hj hr => hd a ha (j + 1) r (by omega) (by simpa using hr), fun a ha b hb e => ?_⟩
    subst e
    rcases flat_set hb with w | ⟨j, r, hj, hr, hm⟩
    · exact hd a w 0 q (by omega) rfl ha
    · exact h3 a ha a (mem_flat hr hm) rfl

/-! ### depths -/
def leD : List Nat → List Nat → Bool
  | [], _ => true
  | x :: xs, [] => x == 0 && leD xs []
  | x :: xs, d :: ds => Nat.ble x d && leD xs ds
theorem leD_get : ∀ {xs ds : List Nat}, leD xs ds = true → ∀ i, xs.getD i 0 ≤ ds.getD i 0
  | [], ds, _, i => by simp
  | x :: xs, [], h, 0 => by
    have h : (x == 0 && leD xs []) = true := h
    have := (Bool.and_eq_true _ _ ▸ h).1
    simp at this
    simp [this]
  | x :: xs, [], h, i + 1 => by
    have h : (x == 0 && leD xs []) = true := h
    have := leD_get (Bool.and_eq_true _ _ ▸ h).2 i
    simpa using this
  | x :: xs, d :: ds, h, 0 => by
    have h : (Nat.ble x d && leD xs ds) = true := h
    have := Nat.le_of_ble_eq_true (Bool.and_eq_true _ _ ▸ h).1
    simpa using this
  | x :: xs, d :: ds, h, i + 1 => by
    have h : (Nat.ble x d && leD xs ds) = true := h
    have := leD_get (Bool.and_eq_true _ _ ▸ h).2 i
    simpa using this

/-! ### the frame with some levels given away -/
section
variable {K : PySem.W.Frag} {dp dp' : List Nat} {H H' : Hp} {A A' : Addr → Prop} {σ : L2.St} {ν : Fr} {fps : List (List Addr)}
theorem FR.low (F : FR K dp H A σ ν fps) (hl : ∀ i, dp'.getD i 0 ≤ dp.getD i 0) : ∃ (A' : Addr → Prop) (fps' : List (List Addr)), FR K dp' H A' σ ν fps' ∧ (∀ a, A' a ↔ A a ∨ (a ∈ fps.flatten ∧ a ∉ fps'.flatten)) ∧ (∀ (i : Nat) (p' : List Addr), fps'[i]? = some p' → ∃ p, fps[i]? = some p ∧ p'.Sublist p) := by
  have hx : ∀ i : Nat, ∃ fp' : List Addr, (∀ fp : List Addr, fps[i]? = some fp → fp'.Sublist fp ∧ (dp'.getD i 0 = 0 → fp' = []) ∧ ∀ t, ν[i]? = some (some t) → ∃ v, σ[i]? = some (some v) ∧ LowP K H A (dp'.getD i 0) t v fp fp') := fun i => by
    cases e : fps[i]? with
    | none => exact ⟨[], fun fp z => by cases z⟩
    | some fp =>
      by_cases hn : ∃ t, ν[i]? = some (some t)
      · obtain ⟨t, hn⟩ := hn
        obtain ⟨v, fp1, h1, h2, h3⟩ := F.slot i t hn
        rw [e] at h2
        cases h2
        have ndf : fp.Nodup := (List.pairwise_flatten.mp F.nd).1 fp (List.mem_of_getElem? e)
        by_cases hz : dp'.getD i 0 = 0
        · refine ⟨[], fun q z => ?_⟩
          cases z
          refine ⟨List.nil_sublist _, fun _ => rfl, fun u hu => ⟨v, h1, ?_⟩⟩
          rw [hn] at hu; cases hu
          rw [hz]
          exact low_zero h3
        · obtain ⟨fp', lp⟩ := h3.low ndf (dp'.getD i 0) (hl i)
          refine ⟨fp', fun q z => ?_⟩
          cases z
          refine ⟨lp.1, fun z => absurd z hz, fun u hu => ⟨v, h1, ?_⟩⟩
          rw [hn] at hu; cases hu
          exact lp
      · refine ⟨[], fun q z => ?_⟩
        cases z
        exact ⟨List.nil_sublist _, fun _ => rfl, fun t ht => absurd ⟨t, ht⟩ hn⟩
  obtain ⟨f, hf⟩ := Classical.axiomOfChoice hx
  have get : ∀ (i : Nat) (p' : List Addr), (fps.mapIdx fun i _ => f i)[i]? = some p' → ∃ p, fps[i]? = some p ∧ p' = f i := fun i p' e => by
    rw [List.getElem?_mapIdx] at e
    cases e1 : fps[i]? with
    | none => rw [e1] at e; cases e
    | some p => rw [e1] at e; cases e; exact ⟨p, rfl, rfl⟩
  have sub : (fps.mapIdx fun i _ => f i).flatten.Sublist fps.flatten := flat_sub fun i fp e => (hf i fp e).1
  refine ⟨fun a => A a ∨ (a ∈ fps.flatten ∧ a ∉ (fps.mapIdx fun i _ => f i).flatten), fps.mapIdx fun i _ => f i, ?_, fun a => Iff.rfl, fun i p' e => ?_⟩
  · refine ⟨F.lσ, by rw [List.length_mapIdx]; exact F.lf, fun i t e => ?_, F.nd.sublist sub, fun a ha z => ?_, fun a z => ?_, fun a ha => F.odom a (sub.subset ha), fun i fp hz e => ?_, fun i fp hn e => ?_⟩
    · obtain ⟨v, fp, h1, h2, h3⟩ := F.slot i t e
      obtain ⟨g1, g2, g3⟩ := hf i fp h2
      obtain ⟨w, h1', lp⟩ := g3 t e
      rw [h1] at h1'; cases h1'
      refine ⟨v, f i, h1, by rw [List.getElem?_mapIdx, h2]; rfl, lp.2 _ (fun a m => .inl m) fun a ha nf => .inr ⟨mem_flat h2 ha, fun z => ?_⟩⟩
      obtain ⟨j, q, hj, hm⟩ := of_flat z
      obtain ⟨p, hp, rfl⟩ := get j q hj
      have := flat_inj F.nd h2 hp ha ((hf j p hp).1.subset hm)
      subst this
      exact nf hm
    · rcases z with z | z
      · exact F.dj a (sub.subset ha) z
      · exact z.2 ha
    · rcases z with z | z
      · exact F.dom a z
      · exact F.odom a z.1
    · obtain ⟨p, hp, rfl⟩ := get i fp e
      exact (hf i p hp).2.1 hz
    · obtain ⟨p, hp, rfl⟩ := get i fp e
      have := F.dead i p hn hp
      subst this
      exact List.eq_nil_of_sublist_nil (hf i _ hp).1
  · obtain ⟨p, hp, rfl⟩ := get i p' e
    exact ⟨p, hp, (hf i p hp).1⟩
end
end VI

namespace VI
open PySem PySem.Spec PyProof.Rows L2

/-! ### statements: what stands at a point of a def -/
inductive Out where
  | nxt (ν : Fr)
  | ret (t : T) (ν : Fr)
  | exc (c : Str) (p : List T) (ν : Fr)
  | stuck
/-- an expression that may change the frame's own things -/
inductive RX where
  | ok (t : T) (ν : Fr)
  | exc (c : Str) (p : List T) (ν : Fr)
  | stuck
inductive BX where
  | ok (b : Bool) (ν : Fr)
  | exc (c : Str) (p : List T) (ν : Fr)
  | stuck
/-- a def's own: the slots of what is handed in to be changed; the depths that an exception, a return leaves; the result's depth -/
structure Fs where
  io : List Nat
  xd : List Nat
  rd : List Nat
  rk : Nat
/-- the entry -/
structure Ent where
  H : Hp
  A : Addr → Prop
  io : List Addr
  lo : List Addr
  σ : L2.St
structure SR (K : PySem.W.Frag) (io : List Nat) (E : Ent) (dp : List Nat) (H : Hp) (A : Addr → Prop) (σ : L2.St) (ν : Fr) (fps : List (List Addr)) : Prop where
  fr : FR K dp H A σ ν fps
  ext : Ext E.H E.A (E.io ++ E.lo) H A
  loc : ∀ (i : Nat) (fp : List Addr), i ∉ io → fps[i]? = some fp → ∀ a ∈ fp, a ∈ E.lo ∨ E.H a = none
  ino : ∀ (i : Nat) (fp : List Addr), i ∈ io → fps[i]? = some fp → ∀ a ∈ fp, a ∈ E.io ++ E.lo ∨ E.H a = none
  iov : ∀ i ∈ io, σ[i]? = E.σ[i]?
/-- what is new, and no one's -/
def Frs (E : Ent) (A : Addr → Prop) (fps : List (List Addr)) (fp : List Addr) : Prop := fp.Nodup ∧ ∀ a ∈ fp, ¬ A a ∧ a ∉ fps.flatten ∧ (a ∈ E.lo ∨ E.H a = none)
theorem frs_nil {E : Ent} {A : Addr → Prop} {fps : List (List Addr)} : Frs E A fps [] := ⟨List.nodup_nil, fun _ z => nomatch z⟩
def PoS (X : Cx) (W : WX) (fs : Fs) (E : Ent) (dp : List Nat) (D : Ends) : Out → Prop
  | .nxt ν => ∀ σ H A fps, SR X.K fs.io E dp H A σ ν fps → D.nx σ H
  | .ret t ν => ∀ σ H A fps v fp, SR X.K fs.io E fs.rd H A σ ν fps → Ow X.K H A fs.rk t v fp → Frs E A fps fp → D.rt v H
  | .exc c p ν => ∀ σ H A fps d, SR X.K fs.io E fs.xd H A σ ν fps → XRel X.K H p d → W (.ref (He.ga X.K c)) d σ H
  | .stuck => False
def PoX (X : Cx) (W : WX) (fs : Fs) (E : Ent) (σ : L2.St) (dp : List Nat) (c : Bool) (k : Nat) (Q : VK) : RX → Prop
  | .ok t ν => ∀ v H A fps fp, SR X.K fs.io E dp H A σ ν fps → Frs E A fps fp → Ow X.K H (Bs A fps.flatten c) k t v fp → Q v H
  | .exc c p ν => ∀ H A fps d, SR X.K fs.io E fs.xd H A σ ν fps → XRel X.K H p d → W (.ref (He.ga X.K c)) d σ H
  | .stuck => False
def PoXB (X : Cx) (W : WX) (fs : Fs) (E : Ent) (σ : L2.St) (dp : List Nat) (Q : Bool → Hp → Prop) : BX → Prop
  | .ok b ν => ∀ H A fps, SR X.K fs.io E dp H A σ ν fps → Q b H
  | .exc c p ν => ∀ H A fps d, SR X.K fs.io E fs.xd H A σ ν fps → XRel X.K H p d → W (.ref (He.ga X.K c)) d σ H
  | .stuck => False
def wpS (X : Cx) (st : Stmt) : TS := fun D σ H => ∀ (pins : List (Addr × Obj)) (s : Shared), Inv X pins σ H s → wpAny (model X.prog X.w) X.A (exec st X.env) (SP X pins D) X.xe s
def wpSs (X : Cx) (st : List Stmt) : TS := fun D σ H => ∀ (pins : List (Addr × Obj)) (s : Shared), Inv X pins σ H s → wpAny (model X.prog X.w) X.A (execs st X.env) (SP X pins D) X.xe s
theorem ps_wp {X : Cx} {st : Stmt} : PS X st (wpS X st) := ⟨fun pins s σ H D I h => h pins s I⟩
theorem pss_wp {X : Cx} {st : List Stmt} : PSs X st (wpSs X st) := ⟨fun pins s σ H D I h => h pins s I⟩
theorem wpS_of {X : Cx} {st : Stmt} {t : TS} (h : PS X st t) {D : Ends} {σ : L2.St} {H : Hp} (q : t D σ H) : wpS X st D σ H := fun pins s I => h.run pins s σ H D I q
theorem wpSs_of {X : Cx} {st : List Stmt} {t : TS} (h : PSs X st t) {D : Ends} {σ : L2.St} {H : Hp} (q : t D σ H) : wpSs X st D σ H := fun pins s I => h.run pins s σ H D I q
structure VS (X : Cx) (W : WX) (fs : Fs) (dp : List Nat) (st : Stmt) (g : Fr → Out) (dp' : List Nat) : Prop where
  run : ∀ {E : Ent} {σ : L2.St} {H : Hp} {A : Addr → Prop} {ν : Fr} {fps : List (List Addr)}, SR X.K fs.io E dp H A σ ν fps → ∀ D, PoS X W fs E dp' D (g ν) → wpS X st D σ H
structure VSs (X : Cx) (W : WX) (fs : Fs) (dp : List Nat) (st : List Stmt) (g : Fr → Out) (dp' : List Nat) : Prop where
  run : ∀ {E : Ent} {σ : L2.St} {H : Hp} {A : Addr → Prop} {ν : Fr} {fps : List (List Addr)}, SR X.K fs.io E dp H A σ ν fps → ∀ D, PoS X W fs E dp' D (g ν) → wpSs X st D σ H
/-- t reads an expression (mostly wpE X e) -/
structure VX (X : Cx) (W : WX) (fs : Fs) (dp : List Nat) (t : TE) (f : Fr → RX) (c : Bool) (k : Nat) (dp' : List Nat) : Prop where
  run : ∀ {E : Ent} {σ : L2.St} {H : Hp} {A : Addr → Prop} {ν : Fr} {fps : List (List Addr)}, SR X.K fs.io E dp H A σ ν fps → ∀ Q : VK, PoX X W fs E σ dp' c k Q (f ν) → t σ H Q
structure VXT (X : Cx) (W : WX) (fs : Fs) (dp : List Nat) (t : TT) (f : Fr → BX) (dp' : List Nat) : Prop where
  run : ∀ {E : Ent} {σ : L2.St} {H : Hp} {A : Addr → Prop} {ν : Fr} {fps : List (List Addr)}, SR X.K fs.io E dp H A σ ν fps → ∀ Q : Bool → Hp → Prop, PoXB X W fs E σ dp' Q (f ν) → t σ H Q

section
variable {K : PySem.W.Frag} {io : List Nat} {E : Ent} {dp dp' : List Nat} {H H' : Hp} {A A' : Addr → Prop} {σ : L2.St} {ν : Fr} {fps : List (List Addr)}
theorem Ext.refl {own : List Addr} (hd : ∀ a, A a → H a ≠ none) : Ext H A own H A := ⟨fun _ _ h _ => h, fun _ h => h, fun _ h => .inl h, hd, fun _ h => h⟩
theorem Ext.same {H0 : Hp} {A0 : Addr → Prop} {own : List Addr} (x : Ext H0 A0 own H A) (s : Same H H') : Ext H0 A0 own H' A :=
  ⟨fun a o h n => s a o (x.keep a o h n), x.more, x.new, fun a h => s.dom (x.dom a h), fun a h => s.dom (x.dm a h)⟩
theorem SR.same (R : SR K io E dp H A σ ν fps) (s : Same H H') : SR K io E dp H' A σ ν fps := ⟨R.fr.mono s, R.ext.same s, R.loc, R.ino, R.iov⟩
theorem SR.e0 (R : SR K io E dp H A σ ν fps) {a : Addr} (h : H a = none) : E.H a = none := by
  cases e : E.H a with
  | none => rfl
  | some o => exact absurd h (R.ext.dm a (by rw [e]; simp))
theorem SR.own (R : SR K io E dp H A σ ν fps) {a : Addr} (h : a ∈ fps.flatten) : E.H a = none ∨ a ∈ E.io ++ E.lo := by
  obtain ⟨j, q, h1, h2⟩ := of_flat h
  by_cases hj : j ∈ io
  · exact (R.ino j q hj h1 a h2).symm
  · rcases R.loc j q hj h1 a h2 with z | z
    · exact .inr (List.mem_append_right _ z)
    · exact .inl z
/-- what is new is frozen, but what lies at fp -/
theorem SR.take (R : SR K io E dp H A σ ν fps) (s : Same H H') (fp : List Addr) (hf : ∀ a ∈ fp, H a = none) : SR K io E dp H' (Nw H H' (Bs A fps.flatten true) fp) σ ν fps := by
  have hA : ∀ a, A a → Nw H H' (Bs A fps.flatten true) fp a := fun a m => ⟨.inl (.inl m), fun z => R.fr.dom a m (hf a z)⟩
  have dom : ∀ a, Nw H H' (Bs A fps.flatten true) fp a → H' a ≠ none := fun a m => R.fr.nwdom s m.to0
  refine ⟨(R.fr.mono s).more hA (fun a ha m => ?_) dom, ⟨fun a o h n => s a o (R.ext.keep a o h n), fun a h => hA a (R.ext.more a h), fun a h => ?_, dom, fun a h => s.dom (R.ext.dm a h)⟩, R.loc, R.ino, R.iov⟩
  · obtain ⟨(m | ⟨z, _⟩) | ⟨m, _⟩, _⟩ := m
    · exact R.fr.dj a ha m
    · cases z
    · exact R.fr.odom a ha m
  · obtain ⟨(m | ⟨z, _⟩) | ⟨m, _⟩, _⟩ := h
    · exact R.ext.new a m
    · cases z
    · exact .inr (.inl (R.e0 m))
theorem SR.low (R : SR K io E dp H A σ ν fps) (hl : leD dp' dp = true) : ∃ (A' : Addr → Prop) (fps' : List (List Addr)), SR K io E dp' H A' σ ν fps' ∧ (∀ a, A' a ↔ A a ∨ (a ∈ fps.flatten ∧ a ∉ fps'.flatten)) ∧ (∀ (i : Nat) (p' : List Addr), fps'[i]? = some p' → ∃ p, fps[i]? = some p ∧ p'.Sublist p) := by
  obtain ⟨A', fps', F, iff, sub⟩ := R.fr.low (leD_get hl)
  refine ⟨A', fps', ⟨F, ⟨R.ext.keep, fun a m => (iff a).mpr (.inl (R.ext.more a m)), fun a m => ?_, F.dom, R.ext.dm⟩, fun i p hi e a ha => ?_, fun i p hi e a ha => ?_, R.iov⟩, iff, sub⟩
  · rcases (iff a).mp m with z | z
    · exact R.ext.new a z
    · rcases R.own z.1 with w | w
      · exact .inr (.inl w)
      · exact .inr (.inr w)
  · obtain ⟨q, h1, h2⟩ := sub i p e
    exact R.loc i q hi h1 a (h2.subset ha)
  · obtain ⟨q, h1, h2⟩ := sub i p e
    exact R.ino i q hi h1 a (h2.subset ha)
theorem FR.omu (F : FR K dp H A σ ν fps) : ∀ a ∈ fps.flatten, ∃ o, H a = some o ∧ Mut (some o) := fun a ha => by
  obtain ⟨i, fp, h3, h2⟩ := of_flat ha
  have hi : i < ν.length := by rw [← F.lf]; exact (List.getElem?_eq_some_iff.mp h3).1
  have h4 : ν[i]? = some ν[i] := List.getElem?_eq_getElem hi
  cases e : ν[i] with
  | none => rw [F.dead i fp (by rw [h4, e]) h3] at h2; cases h2
  | some t =>
    obtain ⟨v, fp', _, h5, h6⟩ := F.slot i t (by rw [h4, e])
    rw [h3] at h5
    cases h5
    exact h6.mu a h2
theorem Bs.true' {own : List Addr} {a : Addr} (h : Bs A own true a) : A a := h.elim id fun z => by cases z.1
/-- the frame with another thing in slot i: v at fp -/
theorem FR.put (F : FR K dp H A σ ν fps) {i k : Nat} {u : T} {v : V} {fp : List Addr} (hl : i < ν.length) (hd : i < dp.length) (r : Ow K H A k u v fp) (nd : fp.Nodup)
    (dis : ∀ a ∈ fp, a ∉ fps.flatten) (nA : ∀ a ∈ fp, ¬ A a) : FR K (dp.set i k) H A (σ.set i (some v)) (ν.set i (some u)) (fps.set i fp) where
  lσ := by rw [List.length_set, List.length_set]; exact F.lσ
  lf := by rw [List.length_set, List.length_set]; exact F.lf
  slot := fun j w e => by
    by_cases hj : i = j
    · subst hj
      rw [List.getElem?_set_self hl] at e
      cases e
      refine ⟨v, fp, by rw [List.getElem?_set_self (by rw [F.lσ]; exact hl)], by rw [List.getElem?_set_self (by rw [F.lf]; exact hl)], ?_⟩
      rw [List.getD_eq_getElem?_getD, List.getElem?_set_self hd]
      exact r
    · rw [List.getElem?_set_ne hj] at e
      rw [List.getElem?_set_ne hj, List.getElem?_set_ne hj, List.getD_eq_getElem?_getD, List.getElem?_set_ne hj, ← List.getD_eq_getElem?_getD]
      exact F.slot j w e
  nd := nodup_set nd F.nd fun a ha j q _ e m => dis a ha (mem_flat e m)
  dj := fun a ha => by
    rcases flat_set ha with w | ⟨j, q, _, h3, h2⟩
    · exact nA a w
    · exact F.dj a (mem_flat h3 h2)
  dom := F.dom
  odom := fun a ha => by
    rcases flat_set ha with w | ⟨j, q, _, h3, h2⟩
    · exact r.dom a w
    · exact F.odom a (mem_flat h3 h2)
  z := fun j q hz e => by
    by_cases hj : i = j
    · subst hj
      have hi : i < fps.length := by rw [F.lf]; exact hl
      rw [List.getElem?_set_self hi] at e
      cases e
      rw [List.getD_eq_getElem?_getD, List.getElem?_set_self hd] at hz
      have hz : k = 0 := hz
      subst hz
      exact r.zero
    · rw [List.getElem?_set_ne hj] at e
      rw [List.getD_eq_getElem?_getD, List.getElem?_set_ne hj, ← List.getD_eq_getElem?_getD] at hz
      exact F.z j q hz e
  dead := fun j q e1 e2 => by
    by_cases hj : i = j
    · subst hj
      rw [List.getElem?_set_self hl] at e1; cases e1
    · rw [List.getElem?_set_ne hj] at e1 e2
      exact F.dead j q e1 e2
/-- slot i is empty from now on -/
theorem FR.void (F : FR K dp H A σ ν fps) (i : Nat) : FR K dp H A σ (ν.set i none) (fps.set i []) where
  lσ := by rw [List.length_set]; exact F.lσ
  lf := by rw [List.length_set, List.length_set]; exact F.lf
  slot := fun j w e => by
    by_cases hj : i = j
    · subst hj
      by_cases hl : i < ν.length
      · rw [List.getElem?_set_self hl] at e; cases e
      · rw [List.getElem?_eq_none (by rw [List.length_set]; omega)] at e; cases e
    · rw [List.getElem?_set_ne hj] at e ⊢
      exact F.slot j w e
  nd := nodup_set List.nodup_nil F.nd fun a ha => nomatch ha
  dj := fun a ha => by
    rcases flat_set ha with w | ⟨j, q, _, h3, h2⟩
    · cases w
    · exact F.dj a (mem_flat h3 h2)
  dom := F.dom
  odom := fun a ha => by
    rcases flat_set ha with w | ⟨j, q, _, h3, h2⟩
    · cases w
    · exact F.odom a (mem_flat h3 h2)
  z := fun j q hz e => by
    by_cases hj : i = j
    · subst hj
      by_cases hl : i < fps.length
      · rw [List.getElem?_set_self hl] at e; cases e; rfl
      · rw [List.getElem?_eq_none (by rw [List.length_set]; omega)] at e; cases e
    · rw [List.getElem?_set_ne hj] at e
      exact F.z j q hz e
  dead := fun j q e1 e2 => by
    by_cases hj : i = j
    · subst hj
      by_cases hl : i < fps.length
      · rw [List.getElem?_set_self hl] at e2; cases e2; rfl
      · rw [List.getElem?_eq_none (by rw [List.length_set]; omega)] at e2; cases e2
    · rw [List.getElem?_set_ne hj] at e1 e2
      exact F.dead j q e1 e2
end

section
variable {X : Cx} {W : WX} {fs : Fs} {dp dp' dp1 dp2 : List Nat} {st : Stmt} {rest body orelse : List Stmt} {g g' : Fr → Out} {e : Expr} {f : Fr → Res T} {fx : Fr → RX} {ft : Fr → Res Bool} {fb : Fr → BX} {c : Bool} {k : Nat} {pos : Pos} {t : TE} {tt : TT}
/-! pure expressions -/
def pX (f : Fr → Res T) : Fr → RX := fun ν => match f ν with
  | .ok t => .ok t ν
  | .exc c p => .exc c p ν
  | .stuck => .stuck
def pB (f : Fr → Res Bool) : Fr → BX := fun ν => match f ν with
  | .ok t => .ok t ν
  | .exc c p => .exc c p ν
  | .stuck => .stuck
/-- an exception of a pure expression -/
theorem exc_st {E : Ent} {σ : L2.St} {H : Hp} {A : Addr → Prop} {ν : Fr} {fps : List (List Addr)} {cl : Str} {p : List T} (R : SR X.K fs.io E dp H A σ ν fps) (hx : leD fs.xd dp = true) (q : ∀ H A fps d, SR X.K fs.io E fs.xd H A σ ν fps → XRel X.K H p d → W (.ref (He.ga X.K cl)) d σ H) : ∀ H' d, Same H H' → XRel X.K H' p d → W (.ref (He.ga X.K cl)) d σ H' :=
  fun H' d s x => by
    obtain ⟨A', fps', R', _⟩ := (R.same s).low hx
    exact q H' A' fps' d R' x
theorem vx_of (h : VE X W dp e f c k) (hx : leD fs.xd dp = true) : VX X W fs dp (wpE X e) (pX f) c k dp := by
  refine ⟨fun {E σ H A ν fps} R Q q => h.run R.fr Q ?_⟩
  unfold pX at q
  cases e1 : f ν with
  | stuck => rw [e1] at q; exact q
  | exc cl p => rw [e1] at q; exact exc_st R hx q
  | ok u =>
    rw [e1] at q
    intro v H' fp s nd fr r
    have R1 := R.take s fp fr
    refine q v H' _ fps fp R1 ⟨nd, fun a ha => ⟨fun m => m.2 ha, fun m => R.fr.odom a m (fr a ha), .inr (R.e0 (fr a ha))⟩⟩ (r.mono (Same.refl _) fun a m => ?_)
    obtain ⟨(m | ⟨z, m⟩) | m, nf⟩ := m
    · exact .inl ⟨.inl (.inl m), nf⟩
    · exact .inr ⟨z, m⟩
    · exact .inl ⟨.inr m, nf⟩
theorem vxt_of (h : VT X W dp e ft) (hx : leD fs.xd dp = true) : VXT X W fs dp (wpT X e) (pB ft) dp := by
  refine ⟨fun {E σ H A ν fps} R Q q => h.run R.fr Q ?_⟩
  unfold pB at q
  cases e1 : ft ν with
  | stuck => rw [e1] at q; exact q
  | exc cl p => rw [e1] at q; exact exc_st R hx q
  | ok u =>
    rw [e1] at q
    exact fun H' s => q H' A fps (R.same s)
/-- a slot's own thing, moved out -/
def xMove (i : Nat) : Fr → RX := fun ν => match ν[i]? with
  | some (some t) => .ok t (ν.set i none)
  | _ => .stuck
theorem vx_move {i : Nat} {x : Str} (hN : X.N[i]? = some x) (hv : Vis X.env.scope x) (hd : (x == ("__debug__" : Str)) = false) (hcd : (x == ("__classdict__" : Str)) = false) (hi : i ∉ fs.io) : VX X W fs dp (wpE X (.Name x pos)) (xMove i) true (dp.getD i 0) dp := by
  refine ⟨fun {E σ H A ν fps} R Q q => ?_⟩
  unfold xMove at q
  split at q
  · rename_i u e'
    obtain ⟨v, fp, h1, h2, h3⟩ := R.fr.slot i u e'
    refine wpE_of (pe_var hN hv hd hcd) ⟨v, h1, ?_⟩
    have ndf : fp.Nodup := (List.pairwise_flatten.mp R.fr.nd).1 fp (List.mem_of_getElem? h2)
    refine q v H A (fps.set i []) fp ⟨R.fr.void i, R.ext, fun j p hj e a ha => ?_, fun j p hj e a ha => ?_, R.iov⟩ ⟨ndf, fun a ha => ⟨R.fr.dj a (mem_flat h2 ha), fun m => ?_, R.loc i fp hi h2 a ha⟩⟩ (h3.mono (Same.refl _) fun a m => .inl m)
    · by_cases hji : i = j
      · subst hji
        by_cases hl : i < fps.length
        · rw [List.getElem?_set_self hl] at e; cases e; cases ha
        · rw [List.getElem?_eq_none (by rw [List.length_set]; omega)] at e; cases e
      · rw [List.getElem?_set_ne hji] at e
        exact R.loc j p hj e a ha
    · have hji : i ≠ j := fun z => hi (z ▸ hj)
      rw [List.getElem?_set_ne hji] at e
      exact R.ino j p hj e a ha
    · rcases flat_set m with w | ⟨j, p, hj, e, w⟩
      · cases w
      · exact hj (flat_inj R.fr.nd e h2 w ha)
  · exact q.elim
/-- less is promised -/
theorem VX.lowk (h : VX X W fs dp t fx c k dp') {k' : Nat} (hk : k' ≤ k) : VX X W fs dp t fx c k' dp' := by
  refine ⟨fun {E σ H A ν fps} R Q q => h.run R Q ?_⟩
  cases e1 : fx ν with
  | stuck => rw [e1] at q; exact q
  | exc cl p => rw [e1] at q; exact q
  | ok u ν' =>
    rw [e1] at q
    intro v H' A' fps' fp R' fr r
    obtain ⟨fp', sub, lp⟩ := r.low fr.1 k' hk
    -- what is given away is frozen
    have nA : ∀ a ∈ fp, ¬ A' a := fun a ha => (fr.2 a ha).1
    refine q v H' (fun a => A' a ∨ (a ∈ fp ∧ a ∉ fp')) fps' fp' ⟨R'.fr.more (fun a m => .inl m) (fun a ha m => ?_) fun a m => ?_, ⟨R'.ext.keep, fun a m => .inl (R'.ext.more a m), fun a m => ?_, fun a m => ?_, R'.ext.dm⟩, R'.loc, R'.ino, R'.iov⟩ ⟨fr.1.sublist sub, fun a ha => ⟨fun m => ?_, (fr.2 a (sub.subset ha)).2⟩⟩ (lp _ (fun a m => ?_) fun a ha n => .inl (.inr ⟨ha, n⟩))
    · rcases m with m | m
      · exact R'.fr.dj a ha m
      · exact (fr.2 a m.1).2.1 ha
    · rcases m with m | m
      · exact R'.fr.dom a m
      · exact r.dom a m.1
    · rcases m with m | m
      · exact R'.ext.new a m
      · rcases (fr.2 a m.1).2.2 with z | z
        · exact .inr (.inr (List.mem_append_right _ z))
        · exact .inr (.inl z)
    · rcases m with m | m
      · exact R'.fr.dom a m
      · exact r.dom a m.1
    · rcases m with m | m
      · exact nA a (sub.subset ha) m
      · exact m.2 ha
    · rcases m with m | m
      · exact .inl (.inl m)
      · exact .inr m
/-! blocks -/
def oNil : Fr → Out := fun ν => .nxt ν
def oSeq (g g' : Fr → Out) : Fr → Out := fun ν => match g ν with
  | .nxt ν' => g' ν'
  | o => o
theorem vss_nil : VSs X W fs dp [] oNil dp := ⟨fun {E σ H A ν fps} R D q => wpSs_of pss_nil (q σ H A fps R)⟩
theorem vss_cons (h1 : VS X W fs dp st g dp1) (h2 : VSs X W fs dp1 rest g' dp2) : VSs X W fs dp (st :: rest) (oSeq g g') dp2 := by
  refine ⟨fun {E σ H A ν fps} R D q => wpSs_of (pss_cons ps_wp pss_wp) ?_⟩
  refine h1.run R _ ?_
  unfold oSeq at q
  cases e1 : g ν with
  | nxt ν' =>
    rw [e1] at q
    exact fun σ' H' A' fps' R' => h2.run R' D q
  | ret t ν' => rw [e1] at q; exact q
  | exc c p ν' => rw [e1] at q; exact q
  | stuck => rw [e1] at q; exact q
theorem vss_one (h1 : VS X W fs dp st g dp1) : VSs X W fs dp [st] g dp1 := by
  refine ⟨fun {E σ H A ν fps} R D q => wpSs_of (pss_cons ps_wp pss_nil) (h1.run R _ ?_)⟩
  cases e1 : g ν with
  | nxt ν' => rw [e1] at q; exact q
  | ret t ν' => rw [e1] at q; exact q
  | exc c p ν' => rw [e1] at q; exact q
  | stuck => rw [e1] at q; exact q
theorem vs_pass : VS X W fs dp (.Pass pos) oNil dp := ⟨fun {E σ H A ν fps} R D q => wpS_of ps_pass (q σ H A fps R)⟩
/-- less stands behind it -/
theorem PoS.low {E : Ent} {D : Ends} (hl : leD dp' dp = true) {o : Out} (q : PoS X W fs E dp' D o) : PoS X W fs E dp D o := by
  cases o with
  | nxt ν =>
    intro σ H A fps R
    obtain ⟨A', fps', R', _⟩ := R.low hl
    exact q σ H A' fps' R'
  | ret t ν => exact q
  | exc c p ν => exact q
  | stuck => exact q
theorem VSs.low (h : VSs X W fs dp body g dp1) (hl : leD dp' dp1 = true) : VSs X W fs dp body g dp' := ⟨fun R D q => h.run R D (PoS.low hl q)⟩
theorem VSs.pre (h : VSs X W fs dp body g dp1) (hl : leD dp dp' = true) : VSs X W fs dp' body g dp1 := ⟨fun R D q => by
  obtain ⟨A', fps', R', _⟩ := R.low hl
  exact h.run R' D q⟩
/-- no way out at the end -/
def NoN (g : Fr → Out) : Prop := ∀ ν ν', g ν ≠ .nxt ν'
theorem VSs.non (h : VSs X W fs dp body g dp1) (hn : NoN g) (dp' : List Nat) : VSs X W fs dp body g dp' := ⟨fun {E σ H A ν fps} R D q => h.run R D (by
  cases e1 : g ν with
  | nxt ν' => exact absurd e1 (hn ν ν')
  | ret t ν' => rw [e1] at q; exact q
  | exc c p ν' => rw [e1] at q; exact q
  | stuck => rw [e1] at q; exact q)⟩
def oExpr (f : Fr → RX) : Fr → Out := fun ν => match f ν with
  | .ok _ ν' => .nxt ν'
  | .exc c p ν' => .exc c p ν'
  | .stuck => .stuck
theorem PoX.exc {E : Ent} {σ : L2.St} {D : Ends} {cl : Str} {p : List T} {ν : Fr} (q : PoS X W fs E dp' D (.exc cl p ν)) : ∀ H A fps d, SR X.K fs.io E fs.xd H A σ ν fps → XRel X.K H p d → W (.ref (He.ga X.K cl)) d σ H :=
  fun H A fps d R x => q σ H A fps d R x
theorem vs_expr (h : VX X W fs dp (wpE X e) fx c k dp') (hs : swapsWith e none pos.line X.env = pure false) : VS X W fs dp (.Expr e pos) (oExpr fx) dp' := by
  refine ⟨fun {E σ H A ν fps} R D q => wpS_of (ps_expr pe_wp hs) ?_⟩
  refine h.run R _ ?_
  unfold oExpr at q
  cases e1 : fx ν with
  | ok t ν' => rw [e1] at q; exact fun v H' A' fps' fp R' _ _ => q σ H' A' fps' R'
  | exc cl p ν' => rw [e1] at q; exact PoX.exc q
  | stuck => rw [e1] at q; exact q
/-! name = e -/
def oAsg (i : Nat) (f : Fr → RX) : Fr → Out := fun ν => match f ν with
  | .ok t ν' => .nxt (ν'.set i (some t))
  | .exc c p ν' => .exc c p ν'
  | .stuck => .stuck
theorem getElem_set_ne' {σ : L2.St} {i j : Nat} {v : Option V} (h : i ≠ j) : (σ.set i v)[j]? = σ[j]? := List.getElem?_set_ne h
theorem SR.put {K : PySem.W.Frag} {io : List Nat} {E : Ent} {H : Hp} {A : Addr → Prop} {σ : L2.St} {ν : Fr} {fps : List (List Addr)} (R : SR K io E dp H A σ ν fps) {i k : Nat} {u : T} {v : V} {fp : List Addr} (hl : i < ν.length) (hd : i < dp.length) (hi : i ∉ io) (r : Ow K H A k u v fp) (fr : Frs E A fps fp) : SR K io E (dp.set i k) H A (σ.set i (some v)) (ν.set i (some u)) (fps.set i fp) := by
  refine ⟨R.fr.put hl hd r fr.1 (fun a ha => (fr.2 a ha).2.1) fun a ha => (fr.2 a ha).1, R.ext, fun j p hj e a ha => ?_, fun j p hj e a ha => ?_, fun j hj => ?_⟩
  · by_cases hji : i = j
    · subst hji
      rw [List.getElem?_set_self (by rw [R.fr.lf]; exact hl)] at e
      cases e
      exact (fr.2 a ha).2.2
    · rw [List.getElem?_set_ne hji] at e
      exact R.loc j p hj e a ha
  · have hji : i ≠ j := fun z => hi (z ▸ hj)
    rw [List.getElem?_set_ne hji] at e
    exact R.ino j p hj e a ha
  · rw [getElem_set_ne' fun z : i = j => hi (z ▸ hj)]
    exact R.iov j hj
theorem vs_asg {i : Nat} (rule : PS X st (tAsg t (gName i))) (h : VX X W fs dp t fx true k dp') (hi : i ∉ fs.io) (hd : i < dp'.length) (hl : i < X.N.length) (hlen : ∀ {σ H D}, (∀ (pins : List (Addr × Obj)) (s : Shared), Inv X pins σ H s → σ.length = X.N.length → wpAny (model X.prog X.w) X.A (exec st X.env) (SP X pins D) X.xe s) → wpS X st D σ H := fun h pins s I => h pins s I I.len) : VS X W fs dp st (oAsg i fx) (dp'.set i k) := by
  refine ⟨fun {E σ H A ν fps} R D q => hlen fun pins s I ln => rule.run pins s σ H D I ?_⟩
  refine h.run R _ ?_
  unfold oAsg at q
  cases e1 : fx ν with
  | exc cl p ν' => rw [e1] at q; exact PoX.exc q
  | stuck => rw [e1] at q; exact q
  | ok u ν' =>
    rw [e1] at q
    intro v H' A' fps' fp R' fr r
    exact q _ H' A' (fps'.set i fp) (R'.put (by rw [← R'.fr.lσ, ln]; exact hl) hd hi (r.mono (Same.refl _) fun a m => m.true') fr)
/-! return -/
def oRet (f : Fr → RX) : Fr → Out := fun ν => match f ν with
  | .ok t ν' => .ret t ν'
  | .exc c p ν' => .exc c p ν'
  | .stuck => .stuck
def zeros : List Nat → Bool := fun l => l.all (· == 0)
theorem zeros_get : ∀ {l : List Nat}, zeros l = true → ∀ i, l.getD i 0 = 0
  | [], _, i => by simp
  | x :: l, h, 0 => by simp [zeros] at h; simp [h.1]
  | x :: l, h, i + 1 => by
    simp only [zeros, List.all_cons, Bool.and_eq_true] at h
    have := zeros_get (l := l) h.2 i
    simpa using this
theorem ret_ok {E : Ent} {σ : L2.St} {D : Ends} (hk : fs.rk ≤ k) (hl : leD fs.rd dp' = true) (hc : c = true ∨ zeros fs.rd = true) {u : T} {ν' : Fr} (q : PoS X W fs E dp' D (.ret u ν')) : ∀ v H A fps fp, SR X.K fs.io E dp' H A σ ν' fps → Frs E A fps fp → Ow X.K H (Bs A fps.flatten c) fs.rk u v fp → D.rt v H := by
  intro v H' A' fps' fp R' fr r
  obtain ⟨A2, fps2, R2, iff, sub⟩ := R'.low hl
  refine q σ H' A2 fps2 v fp R2 (r.mono (Same.refl _) fun a m => ?_) ⟨fr.1, fun a ha => ⟨fun m => ?_, fun m => ?_, (fr.2 a ha).2.2⟩⟩
  · rcases m with m | ⟨z, m⟩
    · exact (iff a).mpr (.inl m)
    · rcases hc with rfl | hz
      · cases z
      · refine (iff a).mpr (.inr ⟨m, fun w => ?_⟩)
        obtain ⟨j, p, h1, h2⟩ := of_flat w
        rw [R2.fr.z j p (zeros_get hz j) h1] at h2
        cases h2
  · rcases (iff a).mp m with m | m
    · exact (fr.2 a ha).1 m
    · exact (fr.2 a ha).2.1 m.1
  · obtain ⟨j, p, h1, h2⟩ := of_flat m
    obtain ⟨p0, h3, h4⟩ := sub j p h1
    exact (fr.2 a ha).2.1 (mem_flat h3 (h4.subset h2))
theorem vs_ret (h : VX X W fs dp (wpE X e) fx c k dp') (hk : fs.rk ≤ k) (hl : leD fs.rd dp' = true) (hc : c = true ∨ zeros fs.rd = true) (dpx : List Nat) : VS X W fs dp (.Return (some e) pos) (oRet fx) dpx := by
  refine ⟨fun {E σ H A ν fps} R D q => wpS_of (ps_ret pe_wp) ?_⟩
  refine (h.lowk hk).run R _ ?_
  unfold oRet at q
  cases e1 : fx ν with
  | exc cl p ν' => rw [e1] at q; exact PoX.exc q
  | stuck => rw [e1] at q; exact q
  | ok u ν' =>
    rw [e1] at q
    have q : PoS X W fs E dp' D (.ret u ν') := q
    exact ret_ok (W := W) (Nat.le_refl _) hl hc q
theorem vs_retN (hl : leD fs.rd dp = true) (dpx : List Nat) : VS X W fs dp (.Return none pos) (oRet (pX (eC .non))) dpx := by
  refine ⟨fun {E σ H A ν fps} R D q => wpS_of ps_retN ?_⟩
  obtain ⟨A2, fps2, R2, iff, sub⟩ := R.low hl
  exact q σ H A2 fps2 .non [] R2 ow_non frs_nil
/-! if -/
def oIf (ft : Fr → BX) (g g' : Fr → Out) : Fr → Out := fun ν => match ft ν with
  | .ok true ν' => g ν'
  | .ok false ν' => g' ν'
  | .exc c p ν' => .exc c p ν'
  | .stuck => .stuck
theorem vs_if (ht : VXT X W fs dp (wpT X e) fb dp1) (h1 : VSs X W fs dp1 body g dp') (h2 : VSs X W fs dp1 orelse g' dp') : VS X W fs dp (.If e body orelse pos) (oIf fb g g') dp' := by
  refine ⟨fun {E σ H A ν fps} R D q => wpS_of (ps_if pt_wp pss_wp pss_wp) ?_⟩
  refine ht.run R _ ?_
  unfold oIf at q
  cases e1 : fb ν with
  | exc cl p ν' => rw [e1] at q; exact PoX.exc q
  | stuck => rw [e1] at q; exact q
  | ok b ν' =>
    rw [e1] at q
    intro H' A' fps' R'
    cases b with
    | true => exact iteT (h1.run R' D q)
    | false => exact iteF (h2.run R' D q)
end
end VI

namespace VI
open PySem PySem.Spec PyProof.Rows L2

/-! ### entered anew -/
def loF (io : List Nat) (fps : List (List Addr)) : List Addr := (fps.mapIdx fun i p => if i ∈ io then [] else p).flatten
def ioF (io : List Nat) (fps : List (List Addr)) : List Addr := (fps.mapIdx fun i p => if i ∈ io then p else []).flatten
section
variable {io : List Nat} {fps : List (List Addr)} {a : Addr}
theorem mem_loF : a ∈ loF io fps ↔ ∃ (i : Nat) (p : List Addr), i ∉ io ∧ fps[i]? = some p ∧ a ∈ p := by
  unfold loF
  constructor
  · intro h
    obtain ⟨j, q, h1, h2⟩ := of_flat h
    rw [List.getElem?_mapIdx] at h1
    cases e : fps[j]? with
    | none => rw [e] at h1; cases h1
    | some p =>
      rw [e] at h1
      by_cases hj : j ∈ io
      · simp [hj] at h1; rw [h1] at h2; cases h2
      · simp [hj] at h1; exact ⟨j, p, hj, e, by rw [h1]; exact h2⟩
  · rintro ⟨i, p, hi, e, ha⟩
    exact mem_flat (j := i) (q := p) (by rw [List.getElem?_mapIdx, e]; simp [hi]) ha
theorem mem_ioF : a ∈ ioF io fps ↔ ∃ (i : Nat) (p : List Addr), i ∈ io ∧ fps[i]? = some p ∧ a ∈ p := by
  unfold ioF
  constructor
  · intro h
    obtain ⟨j, q, h1, h2⟩ := of_flat h
    rw [List.getElem?_mapIdx] at h1
    cases e : fps[j]? with
    | none => rw [e] at h1; cases h1
    | some p =>
      rw [e] at h1
      by_cases hj : j ∈ io
      · simp [hj] at h1; exact ⟨j, p, hj, e, by rw [h1]; exact h2⟩
      · simp [hj] at h1; rw [h1] at h2; cases h2
  · rintro ⟨i, p, hi, e, ha⟩
    exact mem_flat (j := i) (q := p) (by rw [List.getElem?_mapIdx, e]; simp [hi]) ha
end
def reE (io : List Nat) (H : Hp) (A : Addr → Prop) (σ : L2.St) (fps : List (List Addr)) : Ent := ⟨H, A, ioF io fps, loF io fps, σ⟩
section
variable {K : PySem.W.Frag} {io : List Nat} {E : Ent} {dp dp' : List Nat} {H H' : Hp} {A A' : Addr → Prop} {σ σ' : L2.St} {ν ν' : Fr} {fps fps' : List (List Addr)}
theorem SR.re (R : SR K io E dp H A σ ν fps) : SR K io (reE io H A σ fps) dp H A σ ν fps :=
  ⟨R.fr, Ext.refl R.fr.dom, fun i p hi e a ha => .inl (mem_loF.mpr ⟨i, p, hi, e, ha⟩), fun i p hi e a ha => .inl (List.mem_append_left _ (mem_ioF.mpr ⟨i, p, hi, e, ha⟩)), fun _ _ => rfl⟩
theorem SR.unlo (R : SR K io E dp H A σ ν fps) {a : Addr} (h : a ∈ loF io fps ∨ H a = none) : a ∈ E.lo ∨ E.H a = none := by
  rcases h with z | z
  · obtain ⟨i, p, hi, e, ha⟩ := mem_loF.mp z
    exact R.loc i p hi e a ha
  · exact .inr (R.e0 z)
theorem SR.unown (R : SR K io E dp H A σ ν fps) {a : Addr} (h : a ∈ ioF io fps ++ loF io fps) : E.H a = none ∨ a ∈ E.io ++ E.lo := by
  rcases List.mem_append.mp h with z | z
  · obtain ⟨i, p, hi, e, ha⟩ := mem_ioF.mp z
    exact (R.ino i p hi e a ha).symm
  · rcases R.unlo (.inl z) with w | w
    · exact .inr (List.mem_append_right _ w)
    · exact .inl w
theorem SR.trans (R : SR K io E dp H A σ ν fps) (R' : SR K io (reE io H A σ fps) dp' H' A' σ' ν' fps') : SR K io E dp' H' A' σ' ν' fps' := by
  refine ⟨R'.fr, ⟨fun a o h n => ?_, fun a h => R'.ext.more a (R.ext.more a h), fun a h => ?_, R'.fr.dom, fun a h => R'.ext.dm a (R.ext.dm a h)⟩, fun i p hi e a ha => R.unlo (R'.loc i p hi e a ha), fun i p hi e a ha => (R'.ino i p hi e a ha).elim (fun z => (R.unown z).symm) fun z => .inr (R.e0 z), fun i hi => (R'.iov i hi).trans (R.iov i hi)⟩
  · refine R'.ext.keep a o (R.ext.keep a o h n) fun z => ?_
    rcases R.unown z with w | w
    · rw [w] at h; cases h
    · exact n w
  · rcases R'.ext.new a h with z | z | z
    · exact R.ext.new a z
    · exact .inr (.inl (R.e0 z))
    · rcases R.unown z with w | w
      · exact .inr (.inl w)
      · exact .inr (.inr w)
theorem sqT_keep {a : Addr} {xs : List V} (h : SqT K H a xs) (hk : ∀ o, H a = some o → ¬ Mut (some o) → H' a = some o) : SqT K H' a xs := by
  rcases h with (h | ⟨ob, h⟩) | h
  · exact .inl (.inl (hk _ h fun z => z))
  · exact .inl (.inr ⟨ob, hk _ h fun z => z⟩)
  · exact .inr h
/-- what is frozen, and the tuples, stay -/
theorem SR.kp (F : FR K dp H A σ ν fps) (R' : SR K io (reE io H A σ fps) dp' H' A' σ' ν' fps') : Kp K A H H' := by
  have own : ∀ {a}, a ∈ ioF io fps ++ loF io fps → a ∈ fps.flatten := fun {a} h => by
    rcases List.mem_append.mp h with z | z
    · obtain ⟨i, p, _, e, ha⟩ := mem_ioF.mp z
      exact mem_flat e ha
    · obtain ⟨i, p, _, e, ha⟩ := mem_loF.mp z
      exact mem_flat e ha
  refine ⟨fun a o m h => R'.ext.keep a o h fun z => F.dj a (own z) m, fun a xs h => sqT_keep h fun o h1 nm => R'.ext.keep a o h1 fun z => ?_⟩
  obtain ⟨o', h2, mu⟩ := F.omu a (own z)
  rw [h1] at h2; cases h2
  exact nm mu
end

section
variable {X : Cx} {W : WX} {fs : Fs} {dp dp' dp1 dp2 : List Nat} {st : Stmt} {rest body orelse : List Stmt} {g g' : Fr → Out} {e tg iter : Expr} {f : Fr → Res T} {fx : Fr → RX} {ft : Fr → Res Bool} {fb : Fr → BX} {fi : Fr → Res (List T)} {h : T → Fr → Res Fr} {c : Bool} {k : Nat} {pos : Pos} {t : TE} {tt : TT} {ws : List Nat}
theorem PoS.re {E : Ent} {D : Ends} {H : Hp} {A : Addr → Prop} {σ : L2.St} {ν : Fr} {fps : List (List Addr)} (R : SR X.K fs.io E dp H A σ ν fps) {o : Out} (q : PoS X W fs E dp' D o) : PoS X W fs (reE fs.io H A σ fps) dp' D o := by
  cases o with
  | nxt ν => exact fun σ' H' A' fps' R' => q σ' H' A' fps' (R.trans R')
  | ret t ν => exact fun σ' H' A' fps' v fp R' r fr => q σ' H' A' fps' v fp (R.trans R') r ⟨fr.1, fun a ha => ⟨(fr.2 a ha).1, (fr.2 a ha).2.1, R.unlo (fr.2 a ha).2.2⟩⟩
  | exc c p ν => exact fun σ' H' A' fps' d R' x => q σ' H' A' fps' d (R.trans R') x
  | stuck => exact q
def Out.and (o : Out) (k : Fr → Out) : Out := match o with
  | .nxt ν => k ν
  | o => o
/-! ### while -/
def whN (fb : Fr → BX) (g : Fr → Out) : Nat → Fr → Out
  | 0, _ => .stuck
  | n + 1, ν => match fb ν with
    | .ok true ν1 => (g ν1).and (whN fb g n)
    | .ok false ν1 => .nxt ν1
    | .exc c p ν1 => .exc c p ν1
    | .stuck => .stuck
theorem whN_mono (fb : Fr → BX) (g : Fr → Out) : ∀ (n m : Nat) (ν : Fr), n ≤ m → whN fb g n ν ≠ .stuck → whN fb g m ν = whN fb g n ν
  | 0, m, ν, _, h => absurd rfl h
  | n + 1, 0, ν, hl, _ => absurd hl (by omega)
  | n + 1, m + 1, ν, hl, h => by
    unfold whN at h ⊢
    cases e1 : fb ν with
    | stuck => rfl
    | exc _ _ _ => rfl
    | ok b ν1 =>
      rw [e1] at h
      cases b with
      | false => rfl
      | true =>
        show (g ν1).and (whN fb g m) = (g ν1).and (whN fb g n)
        have h : (g ν1).and (whN fb g n) ≠ .stuck := h
        cases e2 : g ν1 with
        | nxt ν2 =>
          rw [e2] at h
          exact whN_mono fb g n m ν2 (by omega) h
        | ret _ _ => rfl
        | exc _ _ _ => rfl
        | stuck => rfl
open Classical in
/-- the loop, as far as it goes -/
noncomputable def whL (fb : Fr → BX) (g : Fr → Out) (ν : Fr) : Out := if h : ∃ n, whN fb g n ν ≠ .stuck then whN fb g h.choose ν else .stuck
theorem whL_eq {fb : Fr → BX} {g : Fr → Out} {n : Nat} {ν : Fr} (h : whN fb g n ν ≠ .stuck) : whL fb g ν = whN fb g n ν := by
  have hx : ∃ n, whN fb g n ν ≠ .stuck := ⟨n, h⟩
  unfold whL
  rw [dif_pos hx]
  rcases Nat.le_total hx.choose n with hl | hl
  · exact (whN_mono fb g _ _ ν hl hx.choose_spec).symm
  · exact whN_mono fb g _ _ ν hl h
theorem whL_ex {fb : Fr → BX} {g : Fr → Out} {ν : Fr} (h : whL fb g ν ≠ .stuck) : ∃ n, whN fb g n ν = whL fb g ν ∧ whN fb g n ν ≠ .stuck := by
  unfold whL at h ⊢
  by_cases hx : ∃ n, whN fb g n ν ≠ .stuck
  · rw [dif_pos hx] at h ⊢
    exact ⟨_, rfl, h⟩
  · rw [dif_neg hx] at h; exact absurd rfl h
theorem whL_unf (fb : Fr → BX) (g : Fr → Out) (ν : Fr) : whL fb g ν = match fb ν with
    | .ok true ν1 => (g ν1).and (whL fb g)
    | .ok false ν1 => .nxt ν1
    | .exc c p ν1 => .exc c p ν1
    | .stuck => .stuck := by
  cases e1 : fb ν with
  | stuck =>
    cases e0 : whL fb g ν with
    | stuck => rfl
    | _ =>
      obtain ⟨n, h1, h2⟩ := whL_ex (fb := fb) (g := g) (ν := ν) (by rw [e0]; simp)
      cases n with
      | zero => exact absurd rfl h2
      | succ n => unfold whN at h2; rw [e1] at h2; exact absurd rfl h2
  | exc c p ν1 =>
    have h : whN fb g 1 ν = .exc c p ν1 := by unfold whN; rw [e1]
    rw [whL_eq (n := 1) (by rw [h]; simp), h]
  | ok b ν1 =>
    cases b with
    | false =>
      have h : whN fb g 1 ν = .nxt ν1 := by unfold whN; rw [e1]
      rw [whL_eq (n := 1) (by rw [h]; simp), h]
    | true =>
      show _ = (g ν1).and (whL fb g)
      have hs : ∀ n, whN fb g (n + 1) ν = (g ν1).and (whN fb g n) := fun n => by
        conv => lhs; unfold whN
        rw [e1]
      cases e2 : g ν1 with
      | nxt ν2 =>
        show _ = whL fb g ν2
        cases e3 : whL fb g ν2 with
        | stuck =>
          cases e0 : whL fb g ν with
          | stuck => rfl
          | _ =>
            obtain ⟨n, h1, h2⟩ := whL_ex (fb := fb) (g := g) (ν := ν) (by rw [e0]; simp)
            cases n with
            | zero => exact absurd rfl h2
            | succ n =>
              rw [hs n, e2] at h2
              have h2 : whN fb g n ν2 ≠ .stuck := h2
              rw [whL_eq h2] at e3
              exact absurd e3 h2
        | _ =>
          obtain ⟨n, h1, h2⟩ := whL_ex (fb := fb) (g := g) (ν := ν2) (by rw [e3]; simp)
          have h3 : whN fb g (n + 1) ν = whN fb g n ν2 := by rw [hs n, e2]; rfl
          rw [whL_eq (n := n + 1) (by rw [h3]; exact h2), h3, h1, e3]
      | ret t ν2 =>
        have h := hs 0
        rw [e2] at h
        have h : whN fb g (0 + 1) ν = .ret t ν2 := h
        rw [whL_eq (n := 0 + 1) (by rw [h]; simp), h]; rfl
      | exc c p ν2 =>
        have h := hs 0
        rw [e2] at h
        have h : whN fb g (0 + 1) ν = .exc c p ν2 := h
        rw [whL_eq (n := 0 + 1) (by rw [h]; simp), h]; rfl
      | stuck =>
        show _ = Out.stuck
        cases e0 : whL fb g ν with
        | stuck => rfl
        | _ =>
          obtain ⟨n, h1, h2⟩ := whL_ex (fb := fb) (g := g) (ν := ν) (by rw [e0]; simp)
          cases n with
          | zero => exact absurd rfl h2
          | succ n => rw [hs n, e2] at h2; exact absurd rfl h2
theorem vs_while (hp : PassesOwn (model X.prog X.w) X.A X.env X.xe) (ht : VXT X W fs dp (wpT X e) fb dp1) (hb : VSs X W fs dp1 body g dp2) (hl : leD dp dp2 = true) : VS X W fs dp (.While e body [] pos) (whL fb g) dp1 := by
  refine ⟨fun {E σ H A ν fps} R D q => wpS_of (ps_while hp pt_wp pss_wp) ?_⟩
  have hn : whL fb g ν ≠ .stuck := fun z => by rw [z] at q; exact q
  obtain ⟨n, h1, h2⟩ := whL_ex hn
  generalize hR : whL fb g ν = Rz at q h1
  have hne : Rz ≠ .stuck := by rw [← h1]; exact h2
  refine ⟨fun m σ H => ∃ A ν fps, SR X.K fs.io E dp H A σ ν fps ∧ whN fb g m ν = Rz, ⟨n, A, ν, fps, R, h1⟩, ?_⟩
  rintro m σ1 H1 ⟨A1, ν1, fps1, R1, hm⟩
  cases m with
  | zero => exact absurd hm.symm hne
  | succ m =>
    refine ht.run R1 _ ?_
    unfold whN at hm
    cases e1 : fb ν1 with
    | stuck => rw [e1] at hm; exact absurd hm.symm hne
    | exc cl p ν2 =>
      rw [e1] at hm
      have hm : Out.exc cl p ν2 = Rz := hm
      rw [← hm] at q
      exact PoX.exc q
    | ok b ν2 =>
      rw [e1] at hm
      intro H2 A2 fps2 R2
      cases b with
      | false =>
        have hm : Out.nxt ν2 = Rz := hm
        rw [← hm] at q
        exact iteF (q σ1 H2 A2 fps2 R2)
      | true =>
        refine iteT ⟨fun σ H => ∃ A ν fps, SR X.K fs.io E dp H A σ ν fps ∧ whN fb g m ν = Rz, fun σ' H' z => ⟨m, by omega, z⟩, ?_⟩
        refine hb.run R2 _ ?_
        have hm : (g ν2).and (whN fb g m) = Rz := hm
        cases e2 : g ν2 with
        | stuck => rw [e2] at hm; exact absurd hm.symm hne
        | ret t ν3 =>
          rw [e2] at hm
          have hm : Out.ret t ν3 = Rz := hm
          rw [← hm] at q
          exact q
        | exc cl p ν3 =>
          rw [e2] at hm
          have hm : Out.exc cl p ν3 = Rz := hm
          rw [← hm] at q
          exact q
        | nxt ν3 =>
          rw [e2] at hm
          intro σ3 H3 A3 fps3 R3
          obtain ⟨A4, fps4, R4, _⟩ := R3.low hl
          exact ⟨A4, ν3, fps4, R4, hm⟩
/-! ### for -/
def forA (h : T → Fr → Res Fr) (g : Fr → Out) : List T → Fr → Out
  | [], ν => .nxt ν
  | t :: ts, ν => match h t ν with
    | .ok ν1 => (g ν1).and (forA h g ts)
    | _ => .stuck
def oFor (fi : Fr → Res (List T)) (h : T → Fr → Res Fr) (g : Fr → Out) : Fr → Out := fun ν => match fi ν with
  | .ok ts => forA h g ts ν
  | .exc c p => .exc c p ν
  | .stuck => .stuck
theorem vs_for (hp : PassesOwn (model X.prog X.w) X.A X.env X.xe) (hc : X.calm = true) (hi : VI X W dp tg iter fi true) (hg : VG X dp tg h ws) (hw : ∀ i ∈ ws, i ∉ fs.io) (hb : VSs X W fs dp body g dp1) (hl : leD dp dp1 = true) (hx : leD fs.xd dp = true)
    (hs : ∀ x, foldedSetIterable iter X.env x = pure x) : VS X W fs dp (.For tg iter body [] pos) (oFor fi h g) dp := by
  obtain ⟨wi, pi, qi⟩ := hi.pi
  obtain ⟨tgg, pg, qg⟩ := hg.pg
  refine ⟨fun {E σ H A ν fps} R D q => wpS_of (ps_for hp hc pi pg pss_wp hs) ?_⟩
  refine qi R.fr _ ?_
  unfold oFor at q
  cases e1 : fi ν with
  | stuck => rw [e1] at q; exact q
  | exc cl p => rw [e1] at q; exact exc_st R hx (PoX.exc q)
  | ok ts =>
    rw [e1] at q
    intro J H1 s1 it
    have q : PoS X W fs E dp D (forA h g ts ν) := q
    have R1 := R.take s1 [] (fun _ z => nomatch z)
    generalize hA1 : Nw H H1 (Bs A fps.flatten true) [] = A1 at R1 it
    have R1' := R1.re
    have q1 := PoS.re R1 q
    generalize hE : reE fs.io H1 A1 σ fps = E1 at R1' q1
    have hE1 : E1.A = A1 := by rw [← hE]; rfl
    generalize hR : forA h g ts ν = Rz at q1
    refine ⟨fun i m σ' H' => m = ts.length - i ∧ i ≤ ts.length ∧ ∃ A' ν' fps', SR X.K fs.io E1 dp H' A' σ' ν' fps' ∧ forA h g (ts.drop i) ν' = Rz, ⟨ts.length, by simp, Nat.zero_le _, A1, ν, fps, R1', by rw [List.drop_zero]; exact hR⟩, ?_⟩
    rintro i m σ2 H2 ⟨rfl, hi, A2, ν2, fps2, R2, hz⟩
    have kp : Kp X.K A1 H1 H2 := SR.kp (io := fs.io) R1.fr (by rw [hE]; exact R2)
    by_cases hlt : i < ts.length
    · right
      have htt : ts[i]? = some ts[i] := List.getElem?_eq_getElem hlt
      rw [List.drop_eq_getElem_cons hlt] at hz
      generalize ts[i] = ti at htt hz
      obtain ⟨hgo, hyl⟩ := it.go H2 kp i ti htt
      refine ⟨hgo, fun σ H => ∃ A' ν' fps', SR X.K fs.io E1 dp H A' σ ν' fps' ∧ forA h g (ts.drop (i + 1)) ν' = Rz, fun σ' H' z => ⟨ts.length - (i + 1), by omega, rfl, hlt, z⟩, ?_⟩
      intro x H3 y3
      obtain ⟨s23, rx⟩ := hyl x H3 y3
      have R3 := R2.take s23 [] (fun _ z => nomatch z)
      have rx' : Ow X.K H3 (Nw H2 H3 (Bs A2 fps2.flatten true) []) 0 ti x [] := rx.mono (Same.refl _) fun a m => by
        obtain ⟨m | m, _⟩ := m
        · exact ⟨.inl (.inl (R2.ext.more a (by rw [hE1]; exact m))), by simp⟩
        · exact ⟨.inr m, by simp⟩
      refine qg R3.fr rx' _ ?_
      unfold forA at hz
      cases e2 : h ti ν2 with
      | stuck => rw [e2] at hz; rw [← hz] at q1; exact q1.elim
      | exc _ _ => rw [e2] at hz; rw [← hz] at q1; exact q1.elim
      | ok ν3 =>
        rw [e2] at hz
        intro σ3 F3 hl3 hk3
        have R3' : SR X.K fs.io E1 dp H3 (Nw H2 H3 (Bs A2 fps2.flatten true) []) σ3 ν3 fps2 := ⟨F3, R3.ext, R3.loc, R3.ino, fun j hj => by rw [hk3 j fun z => hw j z hj]; exact R3.iov j hj⟩
        refine hb.run R3' _ ?_
        have hz : (g ν3).and (forA h g (ts.drop (i + 1))) = Rz := hz
        cases e3 : g ν3 with
        | stuck => rw [e3] at hz; have hz : Out.stuck = Rz := hz; rw [← hz] at q1; exact q1.elim
        | ret t ν4 => rw [e3] at hz; have hz : Out.ret t ν4 = Rz := hz; rw [← hz] at q1; exact q1
        | exc cl p ν4 => rw [e3] at hz; have hz : Out.exc cl p ν4 = Rz := hz; rw [← hz] at q1; exact q1
        | nxt ν4 =>
          rw [e3] at hz
          intro σ4 H4 A4 fps4 R4
          obtain ⟨A5, fps5, R5, _⟩ := R4.low hl
          exact ⟨A5, ν4, fps5, R5, hz⟩
    · left
      refine ⟨it.stop H2 kp i (by omega), ?_⟩
      rw [List.drop_eq_nil_of_le (by omega)] at hz
      have hz : Out.nxt ν2 = Rz := hz
      rw [← hz] at q1
      exact q1 σ2 H2 A2 fps2 R2
/-! ### a, b = e -/
def oTgt (h : T → Fr → Res Fr) (f : Fr → RX) : Fr → Out := fun ν => match f ν with
  | .ok t ν1 => (match h t ν1 with
    | .ok ν2 => .nxt ν2
    | _ => .stuck)
  | .exc c p ν' => .exc c p ν'
  | .stuck => .stuck
theorem vs_tgt (hv : VX X W fs dp (wpE X e) fx true k dp1) (hg : VG X dp' tg h ws) (hl : leD dp' dp1 = true) (hw : ∀ i ∈ ws, i ∉ fs.io) (hs : swapsWithSole [tg] e pos.line X.env = pure false) (hww : swappedStores [tg] e X.env = pure none)
    (h1 : (assignEach [tg] X.env).map (·.2) = [assign tg X.env]) : VS X W fs dp (.Assign [tg] e pos) (oTgt h fx) dp' := by
  obtain ⟨tgg, pg, qg⟩ := hg.pg
  refine ⟨fun {E σ H A ν fps} R D q => wpS_of (ps_asg pe_wp pg hs hww h1) ?_⟩
  refine (hv.lowk (Nat.zero_le k)).run R _ ?_
  unfold oTgt at q
  cases e1 : fx ν with
  | stuck => rw [e1] at q; exact q
  | exc cl p ν' => rw [e1] at q; exact PoX.exc q
  | ok u ν1 =>
    rw [e1] at q
    intro v H1 A1 fps1 fp R1 fr r
    have := r.zero
    subst this
    obtain ⟨A2, fps2, R2, iff, sub⟩ := R1.low hl
    refine qg R2.fr (r.mono (Same.refl _) fun a m => (iff a).mpr (.inl m.true')) _ ?_
    have q : PoS X W fs E dp' D (match h u ν1 with | .ok ν2 => .nxt ν2 | _ => .stuck) := q
    cases e2 : h u ν1 with
    | stuck => rw [e2] at q; exact q
    | exc _ _ => rw [e2] at q; exact q
    | ok ν2 =>
      rw [e2] at q
      intro σ' F' hl' hk'
      exact q σ' H1 A2 fps2 ⟨F', R2.ext, R2.loc, R2.ino, fun j hj => by rw [hk' j fun z => hw j z hj]; exact R2.iov j hj⟩
/-! ### a, b = x, y -/
def oPar (i j : Nat) (fs : Fr → Res (List T)) : Fr → Out := fun ν => match fs ν with
  | .ok [t, u] => .nxt ((ν.set i (some t)).set j (some u))
  | .ok _ => .stuck
  | .exc c p => .exc c p ν
  | .stuck => .stuck
theorem vs_par {i j : Nat} {x y : Str} {a b : Expr} {px py pt : Pos} {kt k2 pt2} {ff : Fr → Res (List T)} (hc : X.calm = true) (hN : X.N.Nodup) (hi : X.N[i]? = some x) (hj : X.N[j]? = some y) (hij : i ≠ j)
    (hx : X.env.scope.names.lookup x = some .local) (hy : X.env.scope.names.lookup y = some .local) (ha : VEs X W dp [a, b] ff true)
    (hw : swappedStores [.Tuple [.Name x px, .Name y py] kt pt] (.Tuple [a, b] k2 pt2) X.env = pure (some [x, y]))
    (hs : swapsWithSole [.Tuple [.Name x px, .Name y py] kt pt] (.Tuple [a, b] k2 pt2) pos.line X.env = pure false) (hio : i ∉ fs.io ∧ j ∉ fs.io) (hxd : leD fs.xd dp = true) (hid : i < dp.length ∧ j < dp.length) :
    VS X W fs dp (.Assign [.Tuple [.Name x px, .Name y py] kt pt] (.Tuple [a, b] k2 pt2) pos) (oPar i j ff) ((dp.set i 0).set j 0) := by
  obtain ⟨ta, pa, qa⟩ := ha.pa
  refine ⟨fun {E σ H A ν fps} R D q pins s I => (ps_par hc hN hi hj hij hx hy pa hw hs).run pins s σ H D I ?_⟩
  have li : i < ν.length := by rw [← R.fr.lσ, I.len]; exact (List.getElem?_eq_some_iff.mp hi).1
  have lj : j < ν.length := by rw [← R.fr.lσ, I.len]; exact (List.getElem?_eq_some_iff.mp hj).1
  refine qa R.fr _ ?_
  unfold oPar at q
  cases e1 : ff ν with
  | stuck => rw [e1] at q; exact q
  | exc cl p => rw [e1] at q; exact exc_st R hxd (PoX.exc q)
  | ok ts =>
    rw [e1] at q
    intro vs H1 s1 r1
    match ts, q, r1 with
    | [], q, _ => exact q.elim
    | [_], q, _ => exact q.elim
    | _ :: _ :: _ :: _, q, _ => exact q.elim
    | [t, u], q, r1 =>
      obtain ⟨v, r, rfl, rv, r1⟩ := r1.inv0
      obtain ⟨w, r, rfl, rw', r1⟩ := r1.inv0
      rw [OwL] at r1
      obtain ⟨rfl, _⟩ := r1
      refine ⟨v, w, rfl, ?_⟩
      have R1 := R.take s1 [] (fun _ z => nomatch z)
      have R2 := R1.put (i := i) li hid.1 hio.1 rv frs_nil
      have R3 := R2.put (i := j) (by rw [List.length_set]; exact lj) (by rw [List.length_set]; exact hid.2) hio.2 rw' frs_nil
      exact q _ H1 _ _ R3
end
end VI

namespace VI
open PySem PySem.Spec PyProof.Rows L2

/-! ### places: a part of what a slot owns -/
/-- the value of a key changed (or laid behind all) -/
def setT {α : Type} (q : Key) (t : α) : List (Key × α) → List (Key × α)
  | [] => [(q, t)]
  | (p, x) :: r => if p = q then (p, t) :: r else (p, x) :: setT q t r
/-- what stays from H to H' -/
structure Kee (K : PySem.W.Frag) (H : Hp) (A : Addr → Prop) (H' : Hp) (A' : Addr → Prop) : Prop where
  tup : ∀ a xs, SqT K H a xs → SqT K H' a xs
  frz : ∀ a, A a → A' a ∧ ∀ o, H a = some o → H' a = some o
def KeeL (H H' : Hp) (l : List Addr) : Prop := ∀ a ∈ l, ∀ o, H a = some o → H' a = some o
theorem Kee.same {K : PySem.W.Frag} {H H' : Hp} {A A' : Addr → Prop} (s : Same H H') (h : ∀ a, A a → A' a) : Kee K H A H' A' := ⟨fun _ _ q => s.sqT q, fun a m => ⟨h a m, fun o e => s a o e⟩⟩
theorem Kee.trans {K : PySem.W.Frag} {H H1 H2 : Hp} {A A1 A2 : Addr → Prop} (x : Kee K H A H1 A1) (y : Kee K H1 A1 H2 A2) : Kee K H A H2 A2 := ⟨fun a xs q => y.tup a xs (x.tup a xs q), fun a m => ⟨(y.frz a (x.frz a m).1).1, fun o e => (y.frz a (x.frz a m).1).2 o ((x.frz a m).2 o e)⟩⟩
theorem KeeL.same {H H' : Hp} {l : List Addr} (s : Same H H') : KeeL H H' l := fun a _ o e => s a o e
theorem KeeL.trans {H H1 H2 : Hp} {l : List Addr} (x : KeeL H H1 l) (y : KeeL H1 H2 l) : KeeL H H2 l := fun a m o e => y a m o (x a m o e)
theorem KeeL.sub {H H1 : Hp} {l l' : List Addr} (x : KeeL H H1 l) (h : ∀ a ∈ l', a ∈ l) : KeeL H H1 l' := fun a m => x a (h a m)
theorem Ow.kee {K : PySem.W.Frag} {H H' : Hp} {A A' : Addr → Prop} {k : Nat} {t : T} {v : V} {fp : List Addr} (h : Ow K H A k t v fp) (x : Kee K H A H' A') (y : KeeL H H' fp) : Ow K H' A' k t v fp := h.tr x.tup x.frz y
theorem OwL.kee {K : PySem.W.Frag} {H H' : Hp} {A A' : Addr → Prop} {k : Nat} {t : List T} {v : List V} {fp : List Addr} (h : OwL K H A k t v fp) (x : Kee K H A H' A') (y : KeeL H H' fp) : OwL K H' A' k t v fp := h.tr x.tup x.frz y
theorem OwK.kee {K : PySem.W.Frag} {H H' : Hp} {A A' : Addr → Prop} {k : Nat} {t : List (Key × T)} {v : List (Key × V)} {fp : List Addr} (h : OwK K H A k t v fp) (x : Kee K H A H' A') (y : KeeL H H' fp) : OwK K H' A' k t v fp := h.tr x.tup x.frz y

/-- t at v (at fp) is a part, r levels of it owned, of a thing vw of k levels at pre ++ fp ++ post; put lays another t there -/
structure Foc (K : PySem.W.Frag) (H : Hp) (A : Addr → Prop) (k : Nat) (vw : V) (pre post : List Addr) (r : Nat) (t : T) (v : V) (fp : List Addr) (put : T → T) : Prop where
  ow : Ow K H A r t v fp
  back : ∀ {H' : Hp} {A' : Addr → Prop} {t' : T} {fp' : List Addr}, Kee K H A H' A' → KeeL H H' (pre ++ post) → Ow K H' A' r t' v fp' → Ow K H' A' k (put t') vw (pre ++ fp' ++ post)
section
variable {K : PySem.W.Frag} {H H' : Hp} {A A' : Addr → Prop} {k r : Nat} {vw v : V} {pre post fp : List Addr} {t : T} {put : T → T}
theorem foc_refl (h : Ow K H A k t v fp) : Foc K H A k v [] [] k t v fp (fun x => x) := ⟨h, fun _ _ h' => by rw [List.nil_append, List.append_nil]; exact h'⟩
theorem Foc.kee (f : Foc K H A k vw pre post r t v fp put) (x : Kee K H A H' A') (y : KeeL H H' (pre ++ fp ++ post)) : Foc K H' A' k vw pre post r t v fp put :=
  ⟨f.ow.kee x (y.sub fun a ha => List.mem_append_left _ (List.mem_append_right _ ha)), fun x' y' h' => f.back (x.trans x') (KeeL.trans (y.sub fun a ha => (List.mem_append.mp ha).elim (fun z => List.mem_append_left _ (List.mem_append_left _ z)) fun z => List.mem_append_right _ z) y') h'⟩
/-- an item of a list -/
theorem OwL.at : ∀ {ts : List T} {xs : List V} {fp : List Addr} {i : Nat} {t : T}, OwL K H A r ts xs fp → ts[i]? = some t → ∃ x pre f post, xs[i]? = some x ∧ fp = pre ++ f ++ post ∧ Ow K H A r t x f ∧
    ∀ {H' : Hp} {A' : Addr → Prop} {t' : T} {fp' : List Addr}, Kee K H A H' A' → KeeL H H' (pre ++ post) → Ow K H' A' r t' x fp' → OwL K H' A' r (ts.set i t') xs (pre ++ fp' ++ post)
  | [], xs, fp, i, t, h, e => by cases e
  | u :: ts, xs, fp, 0, t, h, e => by
    rw [OwL] at h
    obtain ⟨x, s, f, g, rfl, rfl, q, z⟩ := h
    cases e
    refine ⟨x, [], f, g, rfl, rfl, q, fun {H' A' t' fp'} kx ky h' => ?_⟩
    rw [List.set_cons_zero, OwL]
    exact ⟨x, s, fp', g, rfl, rfl, h', z.kee kx ky⟩
  | u :: ts, xs, fp, i + 1, t, h, e => by
    rw [OwL] at h
    obtain ⟨x, s, f, g, rfl, rfl, q, z⟩ := h
    obtain ⟨y, p, f1, po, h1, rfl, h2, h3⟩ := OwL.at z (show ts[i]? = some t by simpa using e)
    refine ⟨y, f ++ p, f1, po, by simpa using h1, by simp [List.append_assoc], h2, fun {H' A' t' fp'} kx ky h' => ?_⟩
    rw [List.set_cons_succ, OwL]
    exact ⟨x, s, f, p ++ fp' ++ po, rfl, by simp [List.append_assoc], q.kee kx (ky.sub fun a ha => List.mem_append_left _ (List.mem_append_left _ ha)), h3 kx (ky.sub fun a ha => (List.mem_append.mp ha).elim (fun w => List.mem_append_left _ (List.mem_append_right _ w)) fun w => List.mem_append_right _ w) h'⟩
/-- an item by its key -/
theorem OwK.at : ∀ {ts : List (Key × T)} {xs : List (Key × V)} {fp : List Addr} {q : Key} {t : T}, OwK K H A r ts xs fp → valT ts q = some t → ∃ x pre f post, valV xs q = some x ∧ fp = pre ++ f ++ post ∧ Ow K H A r t x f ∧
    ∀ {H' : Hp} {A' : Addr → Prop} {t' : T} {fp' : List Addr}, Kee K H A H' A' → KeeL H H' (pre ++ post) → Ow K H' A' r t' x fp' → OwK K H' A' r (setT q t' ts) xs (pre ++ fp' ++ post)
  | [], xs, fp, q, t, h, e => by cases e
  | (p, u) :: ts, xs, fp, q, t, h, e => by
    rw [OwK] at h
    obtain ⟨x, s, f, g, rfl, rfl, o, z, ko⟩ := h
    unfold valT at e
    rw [List.find?_cons] at e
    by_cases hq : p = q
    · simp only [hq, decide_true, Option.map_some, Option.some.injEq] at e
      subst e
      refine ⟨x, [], f, g, valV_pos hq, rfl, o, fun {H' A' t' fp'} kx ky h' => ?_⟩
      unfold setT
      rw [if_pos hq, OwK]
      exact ⟨x, s, fp', g, rfl, rfl, h', z.kee kx ky, ko⟩
    · simp only [hq, decide_false] at e
      obtain ⟨y, p1, f1, po, h1, rfl, h2, h3⟩ := OwK.at z (show valT ts q = some t from e)
      refine ⟨y, f ++ p1, f1, po, by rw [valV_neg (p := (p, x)) hq]; exact h1, by simp [List.append_assoc], h2, fun {H' A' t' fp'} kx ky h' => ?_⟩
      unfold setT
      rw [if_neg hq, OwK]
      exact ⟨x, s, f, p1 ++ fp' ++ po, rfl, by simp [List.append_assoc], o.kee kx (ky.sub fun a ha => List.mem_append_left _ (List.mem_append_left _ ha)), h3 kx (ky.sub fun a ha => (List.mem_append.mp ha).elim (fun w => List.mem_append_left _ (List.mem_append_right _ w)) fun w => List.mem_append_right _ w) h', ko⟩
theorem valV_fk (f : Str) : ∀ xs : List (Str × V), valV (fk xs) (Sum.inr f) = xs.lookup f
  | [] => rfl
  | (g, x) :: xs => by
    rw [fk_cons, List.lookup_cons]
    by_cases h : g = f
    · rw [valV_pos (p := ((Sum.inr g : Key), x)) (by rw [h])]
      simp [h]
    · rw [valV_neg (p := ((Sum.inr g : Key), x)) fun z => h (Sum.inr.inj z), valV_fk f xs]
      have : (f == g) = false := by simp [Ne.symm h]
      rw [this]
theorem append_mid {a b c d e : List Addr} : a ++ (b ++ c ++ d) ++ e = (a ++ b) ++ c ++ (d ++ e) := by simp [List.append_assoc]
/-- the steps -/
theorem Foc.fld {cl : Str} {fs : List (Key × T)} {f : Str} {u : T} (h : Foc K H A k vw pre post (r + 1) (.ins cl fs) v fp put) (e : valT fs (.inr f) = some u) : ∃ a dx xs x pre' f' post', v = .ref a ∧ H a = some (.ins (He.ga K cl) dx xs) ∧ xs.lookup f = some x ∧ pre' ++ f' ++ post' = pre ++ fp ++ post ∧
    Foc K H A k vw pre' post' r u x f' (fun y => put (.ins cl (setT (.inr f) y fs))) := by
  have ow := h.ow
  rw [Ow] at ow
  obtain ⟨a, dx, xs, g, rfl, rfl, h1, h2⟩ := ow
  obtain ⟨x, p, f', po, h3, rfl, h4, h5⟩ := h2.at e
  refine ⟨a, dx, xs, x, pre ++ a :: p, f', po ++ post, rfl, h1, by rw [← h3, valV_fk], by simp [List.append_assoc], h4, fun {H' A' t' fp'} kx ky h' => ?_⟩
  have := h.back (t' := .ins cl (setT (.inr f) t' fs)) (fp' := a :: (p ++ fp' ++ po)) kx (ky.sub fun b hb => ?_) (by
    rw [Ow]
    exact ⟨a, dx, xs, _, rfl, rfl, ky a (by simp) _ h1, h5 kx (ky.sub fun b hb => by
      simp only [List.mem_append, List.mem_cons] at hb ⊢
      rcases hb with hb | hb
      · exact .inl (.inr (.inr hb))
      · exact .inr (.inl hb)) h'⟩)
  · simpa [List.append_assoc] using this
  · simp only [List.mem_append, List.mem_cons] at hb ⊢
    rcases hb with hb | hb
    · exact .inl (.inl hb)
    · exact .inr (.inr hb)
theorem Foc.itm {ts : List T} {i : Nat} {u : T} (h : Foc K H A k vw pre post (r + 1) (.lst ts) v fp put) (e : ts[i]? = some u) : ∃ a xs x pre' f' post', v = .ref a ∧ H a = some (.lst xs) ∧ xs.length = ts.length ∧ xs[i]? = some x ∧ pre' ++ f' ++ post' = pre ++ fp ++ post ∧
    Foc K H A k vw pre' post' r u x f' (fun y => put (.lst (ts.set i y))) := by
  have ow := h.ow
  rw [Ow] at ow
  obtain ⟨a, xs, g, rfl, rfl, h1, h2⟩ := ow
  obtain ⟨x, p, f', po, h3, rfl, h4, h5⟩ := h2.at e
  refine ⟨a, xs, x, pre ++ a :: p, f', po ++ post, rfl, h1, h2.length, h3, by simp [List.append_assoc], h4, fun {H' A' t' fp'} kx ky h' => ?_⟩
  have := h.back (t' := .lst (ts.set i t')) (fp' := a :: (p ++ fp' ++ po)) kx (ky.sub fun b hb => ?_) (by
    rw [Ow]
    exact ⟨a, xs, _, rfl, rfl, ky a (by simp) _ h1, h5 kx (ky.sub fun b hb => by
      simp only [List.mem_append, List.mem_cons] at hb ⊢
      rcases hb with hb | hb
      · exact .inl (.inr (.inr hb))
      · exact .inr (.inl hb)) h'⟩)
  · simpa [List.append_assoc] using this
  · simp only [List.mem_append, List.mem_cons] at hb ⊢
    rcases hb with hb | hb
    · exact .inl (.inl hb)
    · exact .inr (.inr hb)
theorem Foc.key {ts : List (Key × T)} {q : Key} {u : T} (h : Foc K H A k vw pre post (r + 1) (.dct ts) v fp put) (e : valT ts q = some u) : ∃ a xs x pre' f' post', v = .ref a ∧ H a = some (.dK xs) ∧ valV xs q = some x ∧ pre' ++ f' ++ post' = pre ++ fp ++ post ∧
    Foc K H A k vw pre' post' r u x f' (fun y => put (.dct (setT q y ts))) := by
  have ow := h.ow
  rw [Ow] at ow
  obtain ⟨a, xs, g, rfl, rfl, h1, h2⟩ := ow
  obtain ⟨x, p, f', po, h3, rfl, h4, h5⟩ := h2.at e
  refine ⟨a, xs, x, pre ++ a :: p, f', po ++ post, rfl, h1, h3, by simp [List.append_assoc], h4, fun {H' A' t' fp'} kx ky h' => ?_⟩
  have := h.back (t' := .dct (setT q t' ts)) (fp' := a :: (p ++ fp' ++ po)) kx (ky.sub fun b hb => ?_) (by
    rw [Ow]
    exact ⟨a, xs, _, rfl, rfl, ky a (by simp) _ h1, h5 kx (ky.sub fun b hb => by
      simp only [List.mem_append, List.mem_cons] at hb ⊢
      rcases hb with hb | hb
      · exact .inl (.inr (.inr hb))
      · exact .inr (.inl hb)) h'⟩)
  · simpa [List.append_assoc] using this
  · simp only [List.mem_append, List.mem_cons] at hb ⊢
    rcases hb with hb | hb
    · exact .inl (.inl hb)
    · exact .inr (.inr hb)
end

/-! ### expressions that name a place -/
structure Fo where
  t : T
  put : T → T
def PoP (X : Cx) (W : WX) (dp : List Nat) (σ : L2.St) (H : Hp) (A : Addr → Prop) (fps : List (List Addr)) (i r : Nat) (Q : VK) : Res Fo → Prop
  | .ok fo => ∀ v H' fp pre post vw, Same H H' → σ[i]? = some (some vw) → fps[i]? = some (pre ++ fp ++ post) → Foc X.K H' (Nw H H' (Bs A fps.flatten true) []) (dp.getD i 0) vw pre post r fo.t v fp fo.put → Q v H'
  | .exc cl p => ∀ H' d, Same H H' → XRel X.K H' p d → W (.ref (He.ga X.K cl)) d σ H'
  | .stuck => False
structure VP (X : Cx) (W : WX) (dp : List Nat) (i : Nat) (e : Expr) (f : Fr → Res Fo) (r : Nat) : Prop where
  run : ∀ {σ : L2.St} {H : Hp} {A : Addr → Prop} {ν : Fr} {fps : List (List Addr)}, FR X.K dp H A σ ν fps → ∀ Q : VK, PoP X W dp σ H A fps i r Q (f ν) → wpE X e σ H Q
def pSlot (i : Nat) : Fr → Res Fo := fun ν => match ν[i]? with
  | some (some t) => .ok ⟨t, fun x => x⟩
  | _ => .stuck
def fldO (c : Str) (f : Str) (o : Fo) : Res Fo := match o.t with
  | .ins c' fs => if c' = c then (match valT fs (.inr f) with
    | some t => .ok ⟨t, fun y => o.put (.ins c' (setT (.inr f) y fs))⟩
    | none => .stuck) else .stuck
  | _ => .stuck
def pFld (c f : Str) (p : Fr → Res Fo) : Fr → Res Fo := fun ν => (p ν).bind (fldO c f)
def itmO (o : Fo) (y : T) : Res Fo := match o.t with
  | .lst ts => (match y with
    | .int i => (match ixN ts.length i with
      | some j => (match ts[j]? with
        | some t => .ok ⟨t, fun z => o.put (.lst (ts.set j z))⟩
        | none => .stuck)
      | none => .stuck)
    | _ => .stuck)
  | .dct ts => (match y.key with
    | some q => (match valT ts q with
      | some t => .ok ⟨t, fun z => o.put (.dct (setT q z ts))⟩
      | none => .stuck)
    | none => .stuck)
  | _ => .stuck
def pItm (p : Fr → Res Fo) (g : Fr → Res T) : Fr → Res Fo := fun ν => (p ν).bind fun o => (g ν).bind fun y => itmO o y
section
variable {X : Cx} {W : WX} {dp : List Nat} {e a b : Expr} {i r : Nat} {p : Fr → Res Fo} {f g : Fr → Res T} {c c' : Bool} {k k' : Nat} {pos : Pos}
theorem vp_name {x : Str} (hN : X.N[i]? = some x) (hv : Vis X.env.scope x) (hd : (x == ("__debug__" : Str)) = false) (hcd : (x == ("__classdict__" : Str)) = false) : VP X W dp i (.Name x pos) (pSlot i) (dp.getD i 0) := by
  refine ⟨fun {σ H A ν fps} F Q q => ?_⟩
  unfold pSlot at q
  split at q
  · rename_i t e'
    obtain ⟨v, fp, h1, h2, h3⟩ := F.slot i t e'
    refine wpE_of (pe_var hN hv hd hcd) ⟨v, h1, q v H fp [] [] v (Same.refl H) h1 (by rw [List.nil_append, List.append_nil]; exact h2) (foc_refl (h3.mono (Same.refl _) fun a m => ⟨.inl (.inl m), by simp⟩))⟩
  · exact q.elim
theorem vp_fld {cl nm : Str} (h : VP X W dp i e p (r + 1)) (hc : Cls X.K (He.ga X.K cl)) (hn : NoAttr X.K (He.ga X.K cl) nm) (hb : attributeBase e nm X.env (eval e X.env) = eval e X.env) : VP X W dp i (.Attribute e nm pos) (pFld cl nm p) r := by
  refine ⟨fun {σ H A ν fps} F Q q => ?_⟩
  refine wpE_of (pe_fld pe_wp hb) (h.run F _ ?_)
  unfold pFld at q
  cases e1 : p ν with
  | stuck => rw [e1] at q; exact q
  | exc cl p => rw [e1] at q; exact q
  | ok o =>
    rw [e1] at q
    have q : PoP X W dp σ H A fps i r Q (fldO cl nm o) := q
    intro v H' fp pre post vw s h1 h2 fo
    unfold fldO at q
    cases et : o.t with
    | ins c' fs =>
      rw [et] at q fo
      by_cases hcl : c' = cl
      · have q2 : PoP X W dp σ H A fps i r Q (if c' = cl then (match valT fs (.inr nm) with
          | some t => .ok ⟨t, fun y => o.put (.ins c' (setT (.inr nm) y fs))⟩
          | none => .stuck) else .stuck) := q
        rw [if_pos hcl] at q2
        clear q
        cases ev : valT fs (.inr nm) with
        | none => rw [ev] at q2; exact q2.elim
        | some u =>
          rw [ev] at q2
          obtain ⟨a, dx, xs, x, pre', f', post', rfl, h3, h4, h5, fo'⟩ := fo.fld ev
          subst hcl
          exact ⟨a, _, dx, xs, x, rfl, h3, hc, hn, h4, q2 x H' f' pre' post' vw s h1 (by rw [h5]; exact h2) fo'⟩
      · have q : PoP X W dp σ H A fps i r Q (if c' = cl then (match valT fs (.inr nm) with
          | some t => .ok ⟨t, fun y => o.put (.ins c' (setT (.inr nm) y fs))⟩
          | none => .stuck) else .stuck) := q
        rw [if_neg hcl] at q
        exact q.elim
    | _ => rw [et] at q; exact q.elim
/-- a place, read: it leans on what the frame owns; of no levels left it leans on what is frozen -/
def eP (p : Fr → Res Fo) : Fr → Res T := fun ν => (p ν).bind fun o => .ok o.t
theorem ve_place (h : VP X W dp i e p r) (hc : c = false ∨ r = 0) : VE X W dp e (eP p) c 0 := by
  refine ⟨fun {σ H A ν fps} F Q q => h.run F Q ?_⟩
  unfold eP at q
  cases e1 : p ν with
  | stuck => rw [e1] at q; exact q
  | exc cl p => rw [e1] at q; exact q
  | ok o =>
    rw [e1] at q
    intro v H' fp pre post vw s h1 h2 fo
    refine q v H' [] s List.nodup_nil (fun _ z => nomatch z) (fo.ow.frz (fun a m => ?_) fun a ha => ?_)
    · obtain ⟨m | m, _⟩ := m
      · exact ⟨.inl (.inl m.true'), by simp⟩
      · exact ⟨.inr m, by simp⟩
    · rcases hc with rfl | rfl
      · exact ⟨.inl (.inr ⟨rfl, mem_flat h2 (List.mem_append_left _ (List.mem_append_right _ ha))⟩), by simp⟩
      · rw [fo.ow.zero] at ha; cases ha
/-- x[y] of a place -/
theorem vp_itm {k2 : Nat} (hu : X.A.units + 1 < cLine) (h : VP X W dp i a p (r + 1)) (hb : VE X W dp b g c' k2) (hs : PlainIx b) : VP X W dp i (.Subscript a b pos) (pItm p g) r := by
  refine ⟨fun {σ H A ν fps} F Q q => ?_⟩
  unfold pItm at q
  have rl := pe_ix (pos := pos) (ix_list (X := X)) (pe_wp (e := a)) (pe_wp (e := b)) hs
  -- evaluate both, then by what they are
  have both : ∀ {rr : R2} (rule : PE X (.Subscript a b pos) (tOp rr (wpE X a) (wpE X b))) (o : Fo) (ty : T), p ν = .ok o → g ν = .ok ty →
      (∀ x y H2 fp pre post vw, Same H H2 → σ[i]? = some (some vw) → fps[i]? = some (pre ++ fp ++ post) → Foc X.K H2 (Nw H H2 (Bs A fps.flatten true) []) (dp.getD i 0) vw pre post (r + 1) o.t x fp o.put → Ow X.K H2 (Nw H H2 (Bs A fps.flatten c') []) 0 ty y [] → rr x y H2 Q) → wpE X (.Subscript a b pos) σ H Q := by
    intro rr rule o ty e1 e2 hr
    refine wpE_of rule (h.run F _ ?_)
    rw [e1]
    intro x H1 fp pre post vw s1 h1 h2 fo
    refine hb.use (F.mono s1) ?_
    rw [e2]
    intro y H2 s2 r2
    exact hr x y H2 fp pre post vw (s1.trans s2) h1 h2 (fo.kee (Kee.same s2 fun a m => Nw.up s2 (fun _ z => z) m) (KeeL.same s2)) (r2.mono (Same.refl _) fun a m => Nw.step s1 s2 (fun b z => ⟨.inl z, by simp⟩) m)
  cases e1 : p ν with
  | stuck => rw [e1] at q; exact q.elim
  | exc cl pp =>
    rw [e1] at q
    refine wpE_of rl (h.run F _ ?_)
    rw [e1]; exact q
  | ok o =>
    rw [e1] at q
    have q : PoP X W dp σ H A fps i r Q ((g ν).bind fun y => itmO o y) := q
    cases e2 : g ν with
    | stuck => rw [e2] at q; exact q.elim
    | exc cl pp =>
      rw [e2] at q
      refine wpE_of rl (h.run F _ ?_)
      rw [e1]
      intro x H1 fp pre post vw s1 h1 h2 fo
      refine hb.use (F.mono s1) ?_
      rw [e2]
      exact fun H' d s2 => q H' d (s1.trans s2)
    | ok ty =>
      rw [e2] at q
      have q : PoP X W dp σ H A fps i r Q (itmO o ty) := q
      unfold itmO at q
      cases et : o.t with
      | lst ts =>
        rw [et] at q
        cases ty with
        | int j =>
          have q : PoP X W dp σ H A fps i r Q (match ixN ts.length j with
            | some j => (match ts[j]? with
              | some t => .ok ⟨t, fun z => o.put (.lst (ts.set j z))⟩
              | none => .stuck)
            | none => .stuck) := q
          cases ej : ixN ts.length j with
          | none => rw [ej] at q; exact q.elim
          | some n =>
            rw [ej] at q
            have q : PoP X W dp σ H A fps i r Q (match ts[n]? with
              | some t => .ok ⟨t, fun z => o.put (.lst (ts.set n z))⟩
              | none => .stuck) := q
            cases en : ts[n]? with
            | none => rw [en] at q; exact q.elim
            | some u =>
              rw [en] at q
              refine both rl o _ e1 e2 fun x y H2 fp pre post vw s h1 h2 fo r2 => ?_
              rw [et] at fo
              obtain ⟨a, xs, x', pre', f', post', rfl, h3, h4, h5, h6, fo'⟩ := fo.itm en
              rw [inv_int r2]
              refine ⟨a, xs, j, x', rfl, rfl, SqL.of h3, ?_, q x' H2 f' pre' post' vw s h1 (by rw [h6]; exact h2) fo'⟩
              unfold atI
              rw [h4, ej]
              exact h5
        | _ => exact q.elim
      | dct ts =>
        rw [et] at q
        have q : PoP X W dp σ H A fps i r Q (match ty.key with
          | some q => (match valT ts q with
            | some t => .ok ⟨t, fun z => o.put (.dct (setT q z ts))⟩
            | none => .stuck)
          | none => .stuck) := q
        cases ek : ty.key with
        | none => rw [ek] at q; exact q.elim
        | some kk =>
          rw [ek] at q
          have q : PoP X W dp σ H A fps i r Q (match valT ts kk with
            | some t => .ok ⟨t, fun z => o.put (.dct (setT kk z ts))⟩
            | none => .stuck) := q
          cases en : valT ts kk with
          | none => rw [en] at q; exact q.elim
          | some u =>
            rw [en] at q
            refine both (rr := fun x y H Q => ∃ a v, x = .ref a ∧ DGet H a y (some v) ∧ Q v H) (pe_dget (pos := pos) hu (pe_wp (e := a)) (pe_wp (e := b)) hs) o _ e1 e2 fun x y H2 fp pre post vw s h1 h2 fo r2 => ?_
            rw [et] at fo
            obtain ⟨a, xs, x', pre', f', post', rfl, h3, h5, h6, fo'⟩ := fo.key en
            have gg := DGet.k (k := kk) h3
            rw [h5] at gg
            exact ⟨a, x', rfl, by rw [key_V r2 ek]; exact gg, q x' H2 f' pre' post' vw s h1 (by rw [h6]; exact h2) fo'⟩
      | _ => rw [et] at q; exact q.elim
end
end VI

namespace VI
open PySem PySem.Spec PyProof.Rows L2

section
variable {K : PySem.W.Frag} {io : List Nat} {E : Ent} {dp dp' : List Nat} {H H' : Hp} {A A' : Addr → Prop} {σ : L2.St} {ν : Fr} {fps : List (List Addr)} {i r : Nat} {vw v : V} {pre post fp fp' : List Addr} {t t' : T} {put : T → T}
/-- a part of what slot i owns is written -/
theorem SR.mut (R : SR K io E dp H A σ ν fps) (hl : i < ν.length) (hf : fps[i]? = some (pre ++ fp ++ post)) (hv : σ[i]? = some (some vw)) (fo : Foc K H A (dp.getD i 0) vw pre post r t v fp put)
    (hk : ∀ a o, H a = some o → a ∉ fp → H' a = some o) (hd : ∀ a, H a ≠ none → H' a ≠ none) (ow : Ow K H' A r t' v fp') (nd : fp'.Nodup) (hn : ∀ a ∈ fp', a ∈ fp ∨ (¬ A a ∧ a ∉ fps.flatten ∧ (a ∈ E.lo ∨ E.H a = none))) :
    SR K io E dp H' A σ (ν.set i (some (put t'))) (fps.set i (pre ++ fp' ++ post)) := by
  have ndf : (pre ++ fp ++ post).Nodup := (List.pairwise_flatten.mp R.fr.nd).1 _ (List.mem_of_getElem? hf)
  have inF : ∀ {a}, a ∈ fp → a ∈ fps.flatten := fun ha => mem_flat hf (List.mem_append_left _ (List.mem_append_right _ ha))
  have hfl : i < fps.length := (List.getElem?_eq_some_iff.mp hf).1
  have out : ∀ {a}, a ∈ pre ++ post → a ∉ fp := fun {a} ha z => by
    obtain ⟨n1, n2, n3⟩ := List.nodup_append.mp ndf
    obtain ⟨m1, m2, m3⟩ := List.nodup_append.mp n1
    rcases List.mem_append.mp ha with w | w
    · exact m3 a w a z rfl
    · exact n3 a (List.mem_append_right _ z) a w rfl
  have kee : Kee K H A H' A := ⟨fun a xs q => sqT_keep q fun o e nm => hk a o e fun z => by
      obtain ⟨o', h2, mu⟩ := R.fr.omu a (inF z)
      rw [e] at h2; cases h2
      exact nm mu, fun a m => ⟨m, fun o e => hk a o e fun z => R.fr.dj a (inF z) m⟩⟩
  have keeL : ∀ {l : List Addr}, (∀ a ∈ l, a ∉ fp) → KeeL H H' l := fun h a ha o e => hk a o e (h a ha)
  have whole : Ow K H' A (dp.getD i 0) (put t') vw (pre ++ fp' ++ post) := fo.back kee (keeL fun a ha => out ha) ow
  have inP : ∀ {a}, a ∈ pre ++ post → a ∈ fps.flatten := fun {a} ha => mem_flat hf (by
    simp only [List.mem_append] at ha ⊢
    rcases ha with w | w
    · exact .inl (.inl w)
    · exact .inr w)
  have new : ∀ {a}, a ∈ pre ++ fp' ++ post → a ∈ pre ++ fp ++ post ∨ (¬ A a ∧ a ∉ fps.flatten ∧ (a ∈ E.lo ∨ E.H a = none)) := fun {a} ha => by
    simp only [List.mem_append] at ha ⊢
    rcases ha with (w | w) | w
    · exact .inl (.inl (.inl w))
    · rcases hn a w with z | z
      · exact .inl (.inl (.inr z))
      · exact .inr z
    · exact .inl (.inr w)
  have ndn : (pre ++ fp' ++ post).Nodup := by
    obtain ⟨n1, n2, n3⟩ := List.nodup_append.mp ndf
    obtain ⟨m1, m2, m3⟩ := List.nodup_append.mp n1
    have dis : ∀ a ∈ fp', a ∉ pre ++ post := fun a ha z => by
      rcases hn a ha with w | w
      · exact out z w
      · exact w.2.1 (inP z)
    refine List.nodup_append.mpr ⟨List.nodup_append.mpr ⟨m1, nd, fun a ha b hb e => ?_⟩, n2, fun a ha b hb e => ?_⟩
    · subst e
      exact dis a hb (List.mem_append_left _ ha)
    · subst e
      rcases List.mem_append.mp ha with w | w
      · exact n3 a (List.mem_append_left _ w) a hb rfl
      · exact dis a w (List.mem_append_right _ hb)
  have disj : ∀ a ∈ pre ++ fp' ++ post, ∀ (j : Nat) (q : List Addr), j ≠ i → fps[j]? = some q → a ∉ q := fun a ha j q hj hq hm => by
    rcases new ha with z | z
    · exact hj (flat_inj R.fr.nd hq hf hm z)
    · exact z.2.1 (mem_flat hq hm)
  refine ⟨⟨by rw [List.length_set]; exact R.fr.lσ, by rw [List.length_set, List.length_set]; exact R.fr.lf, fun j w e => ?_, nodup_set ndn R.fr.nd disj, fun a ha => ?_, fun a m => hd a (R.fr.dom a m), fun a ha => ?_, fun j q hz e => ?_, fun j q e1 e2 => ?_⟩, ⟨fun a o h n => ?_, R.ext.more, R.ext.new, fun a m => hd a (R.fr.dom a m), fun a h => hd a (R.ext.dm a h)⟩, fun j p hj e a ha => ?_, fun j p hj e a ha => ?_, R.iov⟩
  · by_cases hj : i = j
    · subst hj
      rw [List.getElem?_set_self hl] at e
      cases e
      exact ⟨vw, _, hv, by rw [List.getElem?_set_self hfl], whole⟩
    · rw [List.getElem?_set_ne hj] at e
      obtain ⟨u, q, h1, h2, h3⟩ := R.fr.slot j w e
      refine ⟨u, q, h1, by rw [List.getElem?_set_ne hj]; exact h2, h3.kee kee (keeL fun a ha z => ?_)⟩
      exact hj (flat_inj R.fr.nd hf h2 (List.mem_append_left _ (List.mem_append_right _ z)) ha)
  · rcases flat_set ha with w | ⟨j, q, _, h3, h2⟩
    · rcases new w with z | z
      · exact R.fr.dj a (mem_flat hf z)
      · exact z.1
    · exact R.fr.dj a (mem_flat h3 h2)
  · rcases flat_set ha with w | ⟨j, q, _, h3, h2⟩
    · exact whole.dom a w
    · exact hd a (R.fr.odom a (mem_flat h3 h2))
  · by_cases hj : i = j
    · subst hj
      rw [List.getElem?_set_self hfl] at e
      cases e
      have := whole
      rw [hz] at this
      exact this.zero
    · rw [List.getElem?_set_ne hj] at e
      exact R.fr.z j q hz e
  · by_cases hj : i = j
    · subst hj
      rw [List.getElem?_set_self hl] at e1; cases e1
    · rw [List.getElem?_set_ne hj] at e1 e2
      exact R.fr.dead j q e1 e2
  · refine hk a o (R.ext.keep a o h n) fun z => ?_
    rcases R.own (inF z) with w | w
    · rw [w] at h; cases h
    · exact n w
  · by_cases hji : i = j
    · subst hji
      rw [List.getElem?_set_self hfl] at e
      cases e
      rcases new ha with z | z
      · exact R.loc i _ hj hf a z
      · exact z.2.2
    · rw [List.getElem?_set_ne hji] at e
      exact R.loc j p hj e a ha
  · by_cases hji : i = j
    · subst hji
      rw [List.getElem?_set_self hfl] at e
      cases e
      rcases new ha with z | z
      · exact R.ino i _ hj hf a z
      · exact z.2.2.imp (fun w => List.mem_append_right _ w) id
    · rw [List.getElem?_set_ne hji] at e
      exact R.ino j p hj e a ha
/-- the frame, behind a pure expression -/
theorem FR.nw (F : FR K dp H A σ ν fps) (s : Same H H') : FR K dp H' (Nw H H' (Bs A fps.flatten true) []) σ ν fps := by
  refine (F.mono s).more (fun a m => ⟨.inl (.inl m), by simp⟩) (fun a ha m => ?_) fun a m => F.nwdom s m
  obtain ⟨m | ⟨m, _⟩, _⟩ := m
  · exact F.dj a ha m.true'
  · exact F.odom a ha m
end

section
variable {X : Cx} {W : WX} {fs : Fs} {dp dp' : List Nat} {o e : Expr} {i r : Nat} {p : Fr → Res Fo} {f : Fr → Res T} {c : Bool} {k : Nat} {pos apos cpos : Pos}
/-- p.append(e): the tree -/
def appT (o t : T) : Res T := match o with
  | .lst ts => if ts.length < sizeLine then .ok (.lst (ts ++ [t])) else .stuck
  | _ => .stuck
def T.isL : T → Bool
  | .lst _ => true
  | _ => false
theorem isL_ex {t : T} (h : t.isL = true) : ∃ ts, t = .lst ts := by
  cases t with
  | lst ts => exact ⟨ts, rfl⟩
  | _ => cases h
/-- what is done with a place and a value: the place is changed -/
def doR (i : Nat) (ν : Fr) (o : Fo) (r : Res T) : RX := match r with
  | .ok t' => .ok .non (ν.set i (some (o.put t')))
  | _ => .stuck
def xApp2 (i : Nat) (ν : Fr) (o : Fo) (r : Res T) : RX := match r with
  | .ok t => doR i ν o (appT o.t t)
  | .exc c p => .exc c p ν
  | .stuck => .stuck
def xApp1 (i : Nat) (ν : Fr) (f : Fr → Res T) (r : Res Fo) : RX := match r with
  | .ok o => if o.t.isL = true then xApp2 i ν o (f ν) else .stuck
  | .exc c p => .exc c p ν
  | .stuck => .stuck
def xApp (i : Nat) (p : Fr → Res Fo) (f : Fr → Res T) : Fr → RX := fun ν => xApp1 i ν f (p ν)
theorem upd_dom {H : Hp} {a : Addr} {o : HO} : ∀ b, H b ≠ none → upd H a o b ≠ none := fun b h => by
  by_cases e : b = a
  · rw [e, upd_same]; simp
  · rw [upd_ne e]; exact h
theorem vx_app (hp : VP X W dp i o p (r + 1)) (he : VE X W dp e f true r) (hx : leD fs.xd dp = true)
    (hbase : attributeBase o "append" X.env (eval o X.env) = eval o X.env)
    (hfew : ((backTo cpos (starEach [e] X.env)).all (fun x => !x.1) && (backToKw cpos (keywordEach [] X.env)).all (fun x => x.1.isSome)
      && decide (([e] : List Expr).length + ([] : List Keyword).length + (if ([] : List Keyword).isEmpty then 0 else 1) < 30)) = true)
    (hline : (apos.endLine == cpos.line) = true) (hs : starEach [e] X.env = (false, eval e X.env) :: starEach [] X.env) (hpl : (backTo cpos (starEach [] X.env)).any (·.1) = false) :
    VX X W fs dp (wpE X (.Call (.Attribute o "append" apos) [e] [] cpos)) (xApp i p f) true 0 dp := by
  refine ⟨fun {E σ H A ν fps} R Q q pins s I => ?_⟩
  have ln : ν.length = X.N.length := by rw [← R.fr.lσ]; exact I.len
  refine wpE_of (pe_bm PySem.F.plainAttrs_list PySem.F.slot_list_append PySem.F.type_list_append mt_append (pe_wp (e := o)) (pa_cons (pe_wp (e := e)) pa_nil hs) hbase hfew hline hs hpl) ?_ pins s I
  refine hp.run R.fr _ ?_
  unfold xApp at q
  cases e1 : p ν with
  | stuck => rw [e1] at q; exact q
  | exc cl pp => rw [e1] at q; exact exc_st R hx q
  | ok o =>
    rw [e1] at q
    intro v H1 fp pre post vw s1 h1 h2 fo
    have q : PoX X W fs E σ dp true 0 Q (if o.t.isL = true then xApp2 i ν o (f ν) else .stuck) := q
    by_cases hL : o.t.isL = true
    case neg => rw [if_neg hL] at q; exact q.elim
    rw [if_pos hL] at q
    obtain ⟨ts, et⟩ := isL_ex hL
    have ow0 := fo.ow
    rw [et, Ow] at ow0
    obtain ⟨a, xs, f1, rfl, rfl, h3, h4⟩ := ow0
    refine ⟨.inl ⟨rfl, xs, SqL.of h3⟩, he.run (R.fr.mono s1) _ ?_⟩
    cases e2 : f ν with
    | stuck => rw [e2] at q; exact q
    | exc cl pp => rw [e2] at q; exact fun H' d s2 x => exc_st R hx q H' d (s1.trans s2) x
    | ok u =>
      rw [e2] at q
      have q : PoX X W fs E σ dp true 0 Q (doR i ν o (appT o.t u)) := q
      rw [et] at q
      have q : PoX X W fs E σ dp true 0 Q (doR i ν o (if ts.length < sizeLine then .ok (.lst (ts ++ [u])) else .stuck)) := q
      intro x H2 fpx s2 ndx frx rx
      have s12 := s1.trans s2
      have frx0 : ∀ b ∈ fpx, H b = none := fun b hb => fresh_of s1 (frx b hb)
      have R2 := R.take s12 fpx frx0
      generalize hA2 : Nw H H2 (Bs A fps.flatten true) fpx = A2 at R2
      have up : ∀ b, Nw H H1 (Bs A fps.flatten true) [] b → A2 b := fun b m => by
        have hb := R.fr.nwdom s1 m
        rw [← hA2]
        refine ⟨(Nw.up s2 (fun _ z => z) m).1, fun z => hb (frx b z)⟩
      have fo2 := fo.kee (Kee.same s2 up) (KeeL.same s2)
      have rx2 : Ow X.K H2 A2 r u x fpx := rx.mono (Same.refl _) fun b m => by
        rw [← hA2]
        exact Nw.step s1 s2 (fun b z => ⟨.inl z, by simp⟩) m
      have h4' : OwL X.K H2 A2 r ts xs f1 := h4.mono s2 up
      have h3' : H2 a = some (.lst xs) := s2 _ _ h3
      have ndf : (pre ++ a :: f1 ++ post).Nodup := (List.pairwise_flatten.mp R.fr.nd).1 _ (List.mem_of_getElem? h2)
      have ain : a ∈ fps.flatten := mem_flat h2 (by simp)
      have naf : a ∉ f1 := by
        have := (List.nodup_append.mp (List.nodup_append.mp ndf).1).2.1
        exact (List.nodup_cons.mp this).1
      have nax : a ∉ fpx := fun z => R.fr.odom a ain (frx0 a z)
      have nf : ∀ b ∈ f1, b ∈ fps.flatten := fun b hb => mem_flat h2 (by simp [hb])
      have ndf1 : f1.Nodup := (List.nodup_cons.mp (List.nodup_append.mp (List.nodup_append.mp ndf).1).2.1).2
      by_cases hz : ts.length < sizeLine
      case neg => rw [if_neg hz] at q; exact q.elim
      rw [if_pos hz] at q
      refine ⟨a, xs, x, rfl, rfl, h3', by rw [h4.length]; exact hz, ?_⟩
      have ow3 : Ow X.K (upd H2 a (.lst (xs ++ [x]))) A2 (r + 1) (.lst (ts ++ [u])) (.ref a) (a :: (f1 ++ fpx)) := by
        rw [Ow]
        refine ⟨a, xs ++ [x], f1 ++ fpx, rfl, rfl, upd_same, (OwL.snoc h4' rx2).upd h3' trivial (R2.fr.dj a ain) fun z => (List.mem_append.mp z).elim naf nax⟩
      have R3 := R2.mut (i := i) (t' := .lst (ts ++ [u])) (H' := upd H2 a (.lst (xs ++ [x]))) (by rw [ln, ← I.len]; exact (List.getElem?_eq_some_iff.mp h1).1) h2 h1 fo2 (fun b ob hb nb => by rw [upd_ne fun z => nb (by rw [z]; simp)]; exact hb) upd_dom ow3
        (List.nodup_cons.mpr ⟨fun z => (List.mem_append.mp z).elim naf nax, List.nodup_append.mpr ⟨ndf1, ndx, fun b hb c hc e => by
          subst e
          exact R.fr.odom b (nf b hb) (frx0 b hc)⟩⟩) (fun b hb => by
          rcases List.mem_cons.mp hb with rfl | hb
          · exact .inl (by simp)
          · rcases List.mem_append.mp hb with hb | hb
            · exact .inl (List.mem_cons_of_mem _ hb)
            · exact .inr ⟨fun m => by rw [← hA2] at m; exact m.2 hb, fun m => R.fr.odom b m (frx0 b hb), .inr (R.e0 (frx0 b hb))⟩)
      exact q .non _ A2 _ [] R3 frs_nil ow_non
end
end VI

namespace VI
open PySem PySem.Spec PyProof.Rows L2

/-! ### a def -/
/-- what the changed parameters hold at the end -/
def outsO : List Nat → Fr → Option (List T)
  | [], _ => some []
  | 0 :: ds, _ :: ν => (outsO ds ν).map (T.non :: ·)
  | (_ + 1) :: ds, some t :: ν => (outsO ds ν).map (t :: ·)
  | _, _ => none
def frOf (pd : List Nat) : Out → FRes
  | .nxt ν => (match outsO pd ν with
    | some outs => .ok .non outs
    | none => .stuck)
  | .ret t ν => (match outsO pd ν with
    | some outs => .ok t outs
    | none => .stuck)
  | .exc c p ν => (match outsO pd ν with
    | some outs => .exc c p outs
    | none => .stuck)
  | .stuck => .stuck
/-- the frame at the entry -/
def start0 (n : Nat) (ts : List T) : Fr := ts.map some ++ List.replicate (n - ts.length) none
def runD (n : Nat) (pd : List Nat) (g : Fr → Out) (ts : List T) : FRes := frOf pd (g (start0 n ts))
/-- the slots of what is handed in to be changed -/
def ioOf : List Nat → Nat → List Nat
  | [], _ => []
  | 0 :: ds, i => ioOf ds (i + 1)
  | (_ + 1) :: ds, i => i :: ioOf ds (i + 1)
def dp0 (n : Nat) (pd : List Nat) : List Nat := pd ++ List.replicate (n - pd.length) 0
def fsOf (n : Nat) (pd : List Nat) (rk : Nat) : Fs := ⟨ioOf pd 0, dp0 n pd, dp0 n pd, rk⟩

section
variable {K : PySem.W.Frag} {H H' : Hp} {A A' : Addr → Prop}
theorem mem_ioOf : ∀ {pd : List Nat} {j i : Nat}, i ∈ ioOf pd j ↔ j ≤ i ∧ pd.getD (i - j) 0 ≠ 0
  | [], j, i => by simp [ioOf]
  | 0 :: ds, j, i => by
    unfold ioOf
    rw [mem_ioOf]
    constructor
    · rintro ⟨h1, h2⟩
      refine ⟨by omega, ?_⟩
      have : i - j = (i - (j + 1)) + 1 := by omega
      rw [this]
      simpa using h2
    · rintro ⟨h1, h2⟩
      by_cases e : i = j
      · subst e; simp at h2
      · have : i - j = (i - (j + 1)) + 1 := by omega
        rw [this] at h2
        exact ⟨by omega, by simpa using h2⟩
  | (d + 1) :: ds, j, i => by
    unfold ioOf
    rw [List.mem_cons, mem_ioOf]
    constructor
    · rintro (h | ⟨h1, h2⟩)
      · subst h; simp
      · refine ⟨by omega, ?_⟩
        have : i - j = (i - (j + 1)) + 1 := by omega
        rw [this]
        simpa using h2
    · rintro ⟨h1, h2⟩
      by_cases e : i = j
      · exact .inl e
      · right
        have : i - j = (i - (j + 1)) + 1 := by omega
        rw [this] at h2
        exact ⟨by omega, by simpa using h2⟩
theorem OwA.lens : ∀ {pd : List Nat} {ts : List T} {vs : List V} {fps : List (List Addr)}, OwA K H A pd ts vs fps → ts.length = pd.length ∧ vs.length = pd.length ∧ fps.length = pd.length
  | [], [], [], [], _ => ⟨rfl, rfl, rfl⟩
  | d :: ds, t :: ts, v :: vs, f :: fs, h => by
    obtain ⟨a, b, c⟩ := OwA.lens h.2
    simp [a, b, c]
  | [], _ :: _, _, _, h => h.elim
  | [], [], _ :: _, _, h => h.elim
  | [], [], [], _ :: _, h => h.elim
  | _ :: _, [], _, _, h => h.elim
  | _ :: _, _ :: _, [], _, h => h.elim
  | _ :: _, _ :: _, _ :: _, [], h => h.elim
theorem OwA.get : ∀ {pd : List Nat} {ts : List T} {vs : List V} {fps : List (List Addr)} {i : Nat} {t : T}, OwA K H A pd ts vs fps → ts[i]? = some t → ∃ v fp, vs[i]? = some v ∧ fps[i]? = some fp ∧ Ow K H A (pd.getD i 0) t v fp
  | [], [], [], [], i, t, _, e => by cases e
  | d :: ds, t :: ts, v :: vs, f :: fs, 0, u, h, e => by cases e; exact ⟨v, f, rfl, rfl, h.1⟩
  | d :: ds, t :: ts, v :: vs, f :: fs, i + 1, u, h, e => by
    obtain ⟨w, g, h1, h2, h3⟩ := OwA.get h.2 (show ts[i]? = some u by simpa using e)
    exact ⟨w, g, by simpa using h1, by simpa using h2, by simpa using h3⟩
  | [], _ :: _, _, _, _, _, h, _ => h.elim
  | [], [], _ :: _, _, _, _, h, _ => h.elim
  | [], [], [], _ :: _, _, _, h, _ => h.elim
  | _ :: _, [], _, _, _, _, h, _ => h.elim
  | _ :: _, _ :: _, [], _, _, _, h, _ => h.elim
  | _ :: _, _ :: _, _ :: _, [], _, _, h, _ => h.elim
theorem start0_get {n : Nat} {ts : List T} {i : Nat} {t : T} (h : (start0 n ts)[i]? = some (some t)) : ts[i]? = some t := by
  unfold start0 at h
  by_cases hi : i < ts.length
  · rw [List.getElem?_append_left (by simpa using hi), List.getElem?_map] at h
    rw [List.getElem?_eq_getElem hi] at h ⊢
    simpa using h
  · rw [List.getElem?_append_right (by simpa using hi)] at h
    rw [List.getElem?_replicate] at h
    split at h <;> cases h
theorem start_get {N : List Str} {vs : List V} {i : Nat} {v : V} (h : vs[i]? = some v) : (start N vs)[i]? = some (some v) := by
  unfold L2.start
  have hi : i < vs.length := (List.getElem?_eq_some_iff.mp h).1
  rw [List.getElem?_append_left (by simpa using hi), List.getElem?_map, h]
  rfl
theorem getD_dp0 {n : Nat} {pd : List Nat} {i : Nat} : (dp0 n pd).getD i 0 = pd.getD i 0 := by
  unfold dp0
  rw [List.getD_eq_getElem?_getD, List.getD_eq_getElem?_getD]
  by_cases hi : i < pd.length
  · rw [List.getElem?_append_left hi]
  · rw [List.getElem?_append_right (by omega), List.getElem?_replicate, List.getElem?_eq_none (by omega)]
    split <;> rfl
theorem flat_rep (fps : List (List Addr)) (m : Nat) : (fps ++ List.replicate m []).flatten = fps.flatten := by
  rw [List.flatten_append]
  have : (List.replicate m ([] : List Addr)).flatten = [] := by
    induction m with
    | zero => rfl
    | succ m ih => rw [List.replicate_succ, List.flatten_cons, ih]; rfl
  rw [this, List.append_nil]
/-- the entry -/
theorem FR.start {N : List Str} {pd : List Nat} {ts : List T} {vs : List V} {fps : List (List Addr)} (hl : pd.length ≤ N.length) (h : OwA K H A pd ts vs fps) (nd : fps.flatten.Nodup) (dj : ∀ a ∈ fps.flatten, ¬ A a) (dom : ∀ a, A a → H a ≠ none) :
    FR K (dp0 N.length pd) H A (L2.start N vs) (start0 N.length ts) (fps ++ List.replicate (N.length - fps.length) []) := by
  obtain ⟨l1, l2, l3⟩ := h.lens
  have get : ∀ {i : Nat} {fp : List Addr}, (fps ++ List.replicate (N.length - fps.length) [])[i]? = some fp → fps[i]? = some fp ∨ fp = [] := fun {i fp} e => by
    by_cases hi : i < fps.length
    · rw [List.getElem?_append_left hi] at e; exact .inl e
    · rw [List.getElem?_append_right (by omega), List.getElem?_replicate] at e
      split at e
      · cases e; exact .inr rfl
      · cases e
  have own : ∀ {i : Nat} {fp : List Addr}, fps[i]? = some fp → ∃ t v, ts[i]? = some t ∧ vs[i]? = some v ∧ Ow K H A (pd.getD i 0) t v fp := fun {i fp} e => by
    have hi : i < ts.length := by rw [l1, ← l3]; exact (List.getElem?_eq_some_iff.mp e).1
    obtain ⟨v, fp', h1, h2, h3⟩ := h.get (List.getElem?_eq_getElem hi)
    rw [e] at h2; cases h2
    exact ⟨_, v, List.getElem?_eq_getElem hi, h1, h3⟩
  refine ⟨?_, ?_, fun i t e => ?_, by rw [flat_rep]; exact nd, by rw [flat_rep]; exact dj, dom, fun a ha => ?_, fun i fp hz e => ?_, fun i fp hn e => ?_⟩
  · simp only [L2.start, start0, List.length_append, List.length_map, List.length_replicate]; omega
  · simp only [start0, List.length_append, List.length_map, List.length_replicate]; omega
  · obtain ⟨v, fp, h1, h2, h3⟩ := h.get (start0_get e)
    refine ⟨v, fp, start_get h1, ?_, by rw [getD_dp0]; exact h3⟩
    rw [List.getElem?_append_left (List.getElem?_eq_some_iff.mp h2).1]
    exact h2
  · rw [flat_rep] at ha
    obtain ⟨i, fp, e, hm⟩ := of_flat ha
    obtain ⟨t, v, _, _, h3⟩ := own e
    exact h3.dom a hm
  · rcases get e with e | e
    · obtain ⟨t, v, _, _, h3⟩ := own e
      rw [getD_dp0] at hz
      rw [hz] at h3
      exact h3.zero
    · exact e
  · rcases get e with e | e
    · obtain ⟨t, v, h1, _, _⟩ := own e
      have hi : i < ts.length := (List.getElem?_eq_some_iff.mp h1).1
      unfold start0 at hn
      rw [List.getElem?_append_left (by simpa using hi), List.getElem?_map, h1] at hn
      cases hn
    · exact e
/-- the changed parameters, at the end -/
theorem owO_end : ∀ {pd : List Nat} {ν : Fr} {outs : List T} {vs : List V} {fps : List (List Addr)}, outsO pd ν = some outs → vs.length = pd.length → fps.length = ν.length → pd.length ≤ ν.length →
    (∀ (i : Nat) (t : T) (v : V) (fp : List Addr), ν[i]? = some (some t) → vs[i]? = some v → fps[i]? = some fp → pd.getD i 0 ≠ 0 → Ow K H A (pd.getD i 0) t v fp) → (∀ (i : Nat) (fp : List Addr), pd.getD i 0 = 0 → fps[i]? = some fp → fp = []) →
    OwO K H A pd outs vs (fps.take pd.length)
  | [], ν, outs, vs, fps, h, l, _, _, _, _ => by
    cases vs with
    | nil => simp [OwO]
    | cons _ _ => cases l
  | 0 :: ds, [], outs, vs, fps, h, l, _, l3, _, _ => by cases l3
  | 0 :: ds, o :: ν, outs, v :: vs, f :: fps, h, l, l2, l3, hs, hz => by
    have h : (outsO ds ν).map (T.non :: ·) = some outs := h
    cases e : outsO ds ν with
    | none => rw [e] at h; cases h
    | some os =>
      rw [e] at h
      cases h
      refine ⟨hz 0 f rfl rfl, owO_end (ν := ν) (outs := os) (vs := vs) (fps := fps) e (by simpa using l) (by simpa using l2) (by simpa using l3) (fun i t v fp h1 h2 h3 h4 => ?_) fun i fp h1 h2 => ?_⟩
      · have := hs (i + 1) t v fp (by simpa using h1) (by simpa using h2) (by simpa using h3) (by simpa using h4)
        simpa using this
      · exact hz (i + 1) fp (by simpa using h1) (by simpa using h2)
  | (d + 1) :: ds, some t :: ν, outs, v :: vs, f :: fps, h, l, l2, l3, hs, hz => by
    have h : (outsO ds ν).map (t :: ·) = some outs := h
    cases e : outsO ds ν with
    | none => rw [e] at h; cases h
    | some os =>
      rw [e] at h
      cases h
      refine ⟨hs 0 t v f rfl rfl rfl (by simp), owO_end (ν := ν) (outs := os) (vs := vs) (fps := fps) e (by simpa using l) (by simpa using l2) (by simpa using l3) (fun i t v fp h1 h2 h3 h4 => ?_) fun i fp h1 h2 => ?_⟩
      · have := hs (i + 1) t v fp (by simpa using h1) (by simpa using h2) (by simpa using h3) (by simpa using h4)
        simpa using this
      · exact hz (i + 1) fp (by simpa using h1) (by simpa using h2)
  | (d + 1) :: ds, [], outs, vs, fps, h, l, _, l3, _, _ => by cases l3
  | (d + 1) :: ds, none :: ν, outs, vs, fps, h, l, _, l3, _, _ => by cases h
  | 0 :: ds, o :: ν, outs, [], fps, h, l, _, _, _, _ => by cases l
  | 0 :: ds, o :: ν, outs, v :: vs, [], h, l, l2, _, _, _ => by cases l2
  | (d + 1) :: ds, some t :: ν, outs, [], fps, h, l, _, _, _, _ => by cases l
  | (d + 1) :: ds, some t :: ν, outs, v :: vs, [], h, l, l2, _, _, _ => by cases l2
theorem take_flat {fps : List (List Addr)} {n : Nat} {a : Addr} (h : a ∈ (fps.take n).flatten) : a ∈ fps.flatten := by
  obtain ⟨l, h1, h2⟩ := List.mem_flatten.mp h
  exact List.mem_flatten.mpr ⟨l, List.mem_of_mem_take h1, h2⟩
theorem take_nodup {fps : List (List Addr)} {n : Nat} (h : fps.flatten.Nodup) : (fps.take n).flatten.Nodup := by
  have : fps.flatten = (fps.take n).flatten ++ (fps.drop n).flatten := by rw [← List.flatten_append, List.take_append_drop]
  rw [this] at h
  exact (List.nodup_append.mp h).1
end

theorem outsO_len : ∀ {pd : List Nat} {ν : Fr} {outs : List T}, outsO pd ν = some outs → pd.length ≤ ν.length
  | [], _, _, _ => Nat.zero_le _
  | 0 :: ds, [], outs, h => by cases h
  | 0 :: ds, o :: ν, outs, h => by
    have h : (outsO ds ν).map (T.non :: ·) = some outs := h
    cases e : outsO ds ν with
    | none => rw [e] at h; cases h
    | some os => simpa using outsO_len e
  | (d + 1) :: ds, [], outs, h => by cases h
  | (d + 1) :: ds, none :: ν, outs, h => by cases h
  | (d + 1) :: ds, some t :: ν, outs, h => by
    have h : (outsO ds ν).map (t :: ·) = some outs := h
    cases e : outsO ds ν with
    | none => rw [e] at h; cases h
    | some os => simpa using outsO_len e
/-- what a body must have: for every entry -/
structure Ctx0 (P : Program) (w : World) (K : PySem.W.Frag) (mg : Str → Option Value) (base : Heap) (N : List Str) (sc : Scope) (k : Nat) (X : Cx) (W : WX) : Prop where
  prog : X.prog = P
  wd : X.w = w
  K : X.K = K
  mg : X.mg = mg
  base : X.base = base
  N : X.N = N
  sc : X.env.scope = sc
  calm : X.calm = true
  fn : ∀ x, X.fn x = true
  room : Room k X.A
  tk : Takes X W
  po : PassesOwn (model X.prog X.w) X.A X.env X.xe
  stk : X.stack = X.env :: X.outer
  frm : X.env.frame = some X.env.locals
  ex : X.ex = []

theorem fn_den {P : Program} {w : World} {K : PySem.W.Frag} {mg : Str → Option Value} {base : Heap} {x qual : Str} {params : Arguments} {body : List Stmt} {scope : Scope} {dvs : List V} {kws : List (Str × V)} {f : Addr} {fd : FuncData} {N : List Str} {fi : FI} {k : Nat} {g : Fr → Out} {dp1 : List Nat}
    (F : FunD K x qual params body scope dvs kws f fd) (S : FnScope N fi.ps scope) (hpd : fi.pd.length = fi.ps.length) (hN : fi.ps.length ≤ N.length)
    (hb : ∀ X W, Ctx0 P w K mg base N scope k X W → VSs X W (fsOf N.length fi.pd fi.rk) (dp0 N.length fi.pd) body g dp1) (hl : leD (dp0 N.length fi.pd) dp1 = true) :
    FnOk P w K mg base (L2.CX P w) (k + 1) f fd fi.ps (spOf K fi (runD N.length fi.pd g)) := by
  refine F.ok S (fun vs H Q E h => h.choose_spec.choose_spec.choose_spec.1) fun cdv A0 outer s H vs Q E hr hsp => ?_
  refine ⟨_, pss_wp, ?_⟩
  obtain ⟨A, ts, fps, lv, ow, nd, dj, dom, q⟩ := hsp
  obtain ⟨l1, l2, l3⟩ := ow.lens
  have hX : Ctx0 P w K mg base N scope k (cxOf (L2.CX P w) P w K mg base N qual scope f cdv A0 outer s H E) (fun cls d _ H => E cls d H) :=
    ⟨rfl, rfl, rfl, rfl, rfl, rfl, rfl, rfl, fun _ => rfl, hr, takes_of rfl rfl rfl rfl, passes_of rfl, rfl, rfl, rfl⟩
  have V := hb _ _ hX
  have F0 := FR.start (N := N) (by omega) ow nd dj dom
  have R : SR K (ioOf fi.pd 0) ⟨H, A, fps.flatten, [], L2.start N vs⟩ (dp0 N.length fi.pd) H A (L2.start N vs) (start0 N.length ts) (fps ++ List.replicate (N.length - fps.length) []) := by
    refine ⟨F0, Ext.refl dom, fun i p hi e a ha => ?_, fun i p hi e a ha => .inl (List.mem_append_left _ (by rw [← flat_rep fps]; exact mem_flat e ha)), fun _ _ => rfl⟩
    have hz : fi.pd.getD i 0 = 0 := Decidable.byContradiction fun z => hi (mem_ioOf.mpr ⟨Nat.zero_le _, by simpa using z⟩)
    rw [F0.z i p (by rw [getD_dp0]; exact hz) e] at ha
    cases ha
  refine V.run R _ ?_
  -- the end
  have fin : ∀ {H' : Hp} {A' : Addr → Prop} {σ' : L2.St} {ν' : Fr} {fps' : List (List Addr)} {outs : List T}, SR K (ioOf fi.pd 0) ⟨H, A, fps.flatten, [], L2.start N vs⟩ (dp0 N.length fi.pd) H' A' σ' ν' fps' → outsO fi.pd ν' = some outs →
      fi.pd.length ≤ ν'.length → Ext H A fps.flatten H' A' ∧ OwO K H' A' fi.pd outs vs (fps'.take fi.pd.length) ∧ (fps'.take fi.pd.length).flatten.Nodup ∧ (∀ a ∈ (fps'.take fi.pd.length).flatten, (a ∈ fps.flatten ∨ H a = none) ∧ ¬ A' a) := by
    intro H' A' σ' ν' fps' outs R' ho hln
    refine ⟨?_, owO_end ho l2 R'.fr.lf hln (fun i t v fp h1 h2 h3 h4 => ?_) (fun i fp h1 h2 => R'.fr.z i fp (by rw [getD_dp0]; exact h1) h2), take_nodup R'.fr.nd, fun a ha => ⟨?_, R'.fr.dj a (take_flat ha)⟩⟩
    · have := R'.ext
      simpa using this
    · have hio : i ∈ ioOf fi.pd 0 := mem_ioOf.mpr ⟨Nat.zero_le _, by simpa using h4⟩
      obtain ⟨v', fp', g1, g2, g3⟩ := R'.fr.slot i t h1
      rw [h3] at g2; cases g2
      have := R'.iov i hio
      rw [g1, start_get h2] at this
      cases this
      rw [getD_dp0] at g3
      exact g3
    · have := R'.own (take_flat ha)
      simpa using this.symm
  have lnu : ∀ {H' : Hp} {A' : Addr → Prop} {σ' : L2.St} {ν' : Fr} {fps' : List (List Addr)} {dq : List Nat}, SR K (ioOf fi.pd 0) ⟨H, A, fps.flatten, [], L2.start N vs⟩ dq H' A' σ' ν' fps' → ∀ {outs}, outsO fi.pd ν' = some outs → fi.pd.length ≤ ν'.length := by
    intro H' A' σ' ν' fps' dq R' outs ho
    exact outsO_len ho
  unfold runD at q
  cases eg : g (start0 N.length ts) with
  | stuck => rw [eg] at q; exact q
  | nxt ν' =>
    rw [eg] at q
    intro σ' H' A' fps' R'
    obtain ⟨A2, fps2, R2, _⟩ := R'.low hl
    cases eo : outsO fi.pd ν' with
    | none => unfold frOf at q; simp only [eo] at q; exact q.elim
    | some outs =>
      unfold frOf at q
      simp only [eo] at q
      obtain ⟨h1, h2, h3, h4⟩ := fin R2 eo (lnu R2 eo)
      exact q .non H' A2 [] _ h1 ow_non h2 (by simpa using h3) (fun _ z => nomatch z) (fun a ha => (h4 a ha).1) fun a ha => (h4 a (by simpa using ha)).2
  | ret t ν' =>
    rw [eg] at q
    intro σ' H' A' fps' v fp R2 r fr
    cases eo : outsO fi.pd ν' with
    | none => unfold frOf at q; simp only [eo] at q; exact q.elim
    | some outs =>
      unfold frOf at q
      simp only [eo] at q
      obtain ⟨h1, h2, h3, h4⟩ := fin R2 eo (lnu R2 eo)
      refine q v H' A' fp _ h1 r h2 (List.nodup_append.mpr ⟨fr.1, h3, fun a ha b hb e => ?_⟩) (fun a ha => ?_) (fun a ha => (h4 a ha).1) fun a ha => ?_
      · subst e
        exact (fr.2 a ha).2.1 (take_flat hb)
      · have := (fr.2 a ha).2.2
        simpa using this
      · rcases List.mem_append.mp ha with ha | ha
        · exact (fr.2 a ha).1
        · exact (h4 a ha).2
  | exc c p ν' =>
    rw [eg] at q
    intro σ' H' A' fps' d R2 xr
    cases eo : outsO fi.pd ν' with
    | none => unfold frOf at q; simp only [eo] at q; exact q.elim
    | some outs =>
      unfold frOf at q
      simp only [eo] at q
      obtain ⟨h1, h2, h3, h4⟩ := fin R2 eo (lnu R2 eo)
      exact q d H' A' _ h1 xr h2 h3 (fun a ha => (h4 a ha).1) fun a ha => (h4 a ha).2
end VI

namespace VI
open PySem PySem.Spec PyProof.Rows L2

/-! ### less is promised -/
section
variable {X : Cx} {W : WX} {dp : List Nat} {e : Expr} {es : List Expr} {f : Fr → Res T} {fs : Fr → Res (List T)} {c : Bool} {k : Nat}
theorem Bs.weak {A : Addr → Prop} {own : List Addr} {c c' : Bool} (h : c' = true → c = true) {a : Addr} (m : Bs A own c a) : Bs A own c' a := by
  rcases m with m | ⟨z, m⟩
  · exact .inl m
  · refine .inr ⟨?_, m⟩
    cases c' with
    | false => rfl
    | true => rw [h rfl] at z; cases z
theorem Nw.weak {H H' : Hp} {B B' : Addr → Prop} {fp : List Addr} (h : ∀ a, B a → B' a) {a : Addr} (m : Nw H H' B fp a) : Nw H H' B' fp a := ⟨m.1.imp (h a) id, m.2⟩
theorem VE.weak (h : VE X W dp e f c k) {c' : Bool} (hc : c' = true → c = true) : VE X W dp e f c' k := by
  refine ⟨fun {σ H A ν fps} F Q q => h.run F Q ?_⟩
  revert q
  cases f ν with
  | ok t => exact fun q v H' fp s nd fr r => q v H' fp s nd fr (r.mono (Same.refl _) fun a m => m.weak fun b z => z.weak hc)
  | exc cl p => exact fun q => q
  | stuck => exact fun q => q
theorem VE.lowk (h : VE X W dp e f c k) {k' : Nat} (hk : k' ≤ k) : VE X W dp e f c k' := by
  refine ⟨fun {σ H A ν fps} F Q q => h.run F Q ?_⟩
  revert q
  cases f ν with
  | ok t =>
    intro q v H' fp s nd fr r
    obtain ⟨fp', sub, lp⟩ := r.low nd k' hk
    refine q v H' fp' s (nd.sublist sub) (fun a ha => fr a (sub.subset ha)) (lp _ (fun a m => ⟨m.1, fun z => m.2 (sub.subset z)⟩) fun a ha n => ⟨.inr ⟨fr a ha, r.dom a ha⟩, n⟩)
  | exc cl p => exact fun q => q
  | stuck => exact fun q => q
theorem VEs.weak (h : VEs X W dp es fs c) {c' : Bool} (hc : c' = true → c = true) : VEs X W dp es fs c' := by
  obtain ⟨t, pa, qa⟩ := h.pa
  refine ⟨t, pa, fun {σ H A ν fps} F Q q => qa F Q ?_⟩
  revert q
  cases fs ν with
  | ok t => exact fun q vs H' s r => q vs H' s (r.mono (Same.refl _) fun a m => m.weak fun b z => z.weak hc)
  | exc cl p => exact fun q => q
  | stuck => exact fun q => q
/-- an empty list, of so many levels as one likes -/
theorem ve_lstE {pos : Pos} : VE X W dp (.List [] pos) (eLst esNil) c k := by
  refine ⟨fun {σ H A ν fps} F Q q => ?_⟩
  refine (ve_lst (X := X) (W := W) (dp := dp) (c := c) (pos := pos) (ves_nil)).run F Q ?_
  have q : PoE X W σ H (Bs A fps.flatten c) k Q (.ok (.lst [])) := q
  show PoE X W σ H (Bs A fps.flatten c) 1 Q (.ok (.lst []))
  intro v H' fp s nd fr r
  rw [Ow] at r
  obtain ⟨a, xs, f1, rfl, rfl, h1, h2⟩ := r
  rw [OwL] at h2
  obtain ⟨rfl, rfl⟩ := h2
  cases k with
  | zero => exact q (.ref a) H' [] s List.nodup_nil (fun _ z => nomatch z) (ow_lst ⟨.inr ⟨fr a (by simp), by rw [h1]; simp⟩, by simp⟩ h1 OwL.nil0)
  | succ k =>
    refine q (.ref a) H' [a] s nd fr ?_
    rw [Ow]
    exact ⟨a, [], [], rfl, rfl, h1, OwL.nil0⟩
end

/-! ### shapes -/
def isStar : Expr → Bool
  | .Starred .. => true
  | _ => false
def isCmp : Expr → Bool
  | .ListComp .. => true
  | .SetComp .. => true
  | .DictComp .. => true
  | _ => false
def isSet : Expr → Bool
  | .Set .. => true
  | _ => false
def isSlc : Expr → Bool
  | .Slice .. => true
  | _ => false
def isTupE : Expr → Bool
  | .Tuple .. => true
  | _ => false
def isCal : Expr → Bool
  | .Call .. => true
  | _ => false
/-- a test by the value's truth -/
def byTru : Expr → Bool
  | .UnaryOp .Not _ _ => false
  | .BoolOp .. => false
  | .IfExp .. => false
  | .Compare .. => false
  | _ => true
theorem star_cons {e : Expr} {es : List Expr} {env : Env} (h : isStar e = false) : starEach (e :: es) env = (false, eval e env) :: starEach es env := by
  cases e <;> first | rfl | cases h
theorem star_any : ∀ {es : List Expr} {env : Env} {pos : Pos}, es.all (fun e => !isStar e) = true → (backTo pos (starEach es env)).any (·.1) = false
  | [], _, _, _ => rfl
  | e :: es, env, pos, h => by
    rw [List.all_cons, Bool.and_eq_true] at h
    rw [star_cons (by simpa using h.1)]
    show (false || (backTo pos (starEach es env)).any (·.1)) = false
    rw [star_any h.2]; rfl
theorem swaps_no {e : Expr} {t : Option Expr} {l : Nat} {env : Env} (h : isCmp e = false) : swapsWith e t l env = pure false := by
  cases e <;> first | rfl | cases h
theorem folded_no {e : Expr} {env : Env} (h : isSet e = false) : ∀ x, foldedSetIterable e env x = pure x := by
  intro x
  cases e <;> first | rfl | cases h
theorem marks_no {op : CmpOp} {e : Expr} (h : isSet e = false) : behindInMarks op e = false := by
  cases e <;> first | rfl | cases h
theorem plainIx_no {e : Expr} (h : isSlc e = false) : PlainIx e := by
  intro o i
  cases e <;> first | rfl | cases h
theorem tru_no {e : Expr} {env : Env} (h : byTru e = true) : ∀ whole, isTrue e env whole = (do let v ← whole; standAt e.pos; holding [v] (truthy v)) := by
  intro whole
  cases e with
  | UnaryOp op x p => cases op <;> first | rfl | cases h
  | _ => first | rfl | cases h
theorem base_no {e : Expr} {f : Str} {env : Env} {w : Sem Value} (h : isCal e = false) : attributeBase e f env w = w := by
  cases e <;> first | rfl | cases h
/-- the slot of a name -/
def ixOf (x : Str) : List Str → Option Nat
  | [] => none
  | y :: N => if y == x then some 0 else (ixOf x N).map (· + 1)
theorem ixOf_get {x : Str} : ∀ {N : List Str} {i : Nat}, ixOf x N = some i → N[i]? = some x
  | [], i, h => by cases h
  | y :: N, i, h => by
    unfold ixOf at h
    by_cases e : (y == x) = true
    · rw [if_pos e] at h
      cases h
      rw [eq_of_beq e]; rfl
    · rw [if_neg e] at h
      cases e2 : ixOf x N with
      | none => rw [e2] at h; cases h
      | some j => rw [e2] at h; cases h; exact ixOf_get (N := N) e2
def visB (sc : Scope) (x : Str) : Bool := match sc.names.lookup x with
  | some .local => true
  | some .cell => true
  | some .free => true
  | _ => false
theorem visB_ok {sc : Scope} {x : Str} (h : visB sc x = true) : Vis sc x := by
  unfold visB at h
  split at h
  · rename_i e; exact .inl e
  · rename_i e; exact .inr (.inl e)
  · rename_i e; exact .inr (.inr e)
  · cases h
def locB (sc : Scope) (x : Str) : Bool := match sc.names.lookup x with
  | some .local => true
  | some .cell => true
  | _ => false
theorem locB_ok {sc : Scope} {x : Str} (h : locB sc x = true) : Loc sc x := by
  unfold locB at h
  split at h
  · rename_i e; exact .inl e
  · rename_i e; exact .inr e
  · cases h
def gloB (sc : Scope) (x : Str) : Bool := match sc.names.lookup x with
  | some .globalImplicit => true
  | _ => false
theorem gloB_ok {sc : Scope} {x : Str} (h : gloB sc x = true) : sc.names.lookup x = some .globalImplicit := by
  unfold gloB at h
  split at h
  · rename_i e; exact e
  · cases h
def trueLoc (sc : Scope) (x : Str) : Bool := match sc.names.lookup x with
  | some .local => true
  | _ => false
theorem trueLoc_ok {sc : Scope} {x : Str} (h : trueLoc sc x = true) : sc.names.lookup x = some .local := by
  unfold trueLoc at h
  split at h
  · rename_i e; exact e
  · cases h
/-- no odd name -/
def plainN (x : Str) : Bool := !(x == ("__debug__" : Str)) && !(x == ("__classdict__" : Str)) && !(x == ("__name__" : Str))
theorem plainN_ok {x : Str} (h : plainN x = true) : (x == ("__debug__" : Str)) = false ∧ (x == ("__classdict__" : Str)) = false ∧ x ≠ ("__name__" : Str) := by
  unfold plainN at h
  simp only [Bool.and_eq_true, Bool.not_eq_true'] at h
  exact ⟨h.1.1, h.1.2, fun z => by rw [z] at h; exact absurd h.2 (by simp)⟩

/-! ### the context -/
structure Ctx where
  N : List Str
  sc : Scope
  fnl : Bool
  fs : List (Str × FI)
  bl : List Str
  call : Str → List T → FRes
structure COk (G : Ctx) (X : Cx) (W : WX) : Prop where
  N : X.N = G.N
  nd : G.N.Nodup
  sc : X.env.scope = G.sc
  calm : X.calm = true
  un : X.A.units + 64 < cLine
  fn : ∀ x fi, (x, fi) ∈ G.fs → FnC X x fi (G.call x)
  bl : ∀ x ∈ G.bl, X.mg x = none
  tk : Takes X W
  lo : G.fnl = true → ∀ x, X.fn x = true
def relS (sc scope : Scope) : Scope := { scope with names := scope.names.map fun (n, k) => if (k == .free && sc.kind == .function && sc.names.lookup n == some .cell) then (n, .cell) else (n, k) }
def Ctx.inb (G : Ctx) (scope : Scope) : Ctx := { G with sc := relS G.sc scope, fnl := false }
theorem COk.blk {G : Ctx} {X : Cx} {W : WX} (h : COk G X W) (s : Shared) (H : Hp) (scope : Scope) (cl : List (Str × Addr)) (C : Addr) (fp : List Addr) : COk (G.inb scope) (X.blk s H scope (compEnvC scope cl C X.env) fp) W0 where
  N := h.N
  nd := h.nd
  sc := by
    show relabel scope X.env = relS G.sc scope
    rw [← h.sc]
    rfl
  calm := h.calm
  un := h.un
  fn := fun x fi m => ⟨(h.fn x fi m).ex⟩
  bl := h.bl
  tk := fun u s' ⟨_, _, _, _, _, _, _, _, _, _, _, _, _, _, _, _, w⟩ => w.elim
  lo := fun z => by cases z
def lookF (x : Str) : List (Str × FI) → Option FI
  | [] => none
  | (y, fi) :: r => if y == x then some fi else lookF x r
theorem lookF_mem {x : Str} {fi : FI} : ∀ {l : List (Str × FI)}, lookF x l = some fi → (x, fi) ∈ l
  | [], h => by cases h
  | (y, g) :: r, h => by
    unfold lookF at h
    by_cases e : (y == x) = true
    · rw [if_pos e] at h
      cases h
      rw [eq_of_beq e]; exact List.mem_cons_self
    · rw [if_neg e] at h
      exact List.mem_cons_of_mem _ (lookF_mem h)
def hasS (x : Str) : List Str → Bool
  | [] => false
  | y :: r => y == x || hasS x r
theorem hasS_mem {x : Str} : ∀ {l : List Str}, hasS x l = true → x ∈ l
  | [], h => by cases h
  | y :: r, h => by
    unfold hasS at h
    rw [Bool.or_eq_true] at h
    rcases h with h | h
    · rw [eq_of_beq h]; exact List.mem_cons_self
    · exact List.mem_cons_of_mem _ (hasS_mem h)
/-- a built-in's name -/
def bltB (G : Ctx) (x : Str) : Bool := gloB G.sc x && hasS x G.bl && plainN x
theorem COk.glo {G : Ctx} {X : Cx} {W : WX} (h : COk G X W) {x : Str} (hb : gloB G.sc x = true) : Gl X x := by
  show X.env.scope.names.lookup x = some .globalImplicit
  rw [h.sc]
  exact gloB_ok hb
theorem bltB_ok {G : Ctx} {X : Cx} {W : WX} (h : COk G X W) {x : Str} (hb : bltB G x = true) : Gl X x ∧ X.mg x = none ∧ x ≠ ("__name__" : Str) ∧ (x == ("__debug__" : Str)) = false := by
  unfold bltB at hb
  simp only [Bool.and_eq_true] at hb
  have := plainN_ok hb.2
  exact ⟨h.glo hb.1.1, h.bl x (hasS_mem hb.1.2), this.2.2, this.1⟩

/-! ### what is read -/
structure EI where
  f : Fr → Res T
  c : Bool
  k : Nat
structure EsI where
  f : Fr → Res (List T)
  c : Bool
abbrev DE (G : Ctx) (dp : List Nat) (e : Expr) : Type := Option { r : EI // ∀ X W, COk G X W → VE X W dp e r.f r.c r.k }
abbrev DT (G : Ctx) (dp : List Nat) (e : Expr) : Type := Option { f : Fr → Res Bool // ∀ X W, COk G X W → VT X W dp e f }
abbrev DEs (G : Ctx) (dp : List Nat) (es : List Expr) : Type := Option { r : EsI // (∀ X W, COk G X W → VEs X W dp es r.f r.c) ∧ ∀ ν ts, r.f ν = .ok ts → ts.length = es.length }
abbrev DIt (G : Ctx) (dp : List Nat) (tg it : Expr) : Type := Option { r : EsI // ∀ X W, COk G X W → VI X W dp tg it r.f r.c }
abbrev DO (G : Ctx) (dp : List Nat) (e : Option Expr) : Type := Option { f : Fr → Res (Option Int) // ∀ X W, COk G X W → VO X W dp e f }
abbrev DG (G : Ctx) (dp ws : List Nat) (tg : Expr) : Type := Option { h : T → Fr → Res Fr // ∀ X W, COk G X W → VG X dp tg h ws }
abbrev DGs (G : Ctx) (dp ws : List Nat) (tgs : List Expr) : Type := Option { h : List T → Fr → Res Fr // (∀ X W, COk G X W → VGs X dp tgs h ws) ∧ ∀ ts ν ν', h ts ν = .ok ν' → ts.length = tgs.length }
abbrev DTs (G : Ctx) (ifs : List Expr) : Type := Option { f : Fr → Res Bool // ∀ X W, COk G X W → VTs X ifs f }
structure Den where
  e : (G : Ctx) → (dp : List Nat) → (d : Nat) → (e : Expr) → DE G dp e
  t : (G : Ctx) → (dp : List Nat) → (e : Expr) → DT G dp e
def den0 : Den := ⟨fun _ _ _ _ => none, fun _ _ _ => none⟩

def asBf (f : Fr → Res T) : Fr → Res Bool := fun ν => asB (f ν)
/-! atoms lean on nothing -/
def T.atom : T → Bool
  | .non => true
  | .bl _ => true
  | .int _ => true
  | .str _ => true
  | _ => false
theorem Ow.atom {K : PySem.W.Frag} {H : Hp} {A A' : Addr → Prop} {k k' : Nat} {t : T} {v : V} {fp : List Addr} (h : Ow K H A k t v fp) (ha : t.atom = true) : fp = [] ∧ Ow K H A' k' t v [] := by
  cases t with
  | non => rw [Ow] at h; exact ⟨h.2, by rw [Ow]; exact ⟨h.1, rfl⟩⟩
  | bl b => rw [Ow] at h; exact ⟨h.2, by rw [Ow]; exact ⟨h.1, rfl⟩⟩
  | int i => rw [Ow] at h; exact ⟨h.2, by rw [Ow]; exact ⟨h.1, rfl⟩⟩
  | str x => rw [Ow] at h; exact ⟨h.2.1, by rw [Ow]; exact ⟨h.1, rfl, h.2.2⟩⟩
  | _ => cases ha
theorem VE.atom {X : Cx} {W : WX} {dp : List Nat} {e : Expr} {f : Fr → Res T} {c c' : Bool} {k k' : Nat} (h : VE X W dp e f c k) (ha : ∀ ν t, f ν = .ok t → t.atom = true) : VE X W dp e f c' k' := by
  refine ⟨fun {σ H A ν fps} F Q q => h.run F Q ?_⟩
  cases e1 : f ν with
  | ok t =>
    rw [e1] at q
    intro v H' fp s nd fr r
    exact q v H' [] s List.nodup_nil (fun _ z => nomatch z) (r.atom (ha ν t e1)).2
  | exc cl p => rw [e1] at q; exact q
  | stuck => rw [e1] at q; exact q
/-- the tests of what comes out -/
def At2 (g0 : T → T → Res T) : Prop := ∀ x y t, g0 x y = .ok t → t.atom = true
theorem at_op {g0 : T → T → Res T} (h : At2 g0) {f g : Fr → Res T} : ∀ ν t, eOp g0 f g ν = .ok t → t.atom = true := fun ν t e => by
  unfold eOp at e
  cases e1 : f ν with
  | ok x =>
    rw [e1] at e
    cases e2 : g ν with
    | ok y =>
      have e : (g ν).bind (fun y => g0 x y) = .ok t := e
      rw [e2] at e
      exact h x y t e
    | exc _ _ => have e : (g ν).bind (fun y => g0 x y) = .ok t := e; rw [e2] at e; cases e
    | stuck => have e : (g ν).bind (fun y => g0 x y) = .ok t := e; rw [e2] at e; cases e
  | exc _ _ => rw [e1] at e; cases e
  | stuck => rw [e1] at e; cases e
theorem at_sub : At2 subT := fun x y t e => by unfold subT at e; split at e <;> cases e; rfl
theorem at_mul : At2 mulT := fun x y t e => by unfold mulT at e; split at e <;> first | (split at e <;> cases e; rfl) | cases e
theorem at_fdiv : At2 fdivT := fun x y t e => by unfold fdivT at e; split at e <;> first | (split at e <;> cases e; rfl) | cases e
theorem at_mod : At2 modT := fun x y t e => by unfold modT at e; split at e <;> first | (split at e <;> cases e; rfl) | cases e
theorem at_pow : At2 powT := fun x y t e => by unfold powT at e; split at e <;> first | (split at e <;> cases e; rfl) | cases e
theorem at_lt : At2 ltT := fun x y t e => by unfold ltT at e; split at e <;> cases e; rfl
theorem at_le : At2 leT := fun x y t e => by unfold leT at e; split at e <;> cases e; rfl
theorem at_gt : At2 gtT := fun x y t e => by unfold gtT at e; split at e <;> cases e; rfl
theorem at_ge : At2 geT := fun x y t e => by unfold geT at e; split at e <;> cases e; rfl
theorem at_eq : At2 eqT := fun x y t e => by unfold eqT at e; split at e <;> cases e; rfl
theorem at_ne : At2 neT := fun x y t e => by unfold neT at e; split at e <;> cases e; rfl
theorem at_isN : At2 isNT := fun x y t e => by unfold isNT at e; split at e <;> cases e <;> rfl
theorem at_isntN : At2 isntNT := fun x y t e => by unfold isntNT at e; split at e <;> cases e <;> rfl
theorem at_A {g0 : List T → Res T} (h : ∀ ts t, g0 ts = .ok t → t.atom = true) {fs : Fr → Res (List T)} : ∀ ν t, eA g0 fs ν = .ok t → t.atom = true := fun ν t e => by
  unfold eA at e
  cases e1 : fs ν with
  | ok x => rw [e1] at e; exact h x t e
  | exc _ _ => rw [e1] at e; cases e
  | stuck => rw [e1] at e; cases e

theorem esCons_len {f : Fr → Res T} {fs : Fr → Res (List T)} {e : Expr} {es : List Expr} (h : ∀ ν ts, fs ν = .ok ts → ts.length = es.length) {ν : Fr} {ts : List T} (e1 : esCons f fs ν = .ok ts) : ts.length = (e :: es).length := by
  unfold esCons at e1
  cases e2 : f ν with
  | ok x =>
    rw [e2] at e1
    have e1 : (fs ν).bind (fun xs => .ok (x :: xs)) = .ok ts := e1
    cases e3 : fs ν with
    | ok xs =>
      rw [e3] at e1
      cases e1
      rw [List.length_cons, List.length_cons, h ν xs e3]
    | exc _ _ => rw [e3] at e1; cases e1
    | stuck => rw [e3] at e1; cases e1
  | exc _ _ => rw [e2] at e1; cases e1
  | stuck => rw [e2] at e1; cases e1
/-- nothing is owned: all is clean -/
theorem VE.zer {X : Cx} {W : WX} {dp : List Nat} {e : Expr} {f : Fr → Res T} {c : Bool} {k : Nat} (h : VE X W dp e f c k) (hz : zeros dp = true) (c' : Bool) : VE X W dp e f c' k := by
  refine ⟨fun {σ H A ν fps} F Q q => h.run F Q ?_⟩
  have nf : ∀ a, a ∉ fps.flatten := fun a ha => by
    obtain ⟨i, p, h1, h2⟩ := of_flat ha
    rw [F.z i p (zeros_get hz i) h1] at h2
    cases h2
  revert q
  cases f ν with
  | ok t => exact fun q v H' fp s nd fr r => q v H' fp s nd fr (r.mono (Same.refl _) fun a m => m.weak fun b z => z.elim .inl fun w => absurd w.2 (nf b))
  | exc cl p => exact fun q => q
  | stuck => exact fun q => q

section
variable (D : Den) (G : Ctx) (dp : List Nat)
def dName (x : Str) (pos : Pos) : DE G dp (.Name x pos) :=
  match h1 : ixOf x G.N with
  | some i =>
    if h2 : (visB G.sc x && plainN x) = true then
      some ⟨⟨eVar i, dp.getD i 0 == 0, 0⟩, fun X W h => by
        rw [Bool.and_eq_true] at h2
        have hp := plainN_ok h2.2
        refine ve_var (by rw [h.N]; exact ixOf_get h1) (by rw [h.sc]; exact visB_ok h2.1) hp.1 hp.2.1 ?_
        cases hz : (dp.getD i 0 == 0) with
        | true => exact .inr (by simpa using hz)
        | false => exact .inl rfl⟩
    else none
  | none => none
def dConst (v : Const) (j : Nat) (pos : Pos) : DE G dp (.Constant v j pos) :=
  match v with
  | .int i => some ⟨⟨eC (.int i), true, 9⟩, fun X W h => ve_int⟩
  | .bool b => some ⟨⟨eC (.bl b), true, 9⟩, fun X W h => ve_bl⟩
  | .none => some ⟨⟨eC .non, true, 9⟩, fun X W h => ve_non⟩
  | .str x => if h1 : PyData.strOk x = true then some ⟨⟨eC (.str x), true, 9⟩, fun X W h => ve_str h1⟩ else none
  | _ => none
def dBin (d : Nat) (a : Expr) (op : Operator) (b : Expr) (pos : Pos) : DE G dp (.BinOp a op b pos) :=
  match D.e G dp 0 a, D.e G dp 0 b with
  | some ra, some rb =>
    match op with
    | .Add => match d with
      | 0 => some ⟨⟨eOp addT ra.1.f rb.1.f, ra.1.c && rb.1.c, 0⟩, fun X W h => ve_op opS_add nox_add (ra.2 X W h) (rb.2 X W h)⟩
      | _ + 1 => some ⟨⟨eOp addL ra.1.f rb.1.f, ra.1.c && rb.1.c, 1⟩, fun X W h => ve_op opS_addL nox_addL (ra.2 X W h) (rb.2 X W h)⟩
    | .Sub => some ⟨⟨eOp subT ra.1.f rb.1.f, true, 9⟩, fun X W h => (ve_op (k := 0) opS_sub nox_sub (ra.2 X W h) (rb.2 X W h)).atom (at_op at_sub)⟩
    | .Mult => some ⟨⟨eOp mulT ra.1.f rb.1.f, true, 9⟩, fun X W h => (ve_op (k := 0) opS_mul nox_mul (ra.2 X W h) (rb.2 X W h)).atom (at_op at_mul)⟩
    | .FloorDiv => some ⟨⟨eOp fdivT ra.1.f rb.1.f, true, 9⟩, fun X W h => (ve_op (k := 0) opS_fdiv nox_fdiv (ra.2 X W h) (rb.2 X W h)).atom (at_op at_fdiv)⟩
    | .Mod => some ⟨⟨eOp modT ra.1.f rb.1.f, true, 9⟩, fun X W h => (ve_op (k := 0) opS_mod nox_mod (ra.2 X W h) (rb.2 X W h)).atom (at_op at_mod)⟩
    | .Pow => some ⟨⟨eOp powT ra.1.f rb.1.f, true, 9⟩, fun X W h => (ve_op (k := 0) opS_pow nox_pow (ra.2 X W h) (rb.2 X W h)).atom (at_op at_pow)⟩
    | _ => none
  | _, _ => none
/-- one comparison: its tree operation -/
structure CmpI (op : CmpOp) where
  g : T → T → Res T
  ok : ∀ X W, COk G X W → OpS X (compareOp op) g 0
  nx : ∀ x y, NoX (g x y)
  at_ : At2 g
def cmpI (op : CmpOp) : Option (CmpI G op) := match op with
  | .Lt => some ⟨ltT, fun _ _ _ => opS_lt, nox_lt, at_lt⟩
  | .LtE => some ⟨leT, fun _ _ _ => opS_le, nox_le, at_le⟩
  | .Gt => some ⟨gtT, fun _ _ _ => opS_gt, nox_gt, at_gt⟩
  | .GtE => some ⟨geT, fun _ _ _ => opS_ge, nox_ge, at_ge⟩
  | .Eq => some ⟨eqT, fun _ _ h => opS_eq h.un, nox_eq, at_eq⟩
  | .NotEq => some ⟨neT, fun _ _ h => opS_ne h.un, nox_ne, at_ne⟩
  | .Is => some ⟨isNT, fun _ _ _ => opS_isN, nox_isN, at_isN⟩
  | .IsNot => some ⟨isntNT, fun _ _ _ => opS_isntN, nox_isntN, at_isntN⟩
  | _ => none
def dCmp (a : Expr) (op : CmpOp) (b : Expr) (pos : Pos) : DE G dp (.Compare a [op] [b] pos) :=
  match D.e G dp 0 a, D.e G dp 0 b, cmpI G op with
  | some ra, some rb, some c => if hm : isSet b = false then some ⟨⟨eOp c.g ra.1.f rb.1.f, true, 9⟩, fun X W h => (ve_cmp (c.ok X W h) c.nx (ra.2 X W h) (rb.2 X W h) (marks_no hm)).atom (at_op c.at_)⟩ else none
  | _, _, _ => none
def tCmp (a : Expr) (op : CmpOp) (b : Expr) (pos : Pos) : DT G dp (.Compare a [op] [b] pos) :=
  match D.e G dp 0 a, D.e G dp 0 b, cmpI G op with
  | some ra, some rb, some c => if hm : isSet b = false then some ⟨asBf (eOp c.g ra.1.f rb.1.f), fun X W h => vt_cmp (c.ok X W h) c.nx (ra.2 X W h) (rb.2 X W h) (marks_no hm)⟩ else none
  | _, _, _ => none
def dAnd (pos : Pos) : (es : List Expr) → DE G dp (.BoolOp .And es pos)
  | [] => none
  | [a] => match D.e G dp 0 a with
    | some ra => some ⟨⟨ra.1.f, ra.1.c, ra.1.k⟩, fun X W h => ve_one (ra.2 X W h)⟩
    | none => none
  | a :: b :: rest => match D.e G dp 0 a, dAnd pos (b :: rest) with
    | some ra, some rb => some ⟨⟨eAndR ra.1.f rb.1.f, rb.1.c, rb.1.k⟩, fun X W h => ve_and (ra.2 X W h) (rb.2 X W h)⟩
    | _, _ => none
def dOr (pos : Pos) : (es : List Expr) → DE G dp (.BoolOp .Or es pos)
  | [] => none
  | [a] => match D.e G dp 0 a with
    | some ra => some ⟨⟨ra.1.f, ra.1.c, ra.1.k⟩, fun X W h => ve_one (ra.2 X W h)⟩
    | none => none
  | a :: b :: rest => match D.e G dp 0 a, dOr pos (b :: rest) with
    | some ra, some rb => some ⟨⟨eOrR ra.1.f rb.1.f, rb.1.c, rb.1.k⟩, fun X W h => ve_or (ra.2 X W h) (rb.2 X W h)⟩
    | _, _ => none
abbrev DW (G : Ctx) (dp : List Nat) (e : Expr) : Type := Option { f : Fr → Res Bool // ∀ X W, COk G X W → VW X W dp e f }
def wAnd (pos : Pos) : (es : List Expr) → DW G dp (.BoolOp .And es pos)
  | [] => none
  | [a] => match D.t G dp a with
    | some ra => some ⟨ra.1, fun X W h => vw_and1 (ra.2 X W h)⟩
    | none => none
  | a :: b :: rest => match D.t G dp a, wAnd pos (b :: rest) with
    | some ra, some rb => some ⟨tAndR ra.1 rb.1, fun X W h => vw_and (ra.2 X W h) (rb.2 X W h)⟩
    | _, _ => none
def wOr (pos : Pos) : (es : List Expr) → DW G dp (.BoolOp .Or es pos)
  | [] => none
  | [a] => match D.t G dp a with
    | some ra => some ⟨ra.1, fun X W h => vw_or1 (ra.2 X W h)⟩
    | none => none
  | a :: b :: rest => match D.t G dp a, wOr pos (b :: rest) with
    | some ra, some rb => some ⟨tOrR ra.1 rb.1, fun X W h => vw_or (ra.2 X W h) (rb.2 X W h)⟩
    | _, _ => none
def dUn (op : UnaryOp) (a : Expr) (pos : Pos) : DE G dp (.UnaryOp op a pos) :=
  match D.e G dp 0 a with
  | some ra => (match op with
    | .Not => some ⟨⟨eNotR ra.1.f, true, 9⟩, fun X W h => ve_not (ra.2 X W h)⟩
    | .USub => some ⟨⟨eNeg ra.1.f, true, 9⟩, fun X W h => ve_neg (ra.2 X W h)⟩
    | _ => none)
  | none => none
def dIf (d : Nat) (t a b : Expr) (pos : Pos) : DE G dp (.IfExp t a b pos) :=
  match D.t G dp t, D.e G dp d a, D.e G dp d b with
  | some rt, some ra, some rb => some ⟨⟨eIfR rt.1 ra.1.f rb.1.f, ra.1.c && rb.1.c, min ra.1.k rb.1.k⟩, fun X W h => ve_if (rt.2 X W h) ((ra.2 X W h).lowk (Nat.min_le_left _ _)) ((rb.2 X W h).lowk (Nat.min_le_right _ _))⟩
  | _, _, _ => none
def dEs : (es : List Expr) → DEs G dp es
  | [] => some ⟨⟨esNil, true⟩, fun X W h => ves_nil, fun ν ts e => by cases e; rfl⟩
  | e :: es => match D.e G dp 0 e, dEs es with
    | some ra, some rs => if hs : isStar e = false then some ⟨⟨esCons ra.1.f rs.1.f, ra.1.c && rs.1.c⟩, fun X W h => ves_cons ((ra.2 X W h).weak fun z => ((Bool.and_eq_true _ _).mp z).1) ((rs.2.1 X W h).weak fun z => ((Bool.and_eq_true _ _).mp z).2) (star_cons hs), fun ν ts e1 => esCons_len rs.2.2 e1⟩ else none
    | _, _ => none
def dTup (es : List Expr) (j : Nat) (pos : Pos) : DE G dp (.Tuple es j pos) :=
  match dEs D G dp es with
  | some rs => some ⟨⟨eTup rs.1.f, rs.1.c, 0⟩, fun X W h => ve_tup (rs.2.1 X W h)⟩
  | none => none
def dLst (es : List Expr) (pos : Pos) : DE G dp (.List es pos) :=
  match es with
  | [] => some ⟨⟨eLst esNil, true, 9⟩, fun X W h => ve_lstE⟩
  | e :: es => match dEs D G dp (e :: es) with
    | some rs => some ⟨⟨eLst rs.1.f, rs.1.c, 1⟩, fun X W h => ve_lst (rs.2.1 X W h)⟩
    | none => none
def dOpt (e : Option Expr) : DO G dp e := match e with
  | none => some ⟨oNo, fun X W h => vo_none⟩
  | some e => match D.e G dp 0 e with
    | some ra => some ⟨oSome ra.1.f, fun X W h => vo_some (ra.2 X W h)⟩
    | none => none
def dSub (d : Nat) (a b : Expr) (pos : Pos) : DE G dp (.Subscript a b pos) :=
  match b with
  | .Slice lo hi none p2 => (match D.e G dp 0 a, dOpt D G dp lo, dOpt D G dp hi with
    | some ra, some rl, some rh => (match d with
      | 0 => some ⟨⟨eSl cutT ra.1.f rl.1 rh.1, ra.1.c, 0⟩, fun X W h => ve_slice (ra.2 X W h) (rl.2 X W h) (rh.2 X W h)⟩
      | _ + 1 => some ⟨⟨eSl cutTL ra.1.f rl.1 rh.1, ra.1.c, 1⟩, fun X W h => ve_sliceL (ra.2 X W h) (rl.2 X W h) (rh.2 X W h)⟩)
    | _, _, _ => none)
  | b => match D.e G dp 0 a, D.e G dp 0 b with
    | some ra, some rb => if hs : isSlc b = false then some ⟨⟨eOp ixT ra.1.f rb.1.f, ra.1.c, 0⟩, fun X W h => ve_ix (by have := h.un; omega) (ra.2 X W h) (rb.2 X W h) (plainIx_no hs)⟩ else none
    | _, _ => none
end
end VI

namespace VI
open PySem PySem.Spec PyProof.Rows L2

theorem at_len : ∀ ts t, lenT ts = .ok t → t.atom = true := fun ts t e => by unfold lenT at e; split at e <;> first | (cases e; rfl) | (split at e <;> cases e; rfl) | cases e
theorem at_abs : ∀ ts t, absT ts = .ok t → t.atom = true := fun ts t e => by unfold absT at e; split at e <;> first | (cases e; rfl) | cases e
theorem at_all : ∀ ts t, allT ts = .ok t → t.atom = true := fun ts t e => by
  unfold allT at e
  split at e
  · split at e <;> first | (cases e; rfl) | cases e
  · cases e
theorem at_any : ∀ ts t, anyT ts = .ok t → t.atom = true := fun ts t e => by
  unfold anyT at e
  split at e
  · split at e <;> first | (cases e; rfl) | cases e
  · cases e
section
variable (D : Den) (G : Ctx) (dp : List Nat)
/-- a built-in function that answers an atom -/
structure BltI (x : Str) where
  id : String
  g : List T → Res T
  ok : ∀ X W, COk G X W → CallS X (.builtin id) g 0
  nx : ∀ ts, NoX (g ts)
  at_ : ∀ ts t, g ts = .ok t → t.atom = true
  hv : bootBuiltins x = some (.builtin id)
def bltI (x : Str) : Option (BltI G x) :=
  if h : x = "len" then some ⟨"len", lenT, fun _ _ _ => cs_len, nox_len, at_len, by rw [h]; decide +kernel⟩
  else if h : x = "abs" then some ⟨"abs", absT, fun _ _ _ => cs_abs, nox_abs, at_abs, by rw [h]; decide +kernel⟩
  else if h : x = "all" then some ⟨"all", allT, fun _ _ h => cs_all h.calm, nox_all, at_all, by rw [h]; decide +kernel⟩
  else if h : x = "any" then some ⟨"any", anyT, fun _ _ h => cs_any h.calm, nox_any, at_any, by rw [h]; decide +kernel⟩
  else none
def tyI (y : Str) : Option { n : String // bootBuiltins y = some (.type n) } :=
  if h : y = "int" then some ⟨"int", by rw [h]; decide +kernel⟩
  else if h : y = "bool" then some ⟨"bool", by rw [h]; decide +kernel⟩
  else if h : y = "str" then some ⟨"str", by rw [h]; decide +kernel⟩
  else if h : y = "list" then some ⟨"list", by rw [h]; decide +kernel⟩
  else if h : y = "tuple" then some ⟨"tuple", by rw [h]; decide +kernel⟩
  else if h : y = "dict" then some ⟨"dict", by rw [h]; decide +kernel⟩
  else none
def dIsi (a : Expr) (y : Str) (p2 p pos : Pos) : DE G dp (.Call (.Name "isinstance" p) [a, .Name y p2] [] pos) :=
  match D.e G dp 0 a, tyI y with
  | some ra, some n => if h : (bltB G "isinstance" && bltB G y && !isStar a) = true then some ⟨⟨eU (isiT n.1) ra.1.f, ra.1.c, 9⟩, fun X W hx => by
      simp only [Bool.and_eq_true, Bool.not_eq_true'] at h
      obtain ⟨h1, h2, _, _⟩ := bltB_ok hx h.1.1
      obtain ⟨h3, h4, h5, h6⟩ := bltB_ok hx h.1.2
      exact ve_isi (ra.2 X W hx) h1 h2 h3 h4 n.2 h5 h6 (star_cons h.2) rfl rfl⟩ else none
  | _, _ => none
def dFn (x : Str) (p : Pos) (args : List Expr) (pos : Pos) : DE G dp (.Call (.Name x p) args [] pos) :=
  match hl : lookF x G.fs with
  | some fi =>
    if h : (gloB G.sc x && plainN x && pureB fi.pd && (fi.pd.length == fi.ps.length) && (args.length == fi.ps.length) && args.all (fun e => !isStar e)) = true then
      match args, h with
      | [], h => some ⟨⟨eCall (G.call x) esNil, true, fi.rk⟩, fun X W hx => by
          simp only [Bool.and_eq_true, beq_iff_eq] at h
          exact ve_call0 (hx.fn x fi (lookF_mem hl)) h.1.1.1.2 h.1.1.2 (by simpa using h.1.2.symm) hx.tk (hx.glo h.1.1.1.1.1) (plainN_ok h.1.1.1.1.2).1⟩
      | e :: es, h => match dEs D G dp (e :: es) with
        | some rs => some ⟨⟨eCall (G.call x) rs.1.f, rs.1.c, fi.rk⟩, fun X W hx => by
            simp only [Bool.and_eq_true, beq_iff_eq] at h
            have hst := h.2
            rw [List.all_cons, Bool.and_eq_true] at hst
            exact ve_call (hx.fn x fi (lookF_mem hl)) h.1.1.1.2 h.1.1.2 h.1.2 hx.tk (hx.glo h.1.1.1.1.1) (plainN_ok h.1.1.1.1.2).1 (rs.2.1 X W hx) rs.2.2 (star_cons (by simpa using hst.1)) (star_any hst.2)⟩
        | none => none
    else none
  | none => none
def dBlt (x : Str) (p : Pos) (args : List Expr) (pos : Pos) : DE G dp (.Call (.Name x p) args [] pos) :=
  match args with
  | [] => none
  | e :: es => match bltI G x, dEs D G dp (e :: es) with
    | some b, some rs => if h : (bltB G x && (e :: es).all (fun e => !isStar e)) = true then some ⟨⟨eA b.g rs.1.f, true, 9⟩, fun X W hx => by
        simp only [Bool.and_eq_true] at h
        obtain ⟨h1, h2, h3, h4⟩ := bltB_ok hx h.1
        have hst := h.2
        rw [List.all_cons, Bool.and_eq_true] at hst
        exact (ve_callB (b.ok X W hx) b.nx h1 h2 b.hv (rs.2.1 X W hx) h3 h4 (star_cons (by simpa using hst.1)) (star_any hst.2)).atom (at_A b.at_)⟩ else none
    | _, _ => none
/-! iterables -/
def dSeq (tg it : Expr) : DIt G dp tg it := match D.e G dp 0 it with
  | some ra => some ⟨⟨iSeq ra.1.f, ra.1.c⟩, fun X W h => vi_seq (ra.2 X W h)⟩
  | none => none
def dRng (tg : Expr) (p : Pos) (a : Expr) (pos : Pos) : DIt G dp tg (.Call (.Name "range" p) [a] [] pos) :=
  match D.e G dp 0 a with
  | some ra => if h : (bltB G "range" && !isStar a) = true then some ⟨⟨iRng ra.1.f, true⟩, fun X W hX => by
      simp only [Bool.and_eq_true, Bool.not_eq_true'] at h
      obtain ⟨h1, h2, _, _⟩ := bltB_ok hX h.1
      exact vi_range (ra.2 X W hX) h1 h2 (star_cons h.2)⟩ else none
  | none => none
def dEnm (elts : List Expr) (kk : Nat) (tpos p : Pos) (a : Expr) (pos : Pos) : DIt G dp (.Tuple elts kk tpos) (.Call (.Name "enumerate" p) [a] [] pos) :=
  match D.e G dp 0 a with
  | some ra => if h : (bltB G "enumerate" && !isStar a) = true then some ⟨⟨iEnumR ra.1.f, ra.1.c⟩, fun X W hX => by
      simp only [Bool.and_eq_true, Bool.not_eq_true'] at h
      obtain ⟨h1, h2, _, _⟩ := bltB_ok hX h.1
      exact vi_enum (ra.2 X W hX) h1 h2 (star_cons h.2)⟩ else none
  | none => none
def dZip (elts : List Expr) (kk : Nat) (tpos p : Pos) (a b : Expr) (pos : Pos) : DIt G dp (.Tuple elts kk tpos) (.Call (.Name "zip" p) [a, b] [] pos) :=
  match D.e G dp 0 a, D.e G dp 0 b with
  | some ra, some rb => if h : (bltB G "zip" && !isStar a && !isStar b) = true then some ⟨⟨iZip2 ra.1.f rb.1.f, ra.1.c && rb.1.c⟩, fun X W hX => by
      simp only [Bool.and_eq_true, Bool.not_eq_true'] at h
      obtain ⟨h1, h2, _, _⟩ := bltB_ok hX h.1.1
      exact vi_zip (ra.2 X W hX) (rb.2 X W hX) h1 h2 (star_cons h.1.2) (star_cons h.2) (star_any (by simp [h.2]))⟩ else none
  | _, _ => none
def itCall (tg : Expr) (x : Str) (p : Pos) (args : List Expr) (pos : Pos) : DIt G dp tg (.Call (.Name x p) args [] pos) :=
  match args with
  | [a] =>
    if hx : x = "range" then cast (by rw [hx]) (dRng D G dp tg p a pos)
    else if hx : x = "enumerate" then (match tg with
      | .Tuple elts kk tpos => cast (by rw [hx]) (dEnm D G dp elts kk tpos p a pos)
      | tg => none)
    else dSeq D G dp tg _
  | [a, b] =>
    if hx : x = "zip" then (match tg with
      | .Tuple elts kk tpos => cast (by rw [hx]) (dZip D G dp elts kk tpos p a b pos)
      | tg => none)
    else dSeq D G dp tg _
  | args => dSeq D G dp tg _
def dIt (tg it : Expr) : DIt G dp tg it := match it with
  | .Call (.Name x p) args [] pos => itCall D G dp tg x p args pos
  | it => dSeq D G dp tg it
/-! targets -/
def gName' (ws : List Nat) (x : Str) (pos : Pos) : DG G dp ws (.Name x pos) :=
  match h1 : ixOf x G.N with
  | some i =>
    if h2 : ((if G.fnl = true then locB G.sc x else trueLoc G.sc x) && (dp.getD i 0 == 0) && decide (i ∈ ws)) = true then
      some ⟨gSet i, fun X W h => by
        simp only [Bool.and_eq_true, beq_iff_eq, decide_eq_true_eq] at h2
        have hl : Loc X.env.scope x ∧ (X.fn x = true ∨ X.env.scope.names.lookup x = some .local) := by
          rw [h.sc]
          by_cases hf : G.fnl = true
          · have := h2.1.1
            rw [if_pos hf] at this
            exact ⟨locB_ok this, .inl (h.lo hf x)⟩
          · have := h2.1.1
            rw [if_neg hf] at this
            exact ⟨.inl (trueLoc_ok this), .inr (trueLoc_ok this)⟩
        exact vg_name (by rw [h.N]; exact h.nd) (by rw [h.N]; exact ixOf_get h1) hl.1 hl.2 h2.1.2 h2.2⟩
    else none
  | none => none
theorem assign_cons {t : Expr} {ts : List Expr} {env : Env} (h : isStar t = false) : assignEach (t :: ts) env = (false, assign t env) :: assignEach ts env := by
  cases t <;> first | rfl | cases h
theorem assign_len : ∀ {ts : List Expr} {env : Env}, ts.all (fun e => !isStar e) = true → (assignEach ts env).length = ts.length ∧ (assignEach ts env).findIdx? (·.1) = none
  | [], _, _ => ⟨rfl, rfl⟩
  | t :: ts, env, h => by
    rw [List.all_cons, Bool.and_eq_true] at h
    rw [assign_cons (by simpa using h.1)]
    obtain ⟨h1, h2⟩ := assign_len (env := env) h.2
    refine ⟨by rw [List.length_cons, List.length_cons, h1], ?_⟩
    rw [List.findIdx?_cons]
    simp [h2]
theorem gsCons_len {h : T → Fr → Res Fr} {hs : List T → Fr → Res Fr} {t : Expr} {tgs : List Expr} (hh : ∀ ts ν ν', hs ts ν = .ok ν' → ts.length = tgs.length) : ∀ ts ν ν', gsCons h hs ts ν = .ok ν' → ts.length = (t :: tgs).length := fun ts ν ν' e => by
  cases ts with
  | nil => cases e
  | cons u r =>
    have e : (h u ν).bind (fun ν' => hs r ν') = .ok ν' := e
    cases e1 : h u ν with
    | ok ν1 => rw [e1] at e; rw [List.length_cons, List.length_cons, hh r ν1 ν' e]
    | exc _ _ => rw [e1] at e; cases e
    | stuck => rw [e1] at e; cases e
end
/-- targets, n levels deep -/
def dGs (G : Ctx) (dp ws : List Nat) (dg : (tg : Expr) → DG G dp ws tg) : (tgs : List Expr) → DGs G dp ws tgs
  | [] => some ⟨gsNil, fun X W h => vgs_nil, fun ts ν ν' e => by cases ts with | nil => rfl | cons _ _ => cases e⟩
  | t :: tgs => match dg t, dGs G dp ws dg tgs with
    | some rt, some rs => if hs : isStar t = false then some ⟨gsCons rt.1 rs.1, fun X W h => vgs_cons (rt.2 X W h) (rs.2.1 X W h) (by rw [assign_cons hs]; rfl), gsCons_len rs.2.2⟩ else none
    | _, _ => none
def dG (G : Ctx) (dp ws : List Nat) : Nat → (tg : Expr) → DG G dp ws tg
  | 0, _ => none
  | n + 1, tg => match tg with
    | .Name x pos => gName' G dp ws x pos
    | .Tuple tgs j pos => (match dGs G dp ws (dG G dp ws n) tgs with
      | some rs => if hs : tgs.all (fun e => !isStar e) = true then some ⟨gSeq rs.1, fun X W h => vg_tup h.calm (rs.2.1 X W h) rs.2.2 (assign_len hs).1 (assign_len hs).2⟩ else none
      | none => none)
    | _ => none
section
variable (D : Den) (G : Ctx) (dp : List Nat)
def dTs (ifs : List Expr) : DTs G ifs := match ifs with
  | [] => some ⟨ttYes, fun X W h => vts_nil⟩
  | [e] => match D.t G [] e with
    | some rt => some ⟨rt.1, fun X W h => vts_one (rt.2 X W0 (by
        exact ⟨h.N, h.nd, h.sc, h.calm, h.un, h.fn, h.bl, fun u s' ⟨_, _, _, _, _, _, _, _, _, _, _, _, _, _, _, _, w⟩ => w.elim, h.lo⟩))⟩
    | none => none
  | _ => none
/-- a block's own names and their slots -/
def ownOf (scope : Scope) (N : List Str) : List (Str × Nat) := scope.names.filterMap fun p => match p.2 with
  | .local => (ixOf p.1 N).map fun i => (p.1, i)
  | .cell => (ixOf p.1 N).map fun i => (p.1, i)
  | _ => none
def dComp (d : Nat) (elt tg iter : Expr) (ifs : List Expr) (scope : Scope) (pos : Pos) : DE G dp (.ListComp elt [⟨tg, iter, ifs, 0⟩] scope pos) :=
  match dIt D G dp tg iter, dG (G.inb scope) [] ((ownOf scope G.N).map (·.2)) 9 tg, dTs D (G.inb scope) ifs, D.e (G.inb scope) [] (d - 1) elt with
  | some ri, some rg, some rt, some re =>
    if h : (blkC G.N G.sc scope (ownOf scope G.N) && !isSet iter && re.1.c) = true then
      some ⟨⟨eComp ri.1.f ((ownOf scope G.N).map (·.2)) rg.1 rt.1 re.1.f, zeros dp, re.1.k + 1⟩, fun X W hx => by
        simp only [Bool.and_eq_true, Bool.not_eq_true'] at h
        have V : VE X W dp (.ListComp elt [⟨tg, iter, ifs, 0⟩] scope pos) (eComp ri.1.f ((ownOf scope G.N).map (·.2)) rg.1 rt.1 re.1.f) (dp == []) (re.1.k + 1) :=
          ve_comp hx.calm (by rw [hx.N]; exact hx.nd) (ri.2 X W hx) ⟨by rw [hx.N, hx.sc]; exact blkOk_by h.1.1, fun s H C cl fp => rg.2 _ _ (hx.blk s H scope cl C fp), fun s H C cl fp => rt.2 _ _ (hx.blk s H scope cl C fp), fun s H C cl fp => by
            have := re.2 _ _ (hx.blk s H scope cl C fp)
            rw [h.2] at this
            exact this⟩ (folded_no h.1.2)
        cases hz : zeros dp with
        | true => exact V.zer hz true
        | false => exact V.weak fun z => by cases z⟩
    else none
  | _, _, _, _ => none
def stepE (d : Nat) (e : Expr) : DE G dp e := match e with
  | .Name x pos => dName G dp x pos
  | .Constant v j pos => dConst G dp v j pos
  | .BinOp a op b pos => dBin D G dp d a op b pos
  | .Compare a [op] [b] pos => dCmp D G dp a op b pos
  | .BoolOp .And es pos => dAnd D G dp pos es
  | .BoolOp .Or es pos => dOr D G dp pos es
  | .UnaryOp op a pos => dUn D G dp op a pos
  | .IfExp t a b pos => dIf D G dp d t a b pos
  | .Tuple es j pos => dTup D G dp es j pos
  | .List es pos => dLst D G dp es pos
  | .Subscript a b pos => dSub D G dp d a b pos
  | .ListComp elt [⟨tg, iter, ifs, 0⟩] scope pos => dComp D G dp d elt tg iter ifs scope pos
  | .Call (.Name x p) args [] pos =>
    if hx : x = "isinstance" then (match args with
      | [a, .Name y p2] => cast (by rw [hx]) (dIsi D G dp a y p2 p pos)
      | args => none)
    else (match lookF x G.fs with
      | some _ => dFn D G dp x p args pos
      | none => dBlt D G dp x p args pos)
  | _ => none
def tVal (e : Expr) : DT G dp e := match D.e G dp 0 e with
  | some ra => if h : byTru e = true then some ⟨tTru ra.1.f, fun X W hx => vt_tru (ra.2 X W hx) (tru_no h)⟩ else none
  | none => none
def stepT (e : Expr) : DT G dp e := match e with
  | .Compare a [op] [b] pos => tCmp D G dp a op b pos
  | .BoolOp .And es pos => (match wAnd D G dp pos es with
    | some r => some ⟨r.1, fun X W h => (r.2 X W h).vt⟩
    | none => none)
  | .BoolOp .Or es pos => (match wOr D G dp pos es with
    | some r => some ⟨r.1, fun X W h => (r.2 X W h).vt⟩
    | none => none)
  | .UnaryOp .Not a pos => (match D.t G dp a with
    | some r => some ⟨tNotR r.1, fun X W h => vt_not (r.2 X W h)⟩
    | none => none)
  | e => tVal D G dp e
end
def step (D : Den) : Den := ⟨fun G dp d e => stepE D G dp d e, fun G dp e => stepT D G dp e⟩
noncomputable def den (n : Nat) : Den := Nat.rec den0 (fun _ d => step d) n
end VI

namespace VI
open PySem PySem.Spec PyProof.Rows L2

/-! ### data without anything that may be written -/
mutual
def T.imm : T → Bool
  | .non => true
  | .bl _ => true
  | .int _ => true
  | .str _ => true
  | .tup xs => immL xs
  | _ => false
def immL : List T → Bool
  | [] => true
  | t :: ts => t.imm && immL ts
end
mutual
theorem Ow.imm {K : PySem.W.Frag} {H : Hp} {A A' : Addr → Prop} {k' : Nat} : ∀ {k : Nat} {t : T} {v : V} {fp : List Addr}, Ow K H A k t v fp → t.imm = true → Ow K H A' k' t v []
  | k, .non, v, fp, h, _ => (h.atom rfl).2
  | k, .bl b, v, fp, h, _ => (h.atom rfl).2
  | k, .int i, v, fp, h, _ => (h.atom rfl).2
  | k, .str x, v, fp, h, _ => (h.atom rfl).2
  | k, .tup ts, v, fp, h, hi => by
    obtain ⟨a, xs, rfl, q, l⟩ := inv_tup h
    unfold T.imm at hi
    exact ow_tup q (OwL.imm l hi)
  | k, .scr _, v, fp, h, hi => by unfold T.imm at hi; cases hi
  | k, .lst _, v, fp, h, hi => by unfold T.imm at hi; cases hi
  | k, .dct _, v, fp, h, hi => by unfold T.imm at hi; cases hi
  | k, .ins _ _, v, fp, h, hi => by unfold T.imm at hi; cases hi
theorem OwL.imm {K : PySem.W.Frag} {H : Hp} {A A' : Addr → Prop} : ∀ {ts : List T} {v : List V}, OwL K H A 0 ts v [] → immL ts = true → OwL K H A' 0 ts v []
  | [], v, h, _ => by rw [OwL] at h ⊢; exact h
  | t :: ts, v, h, hi => by
    unfold immL at hi
    rw [Bool.and_eq_true] at hi
    obtain ⟨x, r, rfl, q, z⟩ := h.inv0
    exact OwL.cons0 (Ow.imm q hi.1) (OwL.imm z hi.2)
end
/-- looked at: nothing in it may be written -/
def eImm (f : Fr → Res T) : Fr → Res T := fun ν => (f ν).bind fun t => if t.imm = true then .ok t else .stuck
/-- a new list, nothing in whose items may be written -/
def T.imm1 : T → Bool
  | .lst xs => immL xs
  | _ => false
def eImm1 (f : Fr → Res T) : Fr → Res T := fun ν => (f ν).bind fun t => if t.imm1 = true then .ok t else .stuck
section
variable {X : Cx} {W : WX} {dp : List Nat} {e : Expr} {f : Fr → Res T} {c : Bool} {k : Nat}
theorem VE.imm (h : VE X W dp e f c k) (c' : Bool) (k' : Nat) : VE X W dp e (eImm f) c' k' := by
  refine ⟨fun {σ H A ν fps} F Q q => h.run F Q ?_⟩
  unfold eImm at q
  cases e1 : f ν with
  | ok t =>
    rw [e1] at q
    have q : PoE X W σ H (Bs A fps.flatten c') k' Q (if t.imm = true then .ok t else .stuck) := q
    by_cases hi : t.imm = true
    · rw [if_pos hi] at q
      intro v H' fp s nd fr r
      exact q v H' [] s List.nodup_nil (fun _ z => nomatch z) (r.imm hi)
    · rw [if_neg hi] at q; exact q.elim
  | exc cl p => rw [e1] at q; exact q
  | stuck => rw [e1] at q; exact q
theorem OwL.imm' {K : PySem.W.Frag} {H : Hp} {A A' : Addr → Prop} {k' : Nat} : ∀ {k : Nat} {ts : List T} {v : List V} {fp : List Addr}, OwL K H A k ts v fp → immL ts = true → OwL K H A' k' ts v []
  | k, [], v, fp, h, _ => by rw [OwL] at h ⊢; exact ⟨h.1, rfl⟩
  | k, t :: ts, v, fp, h, hi => by
    unfold immL at hi
    rw [Bool.and_eq_true] at hi
    rw [OwL] at h ⊢
    obtain ⟨x, r, f, g, rfl, _, q, z⟩ := h
    exact ⟨x, r, [], [], rfl, rfl, q.imm hi.1, OwL.imm' z hi.2⟩
theorem VE.imm1 (h : VE X W dp e f c (k + 1)) (c' : Bool) (k' : Nat) : VE X W dp e (eImm1 f) c' (k' + 1) := by
  refine ⟨fun {σ H A ν fps} F Q q => h.run F Q ?_⟩
  unfold eImm1 at q
  cases e1 : f ν with
  | ok t =>
    rw [e1] at q
    have q : PoE X W σ H (Bs A fps.flatten c') (k' + 1) Q (if t.imm1 = true then .ok t else .stuck) := q
    by_cases hi : t.imm1 = true
    · rw [if_pos hi] at q
      intro v H' fp s nd fr r
      cases t with
      | lst xs =>
        rw [Ow] at r
        obtain ⟨a, ys, f1, rfl, rfl, h1, h2⟩ := r
        refine q (.ref a) H' [a] s (by simp) (fun b hb => fr b (by rw [List.mem_singleton] at hb; rw [hb]; simp)) ?_
        rw [Ow]
        exact ⟨a, ys, [], rfl, rfl, h1, h2.imm' hi⟩
      | _ => cases hi
    · rw [if_neg hi] at q; exact q.elim
  | exc cl p => rw [e1] at q; exact q
  | stuck => rw [e1] at q; exact q
/-- a reading of a pure expression -/
structure VR (X : Cx) (W : WX) (dp : List Nat) (t : TE) (f : Fr → Res T) (c : Bool) (k : Nat) : Prop where
  run : ∀ {σ : L2.St} {H : Hp} {A : Addr → Prop} {ν : Fr} {fps : List (List Addr)}, FR X.K dp H A σ ν fps → ∀ Q : VK, PoE X W σ H (Bs A fps.flatten c) k Q (f ν) → t σ H Q
theorem VE.vr (h : VE X W dp e f c k) : VR X W dp (wpE X e) f c k := ⟨fun F Q q => h.run F Q q⟩
theorem vx_ofR {fs : Fs} {t : TE} (h : VR X W dp t f c k) (hx : leD fs.xd dp = true) : VX X W fs dp t (pX f) c k dp := by
  refine ⟨fun {E σ H A ν fps} R Q q => h.run R.fr Q ?_⟩
  unfold pX at q
  cases e1 : f ν with
  | stuck => rw [e1] at q; exact q
  | exc cl p => rw [e1] at q; exact exc_st R hx q
  | ok u =>
    rw [e1] at q
    intro v H' fp s nd fr r
    have R1 := R.take s fp fr
    refine q v H' _ fps fp R1 ⟨nd, fun a ha => ⟨fun m => m.2 ha, fun m => R.fr.odom a m (fr a ha), .inr (R.e0 (fr a ha))⟩⟩ (r.mono (Same.refl _) fun a m => ?_)
    obtain ⟨(m | ⟨z, m⟩) | m, nf⟩ := m
    · exact .inl ⟨.inl (.inl m), nf⟩
    · exact .inr ⟨z, m⟩
    · exact .inl ⟨.inr m, nf⟩
end

/-! ### stores swapped -/
def swB (sc scope : Scope) (y : Str) (l1 l2 : Nat) : Bool := sc.names.lookup y == some .local && l1 == l2 && !(scope.names.any fun (n, k) => n == y && (k == .local || k == .cell))
theorem sw_eq {elt : Expr} {gs : List Comprehension} {scope : Scope} {pos py : Pos} {y : Str} {l : Nat} {env : Env} (hk : env.scope.kind = .function) : swapsWith (.ListComp elt gs scope pos) (some (.Name y py)) l env = pure (swB env.scope scope y py.line pos.line) := by
  have hb : env.blockKind = .function := by unfold Env.blockKind; rw [hk]; rfl
  unfold swapsWith
  simp only [hb]
  rfl
theorem swapped_no {tg e : Expr} {env : Env} (h : isTupE e = false) : swappedStores [tg] e env = pure none := by
  cases e <;> first | (cases tg <;> rfl) | cases h
def parB (sc : Scope) (x y : Str) (lx ly : Nat) (a b : Expr) : Bool := sc.kind == .function && sc.names.lookup x == some .local && sc.names.lookup y == some .local && lx == ly && !(x == y) && !isStar a && !isStar b && !(foldedForSure 8 a && foldedForSure 8 b) && !(constantsAlone 8 a && constantsAlone 8 b)
theorem not_star {a : Expr} (h : isStar a = false) : (match a with | .Starred .. => true | _ => false) = false := by cases a <;> first | rfl | cases h
theorem swapped_two {x y : Str} {px py pt pt2 : Pos} {kt k2 : Nat} {a b : Expr} {env : Env} (h : parB env.scope x y px.line py.line a b = true) : swappedStores [.Tuple [.Name x px, .Name y py] kt pt] (.Tuple [a, b] k2 pt2) env = pure (some [x, y]) := by
  unfold parB at h
  simp only [Bool.and_eq_true, Bool.not_eq_true', beq_iff_eq, Bool.and_eq_false_iff] at h
  obtain ⟨⟨⟨⟨⟨⟨⟨⟨h1, h2⟩, h3⟩, h4⟩, h5⟩, h6⟩, h7⟩, h8⟩, h9⟩ := h
  have hb : env.blockKind = .function := by unfold Env.blockKind; rw [h1]; rfl
  have kx : env.kindOf x = some .local := h2
  have ky : env.kindOf y = some .local := h3
  have f1 : (foldedForSure 8 a && foldedForSure 8 b) = false := by rcases h8 with z | z <;> simp [z]
  have f2 : (constantsAlone 8 a && constantsAlone 8 b) = false := by rcases h9 with z | z <;> simp [z]
  have hxy : (x == y) = false := by simpa using h5
  have hyx : y ≠ x := fun z => by rw [z] at hxy; simp at hxy
  unfold swappedStores
  simp [hb, kx, ky, h4, not_star h6, not_star h7, f1, f2, Expr.pos, List.eraseDups, List.eraseDupsBy, List.eraseDupsBy.loop]
  have hs : (y == x) = false := by simp [hyx]
  rw [if_neg, hs]
  · rfl
  · rintro (z | z)
    · cases a <;> first | (cases z; done) | cases h6
    · cases b <;> first | (cases z; done) | cases h7
end VI

namespace VI
open PySem PySem.Spec PyProof.Rows L2

section
variable {X : Cx} {W : WX} {dp : List Nat} {e : Expr} {t : TE} {f f' : Fr → Res T} {c c' : Bool} {k k' : Nat}
def PImp (X : Cx) (W : WX) (dp : List Nat) (f : Fr → Res T) (c : Bool) (k : Nat) (f' : Fr → Res T) (c' : Bool) (k' : Nat) : Prop :=
  ∀ {σ : L2.St} {H : Hp} {A : Addr → Prop} {ν : Fr} {fps : List (List Addr)}, FR X.K dp H A σ ν fps → ∀ Q : VK, PoE X W σ H (Bs A fps.flatten c') k' Q (f' ν) → PoE X W σ H (Bs A fps.flatten c) k Q (f ν)
theorem VR.imp (h : VR X W dp t f c k) (i : PImp X W dp f c k f' c' k') : VR X W dp t f' c' k' := ⟨fun F Q q => h.run F Q (i F Q q)⟩
theorem VE.imp (h : VE X W dp e f c k) (i : PImp X W dp f c k f' c' k') : VE X W dp e f' c' k' := ⟨fun F Q q => h.run F Q (i F Q q)⟩
theorem pimp_same : PImp X W dp f c k f c k := fun _ _ q => q
theorem pimp_low (hk : k' ≤ k) : PImp X W dp f c k f c k' := by
  intro σ H A ν fps F Q q
  revert q
  cases f ν with
  | ok t =>
    intro q v H' fp s nd fr r
    obtain ⟨fp', sub, lp⟩ := r.low nd k' hk
    refine q v H' fp' s (nd.sublist sub) (fun a ha => fr a (sub.subset ha)) (lp _ (fun a m => ⟨m.1, fun z => m.2 (sub.subset z)⟩) fun a ha n => ⟨.inr ⟨fr a ha, r.dom a ha⟩, n⟩)
  | exc cl p => exact fun q => q
  | stuck => exact fun q => q
theorem pimp_zer (hz : zeros dp = true) : PImp X W dp f c k f c' k := by
  intro σ H A ν fps F Q q
  have nf : ∀ a, a ∉ fps.flatten := fun a ha => by
    obtain ⟨i, p, h1, h2⟩ := of_flat ha
    rw [F.z i p (zeros_get hz i) h1] at h2
    cases h2
  revert q
  cases f ν with
  | ok t => exact fun q v H' fp s nd fr r => q v H' fp s nd fr (r.mono (Same.refl _) fun a m => m.weak fun b z => z.elim .inl fun w => absurd w.2 (nf b))
  | exc cl p => exact fun q => q
  | stuck => exact fun q => q
theorem pimp_imm : PImp X W dp f c k (eImm f) c' k' := by
  intro σ H A ν fps F Q q
  unfold eImm at q
  cases e1 : f ν with
  | ok t =>
    rw [e1] at q
    have q : PoE X W σ H (Bs A fps.flatten c') k' Q (if t.imm = true then .ok t else .stuck) := q
    by_cases hi : t.imm = true
    · rw [if_pos hi] at q
      intro v H' fp s nd fr r
      exact q v H' [] s List.nodup_nil (fun _ z => nomatch z) (r.imm hi)
    · rw [if_neg hi] at q; exact q.elim
  | exc cl p => rw [e1] at q; exact q
  | stuck => rw [e1] at q; exact q
theorem pimp_imm1 : PImp X W dp f c (k + 1) (eImm1 f) c' (k' + 1) := by
  intro σ H A ν fps F Q q
  unfold eImm1 at q
  cases e1 : f ν with
  | ok t =>
    rw [e1] at q
    have q : PoE X W σ H (Bs A fps.flatten c') (k' + 1) Q (if t.imm1 = true then .ok t else .stuck) := q
    by_cases hi : t.imm1 = true
    · rw [if_pos hi] at q
      intro v H' fp s nd fr r
      cases t with
      | lst xs =>
        rw [Ow] at r
        obtain ⟨a, ys, f1, rfl, rfl, h1, h2⟩ := r
        refine q (.ref a) H' [a] s (by simp) (fun b hb => fr b (by rw [List.mem_singleton] at hb; rw [hb]; simp)) ?_
        rw [Ow]
        exact ⟨a, ys, [], rfl, rfl, h1, h2.imm' hi⟩
      | _ => cases hi
    · rw [if_neg hi] at q; exact q.elim
  | exc cl p => rw [e1] at q; exact q
  | stuck => rw [e1] at q; exact q
end
/-- made clean: by what is owned, or looked at -/
def cleanR (dp : List Nat) (r : EI) : EI := if r.c = true then r else if zeros dp = true then ⟨r.f, true, r.k⟩ else match r.k with
  | 0 => ⟨eImm r.f, true, 9⟩
  | _ + 1 => ⟨eImm1 r.f, true, 9⟩
theorem cleanR_ok (X : Cx) (W : WX) (dp : List Nat) (r : EI) : PImp X W dp r.f r.c r.k (cleanR dp r).f true (cleanR dp r).k := by
  unfold cleanR
  by_cases hc : r.c = true
  · rw [if_pos hc]
    rw [← hc]
    exact pimp_same
  · rw [if_neg hc]
    by_cases hz : zeros dp = true
    · rw [if_pos hz]
      exact pimp_zer hz
    · rw [if_neg hz]
      obtain ⟨f, c, k⟩ := r
      cases k with
      | zero => exact pimp_imm
      | succ k => exact pimp_imm1 (k' := 8)

theorem swapsS_no {t e : Expr} {l : Nat} {env : Env} (h : isCmp e = false) : swapsWithSole [t] e l env = pure false := swaps_no h
theorem swapsT_no {es : List Expr} {n : Nat} {p : Pos} {e : Expr} {l : Nat} {env : Env} : swapsWithSole [.Tuple es n p] e l env = pure false := by
  show swapsWith e (some (.Tuple es n p)) l env = pure false
  cases e <;> rfl
theorem oRet_non (f : Fr → RX) : NoN (oRet f) := fun ν ν' z => by
  unfold oRet at z
  split at z <;> cases z
/-! ### statements -/
structure SOk (G : Ctx) (X : Cx) (W : WX) : Prop where
  c : COk G X W
  po : PassesOwn (model X.prog X.w) X.A X.env X.xe
structure SI where
  g : Fr → Out
  dp : List Nat
  fl : Bool
abbrev DS (G : Ctx) (F : Fs) (dp : List Nat) (st : Stmt) : Type := Option { r : SI // (∀ X W, SOk G X W → VS X W F dp st r.g r.dp) ∧ (r.fl = false → NoN r.g) }
abbrev DSs (G : Ctx) (F : Fs) (dp : List Nat) (st : List Stmt) : Type := Option { r : SI // (∀ X W, SOk G X W → VSs X W F dp st r.g r.dp) ∧ (r.fl = false → NoN r.g) }
structure XI where
  f : Fr → RX
  c : Bool
  k : Nat
  dp : List Nat
abbrev DX (G : Ctx) (F : Fs) (dp : List Nat) (e : Expr) : Type := Option { r : XI // ∀ X W, SOk G X W → VX X W F dp (wpE X e) r.f r.c r.k r.dp }
structure PI where
  i : Nat
  p : Fr → Res Fo
  r : Nat
abbrev DP (G : Ctx) (dp : List Nat) (e : Expr) : Type := Option { r : PI // ∀ X W, COk G X W → VP X W dp r.i e r.p r.r }
structure SDen where
  ss : (G : Ctx) → (F : Fs) → (hint dp : List Nat) → (st : List Stmt) → DSs G F dp st
def sden0 : SDen := ⟨fun _ _ _ _ _ => none⟩

section
variable (D : Den) (G : Ctx) (F : Fs) (hint dp : List Nat)
/-- a pure expression, clean -/
def dClean (d : Nat) (e : Expr) : Option { r : XI // r.c = true ∧ ∀ X W, SOk G X W → VX X W F dp (wpE X e) r.f r.c r.k r.dp } :=
  match D.e G dp d e with
  | some ra => if h : leD F.xd dp = true then some ⟨⟨pX (cleanR dp ra.1).f, true, (cleanR dp ra.1).k, dp⟩, rfl, fun X W hx => vx_of ((ra.2 X W hx.c).imp (cleanR_ok X W dp ra.1)) h⟩ else none
  | none => none
def dMove (x : Str) (pos : Pos) : Option { r : XI // r.c = true ∧ ∀ X W, SOk G X W → VX X W F dp (wpE X (.Name x pos)) r.f r.c r.k r.dp } :=
  match h1 : ixOf x G.N with
  | some i => if h2 : (visB G.sc x && plainN x && decide (i ∉ F.io)) = true then some ⟨⟨xMove i, true, dp.getD i 0, dp⟩, rfl, fun X W h => by
      simp only [Bool.and_eq_true, decide_eq_true_eq] at h2
      have hp := plainN_ok h2.1.2
      exact vx_move (by rw [h.c.N]; exact ixOf_get h1) (by rw [h.c.sc]; exact visB_ok h2.1.1) hp.1 hp.2.1 h2.2⟩ else none
  | none => none
/-- the slot of a name is owned -/
def ownN (e : Expr) : Bool := match e with
  | .Name x _ => (match ixOf x G.N with
    | some i => !(dp.getD i 0 == 0)
    | none => false)
  | _ => false
def dXc (d : Nat) (e : Expr) : Option { r : XI // r.c = true ∧ ∀ X W, SOk G X W → VX X W F dp (wpE X e) r.f r.c r.k r.dp } :=
  match d, ownN G dp e, e with
  | _ + 1, true, .Name x pos => dMove G F dp x pos
  | d, _, e => dClean D G F dp d e
/-! places -/
def pName (x : Str) (pos : Pos) : DP G dp (.Name x pos) :=
  match h1 : ixOf x G.N with
  | some i => if h2 : (visB G.sc x && plainN x) = true then some ⟨⟨i, pSlot i, dp.getD i 0⟩, fun X W h => by
      simp only [Bool.and_eq_true] at h2
      have hp := plainN_ok h2.2
      exact vp_name (by rw [h.N]; exact ixOf_get h1) (by rw [h.sc]; exact visB_ok h2.1) hp.1 hp.2.1⟩ else none
  | none => none
def dP : Nat → (e : Expr) → DP G dp e
  | 0, _ => none
  | n + 1, e => match e with
    | .Name x pos => pName G dp x pos
    | .Subscript a b pos => (match dP n a, D.e G dp 0 b with
      | some ⟨⟨i, p, r + 1⟩, hp⟩, some rb => if hs : isSlc b = false then some ⟨⟨i, pItm p rb.1.f, r⟩, fun X W h => vp_itm (by have := h.un; omega) (hp X W h) (rb.2 X W h) (plainIx_no hs)⟩ else none
      | _, _ => none)
    | _ => none
/-! the statements -/
def sAppend (o : Expr) (apos : Pos) (a : Expr) (cpos pos : Pos) : DS G F dp (.Expr (.Call (.Attribute o "append" apos) [a] [] cpos) pos) :=
  match dP D G dp 9 o with
  | some ⟨⟨i, p, r + 1⟩, hp⟩ => (match D.e G dp r a with
    | some ra => if h : (leD F.xd dp && Nat.ble r (cleanR dp ra.1).k && !isCal o && !isStar a && (apos.endLine == cpos.line)) = true then some ⟨⟨oExpr (xApp i p (cleanR dp ra.1).f), dp, true⟩, fun X W hx => by
        simp only [Bool.and_eq_true, Bool.not_eq_true'] at h
        obtain ⟨⟨⟨⟨h1, h2⟩, h3⟩, h4⟩, h5⟩ := h
        refine vs_expr (vx_app (hp X W hx.c) (((ra.2 X W hx.c).imp (cleanR_ok X W dp ra.1)).lowk (Nat.le_of_ble_eq_true h2)) h1 (base_no h3) ?_ h5 (star_cons h4) rfl) (swaps_no rfl)
        rw [star_cons h4]
        rfl, fun z => by cases z⟩ else none
    | none => none)
  | _ => none
def sExpr (e : Expr) (pos : Pos) : DS G F dp (.Expr e pos) :=
  match D.e G dp 0 e with
  | some ra => if h : (leD F.xd dp && !isCmp e) = true then some ⟨⟨oExpr (pX ra.1.f), dp, true⟩, fun X W hx => by
      simp only [Bool.and_eq_true, Bool.not_eq_true'] at h
      exact vs_expr (vx_of (ra.2 X W hx.c) h.1) (swaps_no h.2), fun z => by cases z⟩ else none
  | none => none
def sExpr' (e : Expr) (pos : Pos) : DS G F dp (.Expr e pos) := match e with
  | .Call (.Attribute o m apos) [a] [] cpos => if hm : m = "append" then cast (by rw [hm]) (sAppend D G F dp o apos a cpos pos) else sExpr D G F dp _ pos
  | e => sExpr D G F dp e pos
theorem ps_setG {X : Cx} {W : WX} (h : COk G X W) (hf : G.fnl = true) {i : Nat} {x : Str} {e : Expr} {te : TE} {pos' pos : Pos} (h1 : ixOf x G.N = some i) (h2 : locB G.sc x = true) (he : PE X e te) (hs : swapsWith e (some (.Name x pos')) pos.line X.env = pure false) : PS X (.Assign [.Name x pos'] e pos) (tAsg te (gName i)) :=
  ps_set (by rw [h.N]; exact h.nd) (by rw [h.N]; exact ixOf_get h1) (by rw [h.sc]; exact locB_ok h2) he hs (.inl (h.lo hf x))
def sAsg (x : Str) (pos' : Pos) (e : Expr) (pos : Pos) : DS G F dp (.Assign [.Name x pos'] e pos) :=
  match h1 : ixOf x G.N with
  | some i => (match dXc D G F dp (hint.getD i 0) e with
    | some rx => if h : (G.fnl && locB G.sc x && !isCmp e && decide (i ∉ F.io) && decide (i < rx.1.dp.length)) = true then
        some ⟨⟨oAsg i rx.1.f, rx.1.dp.set i (min rx.1.k (hint.getD i 0)), true⟩, fun X W hx => by
          simp only [Bool.and_eq_true, Bool.not_eq_true', decide_eq_true_eq] at h
          obtain ⟨⟨⟨⟨a1, a2⟩, a3⟩, a4⟩, a5⟩ := h
          have V := (rx.2.2 X W hx).lowk (Nat.min_le_left rx.1.k (hint.getD i 0))
          rw [rx.2.1] at V
          exact vs_asg (ps_setG G hx.c a1 h1 a2 pe_wp (swaps_no a3)) V a4 a5 (by rw [hx.c.N]; exact (List.getElem?_eq_some_iff.mp (ixOf_get h1)).1), fun z => by cases z⟩
      else none
    | none => none)
  | none => none
/-- name = [..] -/
def sAsgC (x : Str) (pos' : Pos) (elt tg iter : Expr) (ifs : List Expr) (scope : Scope) (cpos pos : Pos) : DS G F dp (.Assign [.Name x pos'] (.ListComp elt [⟨tg, iter, ifs, 0⟩] scope cpos) pos) :=
  match h1 : ixOf x G.N with
  | some i => (match dIt D G dp tg iter, dG (G.inb scope) [] ((ownOf scope G.N).map (·.2)) 9 tg, dTs D (G.inb scope) ifs, D.e (G.inb scope) [] (hint.getD i 0 - 1) elt with
    | some ri, some rg, some rt, some re =>
      if h : (G.fnl && locB G.sc x && decide (i ∉ F.io) && decide (i < dp.length) && blkC G.N G.sc scope (ownOf scope G.N) && !isSet iter && re.1.c && leD F.xd dp && (G.sc.kind == .function)) = true then
        let r := cleanR dp ⟨eComp ri.1.f ((ownOf scope G.N).map (·.2)) rg.1 rt.1 re.1.f, dp == [], re.1.k + 1⟩
        some ⟨⟨oAsg i (pX r.f), dp.set i (min r.k (hint.getD i 0)), true⟩, fun X W hx => by
          simp only [Bool.and_eq_true, Bool.not_eq_true', decide_eq_true_eq, beq_iff_eq] at h
          obtain ⟨⟨⟨⟨⟨⟨⟨⟨a1, a2⟩, a3⟩, a4⟩, a5⟩, a6⟩, a7⟩, a8⟩, a9⟩ := h
          have hk : X.env.scope.kind = .function := by rw [hx.c.sc]; exact a9
          have B : BlkV X scope (ownOf scope G.N) tg elt ifs rg.1 rt.1 re.1.f re.1.k := ⟨by rw [hx.c.N, hx.c.sc]; exact blkOk_by a5, fun s H C cl fp => rg.2 _ _ (hx.c.blk s H scope cl C fp), fun s H C cl fp => rt.2 _ _ (hx.c.blk s H scope cl C fp), fun s H C cl fp => by
            have := re.2 _ _ (hx.c.blk s H scope cl C fp)
            rw [a7] at this
            exact this⟩
          have hl : i < X.N.length := by rw [hx.c.N]; exact (List.getElem?_eq_some_iff.mp (ixOf_get h1)).1
          cases hw : swB G.sc scope x pos'.line cpos.line with
          | false =>
            have V := ve_comp hx.c.calm (by rw [hx.c.N]; exact hx.c.nd) (ri.2 X W hx.c) B (folded_no a6) (pos := cpos)
            exact vs_asg (ps_setG G hx.c a1 h1 a2 pe_wp (by rw [sw_eq hk, hx.c.sc, hw])) ((vx_of (V.imp (cleanR_ok X W dp _)) a8).lowk (Nat.min_le_left _ _)) a3 a4 hl
          | true =>
            obtain ⟨wi, pi, qi⟩ := (ri.2 X W hx.c).pi
            have hloc : X.env.scope.names.lookup x = some .local := by
              unfold swB at hw
              simp only [Bool.and_eq_true, beq_iff_eq] at hw
              rw [hx.c.sc]; exact hw.1.1
            have P := ps_setLc (elt := elt) (tg := tg) (iter := iter) (ifs := ifs) (scope := scope) (i := i) (y := x) (py := pos') (spos := pos) (pos := cpos) hx.c.calm (by rw [hx.c.N]; exact hx.c.nd) (by rw [hx.c.N]; exact ixOf_get h1) hloc (by rw [sw_eq hk, hx.c.sc, hw]) pi B.ok pg_B pt_B pe_B (folded_no a6)
            have V : VR X W dp (tLc wi (gB X scope tg) (tB2 X scope ifs) (eB X scope elt) ((ownOf scope G.N).map (·.2))) (eComp ri.1.f ((ownOf scope G.N).map (·.2)) rg.1 rt.1 re.1.f) (dp == []) (re.1.k + 1) := ⟨fun F Q q => comp_q B F (fun R q => qi F R q) q⟩
            exact vs_asg P ((vx_ofR (V.imp (cleanR_ok X W dp ⟨eComp ri.1.f ((ownOf scope G.N).map (·.2)) rg.1 rt.1 re.1.f, dp == [], re.1.k + 1⟩)) a8).lowk (Nat.min_le_left _ _)) a3 a4 hl, fun z => by cases z⟩
      else none
    | _, _, _, _ => none)
  | none => none
/-- the slots of the names of a target -/
def slotsOf : Nat → Expr → List Nat
  | 0, _ => []
  | n + 1, e => match e with
    | .Name x _ => (match ixOf x G.N with
      | some i => [i]
      | none => [])
    | .Tuple es _ _ => es.flatMap (slotsOf n)
    | _ => []
def zeroAt (dp : List Nat) : List Nat → List Nat
  | [] => dp
  | i :: is => (zeroAt dp is).set i 0
def sTgt (tg e : Expr) (pos : Pos) : DS G F dp (.Assign [tg] e pos) :=
  match dClean D G F dp 0 e with
  | some rx => (match dG G (zeroAt rx.1.dp (slotsOf G 9 tg)) (slotsOf G 9 tg) 9 tg with
    | some rg => if h : (leD (zeroAt rx.1.dp (slotsOf G 9 tg)) rx.1.dp && (slotsOf G 9 tg).all (fun i => decide (i ∉ F.io)) && isTupE tg && !isTupE e && !isStar tg) = true then
        some ⟨⟨oTgt rg.1 rx.1.f, zeroAt rx.1.dp (slotsOf G 9 tg), true⟩, fun X W hx => by
          simp only [Bool.and_eq_true, Bool.not_eq_true', List.all_eq_true, decide_eq_true_eq] at h
          obtain ⟨⟨⟨⟨a1, a2⟩, a3⟩, a4⟩, a5⟩ := h
          have V := rx.2.2 X W hx
          rw [rx.2.1] at V
          exact vs_tgt V (rg.2 X W hx.c) a1 a2 (by cases tg <;> first | exact swapsT_no | cases a3) (swapped_no a4) (by rw [assign_cons a5]; rfl), fun z => by cases z⟩
      else none
    | none => none)
  | none => none
def sPar (x : Str) (px : Pos) (y : Str) (py : Pos) (kt : Nat) (pt : Pos) (a b : Expr) (k2 : Nat) (pt2 pos : Pos) : DS G F dp (.Assign [.Tuple [.Name x px, .Name y py] kt pt] (.Tuple [a, b] k2 pt2) pos) :=
  match h1 : ixOf x G.N, h2 : ixOf y G.N, dEs D G dp [a, b] with
  | some i, some j, some rs => if h : (parB G.sc x y px.line py.line a b && rs.1.c && decide (i ∉ F.io) && decide (j ∉ F.io) && leD F.xd dp && decide (i < dp.length) && decide (j < dp.length) && !(i == j)) = true then
      some ⟨⟨oPar i j rs.1.f, (dp.set i 0).set j 0, true⟩, fun X W hx => by
        simp only [Bool.and_eq_true, Bool.not_eq_true', decide_eq_true_eq] at h
        obtain ⟨⟨⟨⟨⟨⟨⟨a1, a2⟩, a3⟩, a4⟩, a5⟩, a6⟩, a7⟩, a8⟩ := h
        have V := rs.2.1 X W hx.c
        rw [a2] at V
        have q := a1
        unfold parB at q
        simp only [Bool.and_eq_true, beq_iff_eq] at q
        exact vs_par hx.c.calm (by rw [hx.c.N]; exact hx.c.nd) (by rw [hx.c.N]; exact ixOf_get h1) (by rw [hx.c.N]; exact ixOf_get h2) (by simpa using a8) (by rw [hx.c.sc]; exact q.1.1.1.1.1.1.1.2) (by rw [hx.c.sc]; exact q.1.1.1.1.1.1.2) V (swapped_two (by rw [hx.c.sc]; exact a1)) (swapsS_no rfl) ⟨a3, a4⟩ a5 ⟨a6, a7⟩, fun z => by cases z⟩
    else none
  | _, _, _ => none
def sRet (e : Option Expr) (pos : Pos) : DS G F dp (.Return e pos) := match e with
  | none => if h : leD F.rd dp = true then some ⟨⟨oRet (pX (eC .non)), dp, false⟩, fun X W hx => vs_retN h dp, fun _ => oRet_non (pX (eC .non))⟩ else none
  | some e => match dXc D G F dp F.rk e with
    | some rx => if h : (Nat.ble F.rk rx.1.k && leD F.rd rx.1.dp) = true then some ⟨⟨oRet rx.1.f, dp, false⟩, fun X W hx => by
        simp only [Bool.and_eq_true] at h
        exact vs_ret (rx.2.2 X W hx) (Nat.le_of_ble_eq_true h.1) h.2 (.inl rx.2.1) dp, fun _ => oRet_non _⟩ else none
    | none => none
/-- a return of what may lean on what the def owns -/
def sRet' (e : Option Expr) (pos : Pos) : DS G F dp (.Return e pos) := match e with
  | none => sRet D G F dp none pos
  | some e => match D.e G dp F.rk e with
    | some ra => if h : (zeros F.rd && Nat.ble F.rk ra.1.k && leD F.rd dp && leD F.xd dp) = true then some ⟨⟨oRet (pX ra.1.f), dp, false⟩, fun X W hx => by
        simp only [Bool.and_eq_true] at h
        exact vs_ret (vx_of (ra.2 X W hx.c) h.2) (Nat.le_of_ble_eq_true h.1.1.2) h.1.2 (.inr h.1.1.1) dp, fun _ => oRet_non _⟩ else sRet D G F dp (some e) pos
    | none => none
end
end VI

namespace VI
open PySem PySem.Spec PyProof.Rows L2

def meetD : List Nat → List Nat → List Nat
  | x :: xs, y :: ys => min x y :: meetD xs ys
  | _, _ => []
theorem VSs.to {X : Cx} {W : WX} {fs : Fs} {dp dq : List Nat} {st : List Stmt} {r : SI} (h : VSs X W fs dp st r.g r.dp) (hn : r.fl = false → NoN r.g) (hl : (!r.fl || leD dq r.dp) = true) : VSs X W fs dp st r.g dq := by
  cases hf : r.fl with
  | false => exact h.non (hn hf) dq
  | true => rw [hf] at hl; exact h.low hl
theorem VS.pre {X : Cx} {W : WX} {fs : Fs} {dp dp' dp1 : List Nat} {st : Stmt} {g : Fr → Out} (h : VS X W fs dp st g dp1) (hl : leD dp dp' = true) : VS X W fs dp' st g dp1 := ⟨fun R D q => by
  obtain ⟨A', fps', R', _⟩ := R.low hl
  exact h.run R' D q⟩
theorem oIf_non {ft : Fr → BX} {g g' : Fr → Out} (h : NoN g) (h' : NoN g') : NoN (oIf ft g g') := fun ν ν' z => by
  unfold oIf at z
  split at z
  · exact h _ _ z
  · exact h' _ _ z
  · cases z
  · cases z
theorem oSeq_non1 {g g' : Fr → Out} (h : NoN g) : NoN (oSeq g g') := fun ν ν' z => by
  unfold oSeq at z
  split at z
  · rename_i e; exact h _ _ e
  · exact h _ _ z
theorem oSeq_non2 {g g' : Fr → Out} (h : NoN g') : NoN (oSeq g g') := fun ν ν' z => by
  unfold oSeq at z
  split at z
  · exact h _ _ z
  · rename_i hn
    exact hn _ z
section
variable (D : Den) (S : SDen) (G : Ctx) (F : Fs) (hint dp : List Nat)
def sIf (t : Expr) (b o : List Stmt) (pos : Pos) : DS G F dp (.If t b o pos) :=
  match D.t G dp t, S.ss G F hint dp b, S.ss G F hint dp o with
  | some rt, some rb, some ro =>
    let dq := if rb.1.fl = true then (if ro.1.fl = true then meetD rb.1.dp ro.1.dp else rb.1.dp) else ro.1.dp
    if h : (leD F.xd dp && (!rb.1.fl || leD dq rb.1.dp) && (!ro.1.fl || leD dq ro.1.dp)) = true then
      some ⟨⟨oIf (pB rt.1) rb.1.g ro.1.g, dq, rb.1.fl || ro.1.fl⟩, fun X W hx => by
        rw [Bool.and_eq_true, Bool.and_eq_true] at h
        exact vs_if (vxt_of (rt.2 X W hx.c) h.1.1) ((rb.2.1 X W hx).to rb.2.2 h.1.2) ((ro.2.1 X W hx).to ro.2.2 h.2), fun z => by
          have z : (rb.1.fl || ro.1.fl) = false := z
          rw [Bool.or_eq_false_iff] at z
          exact oIf_non (rb.2.2 z.1) (ro.2.2 z.2)⟩
    else none
  | _, _, _ => none
noncomputable def sWh (dq : List Nat) (t : Expr) (b : List Stmt) (pos : Pos) : DS G F dp (.While t b [] pos) :=
  match D.t G dq t, S.ss G F hint dq b with
  | some rt, some rb => if h : (leD F.xd dq && leD dq dp && (!rb.1.fl || leD dq rb.1.dp)) = true then
      some ⟨⟨whL (pB rt.1) rb.1.g, dq, true⟩, fun X W hx => by
        rw [Bool.and_eq_true, Bool.and_eq_true] at h
        exact (vs_while hx.po (vxt_of (rt.2 X W hx.c) h.1.1) ((rb.2.1 X W hx).to rb.2.2 h.2) (leD_refl dq)).pre h.1.2, fun z => by cases z⟩
    else none
  | _, _ => none
where leD_refl : ∀ dq : List Nat, leD dq dq = true
  | [] => rfl
  | x :: xs => by
    show (Nat.ble x x && leD xs xs) = true
    rw [leD_refl xs, Nat.ble_eq_true_of_le (Nat.le_refl x)]; rfl
noncomputable def sWhile (t : Expr) (b : List Stmt) (pos : Pos) : DS G F dp (.While t b [] pos) :=
  match sWh D S G F hint dp dp t b pos with
  | some r => some r
  | none => (match S.ss G F hint dp b with
    | some rb => sWh D S G F hint dp (meetD dp rb.1.dp) t b pos
    | none => none)
def sFo (dq : List Nat) (tg it : Expr) (b : List Stmt) (pos : Pos) : DS G F dp (.For tg it b [] pos) :=
  match dIt D G dq tg it, dG G dq (slotsOf G 9 tg) 9 tg, S.ss G F hint dq b with
  | some ri, some rg, some rb => if h : (leD F.xd dq && leD dq dp && (!rb.1.fl || leD dq rb.1.dp) && ri.1.c && (slotsOf G 9 tg).all (fun i => decide (i ∉ F.io)) && !isSet it) = true then
      some ⟨⟨oFor ri.1.f rg.1 rb.1.g, dq, true⟩, fun X W hx => by
        simp only [Bool.and_eq_true] at h
        obtain ⟨⟨⟨⟨⟨a1, a2⟩, a3⟩, a4⟩, a5⟩, a6⟩ := h
        have V := ri.2 X W hx.c
        rw [a4] at V
        exact (vs_for hx.po hx.c.calm V (rg.2 X W hx.c) (by simpa using a5) ((rb.2.1 X W hx).to rb.2.2 a3) (sWh.leD_refl dq) a1 (folded_no (by simpa using a6))).pre a2, fun z => by cases z⟩
    else none
  | _, _, _ => none
/-- the slots of the names that an expression reads -/
def readsE : Nat → Expr → List Nat
  | 0, _ => []
  | n + 1, e => match e with
    | .Name x _ => (match ixOf x G.N with
      | some i => [i]
      | none => [])
    | .Tuple es _ _ => es.flatMap (readsE n)
    | .List es _ => es.flatMap (readsE n)
    | .Call f es _ _ => readsE n f ++ es.flatMap (readsE n)
    | .Attribute o _ _ => readsE n o
    | .Subscript a b _ => readsE n a
    | .BinOp a _ b _ => readsE n a ++ readsE n b
    | _ => []
def sFor (tg it : Expr) (b : List Stmt) (pos : Pos) : DS G F dp (.For tg it b [] pos) :=
  let dq := zeroAt dp (slotsOf G 9 tg)
  match sFo D S G F hint dp dq tg it b pos with
  | some r => some r
  | none => (match sFo D S G F hint dp (zeroAt dq (readsE G 9 it)) tg it b pos with
    | some r => some r
    | none => (match S.ss G F hint dq b with
      | some rb => (match sFo D S G F hint dp (meetD dq rb.1.dp) tg it b pos with
        | some r => some r
        | none => sFo D S G F hint dp (zeroAt (meetD dq rb.1.dp) (readsE G 9 it)) tg it b pos)
      | none => none))
noncomputable def sStmt (st : Stmt) : DS G F dp st := match st with
  | .Pass pos => some ⟨⟨oNil, dp, true⟩, fun X W hx => vs_pass, fun z => by cases z⟩
  | .Expr e pos => sExpr' D G F dp e pos
  | .Assign [.Name x pos'] (.ListComp elt [⟨tg, iter, ifs, 0⟩] scope cpos) pos => sAsgC D G F hint dp x pos' elt tg iter ifs scope cpos pos
  | .Assign [.Name x pos'] e pos => sAsg D G F hint dp x pos' e pos
  | .Assign [.Tuple [.Name x px, .Name y py] kt pt] (.Tuple [a, b] k2 pt2) pos => sPar D G F dp x px y py kt pt a b k2 pt2 pos
  | .Assign [.Tuple es kt pt] e pos => sTgt D G F dp (.Tuple es kt pt) e pos
  | .Return e pos => sRet' D G F dp e pos
  | .If t b o pos => sIf D S G F hint dp t b o pos
  | .While t b [] pos => sWhile D S G F hint dp t b pos
  | .For tg it b [] pos => sFor D S G F hint dp tg it b pos
  | _ => none
end
section
variable (D : Den) (S : SDen) (G : Ctx) (F : Fs) (hint : List Nat)
noncomputable def sBlock : (dp : List Nat) → (st : List Stmt) → DSs G F dp st
  | dp, [] => some ⟨⟨oNil, dp, true⟩, fun X W hx => vss_nil, fun z => by cases z⟩
  | dp, [st] => (match sStmt D S G F hint dp st with
    | some r => some ⟨r.1, fun X W hx => vss_one (r.2.1 X W hx), r.2.2⟩
    | none => none)
  | dp, st :: st2 :: rest => (match sStmt D S G F hint dp st with
    | some r => (match sBlock r.1.dp (st2 :: rest) with
      | some rs => some ⟨⟨oSeq r.1.g rs.1.g, rs.1.dp, r.1.fl && rs.1.fl⟩, fun X W hx => vss_cons (r.2.1 X W hx) (rs.2.1 X W hx), fun z => by
          have z : (r.1.fl && rs.1.fl) = false := z
          rw [Bool.and_eq_false_iff] at z
          rcases z with z | z
          · exact oSeq_non1 (r.2.2 z)
          · exact oSeq_non2 (rs.2.2 z)⟩
      | none => none)
    | none => none)
end
noncomputable def sstep (D : Den) (S : SDen) : SDen := ⟨fun G F hint dp st => sBlock D S G F hint dp st⟩
noncomputable def sden (D : Den) (n : Nat) : SDen := Nat.rec sden0 (fun _ S => sstep D S) n

/-! ### a text of defs -/
structure DefI where
  name : Str
  fi : FI
  N : List Str
  hint : List Nat
  params : Arguments
  body : List Stmt
  scope : Scope
structure Txt where
  defs : List DefI
  bl : List Str
  ne : Nat
  ns : Nat
def Txt.fs (t : Txt) : List (Str × FI) := t.defs.map fun d => (d.name, d.fi)
def Txt.ctx (t : Txt) (d : DefI) (call : Str → List T → FRes) : Ctx := ⟨d.N, d.scope, true, t.fs, t.bl, call⟩
/-- a def's body, read -/
noncomputable def Txt.den (t : Txt) (d : DefI) (call : Str → List T → FRes) : DSs (t.ctx d call) (fsOf d.N.length d.fi.pd d.fi.rk) (dp0 d.N.length d.fi.pd) d.body :=
  (sden (VI.den t.ne) t.ns).ss (t.ctx d call) (fsOf d.N.length d.fi.pd d.fi.rk) d.hint (dp0 d.N.length d.fi.pd) d.body
/-- .. and what it does; nothing where it cannot be read -/
noncomputable def Txt.go (t : Txt) (d : DefI) (call : Str → List T → FRes) : Fr → Out := match t.den d call with
  | some r => if (!r.1.fl || leD (dp0 d.N.length d.fi.pd) r.1.dp) = true then r.1.g else fun _ => .stuck
  | none => fun _ => .stuck
def lookD (x : Str) : List DefI → Option DefI
  | [] => none
  | d :: r => if d.name == x then some d else lookD x r
noncomputable def Txt.run (t : Txt) : Nat → Str → List T → FRes
  | 0, _, _ => .stuck
  | k + 1, x, ts => match lookD x t.defs with
    | some d => runD d.N.length d.fi.pd (t.go d (t.run k)) ts
    | none => .stuck
/-- what must be told of a def -/
def scopeB (N ps : List Str) (sc : Scope) : Bool := (sc.kind == .function) && !sc.isCoroutine && !sc.isGenerator && decide N.Nodup && decide (N.take ps.length = ps) && ps.all (fun x => locB sc x) && sc.names.all (fun y => !(y.2 == .free))
theorem scopeB_ok {N ps : List Str} {sc : Scope} (h : scopeB N ps sc = true) : FnScope N ps sc := by
  unfold scopeB at h
  simp only [Bool.and_eq_true, Bool.not_eq_true', beq_iff_eq, decide_eq_true_eq, List.all_eq_true] at h
  obtain ⟨⟨⟨⟨⟨⟨h1, h2⟩, h3⟩, h4⟩, h5⟩, h6⟩, h7⟩ := h
  exact ⟨h1, h2, h3, h4, h5, fun x hx => locB_ok (h6 x hx), fun y hy z => by have := h7 y hy; rw [z] at this; simp at this⟩
def DefI.okB (d : DefI) : Bool := scopeB d.N d.fi.ps d.scope && (d.fi.pd.length == d.fi.ps.length) && Nat.ble d.fi.ps.length d.N.length
structure DefOk (K : PySem.W.Frag) (mg : Str → Option Value) (d : DefI) : Prop where
  ok : d.okB = true
  ex : ∃ (f : Addr) (fd : FuncData), mg d.name = some (.ref f) ∧ FunD K d.name d.name d.params d.body d.scope [] [] f fd ∧ Binds K fd d.fi.ps []
theorem fnOk_stuck {P : Program} {w : World} {K : PySem.W.Frag} {mg : Str → Option Value} {base : Heap} {CX : CXT} {k : Nat} {f : Addr} {fd : FuncData} {fi : FI} : FnOk P w K mg base CX k f fd fi.ps (spOf K fi fun _ => .stuck) :=
  ⟨fun vs H Q E h => h.choose_spec.choose_spec.choose_spec.1, fun A outer s H args us vs Q E _ _ _ _ h => by
    obtain ⟨_, _, _, _, _, _, _, _, z⟩ := h
    exact z.elim⟩
theorem lookD_mem : ∀ {l : List DefI} {d : DefI}, d ∈ l → (l.map (·.name)).Nodup → lookD d.name l = some d
  | [], d, h, _ => by cases h
  | a :: l, d, h, nd => by
    rw [List.map_cons, List.nodup_cons] at nd
    unfold lookD
    rcases List.mem_cons.mp h with rfl | h
    · rw [if_pos (beq_self_eq_true _)]
    · have : (a.name == d.name) = false := by
        rw [beq_eq_false_iff_ne]
        exact fun z => nd.1 (z ▸ List.mem_map_of_mem h)
      rw [this]
      exact lookD_mem h nd.2
/-- THE RULE: every def of a text does what its reading says, k calls deep -/
theorem Txt.ok {P : Program} {w : World} {K : PySem.W.Frag} {mg : Str → Option Value} {base : Heap} (t : Txt) (nd : (t.defs.map (·.name)).Nodup) (hd : ∀ d ∈ t.defs, DefOk K mg d) (hbl : ∀ x ∈ t.bl, mg x = none) :
    ∀ (k : Nat) (d : DefI), d ∈ t.defs → ∀ (f : Addr) (fd : FuncData), mg d.name = some (.ref f) → FunD K d.name d.name d.params d.body d.scope [] [] f fd → FnOk P w K mg base (L2.CX P w) k f fd d.fi.ps (spOf K d.fi (t.run k d.name))
  | 0, d, hm, f, fd, hg, hf => fnOk_stuck
  | k + 1, d, hm, f, fd, hg, hf => by
    have e : t.run (k + 1) d.name = runD d.N.length d.fi.pd (t.go d (t.run k)) := by
      funext ts
      show (match lookD d.name t.defs with
        | some d => runD d.N.length d.fi.pd (t.go d (t.run k)) ts
        | none => .stuck) = _
      rw [lookD_mem hm nd]
    rw [e]
    have ok := (hd d hm).ok
    unfold DefI.okB at ok
    simp only [Bool.and_eq_true, beq_iff_eq] at ok
    have stk : FnOk P w K mg base (L2.CX P w) (k + 1) f fd d.fi.ps (spOf K d.fi (runD d.N.length d.fi.pd fun _ => .stuck)) := fnOk_stuck
    unfold Txt.go
    cases ed : t.den d (t.run k) with
    | none => exact stk
    | some r =>
      show FnOk P w K mg base (L2.CX P w) (k + 1) f fd d.fi.ps (spOf K d.fi (runD d.N.length d.fi.pd (if (!r.1.fl || leD (dp0 d.N.length d.fi.pd) r.1.dp) = true then r.1.g else fun _ => .stuck)))
      by_cases hl : (!r.1.fl || leD (dp0 d.N.length d.fi.pd) r.1.dp) = true
      case neg => rw [if_neg hl]; exact stk
      rw [if_pos hl]
      refine fn_den hf (scopeB_ok ok.1.1) ok.1.2 (Nat.le_of_ble_eq_true ok.2) (dp1 := dp0 d.N.length d.fi.pd) (fun X W hx => ?_) (sWh.leD_refl _)
      refine VSs.to (r.2.1 X W ⟨⟨hx.N, (scopeB_ok ok.1.1).nd, hx.sc, hx.calm, hx.room.units, fun x fi hmem => ?_, fun x hxb => by rw [hx.mg]; exact hbl x hxb, hx.tk, fun _ => hx.fn⟩, hx.po⟩) r.2.2 hl
      -- the callees
      obtain ⟨d', hm', e'⟩ := List.mem_map.mp hmem
      cases e'
      obtain ⟨f', fd', g1, g2, g3⟩ := (hd d' hm').ex
      refine ⟨f', fd', k, by rw [hx.mg]; exact g1, by rw [hx.K]; exact g2.kp, by rw [hx.K]; exact g3, ?_, hx.room⟩
      have := Txt.ok (P := P) (w := w) (base := base) t nd hd hbl k d' hm' f' fd' g1 g2
      rw [hx.prog, hx.wd, hx.K, hx.mg, hx.base]
      exact this
end VI

namespace VI
open PySem PySem.Spec PyProof.Rows L2

/-! ### a law's end -/
def CXe : CXT := fun outer H s E u s' => ∃ P w, L2.CX P w outer H s E u s'
theorem cxe_end (H : Hp) (s : Shared) (e : Value) (s' : Shared) (h : CXe [] H s (fun _ _ _ => False) e s') : False := by
  obtain ⟨P, w, a, B, H', cls, d, _, _, _, _, _, _, _, z⟩ := h
  exact z
theorem FnOk.cxe {P : Program} {w : World} {K : PySem.W.Frag} {mg : Str → Option Value} {base : Heap} {k : Nat} {f : Addr} {fd : FuncData} {ps : List Str} {sp : Sp} (F : FnOk P w K mg base (L2.CX P w) k f fd ps sp) : FnOk P w K mg base CXe k f fd ps sp :=
  ⟨F.len, fun A outer s H args us vs Q E hr e0 hb r hsp => codeAny_mono (F.run A outer s H args us vs Q E hr e0 hb r hsp) fun res s' h => by
    cases res with
    | ok v => cases v <;> exact h
    | error e => exact ⟨P, w, h⟩⟩
/-- the law's promise: true at every script of at most n numbers -/
theorem law_sp {K : PySem.W.Frag} {fi : FI} {F : List T → FRes} {n : Nat} (h1 : fi.ps.length = 1) (h2 : fi.pd = [0]) (hF : ∀ ns : List Int, ns.length ≤ n → ∃ outs, F [.scr ns] = .ok (.bl true) outs) :
    ∀ (H : Hp) (a : Addr) (ns : List Int), ns.length ≤ n → Only H → SqL K H a (ns.map V.int) → spOf K fi F [.ref a] H (fun v _ => v = .bl true) fun _ _ _ => False := by
  intro H a ns hl _ hS
  obtain ⟨outs, e⟩ := hF ns hl
  refine ⟨fun b => b = a ∧ H a ≠ none, [.scr ns], [[]], by rw [h1]; rfl, ?_, by simp, by simp, fun b hb => by rw [hb.1]; exact hb.2, ?_⟩
  · rw [h2]
    refine ⟨?_, trivial⟩
    rw [Ow]
    refine ⟨a, rfl, ?_, hS, rfl⟩
    by_cases hz : H a = none
    · refine .inr fun H' => ?_
      rcases hS with (z | ⟨o, z⟩) | z
      · rw [hz] at z; cases z
      · rw [hz] at z; cases z
      · exact .inr z
    · exact .inl ⟨rfl, hz⟩
  · rw [e]
    intro v H' A' fp fps' _ r _ _ _ _ _
    rw [Ow] at r
    exact r.1
end VI

namespace K
open PySem PySem.Spec PyProof.Rows L2 VI
def top (i : Nat) : Stmt := PySem.Challenge.pw_dunnage_k01_parts_reckoned.main.body.getD i (.Pass ⟨0, 0, 0, 0⟩)
def d_common : DefI := ⟨"common", ⟨["one", "other"], [0, 0], 0⟩, ["one", "other"], [0, 0], defArgs (top 1), defBody (top 1), defScope (top 1)⟩
def d_part : DefI := ⟨"part", ⟨["top", "bottom"], [0, 0], 0⟩, ["top", "bottom", "by"], [0, 0, 0], defArgs (top 2), defBody (top 2), defScope (top 2)⟩
def d_plus : DefI := ⟨"plus", ⟨["a", "b"], [0, 0], 0⟩, ["a", "b"], [0, 0], defArgs (top 3), defBody (top 3), defScope (top 3)⟩
def d_minus : DefI := ⟨"minus", ⟨["a", "b"], [0, 0], 0⟩, ["a", "b"], [0, 0], defArgs (top 4), defBody (top 4), defScope (top 4)⟩
def d_times : DefI := ⟨"times", ⟨["a", "b"], [0, 0], 0⟩, ["a", "b"], [0, 0], defArgs (top 5), defBody (top 5), defScope (top 5)⟩
def d_less : DefI := ⟨"less", ⟨["a", "b"], [0, 0], 0⟩, ["a", "b"], [0, 0], defArgs (top 6), defBody (top 6), defScope (top 6)⟩
def d__law_feed : DefI := ⟨"_law_feed", ⟨["_law_script", "_law_many"], [0, 0], 0⟩, ["_law_script", "_law_many", "_law_feed_here", "_law_salt", "_law_cell", "_law_k", "_law_rest"], [0, 0, 1, 0, 0, 0, 0], defArgs (top 8), defBody (top 8), defScope (top 8)⟩
def d__law_same : DefI := ⟨"_law_same", ⟨["_law_found", "_law_due"], [0, 0], 0⟩, ["_law_found", "_law_due", "_law_one", "_law_other"], [0, 0, 0, 0], defArgs (top 9), defBody (top 9), defScope (top 9)⟩
def d__law_low : DefI := ⟨"_law_low", ⟨["_law_top", "_law_bottom"], [0, 0], 0⟩, ["_law_top", "_law_bottom", "_law_one", "_law_other"], [0, 0, 0, 0], defArgs (top 10), defBody (top 10), defScope (top 10)⟩
def d__law_add : DefI := ⟨"_law_add", ⟨["_law_a", "_law_b"], [0, 0], 0⟩, ["_law_a", "_law_b"], [0, 0], defArgs (top 11), defBody (top 11), defScope (top 11)⟩
def d__law_mul : DefI := ⟨"_law_mul", ⟨["_law_a", "_law_b"], [0, 0], 0⟩, ["_law_a", "_law_b"], [0, 0], defArgs (top 12), defBody (top 12), defScope (top 12)⟩
def d__law_less : DefI := ⟨"_law_less", ⟨["_law_a", "_law_b"], [0, 0], 0⟩, ["_law_a", "_law_b"], [0, 0], defArgs (top 13), defBody (top 13), defScope (top 13)⟩
def d__law_big : DefI := ⟨"_law_big", ⟨["_law_d"], [0], 0⟩, ["_law_d", "_law_many", "_law_found"], [0, 0, 0], defArgs (top 14), defBody (top 14), defScope (top 14)⟩
def d_law : DefI := ⟨"law", ⟨["_law_script"], [0], 0⟩, ["_law_script", "_law_feed_here", "_law_rows", "_law_turn", "_law_d", "_law_top", "_law_bottom", "_law_one", "_law_other", "_law_due"], [0, 0, 1, 0, 0, 0, 0, 0, 0, 0], defArgs (top 15), defBody (top 15), defScope (top 15)⟩
def tx : Txt := ⟨[d_common, d_part, d_plus, d_minus, d_times, d_less, d__law_feed, d__law_same, d__law_low, d__law_add, d__law_mul, d__law_less, d__law_big, d_law], ["len", "abs", "all", "range", "zip", "isinstance", "int", "bool", "str", "list", "tuple"], 40, 12⟩
def mkF (x : Str) (st : Stmt) : He.DefD := ⟨(x, none), x, x, defArgs st, defBody st, defScope st, [], []⟩
def fn : List He.DefD := [mkF "common" (top 1), mkF "part" (top 2), mkF "plus" (top 3), mkF "minus" (top 4), mkF "times" (top 5), mkF "less" (top 6), mkF "_law_feed" (top 8), mkF "_law_same" (top 9), mkF "_law_low" (top 10), mkF "_law_add" (top 11), mkF "_law_mul" (top 12), mkF "_law_less" (top 13), mkF "_law_big" (top 14), mkF "law" (top 15)]
def fa : List He.Fa := [.glo "common", .glo "part", .glo "plus", .glo "minus", .glo "times", .glo "less", .glo "_law_feed", .glo "_law_same", .glo "_law_low", .glo "_law_add", .glo "_law_mul", .glo "_law_less", .glo "_law_big", .glo "law", .free "len", .free "abs", .free "all", .free "range", .free "zip", .free "isinstance", .free "int", .free "bool", .free "str", .free "list", .free "tuple"]
def loose : List Str := ["__name__", "common", "part", "plus", "minus", "times", "less", "_law_feed", "_law_same", "_law_low", "_law_add", "_law_mul", "_law_less", "_law_big"]
abbrev R : PySem.W.OpenRow := PySem.W.OpenLaw.row PySem.Challenge.rw_dunnage_k01_parts_reckoned
abbrev hk : PySem.W.Hook := He.hookD 4 fa fn
def ob (s : PySem.W.SharedT) : He.AlD := He.obsDG 4 fa fn (HandSHeadRun.getT s)
theorem ob_eq (s : PySem.W.SharedT) : ob s = hk.obs s.abs := He.obsDG_eq (HandSHeadRun.getT_eq s)
theorem run (w : World) : HandSHeadRun.RunEq R (PySem.W.view R.prog [15]) hk ob 20000 loose w := by
  intro os
  kernel_rfl
section
variable {K : PySem.W.Frag} {h : Heap} {mg : Str → Option Value}
theorem dok_0 (X : K.In h) (G : h.Ns mainGlobals mg) (c : He.SaysD fa fn K) : DefOk K mg d_common := by
  obtain ⟨fd, F⟩ := c.def_ 0 (d := mkF "common" (top 1)) rfl
  exact ⟨by kernel_rfl, _, fd, He.glo_ok X G (c.fact 0 (f := .glo "common") rfl), F, F.bindsN fun _ _ _ _ _ _ us hl => match us, hl with | [_, _], _ => rfl⟩
theorem dok_1 (X : K.In h) (G : h.Ns mainGlobals mg) (c : He.SaysD fa fn K) : DefOk K mg d_part := by
  obtain ⟨fd, F⟩ := c.def_ 1 (d := mkF "part" (top 2)) rfl
  exact ⟨by kernel_rfl, _, fd, He.glo_ok X G (c.fact 1 (f := .glo "part") rfl), F, F.bindsN fun _ _ _ _ _ _ us hl => match us, hl with | [_, _], _ => rfl⟩
theorem dok_2 (X : K.In h) (G : h.Ns mainGlobals mg) (c : He.SaysD fa fn K) : DefOk K mg d_plus := by
  obtain ⟨fd, F⟩ := c.def_ 2 (d := mkF "plus" (top 3)) rfl
  exact ⟨by kernel_rfl, _, fd, He.glo_ok X G (c.fact 2 (f := .glo "plus") rfl), F, F.bindsN fun _ _ _ _ _ _ us hl => match us, hl with | [_, _], _ => rfl⟩
theorem dok_3 (X : K.In h) (G : h.Ns mainGlobals mg) (c : He.SaysD fa fn K) : DefOk K mg d_minus := by
  obtain ⟨fd, F⟩ := c.def_ 3 (d := mkF "minus" (top 4)) rfl
  exact ⟨by kernel_rfl, _, fd, He.glo_ok X G (c.fact 3 (f := .glo "minus") rfl), F, F.bindsN fun _ _ _ _ _ _ us hl => match us, hl with | [_, _], _ => rfl⟩
theorem dok_4 (X : K.In h) (G : h.Ns mainGlobals mg) (c : He.SaysD fa fn K) : DefOk K mg d_times := by
  obtain ⟨fd, F⟩ := c.def_ 4 (d := mkF "times" (top 5)) rfl
  exact ⟨by kernel_rfl, _, fd, He.glo_ok X G (c.fact 4 (f := .glo "times") rfl), F, F.bindsN fun _ _ _ _ _ _ us hl => match us, hl with | [_, _], _ => rfl⟩
theorem dok_5 (X : K.In h) (G : h.Ns mainGlobals mg) (c : He.SaysD fa fn K) : DefOk K mg d_less := by
  obtain ⟨fd, F⟩ := c.def_ 5 (d := mkF "less" (top 6)) rfl
  exact ⟨by kernel_rfl, _, fd, He.glo_ok X G (c.fact 5 (f := .glo "less") rfl), F, F.bindsN fun _ _ _ _ _ _ us hl => match us, hl with | [_, _], _ => rfl⟩
theorem dok_6 (X : K.In h) (G : h.Ns mainGlobals mg) (c : He.SaysD fa fn K) : DefOk K mg d__law_feed := by
  obtain ⟨fd, F⟩ := c.def_ 6 (d := mkF "_law_feed" (top 8)) rfl
  exact ⟨by kernel_rfl, _, fd, He.glo_ok X G (c.fact 6 (f := .glo "_law_feed") rfl), F, F.bindsN fun _ _ _ _ _ _ us hl => match us, hl with | [_, _], _ => rfl⟩
theorem dok_7 (X : K.In h) (G : h.Ns mainGlobals mg) (c : He.SaysD fa fn K) : DefOk K mg d__law_same := by
  obtain ⟨fd, F⟩ := c.def_ 7 (d := mkF "_law_same" (top 9)) rfl
  exact ⟨by kernel_rfl, _, fd, He.glo_ok X G (c.fact 7 (f := .glo "_law_same") rfl), F, F.bindsN fun _ _ _ _ _ _ us hl => match us, hl with | [_, _], _ => rfl⟩
theorem dok_8 (X : K.In h) (G : h.Ns mainGlobals mg) (c : He.SaysD fa fn K) : DefOk K mg d__law_low := by
  obtain ⟨fd, F⟩ := c.def_ 8 (d := mkF "_law_low" (top 10)) rfl
  exact ⟨by kernel_rfl, _, fd, He.glo_ok X G (c.fact 8 (f := .glo "_law_low") rfl), F, F.bindsN fun _ _ _ _ _ _ us hl => match us, hl with | [_, _], _ => rfl⟩
theorem dok_9 (X : K.In h) (G : h.Ns mainGlobals mg) (c : He.SaysD fa fn K) : DefOk K mg d__law_add := by
  obtain ⟨fd, F⟩ := c.def_ 9 (d := mkF "_law_add" (top 11)) rfl
  exact ⟨by kernel_rfl, _, fd, He.glo_ok X G (c.fact 9 (f := .glo "_law_add") rfl), F, F.bindsN fun _ _ _ _ _ _ us hl => match us, hl with | [_, _], _ => rfl⟩
theorem dok_10 (X : K.In h) (G : h.Ns mainGlobals mg) (c : He.SaysD fa fn K) : DefOk K mg d__law_mul := by
  obtain ⟨fd, F⟩ := c.def_ 10 (d := mkF "_law_mul" (top 12)) rfl
  exact ⟨by kernel_rfl, _, fd, He.glo_ok X G (c.fact 10 (f := .glo "_law_mul") rfl), F, F.bindsN fun _ _ _ _ _ _ us hl => match us, hl with | [_, _], _ => rfl⟩
theorem dok_11 (X : K.In h) (G : h.Ns mainGlobals mg) (c : He.SaysD fa fn K) : DefOk K mg d__law_less := by
  obtain ⟨fd, F⟩ := c.def_ 11 (d := mkF "_law_less" (top 13)) rfl
  exact ⟨by kernel_rfl, _, fd, He.glo_ok X G (c.fact 11 (f := .glo "_law_less") rfl), F, F.bindsN fun _ _ _ _ _ _ us hl => match us, hl with | [_, _], _ => rfl⟩
theorem dok_12 (X : K.In h) (G : h.Ns mainGlobals mg) (c : He.SaysD fa fn K) : DefOk K mg d__law_big := by
  obtain ⟨fd, F⟩ := c.def_ 12 (d := mkF "_law_big" (top 14)) rfl
  exact ⟨by kernel_rfl, _, fd, He.glo_ok X G (c.fact 12 (f := .glo "_law_big") rfl), F, F.bindsN fun _ _ _ _ _ _ us hl => match us, hl with | [_], _ => rfl⟩
theorem dok_13 (X : K.In h) (G : h.Ns mainGlobals mg) (c : He.SaysD fa fn K) : DefOk K mg d_law := by
  obtain ⟨fd, F⟩ := c.def_ 13 (d := mkF "law" (top 15)) rfl
  exact ⟨by kernel_rfl, _, fd, He.glo_ok X G (c.fact 13 (f := .glo "law") rfl), F, F.bindsN fun _ _ _ _ _ _ us hl => match us, hl with | [_], _ => rfl⟩
theorem doks (X : K.In h) (G : h.Ns mainGlobals mg) (c : He.SaysD fa fn K) : ∀ d ∈ tx.defs, DefOk K mg d :=
  List.forall_mem_cons.mpr ⟨dok_0 X G c, List.forall_mem_cons.mpr ⟨dok_1 X G c, List.forall_mem_cons.mpr ⟨dok_2 X G c, List.forall_mem_cons.mpr ⟨dok_3 X G c, List.forall_mem_cons.mpr ⟨dok_4 X G c, List.forall_mem_cons.mpr ⟨dok_5 X G c, List.forall_mem_cons.mpr ⟨dok_6 X G c, List.forall_mem_cons.mpr ⟨dok_7 X G c, List.forall_mem_cons.mpr ⟨dok_8 X G c, List.forall_mem_cons.mpr ⟨dok_9 X G c, List.forall_mem_cons.mpr ⟨dok_10 X G c, List.forall_mem_cons.mpr ⟨dok_11 X G c, List.forall_mem_cons.mpr ⟨dok_12 X G c, List.forall_mem_cons.mpr ⟨dok_13 X G c, by simp⟩⟩⟩⟩⟩⟩⟩⟩⟩⟩⟩⟩⟩⟩
theorem bls (X : K.In h) (G : h.Ns mainGlobals mg) (c : He.SaysD fa fn K) : ∀ x ∈ tx.bl, mg x = none :=
  List.forall_mem_cons.mpr ⟨He.free_ok X G (c.fact 14 (f := .free "len") rfl), List.forall_mem_cons.mpr ⟨He.free_ok X G (c.fact 15 (f := .free "abs") rfl), List.forall_mem_cons.mpr ⟨He.free_ok X G (c.fact 16 (f := .free "all") rfl), List.forall_mem_cons.mpr ⟨He.free_ok X G (c.fact 17 (f := .free "range") rfl), List.forall_mem_cons.mpr ⟨He.free_ok X G (c.fact 18 (f := .free "zip") rfl), List.forall_mem_cons.mpr ⟨He.free_ok X G (c.fact 19 (f := .free "isinstance") rfl), List.forall_mem_cons.mpr ⟨He.free_ok X G (c.fact 20 (f := .free "int") rfl), List.forall_mem_cons.mpr ⟨He.free_ok X G (c.fact 21 (f := .free "bool") rfl), List.forall_mem_cons.mpr ⟨He.free_ok X G (c.fact 22 (f := .free "str") rfl), List.forall_mem_cons.mpr ⟨He.free_ok X G (c.fact 23 (f := .free "list") rfl), List.forall_mem_cons.mpr ⟨He.free_ok X G (c.fact 24 (f := .free "tuple") rfl), by simp⟩⟩⟩⟩⟩⟩⟩⟩⟩⟩⟩
end
theorem nds : (tx.defs.map (·.name)).Nodup := by decide +kernel
theorem facts {P : Program} {w : World} {K : PySem.W.Frag} {h : Heap} {mg : Str → Option Value} {f : Addr} (X : K.In h) (G : h.Ns mainGlobals mg) (hfa : mg ("law" : Str) = some (.ref f)) (c : He.SaysD fa fn K) :
    ∃ fd : FuncData, (∀ (s : Shared) (v : Value), BindsTo s fd ⟨[v], []⟩ [("_law_script", v)]) ∧ ∀ base : Heap, K.In base → base.Ns mainGlobals mg → FnOk P w K mg base CXe 8 f fd ["_law_script"] (spOf K d_law.fi (tx.run 8 "law")) := by
  obtain ⟨fd, F⟩ := c.def_ 13 (d := mkF "law" (top 15)) rfl
  have e := hfa.symm.trans (He.glo_ok X G (c.fact 13 (f := .glo "law") rfl))
  cases e
  have b := FunD.bindsA (ps := ["_law_script"]) F fun _ _ _ _ _ _ us hl => match us, hl with | [_], _ => rfl
  exact ⟨fd, fun s v => b s [v] rfl, fun base _ _ => FnOk.cxe (Txt.ok tx nds (doks X G c) (bls X G c) 8 d_law (by simp [tx]) _ fd hfa F)⟩
end K

namespace K
open PySem PySem.Spec PyProof.Rows L2 VI
noncomputable def g_common (call : Str → List T → FRes) : Fr → Out :=
  oSeq (oAsg 0 (pX (eA absT (esCons (eVar 0) esNil))))
  (oSeq (oAsg 1 (pX (eA absT (esCons (eVar 1) esNil))))
    (oSeq (whL (pB (asBf (eOp gtT (eVar 1) (eC (T.int 0))))) (oPar 0 1 (esCons (eVar 1) (esCons (eOp modT (eVar 0) (eVar 1)) esNil))))
      (oRet (pX (eVar 0)))))
theorem run_common (k : Nat) (ts : List T) : tx.run (k + 1) "common" ts = runD 2 [0, 0] (g_common (tx.run k)) ts := by kernel_rfl
noncomputable def g_part (call : Str → List T → FRes) : Fr → Out :=
  oSeq (oAsg 2 (pX (eCall (call ("common")) (esCons (eVar 0) (esCons (eVar 1) esNil)))))
  (oSeq (oIf (pB (asBf (eOp ltT (eVar 1) (eC (T.int 0))))) (oAsg 2 (pX (eOp subT (eC (T.int 0)) (eVar 2)))) oNil)
    (oRet (pX (eTup (esCons (eOp fdivT (eVar 0) (eVar 2)) (esCons (eOp fdivT (eVar 1) (eVar 2)) esNil))))))
theorem run_part (k : Nat) (ts : List T) : tx.run (k + 1) "part" ts = runD 3 [0, 0] (g_part (tx.run k)) ts := by kernel_rfl
noncomputable def g_plus (call : Str → List T → FRes) : Fr → Out :=
  oRet
  (pX
    (eCall (call ("part"))
      (esCons
        (eOp addT (eOp mulT (eOp ixT (eVar 0) (eC (T.int 0))) (eOp ixT (eVar 1) (eC (T.int 1))))
          (eOp mulT (eOp ixT (eVar 1) (eC (T.int 0))) (eOp ixT (eVar 0) (eC (T.int 1)))))
        (esCons (eOp mulT (eOp ixT (eVar 0) (eC (T.int 1))) (eOp ixT (eVar 1) (eC (T.int 1)))) esNil))))
theorem run_plus (k : Nat) (ts : List T) : tx.run (k + 1) "plus" ts = runD 2 [0, 0] (g_plus (tx.run k)) ts := by kernel_rfl
noncomputable def g_minus (call : Str → List T → FRes) : Fr → Out :=
  oRet
  (pX
    (eCall (call ("part"))
      (esCons
        (eOp subT (eOp mulT (eOp ixT (eVar 0) (eC (T.int 0))) (eOp ixT (eVar 1) (eC (T.int 1))))
          (eOp mulT (eOp ixT (eVar 1) (eC (T.int 0))) (eOp ixT (eVar 0) (eC (T.int 1)))))
        (esCons (eOp mulT (eOp ixT (eVar 0) (eC (T.int 1))) (eOp ixT (eVar 1) (eC (T.int 1)))) esNil))))
theorem run_minus (k : Nat) (ts : List T) : tx.run (k + 1) "minus" ts = runD 2 [0, 0] (g_minus (tx.run k)) ts := by kernel_rfl
noncomputable def g_times (call : Str → List T → FRes) : Fr → Out :=
  oRet
  (pX
    (eCall (call ("part"))
      (esCons (eOp mulT (eOp ixT (eVar 0) (eC (T.int 0))) (eOp ixT (eVar 1) (eC (T.int 0))))
        (esCons (eOp mulT (eOp ixT (eVar 0) (eC (T.int 1))) (eOp ixT (eVar 1) (eC (T.int 1)))) esNil))))
theorem run_times (k : Nat) (ts : List T) : tx.run (k + 1) "times" ts = runD 2 [0, 0] (g_times (tx.run k)) ts := by kernel_rfl
noncomputable def g_less (call : Str → List T → FRes) : Fr → Out :=
  oRet
  (pX
    (eOp ltT (eOp mulT (eOp ixT (eVar 0) (eC (T.int 0))) (eOp ixT (eVar 1) (eC (T.int 1))))
      (eOp mulT (eOp ixT (eVar 1) (eC (T.int 0))) (eOp ixT (eVar 0) (eC (T.int 1))))))
theorem run_less (k : Nat) (ts : List T) : tx.run (k + 1) "less" ts = runD 2 [0, 0] (g_less (tx.run k)) ts := by kernel_rfl
noncomputable def g__law_feed (call : Str → List T → FRes) : Fr → Out :=
  oSeq (oAsg 2 (pX (eLst esNil)))
  (oSeq (oAsg 3 (pX (eC (T.int 71))))
    (oSeq
      (oFor (iSeq (eSl cutT (eVar 0) oNo (oSome (eC (T.int 63))))) (gSet 4)
        (oSeq
          (oAsg 3
            (pX
              (eOp modT
                (eOp addT (eOp addT (eOp mulT (eVar 3) (eC (T.int 48271))) (eOp modT (eVar 4) (eC (T.int 2147483629)))) (eC (T.int 7)))
                (eC (T.int 2147483647)))))
          (oSeq (oAsg 6 (pX (eOp subT (eVar 4) (eOp powT (eC (T.int 10)) (eC (T.int 18))))))
            (oSeq (oIf (pB (asBf (eOp ltT (eVar 6) (eC (T.int 0))))) (oExpr (xApp 2 (pSlot 2) (eOp modT (eVar 4) (eC (T.int 1000003))))) oNil)
              (oFor (iRng (eC (T.int 60))) (gSet 5)
                (oIf (pB (asBf (eOp gtT (eVar 6) (eC (T.int 0)))))
                  (oSeq (oExpr (xApp 2 (pSlot 2) (eOp modT (eVar 6) (eC (T.int 1009))))) (oAsg 6 (pX (eOp fdivT (eVar 6) (eC (T.int 1009))))))
                  oNil))))))
      (oSeq
        (oFor (iRng (eOp subT (eVar 1) (eA lenT (esCons (eVar 2) esNil)))) (gSet 5)
          (oSeq
            (oAsg 3
              (pX
                (eOp modT
                  (eOp addT
                    (eOp addT (eOp addT (eOp mulT (eOp mulT (eVar 3) (eVar 3)) (eVar 3)) (eOp mulT (eC (T.int 69621)) (eVar 3)))
                      (eOp mulT (eC (T.int 17)) (eVar 5)))
                    (eC (T.int 3)))
                  (eC (T.int 2147483629)))))
            (oExpr (xApp 2 (pSlot 2) (eOp modT (eOp fdivT (eVar 3) (eC (T.int 1013))) (eC (T.int 1009)))))))
        (oRet (pX (eSl cutT (eVar 2) oNo (oSome (eVar 1))))))))
theorem run__law_feed (k : Nat) (ts : List T) : tx.run (k + 1) "_law_feed" ts = runD 7 [0, 0] (g__law_feed (tx.run k)) ts := by kernel_rfl
noncomputable def g__law_same (call : Str → List T → FRes) : Fr → Out :=
  oSeq (oIf (pB (asBf (eOp isNT (eVar 1) (eC T.non)))) (oRet (pX (eOp isNT (eVar 0) (eC T.non)))) oNil)
  (oSeq (oIf (pB (tTru (eU (isiT "bool") (eVar 1)))) (oRet (pX (eAndR (eU (isiT "bool") (eVar 0)) (eOp eqT (eVar 0) (eVar 1))))) oNil)
    (oSeq
      (oIf (pB (tOrR (tTru (eU (isiT "list") (eVar 1))) (tTru (eU (isiT "tuple") (eVar 1)))))
        (oSeq
          (oIf
            (pB
              (tOrR (asBf (eOp neT (eU (isiT "list") (eVar 0)) (eU (isiT "list") (eVar 1))))
                (asBf (eOp neT (eU (isiT "tuple") (eVar 0)) (eU (isiT "tuple") (eVar 1))))))
            (oRet (pX (eC (T.bl false)))) oNil)
          (oRet
            (pX
              (eAndR (eOp eqT (eA lenT (esCons (eVar 0) esNil)) (eA lenT (esCons (eVar 1) esNil)))
                (eA allT
                  (esCons
                    (eComp (iZip2 (eVar 0) (eVar 1)) [2, 3] (gSeq (gsCons (gSet 2) (gsCons (gSet 3) gsNil))) ttYes
                      (eCall (call ("_law_same")) (esCons (eVar 2) (esCons (eVar 3) esNil))))
                    esNil))))))
        oNil)
      (oSeq (oIf (pB (tTru (eU (isiT "str") (eVar 1)))) (oRet (pX (eAndR (eU (isiT "str") (eVar 0)) (eOp eqT (eVar 0) (eVar 1))))) oNil)
        (oRet (pX (eAndR (eU (isiT "int") (eVar 0)) (eAndR (eNotR (eU (isiT "bool") (eVar 0))) (eOp eqT (eVar 0) (eVar 1)))))))))
theorem run__law_same (k : Nat) (ts : List T) : tx.run (k + 1) "_law_same" ts = runD 4 [0, 0] (g__law_same (tx.run k)) ts := by kernel_rfl
noncomputable def g__law_low (call : Str → List T → FRes) : Fr → Out :=
  oSeq (oPar 2 3 (esCons (eA absT (esCons (eVar 0) esNil)) (esCons (eA absT (esCons (eVar 1) esNil)) esNil)))
  (oSeq (whL (pB (asBf (eOp gtT (eVar 3) (eC (T.int 0))))) (oPar 2 3 (esCons (eVar 3) (esCons (eOp modT (eVar 2) (eVar 3)) esNil))))
    (oSeq (oIf (pB (asBf (eOp ltT (eVar 1) (eC (T.int 0))))) (oAsg 2 (pX (eOp subT (eC (T.int 0)) (eVar 2)))) oNil)
      (oRet (pX (eTup (esCons (eOp fdivT (eVar 0) (eVar 2)) (esCons (eOp fdivT (eVar 1) (eVar 2)) esNil)))))))
theorem run__law_low (k : Nat) (ts : List T) : tx.run (k + 1) "_law_low" ts = runD 4 [0, 0] (g__law_low (tx.run k)) ts := by kernel_rfl
noncomputable def g__law_add (call : Str → List T → FRes) : Fr → Out :=
  oRet
  (pX
    (eCall (call ("_law_low"))
      (esCons
        (eOp addT (eOp mulT (eOp ixT (eVar 0) (eC (T.int 0))) (eOp ixT (eVar 1) (eC (T.int 1))))
          (eOp mulT (eOp ixT (eVar 1) (eC (T.int 0))) (eOp ixT (eVar 0) (eC (T.int 1)))))
        (esCons (eOp mulT (eOp ixT (eVar 0) (eC (T.int 1))) (eOp ixT (eVar 1) (eC (T.int 1)))) esNil))))
theorem run__law_add (k : Nat) (ts : List T) : tx.run (k + 1) "_law_add" ts = runD 2 [0, 0] (g__law_add (tx.run k)) ts := by kernel_rfl
noncomputable def g__law_mul (call : Str → List T → FRes) : Fr → Out :=
  oRet
  (pX
    (eCall (call ("_law_low"))
      (esCons (eOp mulT (eOp ixT (eVar 0) (eC (T.int 0))) (eOp ixT (eVar 1) (eC (T.int 0))))
        (esCons (eOp mulT (eOp ixT (eVar 0) (eC (T.int 1))) (eOp ixT (eVar 1) (eC (T.int 1)))) esNil))))
theorem run__law_mul (k : Nat) (ts : List T) : tx.run (k + 1) "_law_mul" ts = runD 2 [0, 0] (g__law_mul (tx.run k)) ts := by kernel_rfl
noncomputable def g__law_less (call : Str → List T → FRes) : Fr → Out :=
  oRet
  (pX
    (eOp ltT (eOp mulT (eOp ixT (eVar 0) (eC (T.int 0))) (eOp ixT (eVar 1) (eC (T.int 1))))
      (eOp mulT (eOp ixT (eVar 1) (eC (T.int 0))) (eOp ixT (eVar 0) (eC (T.int 1))))))
theorem run__law_less (k : Nat) (ts : List T) : tx.run (k + 1) "_law_less" ts = runD 2 [0, 0] (g__law_less (tx.run k)) ts := by kernel_rfl
noncomputable def g__law_big (call : Str → List T → FRes) : Fr → Out :=
  oSeq
  (oAsg 1
    (pX
      (eOp ixT
        (eLst
          (esCons (eC (T.int 1))
            (esCons (eC (T.int 1009))
              (esCons (eOp powT (eC (T.int 10)) (eC (T.int 9)))
                (esCons
                  (eOp mulT (eOp mulT (eOp powT (eC (T.int 10)) (eC (T.int 60))) (eOp powT (eC (T.int 10)) (eC (T.int 60))))
                    (eOp powT (eC (T.int 10)) (eC (T.int 60))))
                  esNil)))))
        (eOp modT (eOp ixT (eVar 0) (eC (T.int 0))) (eC (T.int 4))))))
  (oSeq
    (oAsg 2
      (pX
        (eOp addT
          (eOp addT (eOp mulT (eOp modT (eOp ixT (eVar 0) (eC (T.int 1))) (eC (T.int 29))) (eVar 1))
            (eOp modT (eOp ixT (eVar 0) (eC (T.int 2))) (eVar 1)))
          (eOp mulT (eOp modT (eOp ixT (eVar 0) (eC (T.int 3))) (eC (T.int 7))) (eOp fdivT (eVar 1) (eC (T.int 3)))))))
    (oSeq
      (oIf (pB (asBf (eOp eqT (eOp modT (eOp ixT (eVar 0) (eC (T.int 3))) (eC (T.int 3))) (eC (T.int 0)))))
        (oRet (pX (eOp subT (eC (T.int 0)) (eVar 2)))) oNil)
      (oRet (pX (eVar 2)))))
theorem run__law_big (k : Nat) (ts : List T) : tx.run (k + 1) "_law_big" ts = runD 3 [0] (g__law_big (tx.run k)) ts := by kernel_rfl
noncomputable def g_law (call : Str → List T → FRes) : Fr → Out :=
  oSeq (oAsg 1 (pX (eCall (call ("_law_feed")) (esCons (eVar 0) (esCons (eC (T.int 24)) esNil)))))
  (oSeq (oAsg 2 (pX (eLst esNil)))
    (oSeq
      (oFor (iRng (eC (T.int 2))) (gSet 3)
        (oSeq (oAsg 4 (pX (eSl cutT (eVar 1) (oSome (eOp mulT (eC (T.int 12)) (eVar 3))) oNo)))
          (oSeq (oAsg 5 (pX (eCall (call ("_law_big")) (esCons (eVar 4) esNil))))
            (oSeq (oAsg 6 (pX (eCall (call ("_law_big")) (esCons (eSl cutT (eVar 4) (oSome (eC (T.int 4))) oNo) esNil))))
              (oSeq
                (oIf (pB (asBf (eOp eqT (eVar 6) (eC (T.int 0)))))
                  (oAsg 6 (pX (eOp addT (eC (T.int 1)) (eOp modT (eOp ixT (eVar 4) (eC (T.int 8))) (eC (T.int 9)))))) oNil)
                (oExpr (xApp 2 (pSlot 2) (eTup (esCons (eVar 5) (esCons (eVar 6) esNil))))))))))
      (oSeq
        (oTgt (gSeq (gsCons (gSet 7) (gsCons (gSet 8) gsNil)))
          (pX
            (eImm1
              (eComp (iSeq (eVar 2)) [5, 6] (gSeq (gsCons (gSet 5) (gsCons (gSet 6) gsNil))) ttYes
                (eCall (call ("_law_low")) (esCons (eVar 5) (esCons (eVar 6) esNil)))))))
        (oSeq
          (oFor (iZip2 (eVar 2) (eLst (esCons (eVar 7) (esCons (eVar 8) esNil))))
            (gSeq (gsCons (gSeq (gsCons (gSet 5) (gsCons (gSet 6) gsNil))) (gsCons (gSet 9) gsNil)))
            (oIf
              (pB
                (tOrR
                  (tNotR
                    (tTru
                      (eCall (call ("_law_same"))
                        (esCons (eCall (call ("part")) (esCons (eVar 5) (esCons (eVar 6) esNil))) (esCons (eVar 9) esNil)))))
                  (tNotR
                    (tTru
                      (eCall (call ("_law_same"))
                        (esCons (eCall (call ("part")) (esCons (eC (T.int 0)) (esCons (eVar 6) esNil)))
                          (esCons (eTup (esCons (eC (T.int 0)) (esCons (eC (T.int 1)) esNil))) esNil)))))))
              (oRet (pX (eC (T.bl false)))) oNil))
          (oSeq
            (oIf
              (pB
                (tOrR
                  (tNotR
                    (tTru
                      (eCall (call ("_law_same"))
                        (esCons (eCall (call ("plus")) (esCons (eVar 7) (esCons (eVar 8) esNil)))
                          (esCons (eCall (call ("_law_add")) (esCons (eVar 7) (esCons (eVar 8) esNil))) esNil)))))
                  (tNotR
                    (tTru
                      (eCall (call ("_law_same"))
                        (esCons (eCall (call ("times")) (esCons (eVar 7) (esCons (eVar 8) esNil)))
                          (esCons (eCall (call ("_law_mul")) (esCons (eVar 7) (esCons (eVar 8) esNil))) esNil)))))))
              (oRet (pX (eC (T.bl false)))) oNil)
            (oSeq
              (oIf
                (pB
                  (tNotR
                    (tTru
                      (eCall (call ("_law_same"))
                        (esCons (eCall (call ("minus")) (esCons (eVar 7) (esCons (eVar 8) esNil)))
                          (esCons
                            (eCall (call ("_law_add"))
                              (esCons (eVar 7)
                                (esCons
                                  (eTup
                                    (esCons (eOp subT (eC (T.int 0)) (eOp ixT (eVar 8) (eC (T.int 0))))
                                      (esCons (eOp ixT (eVar 8) (eC (T.int 1))) esNil)))
                                  esNil)))
                            esNil))))))
                (oRet (pX (eC (T.bl false)))) oNil)
              (oSeq
                (oIf
                  (pB
                    (tOrR
                      (tNotR
                        (tTru
                          (eCall (call ("_law_same"))
                            (esCons (eCall (call ("less")) (esCons (eVar 7) (esCons (eVar 8) esNil)))
                              (esCons (eCall (call ("_law_less")) (esCons (eVar 7) (esCons (eVar 8) esNil))) esNil)))))
                      (tNotR
                        (tTru
                          (eCall (call ("_law_same"))
                            (esCons (eCall (call ("less")) (esCons (eVar 7) (esCons (eVar 7) esNil))) (esCons (eC (T.bl false)) esNil)))))))
                  (oRet (pX (eC (T.bl false)))) oNil)
                (oRet
                  (pX
                    (eAndR
                      (eCall (call ("_law_same"))
                        (esCons (eCall (call ("less")) (esCons (eVar 8) (esCons (eVar 7) esNil)))
                          (esCons (eCall (call ("_law_less")) (esCons (eVar 8) (esCons (eVar 7) esNil))) esNil)))
                      (eCall (call ("_law_same"))
                        (esCons (eCall (call ("minus")) (esCons (eVar 7) (esCons (eVar 7) esNil)))
                          (esCons (eTup (esCons (eC (T.int 0)) (esCons (eC (T.int 1)) esNil))) esNil)))))))))))))
theorem run_law (k : Nat) (ts : List T) : tx.run (k + 1) "law" ts = runD 10 [0] (g_law (tx.run k)) ts := by kernel_rfl
end K

namespace K
open PySem PySem.Spec PyProof.Rows L2 VI

/-! ### the feed -/
noncomputable def fB2 : Fr → Out := oIf (pB (asBf (eOp gtT (eVar 6) (eC (T.int 0)))))
                  (oSeq (oExpr (xApp 2 (pSlot 2) (eOp modT (eVar 6) (eC (T.int 1009))))) (oAsg 6 (pX (eOp fdivT (eVar 6) (eC (T.int 1009))))))
                  oNil
noncomputable def fB1 : Fr → Out := oSeq
          (oAsg 3
            (pX
              (eOp modT
                (eOp addT (eOp addT (eOp mulT (eVar 3) (eC (T.int 48271))) (eOp modT (eVar 4) (eC (T.int 2147483629)))) (eC (T.int 7)))
                (eC (T.int 2147483647)))))
          (oSeq (oAsg 6 (pX (eOp subT (eVar 4) (eOp powT (eC (T.int 10)) (eC (T.int 18))))))
            (oSeq (oIf (pB (asBf (eOp ltT (eVar 6) (eC (T.int 0))))) (oExpr (xApp 2 (pSlot 2) (eOp modT (eVar 4) (eC (T.int 1000003))))) oNil)
              (oFor (iRng (eC (T.int 60))) (gSet 5) fB2)))
noncomputable def fB3 : Fr → Out := oSeq
            (oAsg 3
              (pX
                (eOp modT
                  (eOp addT
                    (eOp addT (eOp addT (eOp mulT (eOp mulT (eVar 3) (eVar 3)) (eVar 3)) (eOp mulT (eC (T.int 69621)) (eVar 3)))
                      (eOp mulT (eC (T.int 17)) (eVar 5)))
                    (eC (T.int 3)))
                  (eC (T.int 2147483629)))))
            (oExpr (xApp 2 (pSlot 2) (eOp modT (eOp fdivT (eVar 3) (eC (T.int 1013))) (eC (T.int 1009)))))
theorem g_feed (call : Str → List T → FRes) : g__law_feed call = oSeq (oAsg 2 (pX (eLst esNil)))
  (oSeq (oAsg 3 (pX (eC (T.int 71))))
    (oSeq
      (oFor (iSeq (eSl cutT (eVar 0) oNo (oSome (eC (T.int 63))))) (gSet 4) fB1)
      (oSeq
        (oFor (iRng (eOp subT (eVar 1) (eA lenT (esCons (eVar 2) esNil)))) (gSet 5) fB3)
        (oRet (pX (eSl cutT (eVar 2) oNo (oSome (eVar 1)))))))) := rfl
def fdB (xs : List Int) : Prop := ∀ x ∈ xs, 0 ≤ x ∧ x < 1000003
theorem fdB_snoc {xs : List Int} {v : Int} (h : fdB xs) (h1 : 0 ≤ v) (h2 : v < 1000003) : fdB (xs ++ [v]) := fun x hx => by
  rcases List.mem_append.mp hx with z | z
  · exact h x z
  · rw [List.mem_singleton] at z; subst z; exact ⟨h1, h2⟩
theorem fm_lt {a b : Int} (h : 0 < b) : 0 ≤ a.fmod b ∧ a.fmod b < b := ⟨Int.fmod_nonneg_of_pos a h, Int.fmod_lt_of_pos a h⟩
theorem fl2 {s0 s1 s3 s4 : Option T} : ∀ (js : List Int) (xs : List Int) (rest : Int) (o5 : Option T), xs.length + js.length < 2 ^ 24 → fdB xs → ∃ (ys : List Int) (rest' : Int) (o5' : Option T), ys.length ≤ xs.length + js.length ∧ fdB ys ∧
    forA (gSet 5) fB2 (js.map T.int) [s0, s1, some (.lst (xs.map T.int)), s3, s4, o5, some (.int rest)] = .nxt [s0, s1, some (.lst (ys.map T.int)), s3, s4, o5', some (.int rest')] := by
  intro js
  induction js with
  | nil => exact fun xs rest o5 _ hb => ⟨xs, rest, o5, by simp, hb, rfl⟩
  | cons j js ih =>
    intro xs rest o5 hl hb
    by_cases hr : 0 < rest
    · have hm := fm_lt (a := rest) (b := 1009) (by omega)
      obtain ⟨ys, rest', o5', h1, h2, h3⟩ := ih (xs ++ [rest.fmod 1009]) (rest.fdiv 1009) (some (.int j)) (by simp at hl ⊢; omega) (fdB_snoc hb hm.1 (by omega))
      refine ⟨ys, rest', o5', by simp at h1 ⊢; omega, h2, ?_⟩
      rw [← h3]
      have hz : xs.length < 16777216 := by simp at hl; omega
      have hlg : Nat.log2 1009 < 9000 := by decide
      simp [forA, gSet, fB2, oSeq, oAsg, oExpr, oRet, oIf, oNil, oTgt, oPar, pX, pB, xMove, eVar, eC, eOp, eAndR, eOrR, eNotR, eIfR, eNeg, esNil, esCons, eTup, eLst, eU, eA, oNo, oSome, eSl, eCall, fr2r, eImm, eImm1, iSeq, iRng, iZip2, iEnumR, gSet, gsNil, gsCons, gSeq, ttYes, tAndR, tOrR, tNotR, tTru, asB, asBf, Res.bind, Out.and, xApp, xApp1, xApp2, doR, appT, T.isL, pSlot, subT, mulT, fdivT, modT, powT, addT, addL, ltT, leT, gtT, geT, b2r, truT, hr, hz, sizeLine, hlg]
    · obtain ⟨ys, rest', o5', h1, h2, h3⟩ := ih xs rest (some (.int j)) (by simp at hl ⊢; omega) hb
      refine ⟨ys, rest', o5', by simp at h1 ⊢; omega, h2, ?_⟩
      rw [← h3]
      simp [forA, gSet, fB2, oSeq, oAsg, oExpr, oRet, oIf, oNil, oTgt, oPar, pX, pB, xMove, eVar, eC, eOp, eAndR, eOrR, eNotR, eIfR, eNeg, esNil, esCons, eTup, eLst, eU, eA, oNo, oSome, eSl, eCall, fr2r, eImm, eImm1, iSeq, iRng, iZip2, iEnumR, gSet, gsNil, gsCons, gSeq, ttYes, tAndR, tOrR, tNotR, tTru, asB, asBf, Res.bind, Out.and, xApp, xApp1, xApp2, doR, appT, T.isL, pSlot, subT, mulT, fdivT, modT, powT, addT, addL, ltT, leT, gtT, geT, b2r, truT, hr]
theorem lg_small {n : Nat} {m : Nat} (h : n < 2 ^ m) (hm : 0 < m) : n.log2 < m := by
  by_cases h0 : n = 0
  · subst h0; simpa using hm
  · exact (Nat.log2_lt h0).mpr h
theorem lg_int {a : Int} {m : Nat} (h0 : 0 ≤ a) (h : a < ((2 ^ m : Nat) : Int)) (hm : 0 < m) : a.natAbs.log2 < m := lg_small (by omega) hm
theorem oSeq_nxt {g g' : Fr → Out} {ν ν' : Fr} (h : g ν = .nxt ν') : oSeq g g' ν = g' ν' := by unfold oSeq; rw [h]
theorem oFor_ok {fi : Fr → Res (List T)} {h : T → Fr → Res Fr} {g : Fr → Out} {ν : Fr} {ts : List T} (e : fi ν = .ok ts) : oFor fi h g ν = forA h g ts ν := by unfold oFor; rw [e]
theorem iRng_ok {f : Fr → Res T} {ν : Fr} {j : Int} (e : f ν = .ok (.int j)) (h1 : -(2 ^ 62) ≤ j) (h2 : j < 2 ^ 62) : iRng f ν = .ok (((List.range j.toNat).map fun i : Nat => (i : Int)).map T.int) := by
  unfold iRng
  rw [e]
  show (if -(2 ^ 62) ≤ j ∧ j < 2 ^ 62 then Res.ok ((List.range j.toNat).map fun i : Nat => T.int (i : Int)) else .stuck) = _
  rw [if_pos ⟨h1, h2⟩, List.map_map]
  rfl
theorem fl1 {s0 s1 : Option T} : ∀ (cs : List Int) (xs : List Int) (salt : Int) (o4 o5 o6 : Option T), xs.length + 61 * cs.length < 2 ^ 24 → fdB xs → 0 ≤ salt → salt < 2147483647 → ∃ (ys : List Int) (salt' : Int) (o4' o5' o6' : Option T), ys.length ≤ xs.length + 61 * cs.length ∧ fdB ys ∧ 0 ≤ salt' ∧ salt' < 2147483647 ∧
    forA (gSet 4) fB1 (cs.map T.int) [s0, s1, some (.lst (xs.map T.int)), some (.int salt), o4, o5, o6] = .nxt [s0, s1, some (.lst (ys.map T.int)), some (.int salt'), o4', o5', o6'] := by
  intro cs
  induction cs with
  | nil => exact fun xs salt o4 o5 o6 _ hb h1 h2 => ⟨xs, salt, o4, o5, o6, by simp, hb, h1, h2, rfl⟩
  | cons c cs ih =>
    intro xs salt o4 o5 o6 hl hb hs1 hs2
    have hm := fm_lt (a := salt * 48271 + c.fmod 2147483629 + 7) (b := 2147483647) (by omega)
    generalize hs' : (salt * 48271 + c.fmod 2147483629 + 7).fmod 2147483647 = salt' at hm
    have hlg : salt.natAbs.log2 + Nat.log2 48271 < 1000000 := by
      have : salt.natAbs.log2 < 31 := lg_int hs1 (by simp; omega) (by omega)
      have : Nat.log2 48271 < 17 := by decide
      omega
    -- the list ahead of the inner loop
    obtain ⟨zs, hz1, hz2, hz3⟩ : ∃ zs : List Int, zs.length ≤ xs.length + 1 ∧ fdB zs ∧ fB1 [s0, s1, some (.lst (xs.map T.int)), some (.int salt), some (.int c), o5, o6] = forA (gSet 5) fB2 (((List.range (60 : Int).toNat).map fun i : Nat => (i : Int)).map T.int) [s0, s1, some (.lst (zs.map T.int)), some (.int salt'), some (.int c), o5, some (.int (c - 1000000000000000000))] := by
      have e1 : oAsg 3 (pX (eOp modT (eOp addT (eOp addT (eOp mulT (eVar 3) (eC (T.int 48271))) (eOp modT (eVar 4) (eC (T.int 2147483629)))) (eC (T.int 7))) (eC (T.int 2147483647)))) [s0, s1, some (.lst (xs.map T.int)), some (.int salt), some (.int c), o5, o6] = .nxt [s0, s1, some (.lst (xs.map T.int)), some (.int salt'), some (.int c), o5, o6] := by
        simp [oSeq, oAsg, oExpr, oRet, oIf, oNil, oTgt, oPar, pX, pB, xMove, eVar, eC, eOp, eAndR, eOrR, eNotR, eIfR, eNeg, esNil, esCons, eTup, eLst, eU, eA, oNo, oSome, eSl, eCall, fr2r, eImm, eImm1, iSeq, iRng, iZip2, iEnumR, gSet, gsNil, gsCons, gSeq, ttYes, tAndR, tOrR, tNotR, tTru, asB, asBf, Res.bind, Out.and, xApp, xApp1, xApp2, doR, appT, T.isL, pSlot, subT, mulT, fdivT, modT, powT, addT, addL, ltT, leT, gtT, geT, b2r, truT, hlg, hs']
      have e2 : oAsg 6 (pX (eOp subT (eVar 4) (eOp powT (eC (T.int 10)) (eC (T.int 18))))) [s0, s1, some (.lst (xs.map T.int)), some (.int salt'), some (.int c), o5, o6] = .nxt [s0, s1, some (.lst (xs.map T.int)), some (.int salt'), some (.int c), o5, some (.int (c - 1000000000000000000))] := by
        simp [oSeq, oAsg, oExpr, oRet, oIf, oNil, oTgt, oPar, pX, pB, xMove, eVar, eC, eOp, eAndR, eOrR, eNotR, eIfR, eNeg, esNil, esCons, eTup, eLst, eU, eA, oNo, oSome, eSl, eCall, fr2r, eImm, eImm1, iSeq, iRng, iZip2, iEnumR, gSet, gsNil, gsCons, gSeq, ttYes, tAndR, tOrR, tNotR, tTru, asB, asBf, Res.bind, Out.and, xApp, xApp1, xApp2, doR, appT, T.isL, pSlot, subT, mulT, fdivT, modT, powT, addT, addL, ltT, leT, gtT, geT, b2r, truT]
      unfold fB1
      rw [oSeq_nxt e1, oSeq_nxt e2]
      by_cases hr : c - 1000000000000000000 < 0
      · have hm2 := fm_lt (a := c) (b := 1000003) (by omega)
        have hz : xs.length < 16777216 := by simp at hl; omega
        refine ⟨xs ++ [c.fmod 1000003], by simp, fdB_snoc hb hm2.1 hm2.2, ?_⟩
        refine (oSeq_nxt (ν' := [s0, s1, some (.lst ((xs ++ [c.fmod 1000003]).map T.int)), some (.int salt'), some (.int c), o5, some (.int (c - 1000000000000000000))]) ?_).trans (oFor_ok (iRng_ok rfl (by decide) (by decide)))
        simp [oSeq, oAsg, oExpr, oRet, oIf, oNil, oTgt, oPar, pX, pB, xMove, eVar, eC, eOp, eAndR, eOrR, eNotR, eIfR, eNeg, esNil, esCons, eTup, eLst, eU, eA, oNo, oSome, eSl, eCall, fr2r, eImm, eImm1, iSeq, iRng, iZip2, iEnumR, gSet, gsNil, gsCons, gSeq, ttYes, tAndR, tOrR, tNotR, tTru, asB, asBf, Res.bind, Out.and, xApp, xApp1, xApp2, doR, appT, T.isL, pSlot, subT, mulT, fdivT, modT, powT, addT, addL, ltT, leT, gtT, geT, b2r, truT, hr, hz, sizeLine]
      · refine ⟨xs, by omega, hb, ?_⟩
        refine (oSeq_nxt (ν' := [s0, s1, some (.lst (xs.map T.int)), some (.int salt'), some (.int c), o5, some (.int (c - 1000000000000000000))]) ?_).trans (oFor_ok (iRng_ok rfl (by decide) (by decide)))
        simp [oSeq, oAsg, oExpr, oRet, oIf, oNil, oTgt, oPar, pX, pB, xMove, eVar, eC, eOp, eAndR, eOrR, eNotR, eIfR, eNeg, esNil, esCons, eTup, eLst, eU, eA, oNo, oSome, eSl, eCall, fr2r, eImm, eImm1, iSeq, iRng, iZip2, iEnumR, gSet, gsNil, gsCons, gSeq, ttYes, tAndR, tOrR, tNotR, tTru, asB, asBf, Res.bind, Out.and, xApp, xApp1, xApp2, doR, appT, T.isL, pSlot, subT, mulT, fdivT, modT, powT, addT, addL, ltT, leT, gtT, geT, b2r, truT, hr]
    obtain ⟨ys, rest', o5', h1, h2, h3⟩ := fl2 (s0 := s0) (s1 := s1) (s3 := some (.int salt')) (s4 := some (.int c)) ((List.range (60 : Int).toNat).map fun i : Nat => (i : Int)) zs (c - 1000000000000000000) o5 (by simp at hl ⊢; omega) hz2
    obtain ⟨ws, sl, q4, q5, q6, g1, g2, g3, g4, g5⟩ := ih ys salt' (some (.int c)) o5' (some (.int rest')) (by simp at hl h1 ⊢; omega) h2 hm.1 hm.2
    refine ⟨ws, sl, q4, q5, q6, by simp at h1 ⊢; omega, g2, g3, g4, ?_⟩
    rw [← g5]
    have e : gSet 4 (T.int c) [s0, s1, some (.lst (xs.map T.int)), some (.int salt), o4, o5, o6] = .ok [s0, s1, some (.lst (xs.map T.int)), some (.int salt), some (.int c), o5, o6] := by simp [gSet]
    show (match gSet 4 (T.int c) [s0, s1, some (.lst (xs.map T.int)), some (.int salt), o4, o5, o6] with
      | .ok ν1 => (fB1 ν1).and (forA (gSet 4) fB1 (cs.map T.int))
      | _ => .stuck) = _
    rw [e]
    show (fB1 [s0, s1, some (.lst (xs.map T.int)), some (.int salt), some (.int c), o5, o6]).and (forA (gSet 4) fB1 (cs.map T.int)) = _
    rw [hz3, h3]
    rfl
theorem fl3 {s0 s1 o4 o6 : Option T} : ∀ (js : List Int) (xs : List Int) (salt : Int) (o5 : Option T), xs.length + js.length < 2 ^ 24 → (∀ j ∈ js, 0 ≤ j ∧ j < 2 ^ 62) → fdB xs → 0 ≤ salt → salt < 2147483647 → ∃ (ys : List Int) (salt' : Int) (o5' : Option T), ys.length = xs.length + js.length ∧ fdB ys ∧
    forA (gSet 5) fB3 (js.map T.int) [s0, s1, some (.lst (xs.map T.int)), some (.int salt), o4, o5, o6] = .nxt [s0, s1, some (.lst (ys.map T.int)), some (.int salt'), o4, o5', o6] := by
  intro js
  induction js with
  | nil => exact fun xs salt o5 _ _ hb h1 h2 => ⟨xs, salt, o5, by simp, hb, rfl⟩
  | cons j js ih =>
    intro xs salt o5 hl hj hb hs1 hs2
    have hm := fm_lt (a := salt * salt * salt + 69621 * salt + 17 * j + 3) (b := 2147483629) (by omega)
    generalize hs' : (salt * salt * salt + 69621 * salt + 17 * j + 3).fmod 2147483629 = salt' at hm
    have hlgs : salt.natAbs.log2 < 31 := lg_int hs1 (by simp; omega) (by omega)
    have hss : 0 ≤ salt * salt ∧ salt * salt < 2 ^ 62 := by
      constructor
      · exact Int.mul_nonneg hs1 hs1
      · have : salt * salt ≤ 2147483647 * 2147483647 := Int.mul_le_mul (by omega) (by omega) hs1 (by omega)
        omega
    have l1 : salt.natAbs.log2 + salt.natAbs.log2 < 1000000 := by omega
    have l2 : (salt * salt).natAbs.log2 + salt.natAbs.log2 < 1000000 := by
      have : (salt * salt).natAbs.log2 < 62 := lg_int hss.1 (by simpa using hss.2) (by omega)
      omega
    have l3 : Nat.log2 69621 + salt.natAbs.log2 < 1000000 := by
      have : Nat.log2 69621 < 17 := by decide
      omega
    have l4 : Nat.log2 17 + j.natAbs.log2 < 1000000 := by
      have : Nat.log2 17 < 17 := by decide
      have : j.natAbs.log2 < 62 := lg_int (hj j (by simp)).1 (by simpa using (hj j (by simp)).2) (by omega)
      omega
    have hz : xs.length < 16777216 := by simp at hl; omega
    have hm2 := fm_lt (a := salt'.fdiv 1013) (b := 1009) (by omega)
    obtain ⟨ys, sl, q5, h1, h2, h3⟩ := ih (xs ++ [(salt'.fdiv 1013).fmod 1009]) salt' (some (.int j)) (by simp at hl ⊢; omega) (fun i hi => hj i (by simp [hi])) (fdB_snoc hb hm2.1 (by omega)) hm.1 (by omega)
    refine ⟨ys, sl, q5, by simp at h1 ⊢; omega, h2, ?_⟩
    rw [← h3]
    have hlg : Nat.log2 1013 < 9000 := by decide
    simp [forA, gSet, fB3, oSeq, oAsg, oExpr, oRet, oIf, oNil, oTgt, oPar, pX, pB, xMove, eVar, eC, eOp, eAndR, eOrR, eNotR, eIfR, eNeg, esNil, esCons, eTup, eLst, eU, eA, oNo, oSome, eSl, eCall, fr2r, eImm, eImm1, iSeq, iRng, iZip2, iEnumR, gSet, gsNil, gsCons, gSeq, ttYes, tAndR, tOrR, tNotR, tTru, asB, asBf, Res.bind, Out.and, xApp, xApp1, xApp2, doR, appT, T.isL, pSlot, subT, mulT, fdivT, modT, powT, addT, addL, ltT, leT, gtT, geT, b2r, truT, hz, sizeLine, l1, l2, l3, l4, hs', hlg]
theorem cutL_take {α : Type} (xs : List α) (m : Nat) : cutL xs none (some (m : Int)) = xs.take m := by
  unfold cutL
  rw [HT.sIx_none, HT.sIx_nat, List.drop_zero, Nat.sub_zero]
  rcases Nat.le_total m xs.length with h | h
  · rw [Nat.min_eq_left h]
  · rw [Nat.min_eq_right h, List.take_length, List.take_of_length_le h]
theorem cutL_drop {α : Type} (xs : List α) (m : Nat) : cutL xs (some (m : Int)) none = xs.drop m := by
  unfold cutL
  rw [HT.sIx_none, HT.sIx_nat]
  rcases Nat.le_total m xs.length with h | h
  · rw [Nat.min_eq_left h, List.take_of_length_le (by simp)]
  · rw [Nat.min_eq_right h, List.drop_length, List.drop_of_length_le h]
    simp
theorem feed_ok (k : Nat) (ns : List Int) (m : Nat) (hm : m < 100000) : ∃ xs : List Int, xs.length = m ∧ fdB xs ∧ tx.run (k + 1) "_law_feed" [.scr ns, .int m] = .ok (.lst (xs.map T.int)) [.non, .non] := by
  rw [run__law_feed, g_feed]
  have hc : (cutL ns none (some 63)).length ≤ 63 := by
    have := cutL_take ns 63
    rw [show ((63 : Nat) : Int) = 63 from rfl] at this
    rw [this, List.length_take]; omega
  generalize hcs : cutL ns none (some 63) = cs at hc
  obtain ⟨ys, salt, o4, o5, o6, h1, h2, h3, h4, h5⟩ := fl1 (s0 := some (.scr ns)) (s1 := some (.int m)) cs [] 71 none none none (by simp; omega) (fun _ z => nomatch z) (by omega) (by omega)
  have hr : ∀ j ∈ (List.range ((m : Int) - (ys.length : Int)).toNat).map (fun i : Nat => (i : Int)), 0 ≤ j ∧ j < 2 ^ 62 := by
    intro j hj
    obtain ⟨i, hi, rfl⟩ := List.mem_map.mp hj
    rw [List.mem_range] at hi
    omega
  obtain ⟨zs, sl, q5, g1, g2, g3⟩ := fl3 (s0 := some (.scr ns)) (s1 := some (.int m)) (o4 := o4) (o6 := o6) ((List.range ((m : Int) - (ys.length : Int)).toNat).map fun i : Nat => (i : Int)) ys salt o5 (by simp at h1 ⊢; omega) hr h2 h3 h4
  refine ⟨zs.take m, ?_, fun x hx => g2 x (List.mem_of_mem_take hx), ?_⟩
  · rw [List.length_take, g1]; simp; omega
  · have e1 : oFor (iSeq (eSl cutT (eVar 0) oNo (oSome (eC (T.int 63))))) (gSet 4) fB1 [some (.scr ns), some (.int m), some (.lst []), some (.int 71), none, none, none] = .nxt [some (.scr ns), some (.int m), some (.lst (ys.map T.int)), some (.int salt), o4, o5, o6] := by
      refine (oFor_ok (ts := cs.map T.int) ?_).trans h5
      rw [← hcs]; rfl
    have e2 : oFor (iRng (eOp subT (eVar 1) (eA lenT (esCons (eVar 2) esNil)))) (gSet 5) fB3 [some (.scr ns), some (.int m), some (.lst (ys.map T.int)), some (.int salt), o4, o5, o6] = .nxt [some (.scr ns), some (.int m), some (.lst (zs.map T.int)), some (.int sl), o4, q5, o6] := by
      refine (oFor_ok (ts := ((List.range ((m : Int) - (ys.length : Int)).toNat).map fun i : Nat => (i : Int)).map T.int) ?_).trans g3
      refine iRng_ok (j := (m : Int) - (ys.length : Int)) ?_ (by simp at h1; omega) (by omega)
      simp [oSeq, oAsg, oExpr, oRet, oIf, oNil, oTgt, oPar, pX, pB, xMove, eVar, eC, eOp, eAndR, eOrR, eNotR, eIfR, eNeg, esNil, esCons, eTup, eLst, eU, eA, oNo, oSome, eSl, eCall, fr2r, eImm, eImm1, iSeq, iRng, iZip2, iEnumR, gSet, gsNil, gsCons, gSeq, ttYes, tAndR, tOrR, tNotR, tTru, asB, asBf, Res.bind, Out.and, xApp, xApp1, xApp2, doR, appT, T.isL, pSlot, subT, mulT, fdivT, modT, powT, addT, addL, ltT, leT, gtT, geT, b2r, truT, lenT]
    unfold runD
    rw [oSeq_nxt (ν' := [some (.scr ns), some (.int m), some (.lst []), none, none, none, none]) (by simp [start0, oSeq, oAsg, oExpr, oRet, oIf, oNil, oTgt, oPar, pX, pB, xMove, eVar, eC, eOp, eAndR, eOrR, eNotR, eIfR, eNeg, esNil, esCons, eTup, eLst, eU, eA, oNo, oSome, eSl, eCall, fr2r, eImm, eImm1, iSeq, iRng, iZip2, iEnumR, gSet, gsNil, gsCons, gSeq, ttYes, tAndR, tOrR, tNotR, tTru, asB, asBf, Res.bind, Out.and, xApp, xApp1, xApp2, doR, appT, T.isL, pSlot, subT, mulT, fdivT, modT, powT, addT, addL, ltT, leT, gtT, geT, b2r, truT, sizeLine]), oSeq_nxt (ν' := [some (.scr ns), some (.int m), some (.lst []), some (.int 71), none, none, none]) (by simp [oSeq, oAsg, oExpr, oRet, oIf, oNil, oTgt, oPar, pX, pB, xMove, eVar, eC, eOp, eAndR, eOrR, eNotR, eIfR, eNeg, esNil, esCons, eTup, eLst, eU, eA, oNo, oSome, eSl, eCall, fr2r, eImm, eImm1, iSeq, iRng, iZip2, iEnumR, gSet, gsNil, gsCons, gSeq, ttYes, tAndR, tOrR, tNotR, tTru, asB, asBf, Res.bind, Out.and, xApp, xApp1, xApp2, doR, appT, T.isL, pSlot, subT, mulT, fdivT, modT, powT, addT, addL, ltT, leT, gtT, geT, b2r, truT]), oSeq_nxt e1, oSeq_nxt e2]
    have e3 := cutL_take (zs.map T.int) m
    simp [oSeq, oAsg, oExpr, oRet, oIf, oNil, oTgt, oPar, pX, pB, xMove, eVar, eC, eOp, eAndR, eOrR, eNotR, eIfR, eNeg, esNil, esCons, eTup, eLst, eU, eA, oNo, oSome, eSl, eCall, fr2r, eImm, eImm1, iSeq, iRng, iZip2, iEnumR, gSet, gsNil, gsCons, gSeq, ttYes, tAndR, tOrR, tNotR, tTru, asB, asBf, Res.bind, Out.and, xApp, xApp1, xApp2, doR, appT, T.isL, pSlot, subT, mulT, fdivT, modT, powT, addT, addL, ltT, leT, gtT, geT, b2r, truT, cutT, e3, frOf, outsO, List.map_take]
end K

namespace K
open PySem PySem.Spec PyProof.Rows L2 VI

theorem fmod_gcd {x y : Int} (hx : 0 ≤ x) (h : 0 < y) : Int.gcd y (x.fmod y) = Int.gcd x y := by
  rw [Int.fmod_eq_emod_of_nonneg x (by omega)]
  obtain ⟨a, rfl⟩ := Int.eq_ofNat_of_zero_le hx
  obtain ⟨b, rfl⟩ := Int.eq_ofNat_of_zero_le (by omega : 0 ≤ y)
  show Nat.gcd (Int.natAbs (b : Int)) (Int.natAbs ((a : Int) % (b : Int))) = Nat.gcd (Int.natAbs (a : Int)) (Int.natAbs (b : Int))
  rw [← Int.natCast_emod, Int.natAbs_natCast, Int.natAbs_natCast, Int.natAbs_natCast, Nat.gcd_comm b, ← Nat.gcd_rec, Nat.gcd_comm]
theorem abs_eq (i : Int) : (if i < 0 then -i else i) = (i.natAbs : Int) := by split <;> omega
theorem common_wh : ∀ (n : Nat) (x y : Int), 0 ≤ x → 0 ≤ y → y.toNat ≤ n → whL (pB (asBf (eOp gtT (eVar 1) (eC (T.int 0))))) (oPar 0 1 (esCons (eVar 1) (esCons (eOp modT (eVar 0) (eVar 1)) esNil))) [some (.int x), some (.int y)] = .nxt [some (.int (Int.gcd x y)), some (.int 0)] := by
  intro n
  induction n with
  | zero =>
    intro x y hx hy hn
    have : y = 0 := by omega
    subst this
    rw [whL_unf]
    simp [oSeq, oAsg, oExpr, oRet, oIf, oNil, oTgt, oPar, pX, pB, xMove, eVar, eC, eOp, eAndR, eOrR, eNotR, eIfR, eNeg, esNil, esCons, eTup, eLst, eU, eA, oNo, oSome, eSl, eCall, fr2r, eImm, eImm1, iSeq, iRng, iZip2, iEnumR, gSet, gsNil, gsCons, gSeq, ttYes, tAndR, tOrR, tNotR, tTru, asB, asBf, Res.bind, Out.and, xApp, xApp1, xApp2, doR, appT, T.isL, pSlot, subT, mulT, fdivT, modT, powT, addT, addL, ltT, leT, gtT, geT, b2r, truT]
    omega
  | succ n ih =>
    intro x y hx hy hn
    rw [whL_unf]
    by_cases h0 : y = 0
    · subst h0
      simp [oSeq, oAsg, oExpr, oRet, oIf, oNil, oTgt, oPar, pX, pB, xMove, eVar, eC, eOp, eAndR, eOrR, eNotR, eIfR, eNeg, esNil, esCons, eTup, eLst, eU, eA, oNo, oSome, eSl, eCall, fr2r, eImm, eImm1, iSeq, iRng, iZip2, iEnumR, gSet, gsNil, gsCons, gSeq, ttYes, tAndR, tOrR, tNotR, tTru, asB, asBf, Res.bind, Out.and, xApp, xApp1, xApp2, doR, appT, T.isL, pSlot, subT, mulT, fdivT, modT, powT, addT, addL, ltT, leT, gtT, geT, b2r, truT]
      omega
    · have hp : 0 < y := by omega
      have hm := fm_lt (a := x) hp
      simp [oSeq, oAsg, oExpr, oRet, oIf, oNil, oTgt, oPar, pX, pB, xMove, eVar, eC, eOp, eAndR, eOrR, eNotR, eIfR, eNeg, esNil, esCons, eTup, eLst, eU, eA, oNo, oSome, eSl, eCall, fr2r, eImm, eImm1, iSeq, iRng, iZip2, iEnumR, gSet, gsNil, gsCons, gSeq, ttYes, tAndR, tOrR, tNotR, tTru, asB, asBf, Res.bind, Out.and, xApp, xApp1, xApp2, doR, appT, T.isL, pSlot, subT, mulT, fdivT, modT, powT, addT, addL, ltT, leT, gtT, geT, b2r, truT, hp, h0]
      rw [ih y (x.fmod y) hy hm.1 (by omega), fmod_gcd hx hp]
theorem low_wh {s0 s1 : Option T} : ∀ (n : Nat) (x y : Int), 0 ≤ x → 0 ≤ y → y.toNat ≤ n → whL (pB (asBf (eOp gtT (eVar 3) (eC (T.int 0))))) (oPar 2 3 (esCons (eVar 3) (esCons (eOp modT (eVar 2) (eVar 3)) esNil))) [s0, s1, some (.int x), some (.int y)] = .nxt [s0, s1, some (.int (Int.gcd x y)), some (.int 0)] := by
  intro n
  induction n with
  | zero =>
    intro x y hx hy hn
    have : y = 0 := by omega
    subst this
    rw [whL_unf]
    simp [oSeq, oAsg, oExpr, oRet, oIf, oNil, oTgt, oPar, pX, pB, xMove, eVar, eC, eOp, eAndR, eOrR, eNotR, eIfR, eNeg, esNil, esCons, eTup, eLst, eU, eA, oNo, oSome, eSl, eCall, fr2r, eImm, eImm1, iSeq, iRng, iZip2, iEnumR, gSet, gsNil, gsCons, gSeq, ttYes, tAndR, tOrR, tNotR, tTru, asB, asBf, Res.bind, Out.and, xApp, xApp1, xApp2, doR, appT, T.isL, pSlot, subT, mulT, fdivT, modT, powT, addT, addL, ltT, leT, gtT, geT, b2r, truT]
    omega
  | succ n ih =>
    intro x y hx hy hn
    rw [whL_unf]
    by_cases h0 : y = 0
    · subst h0
      simp [oSeq, oAsg, oExpr, oRet, oIf, oNil, oTgt, oPar, pX, pB, xMove, eVar, eC, eOp, eAndR, eOrR, eNotR, eIfR, eNeg, esNil, esCons, eTup, eLst, eU, eA, oNo, oSome, eSl, eCall, fr2r, eImm, eImm1, iSeq, iRng, iZip2, iEnumR, gSet, gsNil, gsCons, gSeq, ttYes, tAndR, tOrR, tNotR, tTru, asB, asBf, Res.bind, Out.and, xApp, xApp1, xApp2, doR, appT, T.isL, pSlot, subT, mulT, fdivT, modT, powT, addT, addL, ltT, leT, gtT, geT, b2r, truT]
      omega
    · have hp : 0 < y := by omega
      have hm := fm_lt (a := x) hp
      simp [oSeq, oAsg, oExpr, oRet, oIf, oNil, oTgt, oPar, pX, pB, xMove, eVar, eC, eOp, eAndR, eOrR, eNotR, eIfR, eNeg, esNil, esCons, eTup, eLst, eU, eA, oNo, oSome, eSl, eCall, fr2r, eImm, eImm1, iSeq, iRng, iZip2, iEnumR, gSet, gsNil, gsCons, gSeq, ttYes, tAndR, tOrR, tNotR, tTru, asB, asBf, Res.bind, Out.and, xApp, xApp1, xApp2, doR, appT, T.isL, pSlot, subT, mulT, fdivT, modT, powT, addT, addL, ltT, leT, gtT, geT, b2r, truT, hp, h0]
      rw [ih y (x.fmod y) hy hm.1 (by omega), fmod_gcd hx hp]
theorem common_ok (k : Nat) (a b : Int) : tx.run (k + 1) "common" [.int a, .int b] = .ok (.int (Int.gcd a b)) [.non, .non] := by
  rw [run_common]
  have h := common_wh b.natAbs a.natAbs b.natAbs (by omega) (by omega) (by omega)
  unfold runD g_common
  rw [oSeq_nxt (ν' := [some (.int a.natAbs), some (.int b)]) (by simp [start0, oSeq, oAsg, oExpr, oRet, oIf, oNil, oTgt, oPar, pX, pB, xMove, eVar, eC, eOp, eAndR, eOrR, eNotR, eIfR, eNeg, esNil, esCons, eTup, eLst, eU, eA, oNo, oSome, eSl, eCall, fr2r, eImm, eImm1, iSeq, iRng, iZip2, iEnumR, gSet, gsNil, gsCons, gSeq, ttYes, tAndR, tOrR, tNotR, tTru, asB, asBf, Res.bind, Out.and, xApp, xApp1, xApp2, doR, appT, T.isL, pSlot, subT, mulT, fdivT, modT, powT, addT, addL, ltT, leT, gtT, geT, b2r, truT, absT, abs_eq]), oSeq_nxt (ν' := [some (.int a.natAbs), some (.int b.natAbs)]) (by simp [oSeq, oAsg, oExpr, oRet, oIf, oNil, oTgt, oPar, pX, pB, xMove, eVar, eC, eOp, eAndR, eOrR, eNotR, eIfR, eNeg, esNil, esCons, eTup, eLst, eU, eA, oNo, oSome, eSl, eCall, fr2r, eImm, eImm1, iSeq, iRng, iZip2, iEnumR, gSet, gsNil, gsCons, gSeq, ttYes, tAndR, tOrR, tNotR, tTru, asB, asBf, Res.bind, Out.and, xApp, xApp1, xApp2, doR, appT, T.isL, pSlot, subT, mulT, fdivT, modT, powT, addT, addL, ltT, leT, gtT, geT, b2r, truT, absT, abs_eq]), oSeq_nxt h]
  simp [frOf, outsO, oSeq, oAsg, oExpr, oRet, oIf, oNil, oTgt, oPar, pX, pB, xMove, eVar, eC, eOp, eAndR, eOrR, eNotR, eIfR, eNeg, esNil, esCons, eTup, eLst, eU, eA, oNo, oSome, eSl, eCall, fr2r, eImm, eImm1, iSeq, iRng, iZip2, iEnumR, gSet, gsNil, gsCons, gSeq, ttYes, tAndR, tOrR, tNotR, tTru, asB, asBf, Res.bind, Out.and, xApp, xApp1, xApp2, doR, appT, T.isL, pSlot, subT, mulT, fdivT, modT, powT, addT, addL, ltT, leT, gtT, geT, b2r, truT]
  rfl
/-- the part of two numbers -/
def gS (t b : Int) : Int := if b < 0 then 0 - (Int.gcd t b : Int) else (Int.gcd t b : Int)
def pT (t b : Int) : T := .tup [.int (t.fdiv (gS t b)), .int (b.fdiv (gS t b))]
theorem gS_ne {t b : Int} (hb : b ≠ 0) : gS t b ≠ 0 := by
  have h : Int.gcd t b ≠ 0 := fun z => hb (Int.gcd_eq_zero_iff.mp z).2
  unfold gS
  split <;> omega
theorem gS_lg {t b : Int} (hb : b ≠ 0) (hl : b.natAbs < 2 ^ 9000) : (gS t b).natAbs.log2 < 9000 := by
  refine lg_small (Nat.lt_of_le_of_lt ?_ hl) (by omega)
  have h : (Int.gcd t b) ≤ b.natAbs := Nat.le_of_dvd (by omega) (Int.gcd_dvd_natAbs_right t b)
  unfold gS
  split <;> omega
theorem sz2 : (2 : Nat) ≤ sizeLine := by decide
theorem part_ok (k : Nat) (t b : Int) (hb : b ≠ 0) (hl : b.natAbs < 2 ^ 9000) : tx.run (k + 2) "part" [.int t, .int b] = .ok (pT t b) [.non, .non] := by
  rw [run_part]
  have h1 := gS_ne (t := t) hb
  have h2 := gS_lg (t := t) hb hl
  unfold runD g_part
  rw [oSeq_nxt (ν' := [some (.int t), some (.int b), some (.int (Int.gcd t b))]) (by simp [start0, oSeq, oAsg, oExpr, oRet, oIf, oNil, oTgt, oPar, pX, pB, xMove, eVar, eC, eOp, eAndR, eOrR, eNotR, eIfR, eNeg, esNil, esCons, eTup, eLst, eU, eA, oNo, oSome, eSl, eCall, fr2r, eImm, eImm1, iSeq, iRng, iZip2, iEnumR, gSet, gsNil, gsCons, gSeq, ttYes, tAndR, tOrR, tNotR, tTru, asB, asBf, Res.bind, Out.and, xApp, xApp1, xApp2, doR, appT, T.isL, pSlot, subT, mulT, fdivT, modT, powT, addT, addL, ltT, leT, gtT, geT, b2r, truT, common_ok]), oSeq_nxt (ν' := [some (.int t), some (.int b), some (.int (gS t b))]) (by
    by_cases hn : b < 0
    · simp [oSeq, oAsg, oExpr, oRet, oIf, oNil, oTgt, oPar, pX, pB, xMove, eVar, eC, eOp, eAndR, eOrR, eNotR, eIfR, eNeg, esNil, esCons, eTup, eLst, eU, eA, oNo, oSome, eSl, eCall, fr2r, eImm, eImm1, iSeq, iRng, iZip2, iEnumR, gSet, gsNil, gsCons, gSeq, ttYes, tAndR, tOrR, tNotR, tTru, asB, asBf, Res.bind, Out.and, xApp, xApp1, xApp2, doR, appT, T.isL, pSlot, subT, mulT, fdivT, modT, powT, addT, addL, ltT, leT, gtT, geT, b2r, truT, hn, gS]
    · simp [oSeq, oAsg, oExpr, oRet, oIf, oNil, oTgt, oPar, pX, pB, xMove, eVar, eC, eOp, eAndR, eOrR, eNotR, eIfR, eNeg, esNil, esCons, eTup, eLst, eU, eA, oNo, oSome, eSl, eCall, fr2r, eImm, eImm1, iSeq, iRng, iZip2, iEnumR, gSet, gsNil, gsCons, gSeq, ttYes, tAndR, tOrR, tNotR, tTru, asB, asBf, Res.bind, Out.and, xApp, xApp1, xApp2, doR, appT, T.isL, pSlot, subT, mulT, fdivT, modT, powT, addT, addL, ltT, leT, gtT, geT, b2r, truT, hn, gS])]
  simp [frOf, outsO, oSeq, oAsg, oExpr, oRet, oIf, oNil, oTgt, oPar, pX, pB, xMove, eVar, eC, eOp, eAndR, eOrR, eNotR, eIfR, eNeg, esNil, esCons, eTup, eLst, eU, eA, oNo, oSome, eSl, eCall, fr2r, eImm, eImm1, iSeq, iRng, iZip2, iEnumR, gSet, gsNil, gsCons, gSeq, ttYes, tAndR, tOrR, tNotR, tTru, asB, asBf, Res.bind, Out.and, xApp, xApp1, xApp2, doR, appT, T.isL, pSlot, subT, mulT, fdivT, modT, powT, addT, addL, ltT, leT, gtT, geT, b2r, truT, h1, h2, pT, sz2]
theorem low_ok (k : Nat) (t b : Int) (hb : b ≠ 0) (hl : b.natAbs < 2 ^ 9000) : tx.run (k + 1) "_law_low" [.int t, .int b] = .ok (pT t b) [.non, .non] := by
  rw [run__law_low]
  have h1 := gS_ne (t := t) hb
  have h2 := gS_lg (t := t) hb hl
  have h := low_wh (s0 := some (.int t)) (s1 := some (.int b)) b.natAbs t.natAbs b.natAbs (by omega) (by omega) (by omega)
  unfold runD g__law_low
  rw [oSeq_nxt (ν' := [some (.int t), some (.int b), some (.int t.natAbs), some (.int b.natAbs)]) (by simp [start0, oSeq, oAsg, oExpr, oRet, oIf, oNil, oTgt, oPar, pX, pB, xMove, eVar, eC, eOp, eAndR, eOrR, eNotR, eIfR, eNeg, esNil, esCons, eTup, eLst, eU, eA, oNo, oSome, eSl, eCall, fr2r, eImm, eImm1, iSeq, iRng, iZip2, iEnumR, gSet, gsNil, gsCons, gSeq, ttYes, tAndR, tOrR, tNotR, tTru, asB, asBf, Res.bind, Out.and, xApp, xApp1, xApp2, doR, appT, T.isL, pSlot, subT, mulT, fdivT, modT, powT, addT, addL, ltT, leT, gtT, geT, b2r, truT, absT, abs_eq]), oSeq_nxt h, oSeq_nxt (ν' := [some (.int t), some (.int b), some (.int (gS t b)), some (.int 0)]) (by
    have e : Int.gcd (t.natAbs : Int) (b.natAbs : Int) = Int.gcd t b := by simp [Int.gcd]
    rw [e]
    by_cases hn : b < 0
    · simp [oSeq, oAsg, oExpr, oRet, oIf, oNil, oTgt, oPar, pX, pB, xMove, eVar, eC, eOp, eAndR, eOrR, eNotR, eIfR, eNeg, esNil, esCons, eTup, eLst, eU, eA, oNo, oSome, eSl, eCall, fr2r, eImm, eImm1, iSeq, iRng, iZip2, iEnumR, gSet, gsNil, gsCons, gSeq, ttYes, tAndR, tOrR, tNotR, tTru, asB, asBf, Res.bind, Out.and, xApp, xApp1, xApp2, doR, appT, T.isL, pSlot, subT, mulT, fdivT, modT, powT, addT, addL, ltT, leT, gtT, geT, b2r, truT, hn, gS]
    · simp [oSeq, oAsg, oExpr, oRet, oIf, oNil, oTgt, oPar, pX, pB, xMove, eVar, eC, eOp, eAndR, eOrR, eNotR, eIfR, eNeg, esNil, esCons, eTup, eLst, eU, eA, oNo, oSome, eSl, eCall, fr2r, eImm, eImm1, iSeq, iRng, iZip2, iEnumR, gSet, gsNil, gsCons, gSeq, ttYes, tAndR, tOrR, tNotR, tTru, asB, asBf, Res.bind, Out.and, xApp, xApp1, xApp2, doR, appT, T.isL, pSlot, subT, mulT, fdivT, modT, powT, addT, addL, ltT, leT, gtT, geT, b2r, truT, hn, gS])]
  simp [frOf, outsO, oSeq, oAsg, oExpr, oRet, oIf, oNil, oTgt, oPar, pX, pB, xMove, eVar, eC, eOp, eAndR, eOrR, eNotR, eIfR, eNeg, esNil, esCons, eTup, eLst, eU, eA, oNo, oSome, eSl, eCall, fr2r, eImm, eImm1, iSeq, iRng, iZip2, iEnumR, gSet, gsNil, gsCons, gSeq, ttYes, tAndR, tOrR, tNotR, tTru, asB, asBf, Res.bind, Out.and, xApp, xApp1, xApp2, doR, appT, T.isL, pSlot, subT, mulT, fdivT, modT, powT, addT, addL, ltT, leT, gtT, geT, b2r, truT, h1, h2, pT, sz2]
/-- small enough to be multiplied -/
def Sm (a : Int) : Prop := a.natAbs < 2 ^ 4000
theorem Sm.lg {a b : Int} (ha : Sm a) (hb : Sm b) : a.natAbs.log2 + b.natAbs.log2 < 1000000 := by
  have h1 : a.natAbs.log2 < 4000 := lg_small ha (by omega)
  have h2 : b.natAbs.log2 < 4000 := lg_small hb (by omega)
  omega
theorem Sm.mul {a b : Int} (ha : Sm a) (hb : Sm b) : (a * b).natAbs < 2 ^ 9000 := by
  rw [Int.natAbs_mul]
  refine Nat.lt_of_le_of_lt (Nat.mul_le_mul (Nat.le_of_lt ha) (Nat.le_of_lt hb)) ?_
  rw [← Nat.pow_add]
  exact Nat.pow_lt_pow_right (by omega) (by omega)
theorem ix0 (a b : Int) : ixT (.tup [.int a, .int b]) (.int 0) = .ok (.int a) := rfl
theorem ix1 (a b : Int) : ixT (.tup [.int a, .int b]) (.int 1) = .ok (.int b) := rfl
def pr (a : Int × Int) : T := .tup [.int a.1, .int a.2]
section
variable (k : Nat) (a b : Int × Int) (h1 : Sm a.1) (h2 : Sm a.2) (h3 : Sm b.1) (h4 : Sm b.2) (ha : a.2 ≠ 0) (hb : b.2 ≠ 0)
include h1 h2 h3 h4 ha hb
theorem plus_ok : tx.run (k + 3) "plus" [pr a, pr b] = .ok (pT (a.1 * b.2 + b.1 * a.2) (a.2 * b.2)) [.non, .non] := by
  rw [run_plus]
  simp [runD, g_plus, start0, frOf, outsO, oSeq, oAsg, oExpr, oRet, oIf, oNil, oTgt, oPar, pX, pB, xMove, eVar, eC, eOp, eAndR, eOrR, eNotR, eIfR, eNeg, esNil, esCons, eTup, eLst, eU, eA, oNo, oSome, eSl, eCall, fr2r, eImm, eImm1, iSeq, iRng, iZip2, iEnumR, gSet, gsNil, gsCons, gSeq, ttYes, tAndR, tOrR, tNotR, tTru, asB, asBf, Res.bind, Out.and, xApp, xApp1, xApp2, doR, appT, T.isL, pSlot, subT, mulT, fdivT, modT, powT, addT, addL, ltT, leT, gtT, geT, b2r, truT, pr, ix0, ix1, h1.lg h4, h3.lg h2, h2.lg h4, part_ok k _ _ (Int.mul_ne_zero ha hb) (h2.mul h4)]
theorem minus_ok : tx.run (k + 3) "minus" [pr a, pr b] = .ok (pT (a.1 * b.2 - b.1 * a.2) (a.2 * b.2)) [.non, .non] := by
  rw [run_minus]
  simp [runD, g_minus, start0, frOf, outsO, oSeq, oAsg, oExpr, oRet, oIf, oNil, oTgt, oPar, pX, pB, xMove, eVar, eC, eOp, eAndR, eOrR, eNotR, eIfR, eNeg, esNil, esCons, eTup, eLst, eU, eA, oNo, oSome, eSl, eCall, fr2r, eImm, eImm1, iSeq, iRng, iZip2, iEnumR, gSet, gsNil, gsCons, gSeq, ttYes, tAndR, tOrR, tNotR, tTru, asB, asBf, Res.bind, Out.and, xApp, xApp1, xApp2, doR, appT, T.isL, pSlot, subT, mulT, fdivT, modT, powT, addT, addL, ltT, leT, gtT, geT, b2r, truT, pr, ix0, ix1, h1.lg h4, h3.lg h2, h2.lg h4, part_ok k _ _ (Int.mul_ne_zero ha hb) (h2.mul h4)]
theorem times_ok : tx.run (k + 3) "times" [pr a, pr b] = .ok (pT (a.1 * b.1) (a.2 * b.2)) [.non, .non] := by
  rw [run_times]
  simp [runD, g_times, start0, frOf, outsO, oSeq, oAsg, oExpr, oRet, oIf, oNil, oTgt, oPar, pX, pB, xMove, eVar, eC, eOp, eAndR, eOrR, eNotR, eIfR, eNeg, esNil, esCons, eTup, eLst, eU, eA, oNo, oSome, eSl, eCall, fr2r, eImm, eImm1, iSeq, iRng, iZip2, iEnumR, gSet, gsNil, gsCons, gSeq, ttYes, tAndR, tOrR, tNotR, tTru, asB, asBf, Res.bind, Out.and, xApp, xApp1, xApp2, doR, appT, T.isL, pSlot, subT, mulT, fdivT, modT, powT, addT, addL, ltT, leT, gtT, geT, b2r, truT, pr, ix0, ix1, h1.lg h3, h2.lg h4, part_ok k _ _ (Int.mul_ne_zero ha hb) (h2.mul h4)]
theorem less_ok : tx.run (k + 1) "less" [pr a, pr b] = .ok (.bl (decide (a.1 * b.2 < b.1 * a.2))) [.non, .non] := by
  rw [run_less]
  simp [runD, g_less, start0, frOf, outsO, oSeq, oAsg, oExpr, oRet, oIf, oNil, oTgt, oPar, pX, pB, xMove, eVar, eC, eOp, eAndR, eOrR, eNotR, eIfR, eNeg, esNil, esCons, eTup, eLst, eU, eA, oNo, oSome, eSl, eCall, fr2r, eImm, eImm1, iSeq, iRng, iZip2, iEnumR, gSet, gsNil, gsCons, gSeq, ttYes, tAndR, tOrR, tNotR, tTru, asB, asBf, Res.bind, Out.and, xApp, xApp1, xApp2, doR, appT, T.isL, pSlot, subT, mulT, fdivT, modT, powT, addT, addL, ltT, leT, gtT, geT, b2r, truT, pr, ix0, ix1, h1.lg h4, h3.lg h2]
theorem add_ok : tx.run (k + 2) "_law_add" [pr a, pr b] = .ok (pT (a.1 * b.2 + b.1 * a.2) (a.2 * b.2)) [.non, .non] := by
  rw [run__law_add]
  simp [runD, g__law_add, start0, frOf, outsO, oSeq, oAsg, oExpr, oRet, oIf, oNil, oTgt, oPar, pX, pB, xMove, eVar, eC, eOp, eAndR, eOrR, eNotR, eIfR, eNeg, esNil, esCons, eTup, eLst, eU, eA, oNo, oSome, eSl, eCall, fr2r, eImm, eImm1, iSeq, iRng, iZip2, iEnumR, gSet, gsNil, gsCons, gSeq, ttYes, tAndR, tOrR, tNotR, tTru, asB, asBf, Res.bind, Out.and, xApp, xApp1, xApp2, doR, appT, T.isL, pSlot, subT, mulT, fdivT, modT, powT, addT, addL, ltT, leT, gtT, geT, b2r, truT, pr, ix0, ix1, h1.lg h4, h3.lg h2, h2.lg h4, low_ok k _ _ (Int.mul_ne_zero ha hb) (h2.mul h4)]
theorem mul_ok : tx.run (k + 2) "_law_mul" [pr a, pr b] = .ok (pT (a.1 * b.1) (a.2 * b.2)) [.non, .non] := by
  rw [run__law_mul]
  simp [runD, g__law_mul, start0, frOf, outsO, oSeq, oAsg, oExpr, oRet, oIf, oNil, oTgt, oPar, pX, pB, xMove, eVar, eC, eOp, eAndR, eOrR, eNotR, eIfR, eNeg, esNil, esCons, eTup, eLst, eU, eA, oNo, oSome, eSl, eCall, fr2r, eImm, eImm1, iSeq, iRng, iZip2, iEnumR, gSet, gsNil, gsCons, gSeq, ttYes, tAndR, tOrR, tNotR, tTru, asB, asBf, Res.bind, Out.and, xApp, xApp1, xApp2, doR, appT, T.isL, pSlot, subT, mulT, fdivT, modT, powT, addT, addL, ltT, leT, gtT, geT, b2r, truT, pr, ix0, ix1, h1.lg h3, h2.lg h4, low_ok k _ _ (Int.mul_ne_zero ha hb) (h2.mul h4)]
theorem lless_ok : tx.run (k + 1) "_law_less" [pr a, pr b] = .ok (.bl (decide (a.1 * b.2 < b.1 * a.2))) [.non, .non] := by
  rw [run__law_less]
  simp [runD, g__law_less, start0, frOf, outsO, oSeq, oAsg, oExpr, oRet, oIf, oNil, oTgt, oPar, pX, pB, xMove, eVar, eC, eOp, eAndR, eOrR, eNotR, eIfR, eNeg, esNil, esCons, eTup, eLst, eU, eA, oNo, oSome, eSl, eCall, fr2r, eImm, eImm1, iSeq, iRng, iZip2, iEnumR, gSet, gsNil, gsCons, gSeq, ttYes, tAndR, tOrR, tNotR, tTru, asB, asBf, Res.bind, Out.and, xApp, xApp1, xApp2, doR, appT, T.isL, pSlot, subT, mulT, fdivT, modT, powT, addT, addL, ltT, leT, gtT, geT, b2r, truT, pr, ix0, ix1, h1.lg h4, h3.lg h2]
end
end K

namespace K
open PySem PySem.Spec PyProof.Rows L2 VI

theorem eOp_ok {g0 : T → T → Res T} {f g : Fr → Res T} {ν : Fr} {x y : T} (h1 : f ν = .ok x) (h2 : g ν = .ok y) : eOp g0 f g ν = g0 x y := by
  unfold eOp
  rw [h1]
  show (g ν).bind (fun y => g0 x y) = _
  rw [h2]
  rfl
theorem oAsg_ok {f : Fr → Res T} {ν : Fr} {t : T} {i : Nat} (h : f ν = .ok t) : oAsg i (pX f) ν = .nxt (ν.set i (some t)) := by
  unfold oAsg pX
  rw [h]
theorem ixT_lst {ts : List T} {j : Nat} {t : T} (h : ts[j]? = some t) : ixT (.lst ts) (.int (j : Int)) = .ok t := by
  have hl : j < ts.length := (List.getElem?_eq_some_iff.mp h).1
  show optR (L2.atI ts (j : Int)) = _
  unfold L2.atI L2.ixN
  rw [if_pos (by omega), if_pos (by omega)]
  show optR (ts[(j : Int).toNat]?) = _
  rw [Int.toNat_natCast, h]
  rfl
theorem eqT_int (a b : Int) : eqT (.int a) (.int b) = .ok (.bl (decide (a = b))) := by
  show (if ((T.int a).pl 16 && (T.int b).pl 16) = true then Res.ok (T.bl (PyData.eqv (T.int a).pd (T.int b).pd)) else .stuck) = _
  rw [if_pos (by simp [T.pl])]
  simp [T.pd, PyData.eqv]
  rw [Bool.eq_iff_iff]
  simp
theorem big_ok (k : Nat) (xs : List Int) (hx : 4 ≤ xs.length) : ∃ z : Int, z.natAbs < 2 ^ 700 ∧ tx.run (k + 1) "_law_big" [.lst (xs.map T.int)] = .ok (.int z) [.non] := by
  obtain ⟨x0, x1, x2, x3, r, rfl⟩ : ∃ x0 x1 x2 x3 r, xs = x0 :: x1 :: x2 :: x3 :: r := by
    match xs, hx with
    | x0 :: x1 :: x2 :: x3 :: r, _ => exact ⟨x0, x1, x2, x3, r, rfl⟩
  rw [run__law_big]
  have i0 : ixT (.lst ((x0 :: x1 :: x2 :: x3 :: r).map T.int)) (.int 0) = .ok (.int x0) := ixT_lst (j := 0) rfl
  have i1 : ixT (.lst ((x0 :: x1 :: x2 :: x3 :: r).map T.int)) (.int 1) = .ok (.int x1) := ixT_lst (j := 1) rfl
  have i2 : ixT (.lst ((x0 :: x1 :: x2 :: x3 :: r).map T.int)) (.int 2) = .ok (.int x2) := ixT_lst (j := 2) rfl
  have i3 : ixT (.lst ((x0 :: x1 :: x2 :: x3 :: r).map T.int)) (.int 3) = .ok (.int x3) := ixT_lst (j := 3) rfl
  generalize hxs : T.lst ((x0 :: x1 :: x2 :: x3 :: r).map T.int) = L at i0 i1 i2 i3
  -- the size
  obtain ⟨M, hM1, hM2, hM3⟩ : ∃ M : Int, 0 < M ∧ M < 2 ^ 600 ∧ oAsg 1 (pX (eOp ixT (eLst (esCons (eC (T.int 1)) (esCons (eC (T.int 1009)) (esCons (eOp powT (eC (T.int 10)) (eC (T.int 9)))
                (esCons (eOp mulT (eOp mulT (eOp powT (eC (T.int 10)) (eC (T.int 60))) (eOp powT (eC (T.int 10)) (eC (T.int 60)))) (eOp powT (eC (T.int 10)) (eC (T.int 60)))) esNil)))))
        (eOp modT (eOp ixT (eVar 0) (eC (T.int 0))) (eC (T.int 4))))) [some L, none, none] = .nxt [some L, some (.int M), none] := by
    have hm := fm_lt (a := x0) (b := 4) (by omega)
    have e : ∀ j : Int, x0.fmod 4 = j → ∀ M : Int, ixT (.lst [.int 1, .int 1009, .int (10 ^ 9), .int (10 ^ 60 * 10 ^ 60 * 10 ^ 60)]) (.int j) = .ok (.int M) → oAsg 1 (pX (eOp ixT (eLst (esCons (eC (T.int 1)) (esCons (eC (T.int 1009)) (esCons (eOp powT (eC (T.int 10)) (eC (T.int 9)))
                (esCons (eOp mulT (eOp mulT (eOp powT (eC (T.int 10)) (eC (T.int 60))) (eOp powT (eC (T.int 10)) (eC (T.int 60)))) (eOp powT (eC (T.int 10)) (eC (T.int 60)))) esNil)))))
        (eOp modT (eOp ixT (eVar 0) (eC (T.int 0))) (eC (T.int 4))))) [some L, none, none] = .nxt [some L, some (.int M), none] := by
      intro j hj M h
      have hl : sizeLine = 16777216 := rfl
      have e1 : eLst (esCons (eC (T.int 1)) (esCons (eC (T.int 1009)) (esCons (eOp powT (eC (T.int 10)) (eC (T.int 9))) (esCons (eOp mulT (eOp mulT (eOp powT (eC (T.int 10)) (eC (T.int 60))) (eOp powT (eC (T.int 10)) (eC (T.int 60)))) (eOp powT (eC (T.int 10)) (eC (T.int 60)))) esNil)))) [some L, none, none] = .ok (.lst [.int 1, .int 1009, .int (10 ^ 9), .int (10 ^ 60 * 10 ^ 60 * 10 ^ 60)]) := by
        kernel_rfl
      have e2 : eOp modT (eOp ixT (eVar 0) (eC (T.int 0))) (eC (T.int 4)) [some L, none, none] = .ok (.int j) := by
        simp [oSeq, oAsg, oExpr, oRet, oIf, oNil, oTgt, oPar, pX, pB, xMove, eVar, eC, eOp, eAndR, eOrR, eNotR, eIfR, eNeg, esNil, esCons, eTup, eLst, eU, eA, oNo, oSome, eSl, eCall, fr2r, eImm, eImm1, iSeq, iRng, iZip2, iEnumR, gSet, gsNil, gsCons, gSeq, ttYes, tAndR, tOrR, tNotR, tTru, asB, asBf, Res.bind, Out.and, xApp, xApp1, xApp2, doR, appT, T.isL, pSlot, subT, mulT, fdivT, modT, powT, addT, addL, ltT, leT, gtT, geT, b2r, truT, i0, hj]
      exact oAsg_ok ((eOp_ok e1 e2).trans h)
    have hj : x0.fmod 4 = 0 ∨ x0.fmod 4 = 1 ∨ x0.fmod 4 = 2 ∨ x0.fmod 4 = 3 := by omega
    rcases hj with h | h | h | h
    · exact ⟨1, by decide, by decide, e _ h _ rfl⟩
    · exact ⟨1009, by decide, by decide, e _ h _ rfl⟩
    · exact ⟨10 ^ 9, by decide, by decide, e _ h _ rfl⟩
    · exact ⟨10 ^ 60 * 10 ^ 60 * 10 ^ 60, by decide, by decide, e _ h _ rfl⟩
  have m1 := fm_lt (a := x1) (b := 29) (by omega)
  have m2 := fm_lt (a := x2) (b := M) hM1
  have m3 := fm_lt (a := x3) (b := 7) (by omega)
  have hlgM : M.natAbs.log2 < 600 := lg_int (by omega) (by simpa using hM2) (by omega)
  have d3 : 0 ≤ M.fdiv 3 ∧ M.fdiv 3 ≤ M := by
    rw [Int.fdiv_eq_ediv_of_nonneg _ (by omega)]
    omega
  have l1 : (x1.fmod 29).natAbs.log2 + M.natAbs.log2 < 1000000 := by
    have : (x1.fmod 29).natAbs.log2 < 6 := lg_int m1.1 (by simp; omega) (by omega)
    omega
  have l2 : (x3.fmod 7).natAbs.log2 + (M.fdiv 3).natAbs.log2 < 1000000 := by
    have : (x3.fmod 7).natAbs.log2 < 6 := lg_int m3.1 (by simp; omega) (by omega)
    have : (M.fdiv 3).natAbs.log2 < 600 := lg_int d3.1 (by have := hM2; simp; omega) (by omega)
    omega
  have hF : 0 ≤ (x1.fmod 29) * M + x2.fmod M + x3.fmod 7 * (M.fdiv 3) ∧ (x1.fmod 29) * M + x2.fmod M + x3.fmod 7 * (M.fdiv 3) ≤ 40 * M := by
    have a1 : 0 ≤ (x1.fmod 29) * M := Int.mul_nonneg m1.1 (by omega)
    have a2 : (x1.fmod 29) * M ≤ 29 * M := Int.mul_le_mul_of_nonneg_right (by omega) (by omega)
    have a3 : 0 ≤ x3.fmod 7 * (M.fdiv 3) := Int.mul_nonneg m3.1 d3.1
    have a4 : x3.fmod 7 * (M.fdiv 3) ≤ 7 * M := Int.mul_le_mul (by omega) d3.2 d3.1 (by omega)
    omega
  generalize hFe : (x1.fmod 29) * M + x2.fmod M + x3.fmod 7 * (M.fdiv 3) = F at hF
  have hFs : F.natAbs < 2 ^ 700 := by
    have : F ≤ 40 * 2 ^ 600 := by omega
    have : (40 * 2 ^ 600 : Int) < 2 ^ 700 := by decide
    omega
  have e2 : oAsg 2 (pX (eOp addT (eOp addT (eOp mulT (eOp modT (eOp ixT (eVar 0) (eC (T.int 1))) (eC (T.int 29))) (eVar 1)) (eOp modT (eOp ixT (eVar 0) (eC (T.int 2))) (eVar 1)))
          (eOp mulT (eOp modT (eOp ixT (eVar 0) (eC (T.int 3))) (eC (T.int 7))) (eOp fdivT (eVar 1) (eC (T.int 3)))))) [some L, some (.int M), none] = .nxt [some L, some (.int M), some (.int F)] := by
    have hM0 : M ≠ 0 := by omega
    have hlg3 : Nat.log2 3 < 9000 := by decide
    simp [oSeq, oAsg, oExpr, oRet, oIf, oNil, oTgt, oPar, pX, pB, xMove, eVar, eC, eOp, eAndR, eOrR, eNotR, eIfR, eNeg, esNil, esCons, eTup, eLst, eU, eA, oNo, oSome, eSl, eCall, fr2r, eImm, eImm1, iSeq, iRng, iZip2, iEnumR, gSet, gsNil, gsCons, gSeq, ttYes, tAndR, tOrR, tNotR, tTru, asB, asBf, Res.bind, Out.and, xApp, xApp1, xApp2, doR, appT, T.isL, pSlot, subT, mulT, fdivT, modT, powT, addT, addL, ltT, leT, gtT, geT, b2r, truT, i1, i2, i3, l1, l2, hM0, hlg3, hFe]
  refine ⟨if x3.fmod 3 = 0 then 0 - F else F, by split <;> omega, ?_⟩
  unfold runD g__law_big
  rw [show start0 3 [L] = [some L, none, none] from rfl, oSeq_nxt hM3, oSeq_nxt e2]
  by_cases h3 : x3.fmod 3 = 0
  · simp [oSeq, oAsg, oExpr, oRet, oIf, oNil, oTgt, oPar, pX, pB, xMove, eVar, eC, eOp, eAndR, eOrR, eNotR, eIfR, eNeg, esNil, esCons, eTup, eLst, eU, eA, oNo, oSome, eSl, eCall, fr2r, eImm, eImm1, iSeq, iRng, iZip2, iEnumR, gSet, gsNil, gsCons, gSeq, ttYes, tAndR, tOrR, tNotR, tTru, asB, asBf, Res.bind, Out.and, xApp, xApp1, xApp2, doR, appT, T.isL, pSlot, subT, mulT, fdivT, modT, powT, addT, addL, ltT, leT, gtT, geT, b2r, truT, i3, eqT_int, h3, frOf, outsO]
  · simp [oSeq, oAsg, oExpr, oRet, oIf, oNil, oTgt, oPar, pX, pB, xMove, eVar, eC, eOp, eAndR, eOrR, eNotR, eIfR, eNeg, esNil, esCons, eTup, eLst, eU, eA, oNo, oSome, eSl, eCall, fr2r, eImm, eImm1, iSeq, iRng, iZip2, iEnumR, gSet, gsNil, gsCons, gSeq, ttYes, tAndR, tOrR, tNotR, tTru, asB, asBf, Res.bind, Out.and, xApp, xApp1, xApp2, doR, appT, T.isL, pSlot, subT, mulT, fdivT, modT, powT, addT, addL, ltT, leT, gtT, geT, b2r, truT, i3, eqT_int, h3, frOf, outsO]
end K

namespace K
open PySem PySem.Spec PyProof.Rows L2 VI

theorem isi_b_int (a : Int) : isiT "bool" (.int a) = .ok (.bl false) := by kernel_rfl
theorem isi_l_int (a : Int) : isiT "list" (.int a) = .ok (.bl false) := by kernel_rfl
theorem isi_t_int (a : Int) : isiT "tuple" (.int a) = .ok (.bl false) := by kernel_rfl
theorem isi_s_int (a : Int) : isiT "str" (.int a) = .ok (.bl false) := by kernel_rfl
theorem isi_i_int (a : Int) : isiT "int" (.int a) = .ok (.bl true) := by kernel_rfl
theorem isi_b_bl (a : Bool) : isiT "bool" (.bl a) = .ok (.bl true) := by kernel_rfl
theorem isi_b_tup (a : List T) : isiT "bool" (.tup a) = .ok (.bl false) := by kernel_rfl
theorem isi_l_tup (a : List T) : isiT "list" (.tup a) = .ok (.bl false) := by kernel_rfl
theorem isi_t_tup (a : List T) : isiT "tuple" (.tup a) = .ok (.bl true) := by kernel_rfl
theorem eqT_bl (a b : Bool) : eqT (.bl a) (.bl b) = .ok (.bl (decide (a = b))) := by
  show (if ((T.bl a).pl 16 && (T.bl b).pl 16) = true then Res.ok (T.bl (PyData.eqv (T.bl a).pd (T.bl b).pd)) else .stuck) = _
  rw [if_pos (by simp [T.pl])]
  cases a <;> cases b <;> rfl
theorem neT_bl (a b : Bool) : neT (.bl a) (.bl b) = .ok (.bl (!decide (a = b))) := by
  show (if ((T.bl a).pl 16 && (T.bl b).pl 16) = true then Res.ok (T.bl (!PyData.eqv (T.bl a).pd (T.bl b).pd)) else .stuck) = _
  rw [if_pos (by simp [T.pl])]
  cases a <;> cases b <;> rfl
theorem same_int (k : Nat) (a : Int) : tx.run (k + 1) "_law_same" [.int a, .int a] = .ok (.bl true) [.non, .non] := by
  rw [run__law_same]
  simp [runD, g__law_same, start0, frOf, outsO, oSeq, oAsg, oExpr, oRet, oIf, oNil, oTgt, oPar, pX, pB, xMove, eVar, eC, eOp, eAndR, eOrR, eNotR, eIfR, eNeg, esNil, esCons, eTup, eLst, eU, eA, oNo, oSome, eSl, eCall, fr2r, eImm, eImm1, iSeq, iRng, iZip2, iEnumR, gSet, gsNil, gsCons, gSeq, ttYes, tAndR, tOrR, tNotR, tTru, asB, asBf, Res.bind, Out.and, xApp, xApp1, xApp2, doR, appT, T.isL, pSlot, subT, mulT, fdivT, modT, powT, addT, addL, ltT, leT, gtT, geT, b2r, truT, isNT, isi_b_int, isi_l_int, isi_t_int, isi_s_int, isi_i_int, eqT_int]
theorem same_bl (k : Nat) (a : Bool) : tx.run (k + 1) "_law_same" [.bl a, .bl a] = .ok (.bl true) [.non, .non] := by
  rw [run__law_same]
  simp [runD, g__law_same, start0, frOf, outsO, oSeq, oAsg, oExpr, oRet, oIf, oNil, oTgt, oPar, pX, pB, xMove, eVar, eC, eOp, eAndR, eOrR, eNotR, eIfR, eNeg, esNil, esCons, eTup, eLst, eU, eA, oNo, oSome, eSl, eCall, fr2r, eImm, eImm1, iSeq, iRng, iZip2, iEnumR, gSet, gsNil, gsCons, gSeq, ttYes, tAndR, tOrR, tNotR, tTru, asB, asBf, Res.bind, Out.and, xApp, xApp1, xApp2, doR, appT, T.isL, pSlot, subT, mulT, fdivT, modT, powT, addT, addL, ltT, leT, gtT, geT, b2r, truT, isNT, isi_b_bl, eqT_bl]
theorem same_pair (k : Nat) (a b : Int) : tx.run (k + 2) "_law_same" [.tup [.int a, .int b], .tup [.int a, .int b]] = .ok (.bl true) [.non, .non] := by
  rw [run__law_same]
  have s2 : (2 : Nat) ≤ sizeLine := by decide
  simp [runD, g__law_same, start0, frOf, outsO, oSeq, oAsg, oExpr, oRet, oIf, oNil, oTgt, oPar, pX, pB, xMove, eVar, eC, eOp, eAndR, eOrR, eNotR, eIfR, eNeg, esNil, esCons, eTup, eLst, eU, eA, oNo, oSome, eSl, eCall, fr2r, eImm, eImm1, iSeq, iRng, iZip2, iEnumR, gSet, gsNil, gsCons, gSeq, ttYes, tAndR, tOrR, tNotR, tTru, asB, asBf, Res.bind, Out.and, xApp, xApp1, xApp2, doR, appT, T.isL, pSlot, subT, mulT, fdivT, modT, powT, addT, addL, ltT, leT, gtT, geT, b2r, truT, isNT, isi_b_tup, isi_l_tup, isi_t_tup, neT_bl, lenT, eqT_int, eComp, zipT, pairT, compA, turnR, wipeF, same_int, lstR, allT, s2, bools]
end K

namespace K
open PySem PySem.Spec PyProof.Rows L2 VI

theorem gS_dvd (t b : Int) : gS t b ∣ t ∧ gS t b ∣ b := by
  have h1 : (Int.gcd t b : Int) ∣ t := Int.gcd_dvd_left t b
  have h2 : (Int.gcd t b : Int) ∣ b := Int.gcd_dvd_right t b
  unfold gS
  split
  · rw [Int.zero_sub]; exact ⟨Int.neg_dvd.mpr h1, Int.neg_dvd.mpr h2⟩
  · exact ⟨h1, h2⟩
theorem fdiv_le {a g : Int} (hg : g ≠ 0) (hd : g ∣ a) : (a.fdiv g).natAbs ≤ a.natAbs := by
  obtain ⟨q, rfl⟩ := hd
  rw [Int.mul_fdiv_cancel_left _ hg, Int.natAbs_mul]
  exact Nat.le_mul_of_pos_left _ (by omega)
theorem fdiv_ne {a g : Int} (ha : a ≠ 0) (hg : g ≠ 0) (hd : g ∣ a) : a.fdiv g ≠ 0 := by
  obtain ⟨q, rfl⟩ := hd
  rw [Int.mul_fdiv_cancel_left _ hg]
  exact fun z => ha (by rw [z, Int.mul_zero])
theorem pT0 {b : Int} (hb : b ≠ 0) : pT 0 b = .tup [.int 0, .int 1] := by
  have e : gS 0 b = b := by
    unfold gS
    rw [Int.gcd_zero_left]
    split <;> omega
  unfold pT
  rw [e, Int.zero_fdiv, Int.fdiv_self hb]
theorem sm_of {a : Int} (h : a.natAbs < 2 ^ 700) : Sm a := Nat.lt_trans h (Nat.pow_lt_pow_right (by omega) (by omega))
theorem lt9 {a : Int} (h : a.natAbs < 2 ^ 700) : a.natAbs < 2 ^ 9000 := Nat.lt_trans h (Nat.pow_lt_pow_right (by omega) (by omega))
noncomputable def lB (call : Str → List T → FRes) : Fr → Out := oSeq (oAsg 4 (pX (eSl cutT (eVar 1) (oSome (eOp mulT (eC (T.int 12)) (eVar 3))) oNo)))
          (oSeq (oAsg 5 (pX (eCall (call ("_law_big")) (esCons (eVar 4) esNil))))
            (oSeq (oAsg 6 (pX (eCall (call ("_law_big")) (esCons (eSl cutT (eVar 4) (oSome (eC (T.int 4))) oNo) esNil))))
              (oSeq
                (oIf (pB (asBf (eOp eqT (eVar 6) (eC (T.int 0)))))
                  (oAsg 6 (pX (eOp addT (eC (T.int 1)) (eOp modT (eOp ixT (eVar 4) (eC (T.int 8))) (eC (T.int 9)))))) oNil)
                (oExpr (xApp 2 (pSlot 2) (eTup (esCons (eVar 5) (esCons (eVar 6) esNil))))))))
/-- a number and a bottom -/
def Rw (t b : Int) : Prop := t.natAbs < 2 ^ 700 ∧ b.natAbs < 2 ^ 700 ∧ b ≠ 0
theorem lB_ok (k : Nat) (xs : List Int) (hx : xs.length = 24) {s0 o4 o5 o6 s7 s8 s9 : Option T} (rows : List T) (hr : rows.length < 100) (j : Nat) (hj : j < 2) : ∃ t b : Int, Rw t b ∧
    ∃ o4', lB (tx.run (k + 1)) [s0, some (.lst (xs.map T.int)), some (.lst rows), some (.int j), o4, o5, o6, s7, s8, s9] = .nxt [s0, some (.lst (xs.map T.int)), some (.lst (rows ++ [.tup [.int t, .int b]])), some (.int j), o4', some (.int t), some (.int b), s7, s8, s9] := by
  have e12 : Nat.log2 12 + j.log2 < 1000000 := by
    have h1 : Nat.log2 12 < 12 := by decide
    have h2 : j.log2 < 12 := lg_small (by omega) (by omega)
    omega
  have c1 : cutL (xs.map T.int) (some (12 * (j : Int))) none = (xs.drop (12 * j)).map T.int := by
    have := cutL_drop (xs.map T.int) (12 * j)
    rw [List.map_drop, ← this]
    rfl
  generalize hd : xs.drop (12 * j) = d at c1
  have hdl : 12 ≤ d.length := by rw [← hd, List.length_drop]; omega
  have c2 : cutL (d.map T.int) (some 4) none = (d.drop 4).map T.int := by
    have := cutL_drop (d.map T.int) 4
    rw [List.map_drop, ← this]
    rfl
  obtain ⟨t, ht, et⟩ := big_ok k d (by omega)
  have hd4 : 4 ≤ (d.drop 4).length := by rw [List.length_drop]; omega
  generalize hde : d.drop 4 = d4 at c2 hd4
  obtain ⟨b, hb, eb⟩ := big_ok k d4 hd4
  have h8 : ∃ v, d[8]? = some v := ⟨d[8], List.getElem?_eq_getElem (by omega)⟩
  obtain ⟨v, h8⟩ := h8
  have i8 : ixT (.lst (d.map T.int)) (.int 8) = .ok (.int v) := ixT_lst (j := 8) (by rw [List.getElem?_map, h8]; rfl)
  have m8 := fm_lt (a := v) (b := 9) (by omega)
  have hz : rows.length < 16777216 := by omega
  by_cases h0 : b = 0
  · refine ⟨t, 1 + v.fmod 9, ⟨ht, ?_, by omega⟩, some (.lst (d.map T.int)), ?_⟩
    · have : (1 + v.fmod 9).natAbs < 2 ^ 4 := by omega
      exact Nat.lt_trans this (Nat.pow_lt_pow_right (by omega) (by omega))
    · subst h0
      simp [lB, oSeq, oAsg, oExpr, oRet, oIf, oNil, oTgt, oPar, pX, pB, xMove, eVar, eC, eOp, eAndR, eOrR, eNotR, eIfR, eNeg, esNil, esCons, eTup, eLst, eU, eA, oNo, oSome, eSl, eCall, fr2r, eImm, eImm1, iSeq, iRng, iZip2, iEnumR, gSet, gsNil, gsCons, gSeq, ttYes, tAndR, tOrR, tNotR, tTru, asB, asBf, Res.bind, Out.and, xApp, xApp1, xApp2, doR, appT, T.isL, pSlot, subT, mulT, fdivT, modT, powT, addT, addL, ltT, leT, gtT, geT, b2r, truT, e12, cutT, c1, c2, et, eb, eqT_int, i8, hz, sizeLine]
  · refine ⟨t, b, ⟨ht, hb, h0⟩, some (.lst (d.map T.int)), ?_⟩
    simp [lB, oSeq, oAsg, oExpr, oRet, oIf, oNil, oTgt, oPar, pX, pB, xMove, eVar, eC, eOp, eAndR, eOrR, eNotR, eIfR, eNeg, esNil, esCons, eTup, eLst, eU, eA, oNo, oSome, eSl, eCall, fr2r, eImm, eImm1, iSeq, iRng, iZip2, iEnumR, gSet, gsNil, gsCons, gSeq, ttYes, tAndR, tOrR, tNotR, tTru, asB, asBf, Res.bind, Out.and, xApp, xApp1, xApp2, doR, appT, T.isL, pSlot, subT, mulT, fdivT, modT, powT, addT, addL, ltT, leT, gtT, geT, b2r, truT, e12, cutT, c1, c2, et, eb, eqT_int, h0, hz, sizeLine]
theorem law_true : ∀ ns : List Int, ns.length ≤ 63 → ∃ outs, tx.run 8 "law" [.scr ns] = .ok (.bl true) outs := by
  intro ns _
  obtain ⟨xs, hx, _, ef⟩ := feed_ok 6 ns 24 (by omega)
  obtain ⟨t1, b1, ⟨ht1, hb1, hn1⟩, o4, e1⟩ := lB_ok 6 xs hx (s0 := some (.scr ns)) (o4 := none) (o5 := none) (o6 := none) (s7 := none) (s8 := none) (s9 := none) [] (by simp) 0 (by omega)
  obtain ⟨t2, b2, ⟨ht2, hb2, hn2⟩, o4', e2⟩ := lB_ok 6 xs hx (s0 := some (.scr ns)) (o4 := o4) (o5 := some (.int t1)) (o6 := some (.int b1)) (s7 := none) (s8 := none) (s9 := none) [.tup [.int t1, .int b1]] (by simp) 1 (by omega)
  -- the two parts
  have g1 := gS_ne (t := t1) hn1
  have g2 := gS_ne (t := t2) hn2
  have l1 := low_ok 6 t1 b1 hn1 (lt9 hb1)
  have l2 := low_ok 6 t2 b2 hn2 (lt9 hb2)
  have p1 := part_ok 5 t1 b1 hn1 (lt9 hb1)
  have p2 := part_ok 5 t2 b2 hn2 (lt9 hb2)
  have z1 := part_ok 5 0 b1 hn1 (lt9 hb1)
  have z2 := part_ok 5 0 b2 hn2 (lt9 hb2)
  rw [pT0 hn1] at z1
  rw [pT0 hn2] at z2
  obtain ⟨a, ha1, ha2, ha3, ha4⟩ : ∃ a : Int × Int, pT t1 b1 = pr a ∧ Sm a.1 ∧ Sm a.2 ∧ a.2 ≠ 0 := ⟨(t1.fdiv (gS t1 b1), b1.fdiv (gS t1 b1)), rfl, sm_of (Nat.lt_of_le_of_lt (fdiv_le g1 (gS_dvd _ _).1) ht1), sm_of (Nat.lt_of_le_of_lt (fdiv_le g1 (gS_dvd _ _).2) hb1), fdiv_ne hn1 g1 (gS_dvd _ _).2⟩
  obtain ⟨c, hc1, hc2, hc3, hc4⟩ : ∃ a : Int × Int, pT t2 b2 = pr a ∧ Sm a.1 ∧ Sm a.2 ∧ a.2 ≠ 0 := ⟨(t2.fdiv (gS t2 b2), b2.fdiv (gS t2 b2)), rfl, sm_of (Nat.lt_of_le_of_lt (fdiv_le g2 (gS_dvd _ _).1) ht2), sm_of (Nat.lt_of_le_of_lt (fdiv_le g2 (gS_dvd _ _).2) hb2), fdiv_ne hn2 g2 (gS_dvd _ _).2⟩
  rw [ha1] at l1 p1
  rw [hc1] at l2 p2
  have q1 := plus_ok 4 a c ha2 ha3 hc2 hc3 ha4 hc4
  have q2 := times_ok 4 a c ha2 ha3 hc2 hc3 ha4 hc4
  have q3 := minus_ok 4 a c ha2 ha3 hc2 hc3 ha4 hc4
  have q4 := less_ok 6 a c ha2 ha3 hc2 hc3 ha4 hc4
  have q5 := less_ok 6 a a ha2 ha3 ha2 ha3 ha4 ha4
  have q6 := less_ok 6 c a hc2 hc3 ha2 ha3 hc4 ha4
  have q7 := minus_ok 4 a a ha2 ha3 ha2 ha3 ha4 ha4
  have r1 := add_ok 5 a c ha2 ha3 hc2 hc3 ha4 hc4
  have r2 := mul_ok 5 a c ha2 ha3 hc2 hc3 ha4 hc4
  have r3 := add_ok 5 a (0 - c.1, c.2) ha2 ha3 (by show (0 - c.1).natAbs < _; rw [Int.zero_sub, Int.natAbs_neg]; exact hc2) hc3 ha4 hc4
  have r4 := lless_ok 6 a c ha2 ha3 hc2 hc3 ha4 hc4
  have r5 := lless_ok 6 c a hc2 hc3 ha2 ha3 hc4 ha4
  rw [Int.sub_self, pT0 (Int.mul_ne_zero ha4 ha4)] at q7
  rw [show a.1 * c.2 - c.1 * a.2 = a.1 * c.2 + (0 - c.1) * a.2 by rw [Int.zero_sub, Int.neg_mul, Int.sub_eq_add_neg]] at q3
  have s1 : ∀ t b, tx.run 7 "_law_same" [pT t b, pT t b] = .ok (.bl true) [.non, .non] := fun t b => same_pair 5 _ _
  have s2 : ∀ p, tx.run 7 "_law_same" [pr p, pr p] = .ok (.bl true) [.non, .non] := fun p => same_pair 5 _ _
  have s3 := same_bl 6
  have s4 := same_pair 5 0 1
  have hlt : decide (a.1 * a.2 < a.1 * a.2) = false := by simp
  rw [hlt] at q5
  have ef : tx.run 7 "_law_feed" [.scr ns, .int 24] = .ok (.lst (xs.map T.int)) [.non, .non] := ef
  simp only [Nat.reduceAdd] at l1 l2 p1 p2 z1 z2 q1 q2 q3 q4 q5 q6 q7 r1 r2 r3 r4 r5 s3 s4
  refine ⟨[.non], ?_⟩
  rw [run_law]
  have f1 : forA (gSet 3) (lB (tx.run 7)) [.int 0, .int 1] [some (.scr ns), some (.lst (xs.map T.int)), some (.lst []), none, none, none, none, none, none, none] = .nxt [some (.scr ns), some (.lst (xs.map T.int)), some (.lst [.tup [.int t1, .int b1], .tup [.int t2, .int b2]]), some (.int 1), o4', some (.int t2), some (.int b2), none, none, none] := by
    have h0 : gSet 3 (.int 0) [some (.scr ns), some (.lst (xs.map T.int)), some (.lst []), none, none, none, none, none, none, none] = .ok [some (.scr ns), some (.lst (xs.map T.int)), some (.lst []), some (.int 0), none, none, none, none, none, none] := rfl
    have h1 : gSet 3 (.int 1) [some (.scr ns), some (.lst (xs.map T.int)), some (.lst [.tup [.int t1, .int b1]]), some (.int 0), o4, some (.int t1), some (.int b1), none, none, none] = .ok [some (.scr ns), some (.lst (xs.map T.int)), some (.lst [.tup [.int t1, .int b1]]), some (.int 1), o4, some (.int t1), some (.int b1), none, none, none] := rfl
    unfold forA
    rw [h0]
    show (lB (tx.run 7) [some (.scr ns), some (.lst (xs.map T.int)), some (.lst []), some (.int (0 : Nat)), none, none, none, none, none, none]).and (forA (gSet 3) (lB (tx.run 7)) [.int 1]) = _
    rw [e1]
    show forA (gSet 3) (lB (tx.run 7)) [.int 1] [some (.scr ns), some (.lst (xs.map T.int)), some (.lst [.tup [.int t1, .int b1]]), some (.int 0), o4, some (.int t1), some (.int b1), none, none, none] = _
    unfold forA
    rw [h1]
    show (lB (tx.run 7) [some (.scr ns), some (.lst (xs.map T.int)), some (.lst [.tup [.int t1, .int b1]]), some (.int (1 : Nat)), o4, some (.int t1), some (.int b1), none, none, none]).and (forA (gSet 3) (lB (tx.run 7)) []) = _
    rw [e2]
    rfl
  have f2 : oFor (iRng (eC (T.int 2))) (gSet 3) (lB (tx.run 7)) [some (.scr ns), some (.lst (xs.map T.int)), some (.lst []), none, none, none, none, none, none, none] = .nxt [some (.scr ns), some (.lst (xs.map T.int)), some (.lst [.tup [.int t1, .int b1], .tup [.int t2, .int b2]]), some (.int 1), o4', some (.int t2), some (.int b2), none, none, none] := (oFor_ok (ts := [.int 0, .int 1]) rfl).trans f1
  unfold lB at f2
  unfold runD g_law
  rw [oSeq_nxt (ν' := [some (.scr ns), some (.lst (xs.map T.int)), none, none, none, none, none, none, none, none]) (by simp [start0, oSeq, oAsg, oExpr, oRet, oIf, oNil, oTgt, oPar, pX, pB, xMove, eVar, eC, eOp, eAndR, eOrR, eNotR, eIfR, eNeg, esNil, esCons, eTup, eLst, eU, eA, oNo, oSome, eSl, eCall, fr2r, eImm, eImm1, iSeq, iRng, iZip2, iEnumR, gSet, gsNil, gsCons, gSeq, ttYes, tAndR, tOrR, tNotR, tTru, asB, asBf, Res.bind, Out.and, xApp, xApp1, xApp2, doR, appT, T.isL, pSlot, subT, mulT, fdivT, modT, powT, addT, addL, ltT, leT, gtT, geT, b2r, truT, ef]), oSeq_nxt (ν' := [some (.scr ns), some (.lst (xs.map T.int)), some (.lst []), none, none, none, none, none, none, none]) (by simp [oSeq, oAsg, oExpr, oRet, oIf, oNil, oTgt, oPar, pX, pB, xMove, eVar, eC, eOp, eAndR, eOrR, eNotR, eIfR, eNeg, esNil, esCons, eTup, eLst, eU, eA, oNo, oSome, eSl, eCall, fr2r, eImm, eImm1, iSeq, iRng, iZip2, iEnumR, gSet, gsNil, gsCons, gSeq, ttYes, tAndR, tOrR, tNotR, tTru, asB, asBf, Res.bind, Out.and, xApp, xApp1, xApp2, doR, appT, T.isL, pSlot, subT, mulT, fdivT, modT, powT, addT, addL, ltT, leT, gtT, geT, b2r, truT, sizeLine]), oSeq_nxt f2]
  have sz : (2 : Nat) ≤ sizeLine := sz2
  have im : ∀ p, (pr p).imm = true := fun p => rfl
  rw [oSeq_nxt (ν' := [some (.scr ns), some (.lst (xs.map T.int)), some (.lst [.tup [.int t1, .int b1], .tup [.int t2, .int b2]]), some (.int 1), o4', some (.int t2), some (.int b2), some (pr a), some (pr c), none]) (by
    simp [oSeq, oAsg, oExpr, oRet, oIf, oNil, oTgt, oPar, pX, pB, xMove, eVar, eC, eOp, eAndR, eOrR, eNotR, eIfR, eNeg, esNil, esCons, eTup, eLst, eU, eA, oNo, oSome, eSl, eCall, fr2r, eImm, eImm1, iSeq, iRng, iZip2, iEnumR, gSet, gsNil, gsCons, gSeq, ttYes, tAndR, tOrR, tNotR, tTru, asB, asBf, Res.bind, Out.and, xApp, xApp1, xApp2, doR, appT, T.isL, pSlot, subT, mulT, fdivT, modT, powT, addT, addL, ltT, leT, gtT, geT, b2r, truT, eComp, itemsT, compA, turnR, wipeF, lstR, sz, l1, l2, T.imm1, immL, im])]
  rw [oSeq_nxt (ν' := [some (.scr ns), some (.lst (xs.map T.int)), some (.lst [.tup [.int t1, .int b1], .tup [.int t2, .int b2]]), some (.int 1), o4', some (.int t2), some (.int b2), some (pr a), some (pr c), some (pr c)]) (by
    simp [oFor, forA, zipT, pairT, oSeq, oAsg, oExpr, oRet, oIf, oNil, oTgt, oPar, pX, pB, xMove, eVar, eC, eOp, eAndR, eOrR, eNotR, eIfR, eNeg, esNil, esCons, eTup, eLst, eU, eA, oNo, oSome, eSl, eCall, fr2r, eImm, eImm1, iSeq, iRng, iZip2, iEnumR, gSet, gsNil, gsCons, gSeq, ttYes, tAndR, tOrR, tNotR, tTru, asB, asBf, Res.bind, Out.and, xApp, xApp1, xApp2, doR, appT, T.isL, pSlot, subT, mulT, fdivT, modT, powT, addT, addL, ltT, leT, gtT, geT, b2r, truT, sz, p1, p2, z1, z2, s2, s4])]
  rw [oSeq_nxt (ν' := [some (.scr ns), some (.lst (xs.map T.int)), some (.lst [.tup [.int t1, .int b1], .tup [.int t2, .int b2]]), some (.int 1), o4', some (.int t2), some (.int b2), some (pr a), some (pr c), some (pr c)]) (by
    simp [oSeq, oAsg, oExpr, oRet, oIf, oNil, oTgt, oPar, pX, pB, xMove, eVar, eC, eOp, eAndR, eOrR, eNotR, eIfR, eNeg, esNil, esCons, eTup, eLst, eU, eA, oNo, oSome, eSl, eCall, fr2r, eImm, eImm1, iSeq, iRng, iZip2, iEnumR, gSet, gsNil, gsCons, gSeq, ttYes, tAndR, tOrR, tNotR, tTru, asB, asBf, Res.bind, Out.and, xApp, xApp1, xApp2, doR, appT, T.isL, pSlot, subT, mulT, fdivT, modT, powT, addT, addL, ltT, leT, gtT, geT, b2r, truT, q1, q2, r1, r2, s1])]
  have i0 : ixT (pr c) (.int 0) = .ok (.int c.1) := rfl
  have i1 : ixT (pr c) (.int 1) = .ok (.int c.2) := rfl
  have r3' : tx.run 7 "_law_add" [pr a, .tup [.int (0 - c.1), .int c.2]] = .ok (pT (a.1 * c.2 + (0 - c.1) * a.2) (a.2 * c.2)) [.non, .non] := r3
  rw [oSeq_nxt (ν' := [some (.scr ns), some (.lst (xs.map T.int)), some (.lst [.tup [.int t1, .int b1], .tup [.int t2, .int b2]]), some (.int 1), o4', some (.int t2), some (.int b2), some (pr a), some (pr c), some (pr c)]) (by
    rw [Int.zero_sub] at q3 r3'
    simp [oSeq, oAsg, oExpr, oRet, oIf, oNil, oTgt, oPar, pX, pB, xMove, eVar, eC, eOp, eAndR, eOrR, eNotR, eIfR, eNeg, esNil, esCons, eTup, eLst, eU, eA, oNo, oSome, eSl, eCall, fr2r, eImm, eImm1, iSeq, iRng, iZip2, iEnumR, gSet, gsNil, gsCons, gSeq, ttYes, tAndR, tOrR, tNotR, tTru, asB, asBf, Res.bind, Out.and, xApp, xApp1, xApp2, doR, appT, T.isL, pSlot, subT, mulT, fdivT, modT, powT, addT, addL, ltT, leT, gtT, geT, b2r, truT, q3, r3', i0, i1, sz, s1])]
  rw [oSeq_nxt (ν' := [some (.scr ns), some (.lst (xs.map T.int)), some (.lst [.tup [.int t1, .int b1], .tup [.int t2, .int b2]]), some (.int 1), o4', some (.int t2), some (.int b2), some (pr a), some (pr c), some (pr c)]) (by
    simp [oSeq, oAsg, oExpr, oRet, oIf, oNil, oTgt, oPar, pX, pB, xMove, eVar, eC, eOp, eAndR, eOrR, eNotR, eIfR, eNeg, esNil, esCons, eTup, eLst, eU, eA, oNo, oSome, eSl, eCall, fr2r, eImm, eImm1, iSeq, iRng, iZip2, iEnumR, gSet, gsNil, gsCons, gSeq, ttYes, tAndR, tOrR, tNotR, tTru, asB, asBf, Res.bind, Out.and, xApp, xApp1, xApp2, doR, appT, T.isL, pSlot, subT, mulT, fdivT, modT, powT, addT, addL, ltT, leT, gtT, geT, b2r, truT, q4, q5, r4, s3])]
  simp [oSeq, oAsg, oExpr, oRet, oIf, oNil, oTgt, oPar, pX, pB, xMove, eVar, eC, eOp, eAndR, eOrR, eNotR, eIfR, eNeg, esNil, esCons, eTup, eLst, eU, eA, oNo, oSome, eSl, eCall, fr2r, eImm, eImm1, iSeq, iRng, iZip2, iEnumR, gSet, gsNil, gsCons, gSeq, ttYes, tAndR, tOrR, tNotR, tTru, asB, asBf, Res.bind, Out.and, xApp, xApp1, xApp2, doR, appT, T.isL, pSlot, subT, mulT, fdivT, modT, powT, addT, addL, ltT, leT, gtT, geT, b2r, truT, q6, q7, r5, s3, s4, sz, frOf, outsO]
end K

open PySem PySem.W PySem.Calls PyProof.Rows
theorem PySem.Challenge.cw_dunnage_k01_parts_reckoned_holds : PySem.Challenge.rw_dunnage_k01_parts_reckoned.Holds := by
  w_on; o_law
  refine HandSHeadRun.head_any (r := OpenLaw.row PySem.Challenge.rw_dunnage_k01_parts_reckoned) (q := view (OpenLaw.row PySem.Challenge.rw_dunnage_k01_parts_reckoned).prog [15]) (H := K.hk) (ob := K.ob) (M := 20000) (loose := K.loose) (d := HandSHeadRun.topDef (OpenLaw.row PySem.Challenge.rw_dunnage_k01_parts_reckoned).prog 15) (kwd := []) K.ob_eq
    (by kernel_rfl) (fun s => by kernel_rfl) K.run (by kernel_rfl) (by kernel_rfl) (by kernel_rfl) (by rfl) (by first | assumption | decide +kernel) (by decide +kernel) ⟨rfl, rfl, rfl, rfl, rfl, by decide +kernel⟩ ?hw ?hc
  case hw => w_witness2
  case hc =>
    refine L2.walk_ofE (l := PySem.Challenge.rw_dunnage_k01_parts_reckoned) (n := 63) (k := 8) (x := "_law_script") (CX := VI.CXe) rfl (by decide) (by kernel_rfl) ⟨rfl, by decide, by decide⟩ ?F VI.cxe_end
    intro w mg fa h Y G hmg0
    obtain ⟨Kf, KX, c⟩ := Y
    have hmg : mg ("law" : PySem.Str) = some (.ref fa) := by
      have e : (HandSHeadRun.topDef (OpenLaw.row PySem.Challenge.rw_dunnage_k01_parts_reckoned).prog 15).name = ("law" : PySem.Str) := by kernel_rfl
      rw [← e]
      exact hmg0
    obtain ⟨fd, hb, hF⟩ := K.facts (P := (PySem.Challenge.rw_dunnage_k01_parts_reckoned).prog) (w := w) KX G hmg c
    exact ⟨Kf, fd, _, KX, hb, VI.law_sp rfl rfl K.law_true, hF⟩

