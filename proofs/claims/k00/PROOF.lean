import PyProof.Rows.All
import Wide.All
import OpenK.AllK
import Wide.FinOn
import HandS.ForMost
import HandS.Wide
import HandS.Gcd
import HandS.IsInst
import HandS.TupAny
import HandS.Zip
import HandS.Conv
import HandS.EndBits
import HandS.ForExc
import HandS.CallSlots
import HandS.Flow
import HandS.TupLe
import HandS.Deep
import PySem.Challenge.RW_whateverthenumbers_k00_points_in_lowest
set_option Elab.async false
set_option linter.all false
set_option maxRecDepth 100000
/-! Mir1: deep values, worlds, what a value stands for. -/
namespace Mir
open PySem L2

/-- deep values -/
inductive D where
  | non | bl (b : Bool) | int (i : Int) | str (x : Str) | ty (n : String) | cls (x : Str)
  | tup (xs : List D) | lst (xs : List D) | obj (c : Str) (fs : List (Str × D)) | scr (xs : List D)
/-- values with parts that are owned (changed in place) -/
inductive T where
  | pl (d : D) | ol (xs : List D) | oo (c : Str) (fs : List (Str × T))

mutual
def T.frz : T → D
  | .pl d => d
  | .ol xs => .lst xs
  | .oo c fs => .obj c (T.frzF fs)
def T.frzF : List (Str × T) → List (Str × D)
  | [] => []
  | (x, t) :: r => (x, T.frz t) :: T.frzF r
end

abbrev Slots := List (Option T)
/-- an exception: its class's name, its fields -/
structure Exn where
  c : Str
  fs : List (Str × D)
inductive Out (α : Type) where
  | ok (a : α) (env : Slots) | ex (x : Exn) (env : Slots) | no
abbrev M (α : Type) := Slots → Out α
/-- flows of a statement -/
inductive Fl where
  | nx | bk | ct | rt (t : T)
abbrev MS := M Fl
/-- pure reading -/
abbrev Rd (α : Type) := Slots → Option α

/-! ### worlds -/
structure Wd where
  F : Addr → Prop
  H : Hp
  own : List Addr
structure Wd.Ok (w : Wd) : Prop where
  nd : w.own.Nodup
  nf : ∀ b ∈ w.own, ¬ w.F b
  so : ∀ b ∈ w.own, w.H b ≠ none
  fs : ∀ b, w.F b → w.H b ≠ none
structure Go (w w' : Wd) : Prop where
  keep : ∀ b o, w.H b = some o → b ∉ w.own → w'.H b = some o
  grow : ∀ b, w.F b → w'.F b
  newF : ∀ b, w'.F b → w.F b ∨ b ∈ w.own ∨ w.H b = none
  newO : ∀ b ∈ w'.own, b ∈ w.own ∨ w.H b = none
  ok : w'.Ok
/-- .. and what is owned stands as it stood -/
structure GoR (w w' : Wd) : Prop extends Go w w' where
  all : ∀ b o, w.H b = some o → w'.H b = some o
structure Le (F : Addr → Prop) (H : Hp) (F' : Addr → Prop) (H' : Hp) : Prop where
  grow : ∀ b, F b → F' b
  keep : ∀ b o, F b → H b = some o → H' b = some o

theorem some_of_ne {H : Hp} {b : Addr} (h : H b ≠ none) : ∃ o, H b = some o := by
  cases e : H b with
  | none => exact absurd e h
  | some o => exact ⟨o, rfl⟩

theorem Le.refl (F : Addr → Prop) (H : Hp) : Le F H F H := ⟨fun _ h => h, fun _ _ _ h => h⟩
theorem Le.trans {F H F1 H1 F2 H2} (a : Le F H F1 H1) (b : Le F1 H1 F2 H2) : Le F H F2 H2 :=
  ⟨fun x h => b.grow x (a.grow x h), fun x o h e => b.keep x o (a.grow x h) (a.keep x o h e)⟩
theorem Go.le {w w' : Wd} (ok : w.Ok) (g : Go w w') : Le w.F w.H w'.F w'.H :=
  ⟨g.grow, fun b o hf e => g.keep b o e fun hb => ok.nf b hb hf⟩
theorem Go.refl {w : Wd} (ok : w.Ok) : Go w w := ⟨fun _ _ e _ => e, fun _ h => h, fun _ h => .inl h, fun _ h => .inl h, ok⟩
theorem GoR.refl {w : Wd} (ok : w.Ok) : GoR w w := ⟨Go.refl ok, fun _ _ e => e⟩
theorem Go.trans {w w1 w2 : Wd} (a : Go w w1) (b : Go w1 w2) : Go w w2 := by
  have key : ∀ c, w1.H c = none → c ∈ w.own ∨ w.H c = none := fun c hc => by
    cases e : w.H c with
    | none => exact .inr rfl
    | some o =>
      by_cases hm : c ∈ w.own
      · exact .inl hm
      · have := a.keep c o e hm
        rw [hc] at this; cases this
  refine ⟨fun c o e hc => ?_, fun c h => b.grow c (a.grow c h), fun c h => ?_, fun c h => ?_, b.ok⟩
  · refine b.keep c o (a.keep c o e hc) fun hm => ?_
    rcases a.newO c hm with z | z
    · exact hc z
    · rw [e] at z; cases z
  · rcases b.newF c h with z | z | z
    · exact a.newF c z
    · exact .inr (a.newO c z)
    · exact .inr (key c z)
  · rcases b.newO c h with z | z
    · exact a.newO c z
    · exact key c z
theorem GoR.trans {w w1 w2 : Wd} (a : GoR w w1) (b : GoR w1 w2) : GoR w w2 := ⟨a.toGo.trans b.toGo, fun c o e => b.all c o (a.all c o e)⟩
/-- owned things that the step does not know stay owned -/
theorem Go.ctx {F H as F' H' as'} {c : List Addr} (g : Go ⟨F, H, as⟩ ⟨F', H', as'⟩) (ok : Wd.Ok ⟨F, H, as ++ c⟩) : Go ⟨F, H, as ++ c⟩ ⟨F', H', as' ++ c⟩ := by
  obtain ⟨nd, nf, so, fs⟩ := ok
  have nd' := List.nodup_append.mp nd
  have hc : ∀ b ∈ c, b ∉ as := fun b hb ha => nd'.2.2 b ha b hb rfl
  have hcF : ∀ b ∈ c, ¬ F' b := fun b hb hF => by
    rcases g.newF b hF with z | z | z
    · exact nf b (List.mem_append_right _ hb) z
    · exact hc b hb z
    · exact so b (List.mem_append_right _ hb) z
  have hcO : ∀ b ∈ c, b ∉ as' := fun b hb ho => by
    rcases g.newO b ho with z | z
    · exact hc b hb z
    · exact so b (List.mem_append_right _ hb) z
  refine ⟨fun b o e hb => g.keep b o e fun z => hb (List.mem_append_left _ z), g.grow, fun b h => ?_, fun b h => ?_, ?_, ?_, ?_, g.ok.fs⟩
  · rcases g.newF b h with z | z | z
    · exact .inl z
    · exact .inr (.inl (List.mem_append_left _ z))
    · exact .inr (.inr z)
  · rcases List.mem_append.mp h with z | z
    · rcases g.newO b z with y | y
      · exact .inl (List.mem_append_left _ y)
      · exact .inr y
    · exact .inl (List.mem_append_right _ z)
  · exact List.nodup_append.mpr ⟨g.ok.nd, nd'.2.1, fun a ha b hb e => hcO b hb (e ▸ ha)⟩
  · intro b hb
    rcases List.mem_append.mp hb with z | z
    · exact g.ok.nf b z
    · exact hcF b z
  · intro b hb
    rcases List.mem_append.mp hb with z | z
    · exact g.ok.so b z
    · obtain ⟨o, e⟩ := some_of_ne (so b (List.mem_append_right _ z))
      rw [g.keep b o e (hc b z)]
      exact fun q => nomatch q
/-- fewer owned things -/
theorem Wd.Ok.sub {F H l l'} (ok : Wd.Ok ⟨F, H, l⟩) (nd : l'.Nodup) (h : ∀ b ∈ l', b ∈ l) : Wd.Ok ⟨F, H, l'⟩ :=
  ⟨nd, fun b hb => ok.nf b (h b hb), fun b hb => ok.so b (h b hb), ok.fs⟩
theorem Go.sub {w : Wd} {F H l l'} (g : Go w ⟨F, H, l⟩) (nd : l'.Nodup) (h : ∀ b ∈ l', b ∈ l) : Go w ⟨F, H, l'⟩ :=
  ⟨g.keep, g.grow, g.newF, fun b hb => g.newO b (h b hb), g.ok.sub nd h⟩
/-- the same owned things in another order at the start, or more of them -/
theorem Go.src {F H l l'} {w' : Wd} (g : Go ⟨F, H, l⟩ w') (h : ∀ b ∈ l, b ∈ l') : Go ⟨F, H, l'⟩ w' :=
  ⟨fun b o e hb => g.keep b o e fun z => hb (h b z), g.grow, fun b hb => (g.newF b hb).imp id (Or.imp (h b) id), fun b hb => (g.newO b hb).imp (h b) id, g.ok⟩

/-- a new thing laid, to be read only -/
theorem Wd.Ok.lay {F H l} {p : Addr} {o : HO} (ok : Wd.Ok ⟨F, H, l⟩) (hp : H p = none) : GoR ⟨F, H, l⟩ ⟨fun b => F b ∨ b = p, upd H p o, l⟩ := by
  have ne : ∀ b u, H b = some u → b ≠ p := fun b u e => ne_of_none e hp
  have all : ∀ b u, H b = some u → upd H p o b = some u := fun b u e => by rw [upd_ne (ne b u e)]; exact e
  have so' : ∀ b, H b ≠ none → upd H p o b ≠ none := fun b h => by
    obtain ⟨u, e⟩ := some_of_ne h
    rw [all b u e]; exact fun q => nomatch q
  refine ⟨⟨fun b u e _ => all b u e, fun b h => .inl h, fun b h => ?_, fun b h => .inl h, ok.nd, fun b hb h => ?_, fun b hb => so' b (ok.so b hb), fun b h => ?_⟩, all⟩
  · rcases h with h | rfl
    · exact .inl h
    · exact .inr (.inr hp)
  · rcases h with h | rfl
    · exact ok.nf b hb h
    · exact ok.so b hb hp
  · rcases h with h | rfl
    · exact so' b (ok.fs b h)
    · show upd H b o b ≠ none
      rw [upd_same]; exact fun q => nomatch q
/-- a new thing laid, owned -/
theorem Wd.Ok.layO {F H l} {p : Addr} {o : HO} (ok : Wd.Ok ⟨F, H, l⟩) (hp : H p = none) : Go ⟨F, H, l⟩ ⟨F, upd H p o, l ++ [p]⟩ := by
  have ne : ∀ b u, H b = some u → b ≠ p := fun b u e => ne_of_none e hp
  have all : ∀ b u, H b = some u → upd H p o b = some u := fun b u e => by rw [upd_ne (ne b u e)]; exact e
  have so' : ∀ b, H b ≠ none → upd H p o b ≠ none := fun b h => by
    obtain ⟨u, e⟩ := some_of_ne h
    rw [all b u e]; exact fun q => nomatch q
  have hpl : p ∉ l := fun h => ok.so p h hp
  refine ⟨fun b u e _ => all b u e, fun b h => h, fun b h => .inl h, fun b h => ?_, ?_, fun b hb h => ?_, fun b hb => ?_, fun b h => so' b (ok.fs b h)⟩
  · rcases List.mem_append.mp h with z | z
    · exact .inl z
    · rw [List.mem_singleton.mp z]; exact .inr hp
  · exact List.nodup_append.mpr ⟨ok.nd, by simp, fun a ha b hb e => hpl (by rw [List.mem_singleton.mp hb] at e; exact e ▸ ha)⟩
  · rcases List.mem_append.mp hb with z | z
    · exact ok.nf b z h
    · rw [List.mem_singleton.mp z] at h; exact ok.fs p h hp
  · rcases List.mem_append.mp hb with z | z
    · exact so' b (ok.so b z)
    · rw [List.mem_singleton.mp z]
      show upd H p o p ≠ none
      rw [upd_same]; exact fun q => nomatch q
/-- an owned thing is changed -/
theorem Wd.Ok.mut {F H l} {a : Addr} {o : HO} (ok : Wd.Ok ⟨F, H, l⟩) (ha : a ∈ l) : Go ⟨F, H, l⟩ ⟨F, upd H a o, l⟩ := by
  have so' : ∀ b, H b ≠ none → upd H a o b ≠ none := fun b h => by
    by_cases e : b = a
    · rw [e, upd_same]; exact fun q => nomatch q
    · rw [upd_ne e]; exact h
  refine ⟨fun b u e hb => ?_, fun b h => h, fun b h => .inl h, fun b h => .inl h, ok.nd, ok.nf, fun b hb => so' b (ok.so b hb), fun b h => so' b (ok.fs b h)⟩
  show upd H a o b = some u
  rw [upd_ne (fun z => hb (by rw [z]; exact ha))]
  exact e
/-- owned things are not changed any more -/
theorem Wd.Ok.freeze {F H l c} (ok : Wd.Ok ⟨F, H, l ++ c⟩) : Go ⟨F, H, l ++ c⟩ ⟨fun b => F b ∨ b ∈ c, H, l⟩ := by
  have nd' := List.nodup_append.mp ok.nd
  refine ⟨fun b u e hb => e, fun b h => .inl h, fun b h => ?_, fun b h => .inl (List.mem_append_left _ h), nd'.1, fun b hb h => ?_, fun b hb => ok.so b (List.mem_append_left _ hb), fun b h => ?_⟩
  · rcases h with h | h
    · exact .inl h
    · exact .inr (.inl (List.mem_append_right _ h))
  · rcases h with h | h
    · exact ok.nf b (List.mem_append_left _ hb) h
    · exact nd'.2.2 b hb b h rfl
  · rcases h with h | h
    · exact ok.fs b h
    · exact ok.so b (List.mem_append_right _ h)

/-! ### what stands for what -/
def FT (K : PySem.W.Frag) (F : Addr → Prop) (H : Hp) (a : Addr) (vs : List V) : Prop := SqT K H a vs ∧ (F a ∨ SqT K (fun _ => none) a vs)
def FL (F : Addr → Prop) (H : Hp) (a : Addr) (vs : List V) : Prop := F a ∧ L2.Rd H a (.lst vs)
theorem rd_none {a : Addr} {u : HO} (h : L2.Rd (fun _ => none) a u) : False := by
  rcases h with h | ⟨o, h⟩ <;> exact nomatch h
theorem rd_keep {H H' : Hp} {a : Addr} {u : HO} (k : ∀ o, H a = some o → H' a = some o) (h : L2.Rd H a u) : L2.Rd H' a u := by
  rcases h with h | ⟨o, h⟩
  · exact .inl (k _ h)
  · exact .inr ⟨o, k _ h⟩
theorem FT.mono {K F H F' H' a vs} (l : Le F H F' H') (h : FT K F H a vs) : FT K F' H' a vs := by
  obtain ⟨s, f⟩ := h
  rcases f with f | f
  · refine ⟨?_, .inl (l.grow a f)⟩
    rcases s with s | s
    · exact .inl (rd_keep (fun o => l.keep a o f) s)
    · exact .inr s
  · refine ⟨?_, .inr f⟩
    rcases f with f | f
    · exact (rd_none f).elim
    · exact .inr f
theorem scr_mono {K F H F' H' a vs} (l : Le F H F' H') (h : SqL K H a vs ∧ (F a ∨ SqL K (fun _ => none) a vs)) : SqL K H' a vs ∧ (F' a ∨ SqL K (fun _ => none) a vs) := by
  obtain ⟨s, f⟩ := h
  rcases f with f | f
  · refine ⟨?_, .inl (l.grow a f)⟩
    rcases s with s | s
    · exact .inl (rd_keep (fun o => l.keep a o f) s)
    · exact .inr s
  · refine ⟨?_, .inr f⟩
    rcases f with f | f
    · exact (rd_none f).elim
    · exact .inr f
theorem FL.mono {F H F' H' a vs} (l : Le F H F' H') (h : FL F H a vs) : FL F' H' a vs := ⟨l.grow a h.1, rd_keep (fun o => l.keep a o h.1) h.2⟩

section
variable (K : PySem.W.Frag) (mg : Str → Option Value) (F : Addr → Prop) (H : Hp)
mutual
def Rep : D → V → Prop
  | .non, v => v = .non
  | .bl b, v => v = .bl b
  | .int i, v => v = .int i
  | .str x, v => v = .str x
  | .ty n, v => v = .ty n
  | .cls x, v => ∃ a, v = .ref a ∧ mg x = some (.ref a)
  | .tup ds, v => ∃ a vs, v = .ref a ∧ FT K F H a vs ∧ Reps ds vs
  | .lst ds, v => ∃ a vs, v = .ref a ∧ FL F H a vs ∧ Reps ds vs
  | .scr ds, v => ∃ a vs, v = .ref a ∧ (SqL K H a vs ∧ (F a ∨ SqL K (fun _ => none) a vs)) ∧ Reps ds vs
  | .obj c fs, v => ∃ a C dx vs, v = .ref a ∧ F a ∧ H a = some (.ins C dx vs) ∧ mg c = some (.ref C) ∧ RepF fs vs
def Reps : List D → List V → Prop
  | [], vs => vs = []
  | d :: ds, vs => ∃ v r, vs = v :: r ∧ Rep d v ∧ Reps ds r
def RepF : List (Str × D) → List (Str × V) → Prop
  | [], vs => vs = []
  | (x, d) :: ds, vs => ∃ v r, vs = (x, v) :: r ∧ Rep d v ∧ RepF ds r
end
mutual
def RepT : T → V → List Addr → Prop
  | .pl d, v, as => as = [] ∧ Rep K mg F H d v
  | .ol ds, v, as => ∃ a vs, v = .ref a ∧ as = [a] ∧ H a = some (.lst vs) ∧ Reps K mg F H ds vs
  | .oo c fs, v, as => ∃ a C dx vs r, v = .ref a ∧ as = a :: r ∧ H a = some (.ins C dx vs) ∧ mg c = some (.ref C) ∧ RepTF fs vs r
def RepTF : List (Str × T) → List (Str × V) → List Addr → Prop
  | [], vs, as => vs = [] ∧ as = []
  | (x, t) :: ts, vs, as => ∃ v r a1 a2, vs = (x, v) :: r ∧ as = a1 ++ a2 ∧ RepT t v a1 ∧ RepTF ts r a2
end
def RepE : Slots → St → List Addr → Prop
  | [], σ, as => σ = [] ∧ as = []
  | none :: e, σ, as => ∃ o r, σ = o :: r ∧ RepE e r as
  | some t :: e, σ, as => ∃ v r a1 a2, σ = some v :: r ∧ as = a1 ++ a2 ∧ RepT K mg F H t v a1 ∧ RepE e r a2
/-- a list of values with owned parts -/
def RepTs : List T → List V → List Addr → Prop
  | [], vs, as => vs = [] ∧ as = []
  | t :: ts, vs, as => ∃ v r a1 a2, vs = v :: r ∧ as = a1 ++ a2 ∧ RepT K mg F H t v a1 ∧ RepTs ts r a2
end

section
variable {K : PySem.W.Frag} {mg : Str → Option Value} {F F' : Addr → Prop} {H H' : Hp}
mutual
theorem Rep.mono (l : Le F H F' H') : ∀ {d : D} {v : V}, Rep K mg F H d v → Rep K mg F' H' d v
  | .non, v, h => by unfold Rep at h ⊢; exact h
  | .bl b, v, h => by unfold Rep at h ⊢; exact h
  | .int i, v, h => by unfold Rep at h ⊢; exact h
  | .str x, v, h => by unfold Rep at h ⊢; exact h
  | .ty n, v, h => by unfold Rep at h ⊢; exact h
  | .cls x, v, h => by unfold Rep at h ⊢; exact h
  | .tup ds, v, h => by
    unfold Rep at h ⊢
    obtain ⟨a, vs, e, f, r⟩ := h
    exact ⟨a, vs, e, f.mono l, Reps.mono l r⟩
  | .lst ds, v, h => by
    unfold Rep at h ⊢
    obtain ⟨a, vs, e, f, r⟩ := h
    exact ⟨a, vs, e, f.mono l, Reps.mono l r⟩
  | .scr ds, v, h => by
    unfold Rep at h ⊢
    obtain ⟨a, vs, e, f, r⟩ := h
    exact ⟨a, vs, e, scr_mono l f, Reps.mono l r⟩
  | .obj c fs, v, h => by
    unfold Rep at h ⊢
    obtain ⟨a, C, dx, vs, e, f, hh, hm, r⟩ := h
    exact ⟨a, C, dx, vs, e, l.grow a f, l.keep a _ f hh, hm, RepF.mono l r⟩
theorem Reps.mono (l : Le F H F' H') : ∀ {ds : List D} {vs : List V}, Reps K mg F H ds vs → Reps K mg F' H' ds vs
  | [], vs, h => by unfold Reps at h ⊢; exact h
  | d :: ds, vs, h => by
    unfold Reps at h ⊢
    obtain ⟨v, r, e, h1, h2⟩ := h
    exact ⟨v, r, e, Rep.mono l h1, Reps.mono l h2⟩
theorem RepF.mono (l : Le F H F' H') : ∀ {ds : List (Str × D)} {vs : List (Str × V)}, RepF K mg F H ds vs → RepF K mg F' H' ds vs
  | [], vs, h => by unfold RepF at h ⊢; exact h
  | (x, d) :: ds, vs, h => by
    unfold RepF at h ⊢
    obtain ⟨v, r, e, h1, h2⟩ := h
    exact ⟨v, r, e, Rep.mono l h1, RepF.mono l h2⟩
end
mutual
theorem RepT.mono (l : Le F H F' H') : ∀ {t : T} {v : V} {as : List Addr}, (∀ b ∈ as, ∀ o, H b = some o → H' b = some o) → RepT K mg F H t v as → RepT K mg F' H' t v as
  | .pl d, v, as, k, h => by unfold RepT at h ⊢; exact ⟨h.1, h.2.mono l⟩
  | .ol ds, v, as, k, h => by
    unfold RepT at h ⊢
    obtain ⟨a, vs, e, ea, hh, r⟩ := h
    exact ⟨a, vs, e, ea, k a (by rw [ea]; simp) _ hh, r.mono l⟩
  | .oo c fs, v, as, k, h => by
    unfold RepT at h ⊢
    obtain ⟨a, C, dx, vs, r, e, ea, hh, hm, q⟩ := h
    exact ⟨a, C, dx, vs, r, e, ea, k a (by rw [ea]; simp) _ hh, hm, RepTF.mono l (fun b hb => k b (by rw [ea]; exact List.mem_cons_of_mem _ hb)) q⟩
theorem RepTF.mono (l : Le F H F' H') : ∀ {ts : List (Str × T)} {vs : List (Str × V)} {as : List Addr}, (∀ b ∈ as, ∀ o, H b = some o → H' b = some o) → RepTF K mg F H ts vs as → RepTF K mg F' H' ts vs as
  | [], vs, as, k, h => by unfold RepTF at h ⊢; exact h
  | (x, t) :: ts, vs, as, k, h => by
    unfold RepTF at h ⊢
    obtain ⟨v, r, a1, a2, e, ea, h1, h2⟩ := h
    exact ⟨v, r, a1, a2, e, ea, RepT.mono l (fun b hb => k b (by rw [ea]; exact List.mem_append_left _ hb)) h1, RepTF.mono l (fun b hb => k b (by rw [ea]; exact List.mem_append_right _ hb)) h2⟩
end
theorem RepE.mono (l : Le F H F' H') : ∀ {e : Slots} {σ : St} {as : List Addr}, (∀ b ∈ as, ∀ o, H b = some o → H' b = some o) → RepE K mg F H e σ as → RepE K mg F' H' e σ as
  | [], σ, as, k, h => by unfold RepE at h ⊢; exact h
  | none :: e, σ, as, k, h => by
    unfold RepE at h ⊢
    obtain ⟨o, r, eσ, h2⟩ := h
    exact ⟨o, r, eσ, RepE.mono l k h2⟩
  | some t :: e, σ, as, k, h => by
    unfold RepE at h ⊢
    obtain ⟨v, r, a1, a2, eσ, ea, h1, h2⟩ := h
    exact ⟨v, r, a1, a2, eσ, ea, RepT.mono l (fun b hb => k b (by rw [ea]; exact List.mem_append_left _ hb)) h1, RepE.mono l (fun b hb => k b (by rw [ea]; exact List.mem_append_right _ hb)) h2⟩
theorem RepTs.mono (l : Le F H F' H') : ∀ {ts : List T} {vs : List V} {as : List Addr}, (∀ b ∈ as, ∀ o, H b = some o → H' b = some o) → RepTs K mg F H ts vs as → RepTs K mg F' H' ts vs as
  | [], σ, as, k, h => by unfold RepTs at h ⊢; exact h
  | t :: e, σ, as, k, h => by
    unfold RepTs at h ⊢
    obtain ⟨v, r, a1, a2, eσ, ea, h1, h2⟩ := h
    exact ⟨v, r, a1, a2, eσ, ea, RepT.mono l (fun b hb => k b (by rw [ea]; exact List.mem_append_left _ hb)) h1, RepTs.mono l (fun b hb => k b (by rw [ea]; exact List.mem_append_right _ hb)) h2⟩
/-! ### freezing -/
mutual
theorem RepT.frz : ∀ {t : T} {v : V} {as : List Addr}, RepT K mg F H t v as → (∀ b ∈ as, F b) → Rep K mg F H t.frz v
  | .pl d, v, as, h, k => by unfold RepT at h; unfold T.frz; exact h.2
  | .ol ds, v, as, h, k => by
    unfold RepT at h; unfold T.frz Rep
    obtain ⟨a, vs, e, ea, hh, r⟩ := h
    exact ⟨a, vs, e, ⟨k a (by rw [ea]; simp), .inl hh⟩, r⟩
  | .oo c fs, v, as, h, k => by
    unfold RepT at h; unfold T.frz Rep
    obtain ⟨a, C, dx, vs, r, e, ea, hh, hm, q⟩ := h
    exact ⟨a, C, dx, vs, e, k a (by rw [ea]; simp), hh, hm, RepTF.frz q fun b hb => k b (by rw [ea]; exact List.mem_cons_of_mem _ hb)⟩
theorem RepTF.frz : ∀ {ts : List (Str × T)} {vs : List (Str × V)} {as : List Addr}, RepTF K mg F H ts vs as → (∀ b ∈ as, F b) → RepF K mg F H (T.frzF ts) vs
  | [], vs, as, h, k => by unfold RepTF at h; unfold T.frzF RepF; exact h.1
  | (x, t) :: ts, vs, as, h, k => by
    unfold RepTF at h; unfold T.frzF RepF
    obtain ⟨v, r, a1, a2, e, ea, h1, h2⟩ := h
    exact ⟨v, r, e, RepT.frz h1 fun b hb => k b (by rw [ea]; exact List.mem_append_left _ hb), RepTF.frz h2 fun b hb => k b (by rw [ea]; exact List.mem_append_right _ hb)⟩
end
end
end Mir

/-! Mir2: judgements. -/
namespace Mir
open PySem L2

section
variable {K : PySem.W.Frag} {mg : Str → Option Value} {F F' : Addr → Prop} {H H' : Hp}
theorem nodup3 {l1 a l2 c : List Addr} (h : ((l1 ++ (a ++ l2)) ++ c).Nodup) : (l1 ++ (c ++ l2)).Nodup := by
  have h1 : ((l1 ++ l2) ++ c).Nodup := by
    refine List.Sublist.nodup ?_ h
    exact List.Sublist.append (List.Sublist.append (List.Sublist.refl _) (List.sublist_append_right _ _)) (List.Sublist.refl _)
  refine (List.Perm.nodup_iff ?_).mp h1
  rw [List.append_assoc]
  exact List.Perm.append_left _ List.perm_append_comm
theorem mem3 {l1 a l2 c : List Addr} {b : Addr} (h : b ∈ l1 ++ (c ++ l2)) : b ∈ (l1 ++ (a ++ l2)) ++ c := by
  simp only [List.mem_append] at h ⊢
  rcases h with h | h | h
  · exact .inl (.inl h)
  · exact .inr h
  · exact .inl (.inr (.inr h))
theorem RepE.length : ∀ {e : Slots} {σ : St} {as : List Addr}, RepE K mg F H e σ as → e.length = σ.length
  | [], σ, as, h => by unfold RepE at h; rw [h.1]; rfl
  | none :: e, σ, as, h => by
    unfold RepE at h
    obtain ⟨o, r, eσ, h2⟩ := h
    rw [eσ, List.length_cons, List.length_cons, RepE.length h2]
  | some t :: e, σ, as, h => by
    unfold RepE at h
    obtain ⟨v, r, a1, a2, eσ, ea, h1, h2⟩ := h
    rw [eσ, List.length_cons, List.length_cons, RepE.length h2]
/-- one slot seen apart -/
theorem RepE.at : ∀ {e : Slots} {σ : St} {as : List Addr} (i : Nat), RepE K mg F H e σ as → i < e.length → ∃ l1 a l2, as = l1 ++ (a ++ l2) ∧
    (∀ t, e[i]? = some (some t) → ∃ v, σ[i]? = some (some v) ∧ RepT K mg F H t v a) ∧ (e[i]? = some none → a = []) ∧
    ∀ (F' : Addr → Prop) (H' : Hp), Le F H F' H' → (∀ b ∈ l1 ++ l2, ∀ o, H b = some o → H' b = some o) →
      (∀ t' v' a', RepT K mg F' H' t' v' a' → RepE K mg F' H' (e.set i (some t')) (σ.set i (some v')) (l1 ++ (a' ++ l2))) ∧
      (∀ ov, RepE K mg F' H' (e.set i none) (σ.set i ov) (l1 ++ l2))
  | [], σ, as, i, h, hi => by simp at hi
  | none :: e, σ, as, 0, h, hi => by
    unfold RepE at h
    obtain ⟨o, r, eσ, h2⟩ := h
    subst eσ
    refine ⟨[], [], as, rfl, fun t q => by simp at q, fun _ => rfl, fun F' H' l k => ⟨fun t' v' a' q => ?_, fun ov => ?_⟩⟩
    · simp only [List.set_cons_zero]
      unfold RepE
      exact ⟨v', r, a', as, rfl, rfl, q, h2.mono l k⟩
    · simp only [List.set_cons_zero]
      unfold RepE
      exact ⟨ov, r, rfl, h2.mono l k⟩
  | some t :: e, σ, as, 0, h, hi => by
    unfold RepE at h
    obtain ⟨v, r, a1, a2, eσ, ea, h1, h2⟩ := h
    subst eσ
    refine ⟨[], a1, a2, ea, fun t q => ?_, fun q => by simp at q, fun F' H' l k => ⟨fun t' v' a' q => ?_, fun ov => ?_⟩⟩
    · simp at q; subst q; exact ⟨v, rfl, h1⟩
    · simp only [List.set_cons_zero]
      unfold RepE
      exact ⟨v', r, a', a2, rfl, rfl, q, h2.mono l k⟩
    · simp only [List.set_cons_zero]
      unfold RepE
      exact ⟨ov, r, rfl, h2.mono l k⟩
  | none :: e, σ, as, i + 1, h, hi => by
    unfold RepE at h
    obtain ⟨o, r, eσ, h2⟩ := h
    subst eσ
    obtain ⟨l1, a, l2, ea, g1, g2, g3⟩ := RepE.at i h2 (by simpa using hi)
    refine ⟨l1, a, l2, ea, fun t q => ?_, fun q => g2 (by simpa using q), fun F' H' l k => ⟨fun t' v' a' q => ?_, fun ov => ?_⟩⟩
    · obtain ⟨v, e1, e2⟩ := g1 t (by simpa using q)
      exact ⟨v, by simpa using e1, e2⟩
    · simp only [List.set_cons_succ]
      unfold RepE
      exact ⟨o, _, rfl, (g3 F' H' l k).1 t' v' a' q⟩
    · simp only [List.set_cons_succ]
      unfold RepE
      exact ⟨o, _, rfl, (g3 F' H' l k).2 ov⟩
  | some t :: e, σ, as, i + 1, h, hi => by
    unfold RepE at h
    obtain ⟨v, r, a1, a2, eσ, ea, h1, h2⟩ := h
    subst eσ
    obtain ⟨l1, a, l2, ea2, g1, g2, g3⟩ := RepE.at i h2 (by simpa using hi)
    subst ea2
    refine ⟨a1 ++ l1, a, l2, by rw [ea, List.append_assoc], fun t q => ?_, fun q => g2 (by simpa using q), fun F' H' l k => ?_⟩
    · obtain ⟨v, e1, e2⟩ := g1 t (by simpa using q)
      exact ⟨v, by simpa using e1, e2⟩
    · have k1 : ∀ b ∈ a1, ∀ o, H b = some o → H' b = some o := fun b hb => k b (by simp [hb])
      have k2 : ∀ b ∈ l1 ++ l2, ∀ o, H b = some o → H' b = some o := fun b hb => k b (by
        rcases List.mem_append.mp hb with z | z <;> simp [z])
      obtain ⟨q1, q2⟩ := g3 F' H' l k2
      refine ⟨fun t' v' a' q => ?_, fun ov => ?_⟩
      · simp only [List.set_cons_succ]
        unfold RepE
        exact ⟨v, _, a1, _, rfl, by rw [List.append_assoc], h1.mono l k1, q1 t' v' a' q⟩
      · simp only [List.set_cons_succ]
        unfold RepE
        exact ⟨v, _, a1, _, rfl, by rw [List.append_assoc], h1.mono l k1, q2 ov⟩
end

/-! ### what is wanted -/
section
variable (X : Cx) (W : WX)
def RepX (K : PySem.W.Frag) (mg : Str → Option Value) (F : Addr → Prop) (H : Hp) (x : Exn) (cls : Value) (d : Option Addr) : Prop :=
  (∃ C, mg x.c = some (.ref C) ∧ cls = .ref C) ∧ ((x.fs = [] ∧ d = none) ∨ ∃ dx fvs, d = some dx ∧ F dx ∧ H dx = some (.xd fvs) ∧ RepF K mg F H x.fs fvs)
/-- at the end of an expression -/
def PoE (F : Addr → Prop) (H : Hp) (as : List Addr) (σ : St) (Q : VK) : Out T → Prop
  | .ok t env' => ∀ F' H' v as' at', Go ⟨F, H, as⟩ ⟨F', H', as' ++ at'⟩ → RepE X.K X.mg F' H' env' σ as' → RepT X.K X.mg F' H' t v at' → Q v H'
  | .ex x env' => ∀ F' H' as' cls d, Go ⟨F, H, as⟩ ⟨F', H', as'⟩ → RepE X.K X.mg F' H' env' σ as' → RepX X.K X.mg F' H' x cls d → W cls d σ H'
  | .no => False
def tE (m : M T) : TE := fun σ H Q => ∃ F env as, Wd.Ok ⟨F, H, as⟩ ∧ RepE X.K X.mg F H env σ as ∧ PoE X W F H as σ Q (m env)
/-- a test -/
def PoB (F : Addr → Prop) (H : Hp) (as : List Addr) (σ : St) (Q : Bool → Hp → Prop) : Out Bool → Prop
  | .ok b env' => ∀ F' H' as', Go ⟨F, H, as⟩ ⟨F', H', as'⟩ → RepE X.K X.mg F' H' env' σ as' → Q b H'
  | .ex x env' => ∀ F' H' as' cls d, Go ⟨F, H, as⟩ ⟨F', H', as'⟩ → RepE X.K X.mg F' H' env' σ as' → RepX X.K X.mg F' H' x cls d → W cls d σ H'
  | .no => False
def tB (m : M Bool) : TT := fun σ H Q => ∃ F env as, Wd.Ok ⟨F, H, as⟩ ∧ RepE X.K X.mg F H env σ as ∧ PoB X W F H as σ Q (m env)
/-- arguments -/
def PoA (F : Addr → Prop) (H : Hp) (as : List Addr) (σ : St) (Q : List V → Hp → Prop) : Out (List T) → Prop
  | .ok ts env' => ∀ F' H' vs as' at', Go ⟨F, H, as⟩ ⟨F', H', as' ++ at'⟩ → RepE X.K X.mg F' H' env' σ as' → RepTs X.K X.mg F' H' ts vs at' → Q vs H'
  | .ex x env' => ∀ F' H' as' cls d, Go ⟨F, H, as⟩ ⟨F', H', as'⟩ → RepE X.K X.mg F' H' env' σ as' → RepX X.K X.mg F' H' x cls d → W cls d σ H'
  | .no => False
def tA (m : M (List T)) : TA := fun σ H Q => ∃ F env as, Wd.Ok ⟨F, H, as⟩ ∧ RepE X.K X.mg F H env σ as ∧ PoA X W F H as σ Q (m env)
/-- reading: nothing of the slots changes; the value may be (a part of) what a slot owns -/
def tR (m : Rd T) : TE := fun σ H Q => ∃ F env as, Wd.Ok ⟨F, H, as⟩ ∧ RepE X.K X.mg F H env σ as ∧ ∃ t, m env = some t ∧
  ∀ F' H' v at', GoR ⟨F, H, as⟩ ⟨F', H', as⟩ → RepT X.K X.mg F' H' t v at' → (∀ b ∈ at', b ∈ as) → Q v H'
def tRB (m : Rd Bool) : TT := fun σ H Q => ∃ F env as, Wd.Ok ⟨F, H, as⟩ ∧ RepE X.K X.mg F H env σ as ∧ ∃ b, m env = some b ∧
  ∀ F' H', GoR ⟨F, H, as⟩ ⟨F', H', as⟩ → Q b H'
def tRA (m : Rd (List T)) : TA := fun σ H Q => ∃ F env as, Wd.Ok ⟨F, H, as⟩ ∧ RepE X.K X.mg F H env σ as ∧ ∃ ts, m env = some ts ∧
  ∀ F' H' vs at', GoR ⟨F, H, as⟩ ⟨F', H', as⟩ → RepTs X.K X.mg F' H' ts vs at' → (∀ b ∈ at', b ∈ as) → Q vs H'
/-- a statement; fx: slots that stay -/
def PoS (fx : List Nat) (F : Addr → Prop) (H : Hp) (as : List Addr) (σ : St) (D : Ends) : Out Fl → Prop
  | .ok .nx env' => ∀ F' H' σ' as', (∀ i ∈ fx, σ'[i]? = σ[i]?) → Go ⟨F, H, as⟩ ⟨F', H', as'⟩ → RepE X.K X.mg F' H' env' σ' as' → D.nx σ' H'
  | .ok .bk env' => ∀ F' H' σ' as', (∀ i ∈ fx, σ'[i]? = σ[i]?) → Go ⟨F, H, as⟩ ⟨F', H', as'⟩ → RepE X.K X.mg F' H' env' σ' as' → D.bk σ' H'
  | .ok .ct env' => ∀ F' H' σ' as', (∀ i ∈ fx, σ'[i]? = σ[i]?) → Go ⟨F, H, as⟩ ⟨F', H', as'⟩ → RepE X.K X.mg F' H' env' σ' as' → D.ct σ' H'
  | .ok (.rt t) env' => ∀ F' H' σ' v as' at', (∀ i ∈ fx, σ'[i]? = σ[i]?) → Go ⟨F, H, as⟩ ⟨F', H', as' ++ at'⟩ → RepE X.K X.mg F' H' env' σ' as' → RepT X.K X.mg F' H' t v at' → D.rt v H'
  | .ex x env' => ∀ F' H' σ' as' cls d, (∀ i ∈ fx, σ'[i]? = σ[i]?) → Go ⟨F, H, as⟩ ⟨F', H', as'⟩ → RepE X.K X.mg F' H' env' σ' as' → RepX X.K X.mg F' H' x cls d → W cls d σ' H'
  | .no => False
def tS (fx : List Nat) (m : MS) : TS := fun D σ H => ∃ F env as, Wd.Ok ⟨F, H, as⟩ ∧ RepE X.K X.mg F H env σ as ∧ PoS X W fx F H as σ D (m env)
end

/-- consequence -/
theorem pe_imp {X : Cx} {e : Expr} {t u : TE} (h : PE X e t) (i : ∀ σ H Q, u σ H Q → t σ H Q) : PE X e u := ⟨fun pins s σ H Q I hu => h.run pins s σ H Q I (i σ H Q hu)⟩
theorem pt_imp {X : Cx} {e : Expr} {t u : TT} (h : PT X e t) (i : ∀ σ H Q, u σ H Q → t σ H Q) : PT X e u := ⟨fun pins s σ H Q I hu => h.run pins s σ H Q I (i σ H Q hu)⟩
theorem pw_imp {X : Cx} {e : Expr} {t u : TT} (h : PW X e t) (i : ∀ σ H Q, u σ H Q → t σ H Q) : PW X e u := ⟨fun wh pins s σ H Q I hu => h.run wh pins s σ H Q I (i σ H Q hu)⟩
theorem pa_imp {X : Cx} {e : List Expr} {t u : TA} (h : PA X e t) (i : ∀ σ H Q, u σ H Q → t σ H Q) : PA X e u := ⟨fun pos pins s σ H Q I hu => h.run pos pins s σ H Q I (i σ H Q hu)⟩
theorem ps_imp {X : Cx} {e : Stmt} {t u : TS} (h : PS X e t) (i : ∀ D σ H, u D σ H → t D σ H) : PS X e u := ⟨fun pins s σ H D I hu => h.run pins s σ H D I (i D σ H hu)⟩
theorem pss_imp {X : Cx} {e : List Stmt} {t u : TS} (h : PSs X e t) (i : ∀ D σ H, u D σ H → t D σ H) : PSs X e u := ⟨fun pins s σ H D I hu => h.run pins s σ H D I (i D σ H hu)⟩
end Mir

/-! Mir3: operations on values, their rules as reading and as doing. -/
namespace Mir
open PySem L2

def M.bind {α β : Type} (m : M α) (k : α → M β) : M β := fun env => match m env with
  | .ok a e => k a e
  | .ex x e => .ex x e
  | .no => .no
def M.ofO {α : Type} (o : Option α) : M α := fun env => match o with
  | some a => .ok a env
  | none => .no
/-- frozen at once -/
def fz (t : T) : T := .pl t.frz

theorem Go.next {w : Wd} {F1 H1 as1 at1 F2 H2 own2} (g1 : Go w ⟨F1, H1, as1 ++ at1⟩) (g2 : Go ⟨F1, H1, as1⟩ ⟨F2, H2, own2⟩) : Go w ⟨F2, H2, own2 ++ at1⟩ := g1.trans (g2.ctx g1.ok)
theorem Wd.Ok.left {F H as c} (ok : Wd.Ok ⟨F, H, as ++ c⟩) : Wd.Ok ⟨F, H, as⟩ := ok.sub (List.nodup_append.mp ok.nd).1 fun b hb => List.mem_append_left _ hb
theorem Go.left {w : Wd} {F H as c} (g : Go w ⟨F, H, as ++ c⟩) : Go w ⟨F, H, as⟩ := g.sub (List.nodup_append.mp g.ok.nd).1 fun b hb => List.mem_append_left _ hb
theorem GoR.left {F H as c F' H'} (g : GoR ⟨F, H, as⟩ ⟨F', H', as ++ c⟩) : GoR ⟨F, H, as⟩ ⟨F', H', as⟩ := ⟨g.toGo.left, g.all⟩
theorem Go.nil {w : Wd} {F H as} (g : Go w ⟨F, H, as⟩) : Go w ⟨F, H, as ++ []⟩ := by rw [List.append_nil]; exact g
theorem Go.nil' {w : Wd} {F H as} (g : Go w ⟨F, H, as ++ []⟩) : Go w ⟨F, H, as⟩ := by rw [List.append_nil] at g; exact g
section
variable {K : PySem.W.Frag} {mg : Str → Option Value} {F F1 F2 : Addr → Prop} {H H1 H2 : Hp} {as as1 at1 own2 : List Addr}
theorem RepT.next {w : Wd} {t : T} {v : V} (g1 : Go w ⟨F1, H1, as1 ++ at1⟩) (g2 : Go ⟨F1, H1, as1⟩ ⟨F2, H2, own2⟩) (r : RepT K mg F1 H1 t v at1) : RepT K mg F2 H2 t v at1 :=
  r.mono (g2.le g1.ok.left) fun b hb o e => g2.keep b o e fun ha => (List.nodup_append.mp g1.ok.nd).2.2 b ha b hb rfl
theorem RepTs.next {w : Wd} {t : List T} {v : List V} (g1 : Go w ⟨F1, H1, as1 ++ at1⟩) (g2 : Go ⟨F1, H1, as1⟩ ⟨F2, H2, own2⟩) (r : RepTs K mg F1 H1 t v at1) : RepTs K mg F2 H2 t v at1 :=
  r.mono (g2.le g1.ok.left) fun b hb o e => g2.keep b o e fun ha => (List.nodup_append.mp g1.ok.nd).2.2 b ha b hb rfl
theorem RepT.readG {w : Wd} {t : T} {v : V} {a : List Addr} {F H own} (ok : Wd.Ok ⟨F, H, own⟩) (g : GoR ⟨F, H, own⟩ w) (r : RepT K mg F H t v a) : RepT K mg w.F w.H t v a := r.mono (g.toGo.le ok) fun b _ o e => g.all b o e
theorem RepTs.readG {w : Wd} {t : List T} {v : List V} {a : List Addr} {F H own} (ok : Wd.Ok ⟨F, H, own⟩) (g : GoR ⟨F, H, own⟩ w) (r : RepTs K mg F H t v a) : RepTs K mg w.F w.H t v a := r.mono (g.toGo.le ok) fun b _ o e => g.all b o e
theorem RepE.readG {w : Wd} {t : Slots} {v : St} {a : List Addr} {F H own} (ok : Wd.Ok ⟨F, H, own⟩) (g : GoR ⟨F, H, own⟩ w) (r : RepE K mg F H t v a) : RepE K mg w.F w.H t v a := r.mono (g.toGo.le ok) fun b _ o e => g.all b o e
end

/-- what an operation's answer is wanted for -/
def Res (X : Cx) (F : Addr → Prop) (H : Hp) (own : List Addr) (t : T) (Q : VK) : Prop :=
  ∀ F' H' v at', Go ⟨F, H, own⟩ ⟨F', H', own ++ at'⟩ → (∀ b o, H b = some o → H' b = some o) → RepT X.K X.mg F' H' t v at' → Q v H'
section
variable {X : Cx} {F : Addr → Prop} {H : Hp} {own : List Addr} {Q : VK}
/-- an answer without a new thing -/
theorem Res.val {d : D} {v : V} (ok : Wd.Ok ⟨F, H, own⟩) (h : Res X F H own (.pl d) Q) (r : Rep X.K X.mg F H d v) : Q v H :=
  h F H v [] (Go.refl ok).nil (fun _ _ e => e) (by unfold RepT; exact ⟨rfl, r⟩)
theorem Res.newL {ds : List D} {vs : List V} {p : Addr} (ok : Wd.Ok ⟨F, H, own⟩) (h : Res X F H own (.ol ds) Q) (hp : H p = none) (r : Reps X.K X.mg F H ds vs) : Q (.ref p) (upd H p (.lst vs)) := by
  have g := ok.layO (o := .lst vs) hp
  have all : ∀ b o, H b = some o → upd H p (.lst vs) b = some o := fun b o e => by rw [upd_ne (ne_of_none e hp)]; exact e
  refine h _ _ (.ref p) [p] g all ?_
  unfold RepT
  exact ⟨p, vs, rfl, rfl, upd_same, r.mono ⟨fun _ h => h, fun b o _ e => all b o e⟩⟩
theorem Res.newT {ds : List D} {vs : List V} {p : Addr} (ok : Wd.Ok ⟨F, H, own⟩) (h : Res X F H own (.pl (.tup ds)) Q) (hp : H p = none) (r : Reps X.K X.mg F H ds vs) : Q (.ref p) (upd H p (.tup vs)) := by
  have g := ok.lay (o := .tup vs) hp
  refine h _ _ (.ref p) [] g.toGo.nil g.all ?_
  unfold RepT Rep
  exact ⟨rfl, p, vs, rfl, ⟨.inl (.inl upd_same), .inl (.inr rfl)⟩, r.mono (g.toGo.le ok)⟩
/-- frozen at once -/
theorem Res.of_fz {t : T} (ok : Wd.Ok ⟨F, H, own⟩) (h : ∀ F' H' v, GoR ⟨F, H, own⟩ ⟨F', H', own⟩ → Rep X.K X.mg F' H' t.frz v → Q v H') : Res X F H own t Q := fun F' H' v at' g all r => by
  have g2 := g.ok.freeze
  refine h _ H' v ⟨g.trans g2, all⟩ (RepT.frz (r.mono ⟨fun _ h => .inl h, fun _ _ _ e => e⟩ fun _ _ _ e => e) fun b hb => .inr hb)
end
def Un (X : Cx) (f : T → Option T) (r : V → Hp → VK → Prop) : Prop := ∀ {F H own t v a u Q}, Wd.Ok ⟨F, H, own⟩ → RepT X.K X.mg F H t v a → (∀ b ∈ a, b ∈ own) → f t = some u → Res X F H own u Q → r v H Q
def Bin (X : Cx) (f : T → T → Option T) (r : R2) : Prop := ∀ {F H own t v a t' v' a' u Q}, Wd.Ok ⟨F, H, own⟩ → RepT X.K X.mg F H t v a → RepT X.K X.mg F H t' v' a' → (∀ b ∈ a, b ∈ own) → (∀ b ∈ a', b ∈ own) → f t t' = some u → Res X F H own u Q → r v v' H Q
def Nary (X : Cx) (f : List T → Option T) (r : List V → Hp → VK → Prop) : Prop := ∀ {F H own ts vs a u Q}, Wd.Ok ⟨F, H, own⟩ → RepTs X.K X.mg F H ts vs a → (∀ b ∈ a, b ∈ own) → f ts = some u → Res X F H own u Q → r vs H Q

/-! ### reading -/
def r1 (f : T → Option T) (a : Rd T) : Rd T := fun env => (a env).bind fun x => (f x).map fz
def r2 (f : T → T → Option T) (a b : Rd T) : Rd T := fun env => (a env).bind fun x => (b env).bind fun y => (f x y).map fz
def rN (f : List T → Option T) (a : Rd (List T)) : Rd T := fun env => (a env).bind fun x => (f x).map fz
def rnil : Rd (List T) := fun _ => some []
def rcons (a : Rd T) (b : Rd (List T)) : Rd (List T) := fun env => (a env).bind fun x => (b env).map fun y => x :: y
section
variable {X : Cx} {e a b : Expr} {es : List Expr} {ρ ρa ρb : Rd T} {ρs : Rd (List T)}
theorem RepT.plI {K mg F H d v} (h : Rep K mg F H d v) : RepT K mg F H (.pl d) v [] := by unfold RepT; exact ⟨rfl, h⟩
theorem ri1 {f r} (hf : Un X f r) {σ H Q} : tR X (r1 f ρ) σ H Q → tUn r (tR X ρ) σ H Q := fun ⟨F, env, as, ok, rep, t, hm, post⟩ => by
  unfold r1 at hm
  simp only [Option.bind_eq_some_iff, Option.map_eq_some_iff] at hm
  obtain ⟨x, hx, u, hu, rfl⟩ := hm
  refine ⟨F, env, as, ok, rep, x, hx, fun F1 H1 v1 at1 g1 rt1 s1 => hf g1.ok rt1 s1 hu (Res.of_fz g1.ok fun F3 H3 v g3 q3 => post F3 H3 v [] (g1.trans g3) (RepT.plI q3) (by simp))⟩
theorem ri2 {f r} (hf : Bin X f r) {σ H Q} : tR X (r2 f ρa ρb) σ H Q → tOp r (tR X ρa) (tR X ρb) σ H Q := fun ⟨F, env, as, ok, rep, t, hm, post⟩ => by
  unfold r2 at hm
  simp only [Option.bind_eq_some_iff, Option.map_eq_some_iff] at hm
  obtain ⟨x, hx, y, hy, u, hu, rfl⟩ := hm
  refine ⟨F, env, as, ok, rep, x, hx, fun F1 H1 v1 at1 g1 rt1 s1 => ⟨F1, env, as, g1.ok, rep.readG ok g1, y, hy, fun F2 H2 v2 at2 g2 rt2 s2 => ?_⟩⟩
  exact hf g2.ok (rt1.readG g1.ok g2) rt2 s1 s2 hu (Res.of_fz g2.ok fun F3 H3 v g3 q3 => post F3 H3 v [] (g1.trans (g2.trans g3)) (RepT.plI q3) (by simp))
theorem riN {f r} (hf : Nary X f r) {σ H Q} : tR X (rN f ρs) σ H Q → tCB r (tRA X ρs) σ H Q := fun ⟨F, env, as, ok, rep, t, hm, post⟩ => by
  unfold rN at hm
  simp only [Option.bind_eq_some_iff, Option.map_eq_some_iff] at hm
  obtain ⟨x, hx, u, hu, rfl⟩ := hm
  exact ⟨F, env, as, ok, rep, x, hx, fun F1 H1 v1 at1 g1 rt1 s1 => hf g1.ok rt1 s1 hu (Res.of_fz g1.ok fun F3 H3 v g3 q3 => post F3 H3 v [] (g1.trans g3) (RepT.plI q3) (by simp))⟩
theorem re1 {f r} (hf : Un X f r) (h : PE X e (tUn r (tR X ρ))) : PE X e (tR X (r1 f ρ)) := pe_imp h fun σ H Q q => ri1 hf q
theorem re2 {f r} (hf : Bin X f r) (h : PE X e (tOp r (tR X ρa) (tR X ρb))) : PE X e (tR X (r2 f ρa ρb)) := pe_imp h fun σ H Q q => ri2 hf q
theorem reN {f r} (hf : Nary X f r) (h : PE X e (tCB r (tRA X ρs))) : PE X e (tR X (rN f ρs)) := pe_imp h fun σ H Q q => riN hf q
theorem ra_nil : PA X [] (tRA X rnil) := pa_imp pa_nil fun σ H Q ⟨F, env, as, ok, rep, t, hm, post⟩ => by
  cases hm
  exact post F H [] [] (GoR.refl ok) (by unfold RepTs; exact ⟨rfl, rfl⟩) (by simp)
theorem ra_cons (ha : PE X e (tR X ρ)) (hr : PA X es (tRA X ρs)) (hs : starEach (e :: es) X.env = (false, eval e X.env) :: starEach es X.env := by rfl) : PA X (e :: es) (tRA X (rcons ρ ρs)) :=
  pa_imp (pa_cons ha hr hs) fun σ H Q ⟨F, env, as, ok, rep, t, hm, post⟩ => by
  unfold rcons at hm
  simp only [Option.bind_eq_some_iff, Option.map_eq_some_iff] at hm
  obtain ⟨x, hx, y, hy, rfl⟩ := hm
  refine ⟨F, env, as, ok, rep, x, hx, fun F1 H1 v1 at1 g1 rt1 s1 => ⟨F1, env, as, g1.ok, rep.readG ok g1, y, hy, fun F2 H2 v2 at2 g2 rt2 s2 => ?_⟩⟩
  refine post F2 H2 (v1 :: v2) (at1 ++ at2) (g1.trans g2) ?_ fun b hb => (List.mem_append.mp hb).elim (s1 b) (s2 b)
  unfold RepTs
  exact ⟨v1, v2, at1, at2, rfl, rfl, rt1.readG g1.ok g2, rt2⟩
end

/-! ### doing -/
def m1 (f : T → Option T) (a : M T) : M T := a.bind fun x => .ofO (f x)
def m2 (f : T → T → Option T) (a b : M T) : M T := a.bind fun x => b.bind fun y => .ofO (f x y)
def mN (f : List T → Option T) (a : M (List T)) : M T := a.bind fun x => .ofO (f x)
def mnil : M (List T) := fun env => .ok [] env
def mcons (a : M T) (b : M (List T)) : M (List T) := a.bind fun x => b.bind fun y => fun env => .ok (x :: y) env
section
variable {X : Cx} {W : WX} {e a b : Expr} {es : List Expr} {m ma mb : M T} {ms : M (List T)}
theorem mi1 {f r} (hf : Un X f r) {σ H Q} : tE X W (m1 f m) σ H Q → tUn r (tE X W m) σ H Q := fun ⟨F, env, as, ok, rep, post⟩ => by
  refine ⟨F, env, as, ok, rep, ?_⟩
  unfold m1 M.bind at post
  cases h1 : m env with
  | no => rw [h1] at post; exact post
  | ex x e1 => rw [h1] at post; exact post
  | ok x e1 =>
    rw [h1] at post
    intro F1 H1 v1 as1 at1 g1 rep1 rt1
    dsimp only at post
    cases hu : f x with
    | none => rw [hu] at post; exact post.elim
    | some u =>
      rw [hu] at post
      refine hf g1.ok rt1 (fun b hb => List.mem_append_right _ hb) hu fun F3 H3 v at3 g3 all r3 => ?_
      refine post F3 H3 v as1 at3 ((g1.trans g3).sub ?_ ?_) (rep1.mono (g1.left.ok |> fun o => ⟨g3.grow, fun b o e h => all b o h⟩) fun b _ o e => all b o e) r3
      · have nd := g3.ok.nd
        exact List.Sublist.nodup (List.Sublist.append (List.sublist_append_left _ _) (List.Sublist.refl _)) nd
      · intro b hb
        rcases List.mem_append.mp hb with z | z
        · exact List.mem_append_left _ (List.mem_append_left _ z)
        · exact List.mem_append_right _ z
theorem nd_drop {l1 a c : List Addr} (h : ((l1 ++ a) ++ c).Nodup) : (l1 ++ c).Nodup := List.Sublist.nodup (List.Sublist.append (List.sublist_append_left _ _) (List.Sublist.refl _)) h
theorem mem_drop {l1 a c : List Addr} : ∀ b ∈ l1 ++ c, b ∈ (l1 ++ a) ++ c := fun b hb => by
  rcases List.mem_append.mp hb with z | z
  · exact List.mem_append_left _ (List.mem_append_left _ z)
  · exact List.mem_append_right _ z
/-- an answer of an operation after operands -/
theorem PoE.of_op {F H as σ Q} {F1 H1 as1 c} {u : T} {env1 : Slots} (g1 : Go ⟨F, H, as⟩ ⟨F1, H1, as1 ++ c⟩) (rep1 : RepE X.K X.mg F1 H1 env1 σ as1) (post : PoE X W F H as σ Q (.ok u env1)) : Res X F1 H1 (as1 ++ c) u Q := fun F3 H3 v at3 g3 all r3 =>
  post F3 H3 v as1 at3 ((g1.trans g3).sub (nd_drop g3.ok.nd) mem_drop) (rep1.mono ⟨g3.grow, fun b o _ h => all b o h⟩ fun b _ o e => all b o e) r3
theorem mi2 {f r} (hf : Bin X f r) {σ H Q} : tE X W (m2 f ma mb) σ H Q → tOp r (tE X W ma) (tE X W mb) σ H Q := fun ⟨F, env, as, ok, rep, post⟩ => by
  refine ⟨F, env, as, ok, rep, ?_⟩
  unfold m2 M.bind at post
  cases h1 : ma env with
  | no => rw [h1] at post; exact post
  | ex x e1 => rw [h1] at post; exact post
  | ok x e1 =>
    rw [h1] at post
    intro F1 H1 v1 as1 at1 g1 rep1 rt1
    refine ⟨F1, e1, as1, g1.ok.left, rep1, ?_⟩
    dsimp only at post
    cases h2 : mb e1 with
    | no => rw [h2] at post; exact post
    | ex x e2 =>
      rw [h2] at post
      intro F2 H2 as2 cls d g2 rep2 rx
      exact post F2 H2 as2 cls d (g1.next g2).left rep2 rx
    | ok y e2 =>
      rw [h2] at post
      intro F2 H2 v2 as2 at2 g2 rep2 rt2
      dsimp only at post
      cases hu : f x y with
      | none => rw [hu] at post; exact post.elim
      | some u =>
        rw [hu] at post
        have g12 := g1.next g2
        rw [List.append_assoc] at g12
        exact hf g12.ok (rt1.next g1 g2) rt2 (fun b hb => by simp [hb]) (fun b hb => by simp [hb]) hu (PoE.of_op g12 rep2 post)
theorem miN {f r} (hf : Nary X f r) {σ H Q} : tE X W (mN f ms) σ H Q → tCB r (tA X W ms) σ H Q := fun ⟨F, env, as, ok, rep, post⟩ => by
  refine ⟨F, env, as, ok, rep, ?_⟩
  unfold mN M.bind at post
  cases h1 : ms env with
  | no => rw [h1] at post; exact post
  | ex x e1 => rw [h1] at post; exact post
  | ok x e1 =>
    rw [h1] at post
    intro F1 H1 v1 as1 at1 g1 rep1 rt1
    dsimp only at post
    cases hu : f x with
    | none => rw [hu] at post; exact post.elim
    | some u =>
      rw [hu] at post
      exact hf g1.ok rt1 (fun b hb => by simp [hb]) hu (PoE.of_op g1 rep1 post)
theorem me1 {f r} (hf : Un X f r) (h : PE X e (tUn r (tE X W m))) : PE X e (tE X W (m1 f m)) := pe_imp h fun σ H Q q => mi1 hf q
theorem me2 {f r} (hf : Bin X f r) (h : PE X e (tOp r (tE X W ma) (tE X W mb))) : PE X e (tE X W (m2 f ma mb)) := pe_imp h fun σ H Q q => mi2 hf q
theorem meN {f r} (hf : Nary X f r) (h : PE X e (tCB r (tA X W ms))) : PE X e (tE X W (mN f ms)) := pe_imp h fun σ H Q q => miN hf q
theorem ma_nil : PA X [] (tA X W mnil) := pa_imp pa_nil fun σ H Q ⟨F, env, as, ok, rep, post⟩ => by
  exact post F H [] as [] (Go.refl ok).nil rep (by unfold RepTs; exact ⟨rfl, rfl⟩)
theorem ma_cons (ha : PE X e (tE X W m)) (hr : PA X es (tA X W ms)) (hs : starEach (e :: es) X.env = (false, eval e X.env) :: starEach es X.env := by rfl) : PA X (e :: es) (tA X W (mcons m ms)) :=
  pa_imp (pa_cons ha hr hs) fun σ H Q ⟨F, env, as, ok, rep, post⟩ => by
  refine ⟨F, env, as, ok, rep, ?_⟩
  unfold mcons M.bind at post
  cases h1 : m env with
  | no => rw [h1] at post; exact post
  | ex x e1 => rw [h1] at post; exact post
  | ok x e1 =>
    rw [h1] at post
    intro F1 H1 v1 as1 at1 g1 rep1 rt1
    refine ⟨F1, e1, as1, g1.ok.left, rep1, ?_⟩
    dsimp only at post
    cases h2 : ms e1 with
    | no => rw [h2] at post; exact post
    | ex x e2 =>
      rw [h2] at post
      intro F2 H2 as2 cls d g2 rep2 rx
      exact post F2 H2 as2 cls d (g1.next g2).left rep2 rx
    | ok y e2 =>
      rw [h2] at post
      intro F2 H2 v2 as2 at2 g2 rep2 rt2
      have g12 := g1.next g2
      rw [List.append_assoc] at g12
      have nd2 : (as2 ++ (at1 ++ at2)).Nodup := (List.Perm.nodup_iff (List.Perm.append_left _ List.perm_append_comm)).mp g12.ok.nd
      refine post F2 H2 (v1 :: v2) as2 (at1 ++ at2) (g12.sub nd2 fun b hb => ?_) rep2 ?_
      · simp only [List.mem_append] at hb ⊢
        rcases hb with z | z | z
        · exact .inl z
        · exact .inr (.inr z)
        · exact .inr (.inl z)
      · unfold RepTs
        exact ⟨v1, v2, at1, at2, rfl, rfl, rt1.next g1 g2, rt2⟩
/-- reading a plain value, as doing -/
def ofR (ρ : Rd T) : M T := fun env => match ρ env with
  | some (.pl d) => .ok (.pl d) env
  | _ => .no
theorem tE_ofR {ρ : Rd T} {σ H Q} : tE X W (ofR ρ) σ H Q → tR X ρ σ H Q := fun ⟨F, env, as, ok, rep, post⟩ => by
  unfold ofR at post
  cases h1 : ρ env with
  | none => rw [h1] at post; exact post.elim
  | some t =>
    rw [h1] at post
    cases t with
    | ol xs => exact post.elim
    | oo c fs => exact post.elim
    | pl d =>
      refine ⟨F, env, as, ok, rep, .pl d, h1, fun F1 H1 v1 at1 g1 rt1 s1 => ?_⟩
      have ea : at1 = [] := by unfold RepT at rt1; exact rt1.1
      subst ea
      exact post F1 H1 v1 as [] g1.toGo.nil (rep.readG ok g1) rt1
theorem me_r {ρ : Rd T} (h : PE X e (tR X ρ)) : PE X e (tE X W (ofR ρ)) := pe_imp h fun σ H Q q => tE_ofR q
end
end Mir

set_option maxHeartbeats 1000000
/-! Mir4: the operations. -/
namespace Mir
open PySem L2 PyProof.Rows

/-- the most that a list or text holds here -/
abbrev big : Nat := 1000000
theorem big_line {n : Nat} (h : n ≤ big) : n ≤ sizeLine := Nat.le_trans h (by rw [sizeLine_eq]; decide)
theorem big_line' {n : Nat} (h : n < big) : n < sizeLine := Nat.lt_of_lt_of_le h (by rw [sizeLine_eq]; decide)
def T.asL : T → Option (List D)
  | .pl (.lst xs) => some xs
  | .ol xs => some xs
  | _ => none
/-- the items of a list or tuple -/
def T.asS : T → Option (List D)
  | .pl (.lst xs) => some xs
  | .ol xs => some xs
  | .pl (.tup xs) => some xs
  | .pl (.scr xs) => some xs
  | _ => none
section
variable {K : PySem.W.Frag} {mg : Str → Option Value} {F : Addr → Prop} {H : Hp} {as : List Addr}
theorem Reps.length : ∀ {ds : List D} {vs : List V}, Reps K mg F H ds vs → vs.length = ds.length
  | [], vs, h => by unfold Reps at h; rw [h]; rfl
  | d :: ds, vs, h => by
    unfold Reps at h
    obtain ⟨v, r, e, _, h2⟩ := h
    rw [e, List.length_cons, List.length_cons, Reps.length h2]
theorem Reps.get : ∀ {ds : List D} {vs : List V} {i : Nat} {d : D}, Reps K mg F H ds vs → ds[i]? = some d → ∃ v, vs[i]? = some v ∧ Rep K mg F H d v
  | [], vs, i, d, h, e => by simp at e
  | d' :: ds, vs, 0, d, h, e => by
    unfold Reps at h
    obtain ⟨v, r, ev, h1, _⟩ := h
    simp at e; subst e
    exact ⟨v, by rw [ev]; rfl, h1⟩
  | d' :: ds, vs, i + 1, d, h, e => by
    unfold Reps at h
    obtain ⟨v, r, ev, _, h2⟩ := h
    obtain ⟨w, e1, e2⟩ := Reps.get (i := i) h2 (by simpa using e)
    exact ⟨w, by rw [ev]; simpa using e1, e2⟩
theorem Reps.append : ∀ {ds es : List D} {vs ws : List V}, Reps K mg F H ds vs → Reps K mg F H es ws → Reps K mg F H (ds ++ es) (vs ++ ws)
  | [], es, vs, ws, h, h' => by unfold Reps at h; rw [h]; exact h'
  | d :: ds, es, vs, ws, h, h' => by
    unfold Reps at h
    obtain ⟨v, r, e, h1, h2⟩ := h
    rw [e, List.cons_append, List.cons_append]
    unfold Reps
    exact ⟨v, r ++ ws, rfl, h1, Reps.append h2 h'⟩
theorem Reps.cons {d : D} {v : V} {ds vs} (h : Rep K mg F H d v) (t : Reps K mg F H ds vs) : Reps K mg F H (d :: ds) (v :: vs) := by unfold Reps; exact ⟨v, vs, rfl, h, t⟩
theorem Reps.nil : Reps K mg F H [] [] := by unfold Reps; rfl
theorem Reps.one {d : D} {v : V} (h : Rep K mg F H d v) : Reps K mg F H [d] [v] := .cons h .nil
theorem Reps.take : ∀ {ds : List D} {vs : List V} (n : Nat), Reps K mg F H ds vs → Reps K mg F H (ds.take n) (vs.take n)
  | ds, vs, 0, h => by simp only [List.take_zero]; exact .nil
  | [], vs, n + 1, h => by unfold Reps at h; rw [h]; exact .nil
  | d :: ds, vs, n + 1, h => by
    unfold Reps at h
    obtain ⟨v, r, e, h1, h2⟩ := h
    rw [e, List.take_succ_cons, List.take_succ_cons]
    exact .cons h1 (Reps.take n h2)
theorem Reps.drop : ∀ {ds : List D} {vs : List V} (n : Nat), Reps K mg F H ds vs → Reps K mg F H (ds.drop n) (vs.drop n)
  | ds, vs, 0, h => by simpa using h
  | [], vs, n + 1, h => by unfold Reps at h; rw [h]; exact .nil
  | d :: ds, vs, n + 1, h => by
    unfold Reps at h
    obtain ⟨v, r, e, h1, h2⟩ := h
    rw [e, List.drop_succ_cons, List.drop_succ_cons]
    exact Reps.drop n h2
theorem Reps.set : ∀ {ds : List D} {vs : List V} (i : Nat) {d : D} {v : V}, Reps K mg F H ds vs → Rep K mg F H d v → Reps K mg F H (ds.set i d) (vs.set i v)
  | [], vs, i, d, v, h, q => by unfold Reps at h; rw [h]; exact .nil
  | d' :: ds, vs, 0, d, v, h, q => by
    unfold Reps at h
    obtain ⟨w, r, e, h1, h2⟩ := h
    rw [e]; exact .cons q h2
  | d' :: ds, vs, i + 1, d, v, h, q => by
    unfold Reps at h
    obtain ⟨w, r, e, h1, h2⟩ := h
    rw [e]; exact .cons h1 (Reps.set i h2 q)
theorem Reps.rep {d : D} {v : V} (h : Rep K mg F H d v) : ∀ n : Nat, Reps K mg F H (List.replicate n d) (List.replicate n v)
  | 0 => .nil
  | n + 1 => .cons h (Reps.rep h n)
theorem Reps.reps {ds vs} (h : Reps K mg F H ds vs) : ∀ n : Nat, Reps K mg F H (List.replicate n ds).flatten (List.replicate n vs).flatten
  | 0 => .nil
  | n + 1 => by
    rw [List.replicate_succ, List.replicate_succ, List.flatten_cons, List.flatten_cons]
    exact h.append (Reps.reps h n)
theorem Reps.reverse : ∀ {ds : List D} {vs : List V}, Reps K mg F H ds vs → Reps K mg F H ds.reverse vs.reverse
  | [], vs, h => by unfold Reps at h; rw [h]; exact .nil
  | d :: ds, vs, h => by
    unfold Reps at h
    obtain ⟨v, r, e, h1, h2⟩ := h
    rw [e, List.reverse_cons, List.reverse_cons]
    exact (Reps.reverse h2).append (.one h1)
theorem Reps.eraseIdx : ∀ {ds : List D} {vs : List V} (i : Nat), Reps K mg F H ds vs → Reps K mg F H (ds.eraseIdx i) (vs.eraseIdx i)
  | [], vs, i, h => by unfold Reps at h; rw [h]; exact .nil
  | d :: ds, vs, 0, h => by
    unfold Reps at h
    obtain ⟨v, r, e, h1, h2⟩ := h
    rw [e]; exact h2
  | d :: ds, vs, i + 1, h => by
    unfold Reps at h
    obtain ⟨v, r, e, h1, h2⟩ := h
    rw [e]; exact .cons h1 (Reps.eraseIdx i h2)
theorem Reps.ints : ∀ {ns : List Int} {vs : List V}, Reps K mg F H (ns.map D.int) vs → vs = ns.map V.int
  | [], vs, h => by unfold Reps at h; exact h
  | n :: ns, vs, h => by
    rw [List.map_cons] at h
    unfold Reps at h
    obtain ⟨v, r, e, h1, h2⟩ := h
    unfold Rep at h1
    rw [e, h1, List.map_cons, Reps.ints h2]
theorem Reps.of_ints : ∀ (ns : List Int), Reps K mg F H (ns.map D.int) (ns.map V.int)
  | [] => .nil
  | n :: ns => .cons (by unfold Rep; rfl) (Reps.of_ints ns)
theorem RepT.int {i : Int} {v : V} (h : RepT K mg F H (.pl (.int i)) v as) : v = .int i := by unfold RepT Rep at h; exact h.2
theorem RepT.bl {i : Bool} {v : V} (h : RepT K mg F H (.pl (.bl i)) v as) : v = .bl i := by unfold RepT Rep at h; exact h.2
theorem RepT.str {i : Str} {v : V} (h : RepT K mg F H (.pl (.str i)) v as) : v = .str i := by unfold RepT Rep at h; exact h.2
theorem RepT.ty {i : String} {v : V} (h : RepT K mg F H (.pl (.ty i)) v as) : v = .ty i := by unfold RepT Rep at h; exact h.2
theorem RepT.tup {ds : List D} {v : V} (h : RepT K mg F H (.pl (.tup ds)) v as) : ∃ a vs, v = .ref a ∧ SqT K H a vs ∧ FT K F H a vs ∧ Reps K mg F H ds vs := by
  unfold RepT Rep at h
  obtain ⟨_, a, vs, e, f, r⟩ := h
  exact ⟨a, vs, e, f.1, f, r⟩
theorem RepT.asL {t : T} {ds : List D} {v : V} (h : RepT K mg F H t v as) (e : t.asL = some ds) : ∃ a vs, v = .ref a ∧ L2.Rd H a (.lst vs) ∧ Reps K mg F H ds vs := by
  cases t with
  | ol xs =>
    unfold T.asL at e; cases e
    unfold RepT at h
    obtain ⟨a, vs, e, _, hh, r⟩ := h
    exact ⟨a, vs, e, .inl hh, r⟩
  | oo c fs => unfold T.asL at e; cases e
  | pl d =>
    cases d <;> unfold T.asL at e <;> cases e
    unfold RepT Rep at h
    obtain ⟨_, a, vs, e, f, r⟩ := h
    exact ⟨a, vs, e, f.2, r⟩
theorem RepT.asS {t : T} {ds : List D} {v : V} (h : RepT K mg F H t v as) (e : t.asS = some ds) : ∃ a vs, v = .ref a ∧ (SqL K H a vs ∨ SqT K H a vs) ∧ Reps K mg F H ds vs := by
  cases t with
  | ol xs =>
    unfold T.asS at e; cases e
    unfold RepT at h
    obtain ⟨a, vs, e, _, hh, r⟩ := h
    exact ⟨a, vs, e, .inl (.inl (.inl hh)), r⟩
  | oo c fs => unfold T.asS at e; cases e
  | pl d =>
    cases d <;> unfold T.asS at e <;> cases e
    · unfold RepT Rep at h
      obtain ⟨_, a, vs, e, f, r⟩ := h
      exact ⟨a, vs, e, .inr f.1, r⟩
    · unfold RepT Rep at h
      obtain ⟨_, a, vs, e, f, r⟩ := h
      exact ⟨a, vs, e, .inl (.inl f.2), r⟩
    · unfold RepT Rep at h
      obtain ⟨_, a, vs, e, f, r⟩ := h
      exact ⟨a, vs, e, .inl f.1, r⟩
end

/-! ### arithmetic -/
def opAdd : T → T → Option T
  | .pl (.int i), .pl (.int j) => some (.pl (.int (i + j)))
  | .pl (.str x), .pl (.str y) => if x.length + y.length ≤ big then some (.pl (.str (x ++ y))) else none
  | .pl (.tup a), .pl (.tup b) => if a.length + b.length ≤ big then some (.pl (.tup (a ++ b))) else none
  | x, y => x.asL.bind fun a => y.asL.bind fun b => if a.length + b.length ≤ big then some (.ol (a ++ b)) else none
def opSub : T → T → Option T
  | .pl (.int i), .pl (.int j) => some (.pl (.int (i - j)))
  | _, _ => none
def opMul : T → T → Option T
  | .pl (.int i), .pl (.int j) => if i.natAbs.log2 + j.natAbs.log2 < 100000000 then some (.pl (.int (i * j))) else none
  | x, .pl (.int k) => x.asL.bind fun a => if -(2 ^ 63) ≤ k ∧ k < 2 ^ 63 ∧ a.length * k.toNat ≤ big then some (.ol (List.replicate k.toNat a).flatten) else none
  | _, _ => none
def opDiv : T → T → Option T
  | .pl (.int i), .pl (.int j) => if j ≠ 0 ∧ j.natAbs.log2 < 9000 then some (.pl (.int (i.fdiv j))) else none
  | _, _ => none
def opMod : T → T → Option T
  | .pl (.int i), .pl (.int j) => if j ≠ 0 then some (.pl (.int (i.fmod j))) else none
  | _, _ => none
def opPow : T → T → Option T
  | .pl (.int i), .pl (.int j) => if 0 ≤ j ∧ j ≤ 1000000 ∧ i.natAbs < 2 ^ 64 then some (.pl (.int (i ^ j.toNat))) else none
  | _, _ => none
def opNeg : T → Option T
  | .pl (.int i) => some (.pl (.int (-i)))
  | _ => none
section
variable {X : Cx}
/-- list + list, tracked or frozen -/
def rCatG : R2 := fun x y H Q => ∃ l b xs zs, x = .ref l ∧ y = .ref b ∧ L2.Rd H l (.lst xs) ∧ L2.Rd H b (.lst zs) ∧ xs.length + zs.length ≤ sizeLine ∧ ∀ p, H p = none → Q (.ref p) (upd H p (.lst (xs ++ zs)))
theorem op_catG : OpR X (binaryOp .Add) rCatG := by
  intro pins s σ H x y v u Q I rx ry h
  obtain ⟨l, b, xs, zs, rfl, rfl, hH, hB, hz, q⟩ := h
  cases rx
  cases ry
  obtain ⟨z, its, n, r, e⟩ := hH.ok I.hok
  obtain ⟨z2, its2, n2, r2, e2⟩ := hB.ok I.hok
  have hl := r.length
  have hl2 := r2.length
  refine PySem.P.add_list e e2 ?_ (by rw [List.size_toArray, List.size_toArray]; omega)
  have ea : its.toArray ++ its2.toArray = (its ++ its2).toArray := by simp
  rw [ea]
  exact ⟨.ref _, _, I.lnew (t' := s.toks) (r.append r2) (by rw [List.length_append]; omega), rfl, q _ I.fresh⟩
def rRepG : R2 := fun x y H Q => ∃ l k xs, x = .ref l ∧ y = .int k ∧ H l = some (.lst xs) ∧ -(2 ^ 63) ≤ k ∧ k < 2 ^ 63 ∧ xs.length * k.toNat ≤ sizeLine ∧
  ∀ p, H p = none → Q (.ref p) (upd H p (.lst (List.replicate k.toNat xs).flatten))
def rAdd : R2 := fun x y H Q => rI0 (fun i j => .int (i + j)) x y H Q ∨ (∃ i j, x = .str i ∧ y = .str j ∧ i.length + j.length ≤ sizeLine ∧ Q (.str (i ++ j)) H) ∨ rCatA X.K x y H Q ∨ rCatG x y H Q
theorem op_addM : OpR X (binaryOp .Add) (rAdd (X := X)) := op_add.or (op_add_str.or (op_catA.or op_catG))
theorem bin_add : Bin X opAdd (rAdd (X := X)) := by
  intro F H own t v a t' v' a' u Q ok r r' s s' e q
  have lists : ∀ xs ys, t.asL = some xs → t'.asL = some ys → xs.length + ys.length ≤ big → u = .ol (xs ++ ys) → rAdd (X := X) v v' H Q := fun xs ys e1 e2 hz eu => by
    obtain ⟨p, vs, rfl, h1, k1⟩ := r.asL e1
    obtain ⟨p', vs', rfl, h2, k2⟩ := r'.asL e2
    subst eu
    refine .inr (.inr (.inr ⟨p, p', vs, vs', rfl, rfl, h1, h2, by rw [k1.length, k2.length]; exact big_line hz, fun p hp => q.newL ok hp (k1.append k2)⟩))
  unfold opAdd at e
  split at e
  · cases e
    rw [r.int, r'.int]
    exact .inl ⟨_, _, rfl, rfl, q.val ok (by unfold Rep; rfl)⟩
  · split at e
    · rename_i hz
      cases e
      rw [r.str, r'.str]
      exact .inr (.inl ⟨_, _, rfl, rfl, big_line hz, q.val ok (by unfold Rep; rfl)⟩)
    · cases e
  · split at e
    · rename_i xs ys hz
      cases e
      obtain ⟨p, vs, rfl, h1, f1, k1⟩ := r.tup
      obtain ⟨p', vs', rfl, h2, f2, k2⟩ := r'.tup
      refine .inr (.inr (.inl ⟨p, p', vs, vs', rfl, rfl, h1, h2, by rw [k1.length, k2.length]; exact big_line hz, fun z => ?_, fun z z' => ?_, fun z z' p hp => q.newT ok hp (k1.append k2)⟩))
      · have e0 : xs = [] := List.length_eq_zero_iff.mp (by rw [← k1.length, z]; rfl)
        subst e0
        exact q.val ok (by unfold Rep; exact ⟨p', vs', rfl, f2, k2⟩)
      · have e0 : ys = [] := List.length_eq_zero_iff.mp (by rw [← k2.length, z']; rfl)
        subst e0
        rw [List.append_nil] at q
        exact q.val ok (by unfold Rep; exact ⟨p, vs, rfl, f1, k1⟩)
    · cases e
  · simp only [Option.bind_eq_some_iff] at e
    obtain ⟨xs, e1, ys, e2, e3⟩ := e
    split at e3
    · rename_i hz
      exact lists xs ys e1 e2 hz (Option.some.inj e3).symm
    · cases e3
theorem bin_int {f : T → T → Option T} {C : Int → Int → Prop} {g : Int → Int → D} {gv : Int → Int → V} (hg : ∀ i j F H, Rep X.K X.mg F H (g i j) (gv i j))
    (hf : ∀ t t' u, f t t' = some u → ∃ i j, t = .pl (.int i) ∧ t' = .pl (.int j) ∧ C i j ∧ u = .pl (g i j)) : Bin X f (rI C gv) := by
  intro F H own t v a t' v' a' u Q ok r r' s s' e q
  obtain ⟨i, j, rfl, rfl, c, rfl⟩ := hf t t' u e
  rw [r.int, r'.int]
  exact ⟨i, j, rfl, rfl, c, q.val ok (hg i j F H)⟩
theorem bin_int0 {f : T → T → Option T} {g : Int → Int → D} {gv : Int → Int → V} (hg : ∀ i j F H, Rep X.K X.mg F H (g i j) (gv i j))
    (hf : ∀ t t' u, f t t' = some u → ∃ i j, t = .pl (.int i) ∧ t' = .pl (.int j) ∧ u = .pl (g i j)) : Bin X f (rI0 gv) := by
  intro F H own t v a t' v' a' u Q ok r r' s s' e q
  obtain ⟨i, j, rfl, rfl, rfl⟩ := hf t t' u e
  rw [r.int, r'.int]
  exact ⟨i, j, rfl, rfl, q.val ok (hg i j F H)⟩
theorem bin_sub : Bin X opSub (rI0 fun i j => .int (i - j)) := bin_int0 (g := fun i j => .int (i - j)) (fun i j F H => by unfold Rep; rfl) fun t t' u e => by
  unfold opSub at e
  split at e <;> cases e
  exact ⟨_, _, rfl, rfl, rfl⟩
/-- * of two factors of together less than a hundred million bits -/
def CMulG (i j : Int) : Prop := i.natAbs.log2 + j.natAbs.log2 < 100000000
theorem CMulG.ok {i j : Int} (h : CMulG i j) : IntMulOk i j := by
  have b : ∀ x : Int, Builtin.Int.intBits x ≤ x.natAbs.log2 + 1 := fun x => by
    unfold Builtin.Int.intBits
    split <;> omega
  have h1 := b i
  have h2 := b j
  have h3 : i.natAbs.log2 + j.natAbs.log2 < 100000000 := h
  have e : bitsLine = 134217728 := by decide
  unfold IntMulOk
  intro z
  rw [Bool.and_eq_true] at z
  have z2 := z.2
  unfold Builtin.Int.intTooBig at z2
  have z3 := of_decide_eq_true z2
  rw [e] at z3
  omega
theorem op_mulG : OpR X (binaryOp .Mult) (rI CMulG fun i j => .int (i * j)) := opI fun _ _ _ _ _ _ _ hc q => mul_int q hc.ok
def rMul : R2 := fun x y H Q => rI CMulG (fun i j => .int (i * j)) x y H Q ∨ ∃ l k xs, x = .ref l ∧ y = .int k ∧ L2.Rd H l (.lst xs) ∧ -(2 ^ 63) ≤ k ∧ k < 2 ^ 63 ∧ xs.length * k.toNat ≤ sizeLine ∧
  ∀ p, H p = none → Q (.ref p) (upd H p (.lst (List.replicate k.toNat xs).flatten))
theorem op_repG : OpR X (binaryOp .Mult) (fun x y H Q => ∃ l k xs, x = .ref l ∧ y = .int k ∧ L2.Rd H l (.lst xs) ∧ -(2 ^ 63) ≤ k ∧ k < 2 ^ 63 ∧ xs.length * k.toNat ≤ sizeLine ∧
  ∀ p, H p = none → Q (.ref p) (upd H p (.lst (List.replicate k.toNat xs).flatten))) := by
  intro pins s σ H x y v u Q I rx ry h
  obtain ⟨l, k, xs, rfl, rfl, hH, h1, h2, hz, q⟩ := h
  cases rx
  obtain ⟨t, rfl⟩ := ry
  obtain ⟨z, its, n, r, e⟩ := hH.ok I.hok
  have hl := r.length
  have hlen : its.toArray.size * k.toNat ≤ sizeLine := by rw [List.size_toArray, ← hl]; exact hz
  have hcap : ¬ its.toArray.size * k.toNat > (2 ^ 63 - 1) / 8 := by
    have : (sizeLine : Nat) ≤ (2 ^ 63 - 1) / 8 := by decide
    omega
  have hfit : ¬ (!Builtin.List.listFitsIndex k) = true := by
    rw [fitsIndex_both h1 h2]
    exact Bool.false_ne_true
  have hlong : ¬ Builtin.List.listTooLong (its.toArray.size * k.toNat) = true := by
    rw [notLongL hlen]
    exact Bool.false_ne_true
  have hnew : List.foldl (fun x1 x2 => x1 ++ x2) #[] (List.replicate (if its.toArray.isEmpty = true then 0 else k.toNat) its.toArray) = (List.replicate k.toNat its).flatten.toArray := by
    have f0 : ∀ m : Nat, List.foldl (fun x1 x2 => x1 ++ x2) #[] (List.replicate m its.toArray) = (List.replicate m its).flatten.toArray := fun m => by
      have := foldl_rep its m []
      rw [List.nil_append] at this
      exact this
    rw [f0]
    cases its with
    | nil => simp
    | cons a r' => rw [if_neg (by simp)]
  refine wpAny_binaryOp_repeat_ref (T := "list") (U := "int") (by decide) ⟨_, e, rfl⟩ (fun s' => typeIs_int s' k t) noFill_list_mul F.fills_int_mul F.slot_int_rmul repeat_list F.slot_int_index.lookup
    (call_meets F.slot_int_rmul (typeIs_int s k t) F.entry_int_rmul (F.args_int_rmul_2 _ _) (int___rmul___int_list k t l its.toArray n)
      ⟨e, rfl, ⟨_, e, rfl⟩, call_meets F.slot_list_mul ⟨_, e, rfl⟩ F.entry_list_mul (F.args_list_mul_2 _ _) (AutoListH.list___mul___list_int_3 l its.toArray n k t hfit hcap hlong) ⟨e, ?_⟩⟩)
  rw [hnew]
  exact ⟨.ref _, _, I.lnew (t' := s.toks) (r.rep k.toNat) (by rw [PyProof.Rows.lm_len_rep_flat, Nat.mul_comm]; exact hz), rfl, q _ I.fresh⟩
theorem op_mulM : OpR X (binaryOp .Mult) rMul := op_mulG.or op_repG
theorem bin_mul : Bin X opMul rMul := by
  intro F H own t v a t' v' a' u Q ok r r' s s' e q
  unfold opMul at e
  split at e
  · split at e
    · rename_i hz
      cases e
      rw [r.int, r'.int]
      exact .inl ⟨_, _, rfl, rfl, hz, q.val ok (by unfold Rep; rfl)⟩
    · cases e
  · simp only [Option.bind_eq_some_iff] at e
    obtain ⟨xs, e1, e3⟩ := e
    split at e3
    · rename_i hz
      cases e3
      obtain ⟨p, vs, rfl, h1, k1⟩ := r.asL e1
      rw [r'.int]
      exact .inr ⟨p, _, vs, rfl, rfl, h1, hz.1, hz.2.1, by rw [k1.length]; exact big_line hz.2.2, fun p hp => q.newL ok hp (k1.reps _)⟩
    · cases e3
  · cases e
def CDivG (_ j : Int) : Prop := j ≠ 0 ∧ j.natAbs.log2 < 9000
theorem op_divM : OpR X (binaryOp .FloorDiv) (rI CDivG fun i j => .int (i.fdiv j)) := opI fun _ _ _ _ _ _ _ hc q => floordiv_int hc.1 q (.inl (PyProof.noPylong_of_log2 hc.2))
theorem bin_div : Bin X opDiv (rI CDivG fun i j => .int (i.fdiv j)) := bin_int (g := fun i j => .int (i.fdiv j)) (fun i j F H => by unfold Rep; rfl) fun t t' u e => by
  unfold opDiv at e
  split at e
  · split at e <;> cases e
    rename_i h
    exact ⟨_, _, rfl, rfl, h, rfl⟩
  · cases e
theorem bin_mod : Bin X opMod (rI (fun _ j => j ≠ 0) fun i j => .int (i.fmod j)) := bin_int (g := fun i j => .int (i.fmod j)) (fun i j F H => by unfold Rep; rfl) fun t t' u e => by
  unfold opMod at e
  split at e
  · split at e <;> cases e
    rename_i h
    exact ⟨_, _, rfl, rfl, h, rfl⟩
  · cases e
theorem bin_pow : Bin X opPow (rI CPow fun i j => .int (i ^ j.toNat)) := bin_int (g := fun i j => .int (i ^ j.toNat)) (fun i j F H => by unfold Rep; rfl) fun t t' u e => by
  unfold opPow at e
  split at e
  · split at e <;> cases e
    rename_i h
    exact ⟨_, _, rfl, rfl, h, rfl⟩
  · cases e
theorem un_negM : Un X opNeg (rU fun i => .int (-i)) := by
  intro F H own t v a u Q ok r s e q
  unfold opNeg at e
  split at e <;> cases e
  rw [r.int]
  exact ⟨_, rfl, q.val ok (by unfold Rep; rfl)⟩

/-! ### comparisons -/
end
def opCmp (p : Int → Int → Bool) : T → T → Option T
  | .pl (.int i), .pl (.int j) => some (.pl (.bl (p i j)))
  | _, _ => none
abbrev opLt : T → T → Option T := opCmp fun i j => decide (i < j)
abbrev opLe : T → T → Option T := opCmp fun i j => decide (i ≤ j)
abbrev opGt : T → T → Option T := opCmp fun i j => decide (j < i)
abbrev opGe : T → T → Option T := opCmp fun i j => decide (j ≤ i)
section
variable {X : Cx}
theorem bin_cmp {p : Int → Int → Bool} : Bin X (opCmp p) (rI0 fun i j => .bl (p i j)) := bin_int0 (g := fun i j => .bl (p i j)) (fun i j F H => by unfold Rep; rfl) fun t t' u e => by
  unfold opCmp at e
  split at e <;> cases e
  exact ⟨_, _, rfl, rfl, rfl⟩
end

/-! ### == -/
mutual
def D.eqv : D → D → Bool
  | .non, .non => true
  | .bl a, .bl b => a == b
  | .bl a, .int j => (if a then 1 else 0) == j
  | .int i, .bl b => i == (if b then 1 else 0)
  | .int i, .int j => i == j
  | .str x, .str y => x == y
  | .lst xs, .lst ys => D.eqvs xs ys
  | .tup xs, .tup ys => D.eqvs xs ys
  | .ty a, .ty b => false
  | _, _ => false
def D.eqvs : List D → List D → Bool
  | [], [] => true
  | x :: xs, y :: ys => D.eqv x y && D.eqvs xs ys
  | [], _ :: _ => false
  | _ :: _, [] => false
end
mutual
/-- data that == looks at: nested at most n deep -/
def D.flat : Nat → D → Bool
  | _, .non => true
  | _, .bl _ => true
  | _, .int _ => true
  | _, .str x => PyData.strOk x
  | n + 1, .lst xs => D.flats n xs
  | n + 1, .tup xs => D.flats n xs
  | _, _ => false
def D.flats : Nat → List D → Bool
  | _, [] => true
  | n, x :: xs => D.flat n x && D.flats n xs
end
mutual
def D.py : D → PyData
  | .non => .none
  | .bl b => .bool b
  | .int i => .int i
  | .str x => .str x
  | .lst xs => .list (D.pys xs)
  | .tup xs => .tuple (D.pys xs)
  | .ty _ => .none
  | .cls _ => .none
  | .obj _ _ => .none
  | .scr _ => .none
def D.pys : List D → List PyData
  | [] => []
  | x :: xs => D.py x :: D.pys xs
end
mutual
theorem eqv_py : ∀ {n m : Nat} {a b : D}, D.flat n a = true → D.flat m b = true → PyData.eqv (D.py a) (D.py b) = D.eqv a b := by
  intro n m a b ha hb
  match a, n, ha with
  | .non, n, ha =>
    match b, m, hb with
    | .non, _, _ | .bl _, _, _ | .int _, _, _ | .str _, _, _ | .lst _, _, _ | .tup _, _, _ => simp [D.py, PyData.eqv, D.eqv]
  | .bl _, n, ha =>
    match b, m, hb with
    | .non, _, _ | .bl _, _, _ | .int _, _, _ | .str _, _, _ | .lst _, _, _ | .tup _, _, _ => simp [D.py, PyData.eqv, D.eqv]
  | .int _, n, ha =>
    match b, m, hb with
    | .non, _, _ | .bl _, _, _ | .int _, _, _ | .str _, _, _ | .lst _, _, _ | .tup _, _, _ => simp [D.py, PyData.eqv, D.eqv]
  | .str _, n, ha =>
    match b, m, hb with
    | .non, _, _ | .bl _, _, _ | .int _, _, _ | .str _, _, _ | .lst _, _, _ | .tup _, _, _ => simp [D.py, PyData.eqv, D.eqv]
  | .lst xs, n + 1, ha =>
    match b, m, hb with
    | .non, _, _ | .bl _, _, _ | .int _, _, _ | .str _, _, _ | .tup _, _, _ => simp [D.py, PyData.eqv, D.eqv]
    | .lst ys, m + 1, hb =>
      simp only [D.flat] at ha hb
      simp only [D.py, PyData.eqv, D.eqv]
      exact eqvs_py ha hb
  | .tup xs, n + 1, ha =>
    match b, m, hb with
    | .non, _, _ | .bl _, _, _ | .int _, _, _ | .str _, _, _ | .lst _, _, _ => simp [D.py, PyData.eqv, D.eqv]
    | .tup ys, m + 1, hb =>
      simp only [D.flat] at ha hb
      simp only [D.py, PyData.eqv, D.eqv]
      exact eqvs_py ha hb
theorem eqvs_py : ∀ {n m : Nat} {a b : List D}, D.flats n a = true → D.flats m b = true → PyData.eqvAll (D.pys a) (D.pys b) = D.eqvs a b := by
  intro n m a b ha hb
  match a, b with
  | [], [] => simp [D.pys, PyData.eqvAll, D.eqvs]
  | [], _ :: _ => simp [D.pys, PyData.eqvAll, D.eqvs]
  | _ :: _, [] => simp [D.pys, PyData.eqvAll, D.eqvs]
  | x :: xs, y :: ys =>
    simp only [D.flats, Bool.and_eq_true] at ha hb
    simp only [D.pys, PyData.eqvAll, D.eqvs]
    rw [eqv_py ha.1 hb.1, eqvs_py ha.2 hb.2]
end
mutual
theorem flat_lay : ∀ {n : Nat} {a : D}, D.flat n a = true → PyData.canLay0 (D.py a) = true ∧ (D.py a).depth ≤ n
  | _, .non, _ => ⟨by simp [D.py, PyData.canLay0], by simp [D.py, PyData.depth]⟩
  | _, .bl _, _ => ⟨by simp [D.py, PyData.canLay0], by simp [D.py, PyData.depth]⟩
  | _, .int _, _ => ⟨by simp [D.py, PyData.canLay0], by simp [D.py, PyData.depth]⟩
  | _, .str _, h => ⟨by simpa [D.py, PyData.canLay0, D.flat] using h, by simp [D.py, PyData.depth]⟩
  | n + 1, .lst xs, h => by
    obtain ⟨h1, h2⟩ := flats_lay (n := n) (a := xs) (by simpa [D.flat] using h)
    exact ⟨by simpa [D.py, PyData.canLay0] using h1, by simpa [D.py, PyData.depth] using h2⟩
  | n + 1, .tup xs, h => by
    obtain ⟨h1, h2⟩ := flats_lay (n := n) (a := xs) (by simpa [D.flat] using h)
    exact ⟨by simpa [D.py, PyData.canLay0] using h1, by simpa [D.py, PyData.depth] using h2⟩
theorem flats_lay : ∀ {n : Nat} {a : List D}, D.flats n a = true → PyData.canLayAll0 (D.pys a) = true ∧ PyData.depthAll (D.pys a) ≤ n
  | _, [], _ => ⟨by simp [D.pys, PyData.canLayAll0], by simp [D.pys, PyData.depthAll]⟩
  | n, x :: xs, h => by
    simp only [D.flats, Bool.and_eq_true] at h
    obtain ⟨h1, h2⟩ := flat_lay h.1
    obtain ⟨h3, h4⟩ := flats_lay h.2
    exact ⟨by simp [D.pys, PyData.canLayAll0, h1, h3], by simp only [D.pys, PyData.depthAll]; omega⟩
end
theorem flat_shaped {a : D} {n : Nat} (hn : n ≤ 64) (h : D.flat n a = true) : SeqAt.shaped (D.py a) = true := by
  obtain ⟨h1, h2⟩ := flat_lay h
  unfold SeqAt.shaped
  rw [h1, decide_eq_true (Nat.le_trans h2 hn)]; rfl
section
variable {K : PySem.W.Frag} {mg : Str → Option Value} {F : Addr → Prop} {H : Hp}
mutual
theorem Rep.dp : ∀ {n : Nat} {a : D} {v : V}, D.flat n a = true → Rep K mg F H a v → Dp K H v (D.py a)
  | _, .non, v, _, h => by unfold Rep at h; rw [h]; exact .non
  | _, .bl _, v, _, h => by unfold Rep at h; rw [h]; exact .bl _
  | _, .int _, v, _, h => by unfold Rep at h; rw [h]; exact .int _
  | _, .str _, v, _, h => by unfold Rep at h; rw [h]; exact .str _
  | n + 1, .lst xs, v, f, h => by
    unfold Rep at h
    obtain ⟨a, vs, rfl, fl, r⟩ := h
    exact .lst (.inl fl.2) (Reps.dp (n := n) (by simpa [D.flat] using f) r)
  | n + 1, .tup xs, v, f, h => by
    unfold Rep at h
    obtain ⟨a, vs, rfl, fl, r⟩ := h
    exact .tup fl.1 (Reps.dp (n := n) (by simpa [D.flat] using f) r)
theorem Reps.dp : ∀ {n : Nat} {a : List D} {vs : List V}, D.flats n a = true → Reps K mg F H a vs → DpAll K H vs (D.pys a)
  | _, [], vs, _, h => by unfold Reps at h; rw [h]; exact .nil
  | n, x :: xs, vs, f, h => by
    simp only [D.flats, Bool.and_eq_true] at f
    unfold Reps at h
    obtain ⟨v, r, rfl, h1, h2⟩ := h
    exact .cons (Rep.dp f.1 h1) (Reps.dp f.2 h2)
end
theorem RepT.dp {t : T} {v : V} {as : List Addr} {n : Nat} (h : RepT K mg F H t v as) (f : D.flat n t.frz = true) : Dp K H v (D.py t.frz) := by
  cases t with
  | pl d => unfold RepT at h; unfold T.frz at f ⊢; exact h.2.dp f
  | oo c fs => unfold T.frz D.flat at f; cases f
  | ol xs =>
    unfold RepT at h
    unfold T.frz at f ⊢
    obtain ⟨a, vs, rfl, _, hh, r⟩ := h
    cases n with
    | zero => unfold D.flat at f; cases f
    | succ n => exact .lst (.inl (.inl hh)) (Reps.dp (n := n) (by simpa [D.flat] using f) r)
end
def opEq (neg : Bool) (t t' : T) : Option T := if D.flat 40 t.frz = true ∧ D.flat 40 t'.frz = true then some (.pl (.bl (if neg then !D.eqv t.frz t'.frz else D.eqv t.frz t'.frz))) else none
section
variable {X : Cx}
theorem bin_eq : Bin X (opEq false) (rEqD X.K) := by
  intro F H own t v a t' v' a' u Q ok r r' s s' e q
  unfold opEq at e
  split at e
  · rename_i h
    cases e
    refine ⟨_, _, r.dp h.1, r'.dp h.2, flat_shaped (by decide) h.1, flat_shaped (by decide) h.2, ?_⟩
    rw [eqv_py h.1 h.2]
    exact q.val ok (by unfold Rep; rfl)
  · cases e
theorem bin_ne : Bin X (opEq true) (rNeD X.K) := by
  intro F H own t v a t' v' a' u Q ok r r' s s' e q
  unfold opEq at e
  split at e
  · rename_i h
    cases e
    refine ⟨_, _, r.dp h.1, r'.dp h.2, flat_shaped (by decide) h.1, flat_shaped (by decide) h.2, ?_⟩
    rw [eqv_py h.1 h.2]
    exact q.val ok (by unfold Rep; rfl)
  · cases e
end
end Mir

set_option maxHeartbeats 1000000
/-! Mir5: names, items, built-ins, displays, tests. -/
namespace Mir
open PySem L2 PyProof.Rows

/-! ### names, constants -/
def rv (i : Nat) : Rd T := fun env => (env[i]?).bind id
def rc (d : D) : Rd T := fun _ => some (.pl d)
def mv (i : Nat) : M T := fun env => match env[i]? with
  | some (some t) => .ok (fz t) (env.set i (some (fz t)))
  | _ => .no
def mmove (i : Nat) : M T := fun env => match env[i]? with
  | some (some t) => .ok t (env.set i none)
  | _ => .no
theorem set_self {α : Type} : ∀ {l : List α} {i : Nat} {v : α}, l[i]? = some v → l.set i v = l
  | [], i, v, h => by simp at h
  | x :: l, 0, v, h => by simp at h; simp [h]
  | x :: l, i + 1, v, h => by
    rw [List.set_cons_succ, set_self (by simpa using h)]
section
variable {X : Cx} {W : WX} {e a b : Expr} {pos : Pos}
theorem re_var {i : Nat} (h : PE X e (tVar i)) : PE X e (tR X (rv i)) := pe_imp h fun σ H Q ⟨F, env, as, ok, rep, t, hm, post⟩ => by
  unfold rv at hm
  have hi : env[i]? = some (some t) := by
    cases q : env[i]? with
    | none => rw [q] at hm; cases hm
    | some o => rw [q] at hm; exact congrArg some hm
  have hl : i < env.length := (List.getElem?_eq_some_iff.mp hi).1
  obtain ⟨l1, a, l2, ea, g1, _, _⟩ := rep.at i hl
  obtain ⟨v, e1, r⟩ := g1 t hi
  exact ⟨v, e1, post F H v a (GoR.refl ok) r fun b hb => by rw [ea]; simp [hb]⟩
theorem me_var {i : Nat} (h : PE X e (tVar i)) : PE X e (tE X W (mv i)) := pe_imp h fun σ H Q ⟨F, env, as, ok, rep, post⟩ => by
  unfold mv at post
  split at post
  · rename_i t hi
    have hl : i < env.length := (List.getElem?_eq_some_iff.mp hi).1
    obtain ⟨l1, a, l2, ea, g1, _, g3⟩ := rep.at i hl
    obtain ⟨v, e1, r⟩ := g1 t hi
    subst ea
    have ok2 : Wd.Ok ⟨F, H, (l1 ++ l2) ++ a⟩ := ok.sub ((List.Perm.nodup_iff (by rw [List.append_assoc]; exact List.Perm.append_left _ List.perm_append_comm)).mp ok.nd) fun b hb => by
      simp only [List.mem_append] at hb ⊢
      rcases hb with (z | z) | z
      · exact .inl z
      · exact .inr (.inr z)
      · exact .inr (.inl z)
    have g := ok2.freeze.src (l' := l1 ++ (a ++ l2)) fun b hb => by
      simp only [List.mem_append] at hb ⊢
      rcases hb with (z | z) | z
      · exact .inl z
      · exact .inr (.inr z)
      · exact .inr (.inl z)
    have le := g.le ok
    have rf : Rep X.K X.mg (fun b => F b ∨ b ∈ a) H t.frz v := RepT.frz (r.mono le fun _ _ _ e => e) fun b hb => .inr hb
    have re := (g3 (fun b => F b ∨ b ∈ a) H le fun _ _ _ e => e).1 (fz t) v [] (RepT.plI rf)
    rw [set_self e1, List.nil_append] at re
    exact ⟨v, e1, post _ H v (l1 ++ l2) [] g.nil re (RepT.plI rf)⟩
  · exact post.elim
theorem me_move {i : Nat} (h : PE X e (tVar i)) : PE X e (tE X W (mmove i)) := pe_imp h fun σ H Q ⟨F, env, as, ok, rep, post⟩ => by
  unfold mmove at post
  split at post
  · rename_i t hi
    have hl : i < env.length := (List.getElem?_eq_some_iff.mp hi).1
    obtain ⟨l1, a, l2, ea, g1, _, g3⟩ := rep.at i hl
    obtain ⟨v, e1, r⟩ := g1 t hi
    subst ea
    have re := (g3 F H (Le.refl F H) fun _ _ _ e => e).2 (some v)
    rw [set_self e1] at re
    refine ⟨v, e1, post F H v (l1 ++ l2) a ((Go.refl ok).sub ?_ fun b hb => ?_) re r⟩
    · exact (List.Perm.nodup_iff (by rw [List.append_assoc]; exact List.Perm.append_left _ List.perm_append_comm)).mp ok.nd
    · simp only [List.mem_append] at hb ⊢
      rcases hb with (z | z) | z
      · exact .inl z
      · exact .inr (.inr z)
      · exact .inr (.inl z)
  · exact post.elim
theorem re_c {d : D} {v : V} (h : PE X e (tC v)) (r : ∀ F H, Rep X.K X.mg F H d v) : PE X e (tR X (rc d)) := pe_imp h fun σ H Q ⟨F, env, as, ok, rep, t, hm, post⟩ => by
  cases hm
  exact post F H v [] (GoR.refl ok) (RepT.plI (r F H)) (by simp)
theorem re_int {i j pos} : PE X (.Constant (.int i) j pos) (tR X (rc (.int i))) := re_c pe_int fun _ _ => by unfold Rep; rfl
theorem re_bl {i j pos} : PE X (.Constant (.bool i) j pos) (tR X (rc (.bl i))) := re_c pe_bl fun _ _ => by unfold Rep; rfl
theorem re_str {i j pos} : PE X (.Constant (.str i) j pos) (tR X (rc (.str i))) := re_c pe_str fun _ _ => by unfold Rep; rfl
theorem re_non {j pos} : PE X (.Constant .none j pos) (tR X (rc .non)) := re_c pe_non fun _ _ => by unfold Rep; rfl

/-! ### items, slices -/
end
def opIx : T → T → Option T
  | .pl (.str z), .pl (.int i) => if z.length ≤ big then (atI z.cps.toList i).map fun c => .pl (.str ⟨#[c]⟩) else none
  | x, .pl (.int i) => x.asS.bind fun xs => (atI xs i).map .pl
  | _, _ => none
def cutD (xs : List D) (lo hi : Option Int) : List D := (xs.drop (HT.sIx xs.length 0 lo)).take (HT.sIx xs.length xs.length hi - HT.sIx xs.length 0 lo)
section
variable {X : Cx} {W : WX} {e a b : Expr} {pos : Pos}
theorem atI_rep {K mg F H} {ds : List D} {vs : List V} {i : Int} {d : D} (r : Reps K mg F H ds vs) (e : atI ds i = some d) : ∃ v, atI vs i = some v ∧ Rep K mg F H d v := by
  unfold atI at e ⊢
  rw [r.length]
  cases q : ixN ds.length i with
  | none => rw [q] at e; cases e
  | some j =>
    rw [q] at e
    exact r.get e
theorem bin_ix : Bin X opIx (rIx X.K) := by
  intro F H own t v a t' v' a' u Q ok r r' s s' e q
  unfold opIx at e
  split at e
  · split at e
    · rename_i hz
      simp only [Option.map_eq_some_iff] at e
      obtain ⟨c, hc, rfl⟩ := e
      rw [r.str, r'.int]
      exact .inr (.inr ⟨_, _, c, rfl, rfl, big_line hz, hc, q.val ok (by unfold Rep; rfl)⟩)
    · cases e
  · simp only [Option.bind_eq_some_iff, Option.map_eq_some_iff] at e
    obtain ⟨xs, e1, d, e2, rfl⟩ := e
    obtain ⟨p, vs, rfl, h1, k1⟩ := r.asS e1
    obtain ⟨w, h2, k2⟩ := atI_rep k1 e2
    rw [r'.int]
    rcases h1 with h1 | h1
    · exact .inl ⟨p, vs, _, w, rfl, rfl, h1, h2, q.val ok k2⟩
    · exact .inr (.inl ⟨p, vs, _, w, rfl, rfl, h1, h2, q.val ok k2⟩)
  · cases e
/-- an optional part of a slice, read -/
def tRO (X : Cx) (m : Rd (Option Int)) : TO := fun σ H Q => ∃ F env as, Wd.Ok ⟨F, H, as⟩ ∧ RepE X.K X.mg F H env σ as ∧ ∃ o, m env = some o ∧
  ∀ F' H', GoR ⟨F, H, as⟩ ⟨F', H', as⟩ → Q o H'
theorem po_imp {X : Cx} {e : Option Expr} {t u : TO} (h : PO X e t) (i : ∀ σ H Q, u σ H Q → t σ H Q) : PO X e u := ⟨fun pins s σ H Q I hu => h.run pins s σ H Q I (i σ H Q hu)⟩
def rnone : Rd (Option Int) := fun _ => some none
def asI : T → Option Int
  | .pl (.int i) => some i
  | _ => none
def rsome (ρ : Rd T) : Rd (Option Int) := fun env => (ρ env).bind fun t => (asI t).map some
theorem ro_none : PO X none (tRO X rnone) := po_imp po_none fun σ H Q ⟨F, env, as, ok, rep, o, hm, post⟩ => by
  cases hm
  exact post F H (GoR.refl ok)
theorem asI_int {t : T} {i : Int} (h : asI t = some i) : t = .pl (.int i) := by
  unfold asI at h
  split at h <;> cases h
  rfl
theorem ro_some {ρ : Rd T} (h : PE X e (tR X ρ)) : PO X (some e) (tRO X (rsome ρ)) := po_imp (po_some h) fun σ H Q ⟨F, env, as, ok, rep, o, hm, post⟩ => by
  unfold rsome at hm
  simp only [Option.bind_eq_some_iff, Option.map_eq_some_iff] at hm
  obtain ⟨t, ht, i, hi, rfl⟩ := hm
  have et := asI_int hi
  subst et
  exact ⟨F, env, as, ok, rep, _, ht, fun F1 H1 v1 at1 g1 rt1 s1 => ⟨i, rt1.int, post F1 H1 g1⟩⟩
/-- slices of texts -/
def opSl (t : T) (lo hi : Option Int) : Option T := match t with
  | .pl (.tup xs) => some (.pl (.tup (cutD xs lo hi)))
  | x => x.asL.map fun xs => .ol (cutD xs lo hi)
def rSl (K : PySem.W.Frag) : V → Option Int → Option Int → Hp → VK → Prop := fun x lo hi H Q => rSlL K x lo hi H Q ∨ rSlA K x lo hi H Q
theorem cutD_rep {K mg F H} {ds : List D} {vs : List V} {lo hi} (r : Reps K mg F H ds vs) : Reps K mg F H (cutD ds lo hi) (cutV vs lo hi) := by
  unfold cutD cutV
  rw [r.length]
  exact (r.drop _).take _
def r3 (f : T → Option Int → Option Int → Option T) (a : Rd T) (l h : Rd (Option Int)) : Rd T := fun env => (a env).bind fun x => (l env).bind fun lo => (h env).bind fun hi => (f x lo hi).map fz
theorem re_sl {lo hi : Option Expr} {p2 pos} {ρ : Rd T} {l h : Rd (Option Int)} (he : PE X e (tR X ρ)) (hl : PO X lo (tRO X l)) (hu : PO X hi (tRO X h)) : PE X (.Subscript e (.Slice lo hi none p2) pos) (tR X (r3 opSl ρ l h)) :=
  pe_imp (pe_slice (sl_list.or sl_tupA) he hl hu) fun σ H Q ⟨F, env, as, ok, rep, t, hm, post⟩ => by
  unfold r3 at hm
  simp only [Option.bind_eq_some_iff, Option.map_eq_some_iff] at hm
  obtain ⟨x, hx, lo', hlo, hi', hhi, u, hu', rfl⟩ := hm
  refine ⟨F, env, as, ok, rep, x, hx, fun F1 H1 v1 at1 g1 rt1 s1 => ⟨F1, env, as, g1.ok, rep.readG ok g1, lo', hlo, fun F2 H2 g2 => ⟨F2, env, as, g2.ok, (rep.readG ok g1).readG g1.ok g2, hi', hhi, fun F3 H3 g3 => ?_⟩⟩⟩
  have rt3 := (rt1.readG g1.ok g2).readG g2.ok g3
  have fin : Res X F3 H3 as u Q := Res.of_fz g3.ok fun F4 H4 v g4 q4 => post F4 H4 v [] (g1.trans (g2.trans (g3.trans g4))) (RepT.plI q4) (by simp)
  unfold opSl at hu'
  split at hu'
  · cases hu'
    rename_i xs
    obtain ⟨p, vs, rfl, h1, f1, k1⟩ := rt3.tup
    have kc := cutD_rep (lo := lo') (hi := hi') k1
    refine .inr ⟨p, vs, rfl, h1, fun z => ?_, fun z p' hp' => fin.newT g3.ok hp' kc⟩
    refine fin.val g3.ok ?_
    unfold Rep
    refine ⟨p, vs, rfl, f1, ?_⟩
    have ec : cutV vs lo' hi' = vs := by
      unfold cutV
      rw [z.1, z.2, List.drop_zero, Nat.sub_zero, List.take_length]
    rw [ec] at kc
    exact kc
  · simp only [Option.map_eq_some_iff] at hu'
    obtain ⟨xs, e1, rfl⟩ := hu'
    obtain ⟨p, vs, rfl, h1, k1⟩ := rt3.asL e1
    exact .inl ⟨p, vs, rfl, .inl h1, fun p' hp' => fin.newL g3.ok hp' (cutD_rep k1)⟩

/-! ### built-ins -/
end
def opLen : List T → Option T
  | [.pl (.str z)] => if z.length ≤ big then some (.pl (.int z.length)) else none
  | [x] => x.asS.map fun xs => .pl (.int xs.length)
  | _ => none
def opTuple : List T → Option T
  | [x] => x.asS.map fun xs => .pl (.tup xs)
  | _ => none
def opList : List T → Option T
  | [x] => x.asS.map .ol
  | _ => none
def opAbs : List T → Option T
  | [.pl (.int i)] => some (.pl (.int (if i < 0 then -i else i)))
  | _ => none
def opMax2 : List T → Option T
  | [.pl (.int i), .pl (.int j)] => some (.pl (.int (if j > i then j else i)))
  | _ => none
def opMin2 : List T → Option T
  | [.pl (.int i), .pl (.int j)] => some (.pl (.int (if j < i then j else i)))
  | _ => none
def opInt : List T → Option T
  | [.pl (.int i)] => some (.pl (.int i))
  | [.pl (.bl k)] => some (.pl (.int (if k then 1 else 0)))
  | _ => none
def opGcd : List T → Option T
  | [.pl (.int i), .pl (.int j)] => some (.pl (.int ((Nat.gcd i.natAbs j.natAbs : Nat) : Int)))
  | _ => none
def tyName : T → Option String
  | .pl .non => some "NoneType"
  | .pl (.bl _) => some "bool"
  | .pl (.int _) => some "int"
  | .pl (.str _) => some "str"
  | .pl (.tup _) => some "tuple"
  | .pl (.lst _) => some "list"
  | .ol _ => some "list"
  | _ => none
def opIsi : List T → Option T
  | [x, .pl (.ty n)] => (tyName x).bind fun m => (kitB m n).map fun b => .pl (.bl b)
  | _ => none
section
variable {X : Cx} {K : PySem.W.Frag} {mg : Str → Option Value} {F : Addr → Prop} {H : Hp} {as : List Addr}
theorem RepTs.one {t : T} {vs : List V} (h : RepTs K mg F H [t] vs as) : ∃ v, vs = [v] ∧ RepT K mg F H t v as := by
  unfold RepTs RepTs at h
  obtain ⟨v, r, a1, a2, e, ea, h1, e2, ea2⟩ := h
  subst e2 ea2
  rw [List.append_nil] at ea
  exact ⟨v, e, ea ▸ h1⟩
theorem RepTs.two {t t' : T} {vs : List V} (h : RepTs K mg F H [t, t'] vs as) : ∃ v v' a1 a2, vs = [v, v'] ∧ as = a1 ++ a2 ∧ RepT K mg F H t v a1 ∧ RepT K mg F H t' v' a2 := by
  unfold RepTs at h
  obtain ⟨v, r, a1, a2, e, ea, h1, h2⟩ := h
  obtain ⟨v', e', r'⟩ := h2.one
  subst e'
  exact ⟨v, v', a1, a2, e, ea, h1, r'⟩
theorem na_len : Nary X opLen (fun xs H Q => ∃ x n, xs = [x] ∧ LenV X.K x H n ∧ Q (.int n) H) := by
  intro F H own ts vs a u Q ok r s e q
  unfold opLen at e
  split at e
  · split at e <;> cases e
    rename_i hz
    obtain ⟨v, rfl, r1⟩ := r.one
    rw [r1.str]
    exact ⟨_, _, rfl, ⟨big_line hz, rfl⟩, q.val ok (by unfold Rep; rfl)⟩
  · simp only [Option.map_eq_some_iff] at e
    obtain ⟨xs, e1, rfl⟩ := e
    obtain ⟨v, rfl, r1⟩ := r.one
    obtain ⟨p, ws, rfl, h1, k1⟩ := r1.asS e1
    refine ⟨_, ws.length, rfl, ?_, by rw [k1.length]; exact q.val ok (by unfold Rep; rfl)⟩
    rcases h1 with h1 | h1
    · exact .inl ⟨ws, h1, rfl⟩
    · exact .inr ⟨ws, h1, rfl⟩
  · cases e
theorem na_tuple : Nary X opTuple (fun xs H Q => ∃ p ys, xs = [.ref p] ∧ ((SqL X.K H p ys ∧ ∀ l, H l = none → Q (.ref l) (upd H l (.tup ys))) ∨ (SqT X.K H p ys ∧ Q (.ref p) H))) := by
  intro F H own ts vs a u Q ok r s e q
  unfold opTuple at e
  split at e
  · simp only [Option.map_eq_some_iff] at e
    obtain ⟨xs, e1, rfl⟩ := e
    obtain ⟨v, rfl, r1⟩ := r.one
    rename_i x
    cases x with
    | oo c fs => cases e1
    | ol ys =>
      obtain ⟨p, ws, rfl, h1, k1⟩ := r1.asL (ds := ys) rfl
      cases e1
      exact ⟨p, ws, rfl, .inl ⟨.inl h1, fun l hl => q.newT ok hl k1⟩⟩
    | pl d =>
      cases d <;> cases e1
      · obtain ⟨p, ws, rfl, h1, f1, k1⟩ := r1.tup
        exact ⟨p, ws, rfl, .inr ⟨h1, q.val ok (by unfold Rep; exact ⟨p, ws, rfl, f1, k1⟩)⟩⟩
      · obtain ⟨p, ws, rfl, h1, k1⟩ := r1.asL rfl
        exact ⟨p, ws, rfl, .inl ⟨.inl h1, fun l hl => q.newT ok hl k1⟩⟩
      · unfold RepT Rep at r1
        obtain ⟨_, p, ws, rfl, f, k1⟩ := r1
        exact ⟨p, ws, rfl, .inl ⟨f.1, fun l hl => q.newT ok hl k1⟩⟩
  · cases e
theorem na_list : Nary X opList (fun xs H Q => ∃ p ys, xs = [.ref p] ∧ (SqL X.K H p ys ∨ SqT X.K H p ys) ∧ ∀ l, H l = none → Q (.ref l) (upd H l (.lst ys))) := by
  intro F H own ts vs a u Q ok r s e q
  unfold opList at e
  split at e
  · simp only [Option.map_eq_some_iff] at e
    obtain ⟨xs, e1, rfl⟩ := e
    obtain ⟨v, rfl, r1⟩ := r.one
    obtain ⟨p, ws, rfl, h1, k1⟩ := r1.asS e1
    exact ⟨p, ws, rfl, h1, fun l hl => q.newL ok hl k1⟩
  · cases e
theorem na_abs : Nary X opAbs (fun xs H Q => ∃ i, xs = [.int i] ∧ Q (.int (if i < 0 then -i else i)) H) := by
  intro F H own ts vs a u Q ok r s e q
  unfold opAbs at e
  split at e <;> cases e
  obtain ⟨v, rfl, r1⟩ := r.one
  rw [r1.int]
  exact ⟨_, rfl, q.val ok (by unfold Rep; rfl)⟩
theorem na_int2 {f : List T → Option T} {g : Int → Int → Int} {r : List V → Hp → VK → Prop} (hf : ∀ ts u, f ts = some u → ∃ i j, ts = [.pl (.int i), .pl (.int j)] ∧ u = .pl (.int (g i j)))
    (hr : ∀ i j H Q, Q (.int (g i j)) H → r [.int i, .int j] H Q) : Nary X f r := by
  intro F H own ts vs a u Q ok rr s e q
  obtain ⟨i, j, rfl, rfl⟩ := hf ts u e
  obtain ⟨v, v', a1, a2, rfl, rfl, r1, r2⟩ := rr.two
  rw [r1.int, r2.int]
  exact hr _ _ _ _ (q.val ok (by unfold Rep; rfl))
def rMax2 : List V → Hp → VK → Prop := fun xs H Q => ∃ i j, xs = [.int i, .int j] ∧ Q (.int (if j > i then j else i)) H
def rMin2 : List V → Hp → VK → Prop := fun xs H Q => ∃ i j, xs = [.int i, .int j] ∧ Q (.int (if j < i then j else i)) H
theorem na_max2 : Nary X opMax2 rMax2 := na_int2 (g := fun i j => if j > i then j else i) (fun ts u e => by
  unfold opMax2 at e
  split at e <;> cases e
  exact ⟨_, _, rfl, rfl⟩) fun i j H Q q => ⟨i, j, rfl, q⟩
theorem na_min2 : Nary X opMin2 rMin2 := na_int2 (g := fun i j => if j < i then j else i) (fun ts u e => by
  unfold opMin2 at e
  split at e <;> cases e
  exact ⟨_, _, rfl, rfl⟩) fun i j H Q q => ⟨i, j, rfl, q⟩
theorem na_gcd : Nary X opGcd rGcd := na_int2 (f := opGcd) (g := fun i j => ((Nat.gcd i.natAbs j.natAbs : Nat) : Int)) (fun ts u e => by
  unfold opGcd at e
  split at e <;> cases e
  exact ⟨_, _, rfl, rfl⟩) fun i j H Q q => ⟨i, j, rfl, q⟩
theorem na_intC : Nary X opInt (fun xs H Q => (∃ i, xs = [.int i] ∧ Q (.int i) H) ∨ ∃ k, xs = [.bl k] ∧ Q (.int (if k then 1 else 0)) H) := by
  intro F H own ts vs a u Q ok r s e q
  unfold opInt at e
  split at e <;> cases e
  · obtain ⟨v, rfl, r1⟩ := r.one
    rw [r1.int]
    exact .inl ⟨_, rfl, q.val ok (by unfold Rep; rfl)⟩
  · obtain ⟨v, rfl, r1⟩ := r.one
    rw [r1.bl]
    exact .inr ⟨_, rfl, q.val ok (by unfold Rep; rfl)⟩
theorem tyX_of {t : T} {v : V} {n : String} (r : RepT K mg F H t v as) (e : tyName t = some n) : TyX K H v (.type n) := by
  cases t with
  | oo c fs => cases e
  | ol xs =>
    cases e
    unfold RepT at r
    obtain ⟨a, vs, rfl, _, hh, _⟩ := r
    exact .base (.lst hh)
  | pl d =>
    unfold RepT at r
    obtain ⟨_, r⟩ := r
    cases d <;> cases e <;> unfold Rep at r
    · rw [r]; exact .base .non
    · rw [r]; exact .base (.bl _)
    · rw [r]; exact .base (.int _)
    · rw [r]; exact .base (.str _)
    · obtain ⟨a, vs, rfl, f, _⟩ := r
      rcases f.1 with (h | ⟨o, h⟩) | ⟨o, its, n, h1, h2, _⟩
      · exact .base (.tup h)
      · exact .fTuple h
      · exact .kTuple h1 h2
    · obtain ⟨a, vs, rfl, f, _⟩ := r
      rcases f.2 with h | ⟨o, h⟩
      · exact .base (.lst h)
      · exact .base (.frz h)
theorem na_isi : Nary X opIsi (rIsi X.K) := by
  intro F H own ts vs a u Q ok r s e q
  unfold opIsi at e
  split at e
  · simp only [Option.bind_eq_some_iff, Option.map_eq_some_iff] at e
    obtain ⟨m, e1, b, e2, rfl⟩ := e
    obtain ⟨v, v', a1, a2, rfl, rfl, r1, r2⟩ := r.two
    rw [r2.ty]
    exact ⟨v, _, _, _, b, rfl, .ty _, tyX_of r1 e1, kit_ty e2, q.val ok (by unfold Rep; rfl)⟩
  · cases e
end
end Mir

set_option maxHeartbeats 1000000
/-! Mir6: tests, and | or | not, if-expressions, displays, in, is. -/
namespace Mir
open PySem L2 PyProof.Rows

def asB : T → Option Bool
  | .pl (.bl b) => some b
  | _ => none
/-- truth -/
def asTru : T → Option Bool
  | .pl .non => some false
  | .pl (.bl b) => some b
  | .pl (.int i) => some (i != 0)
  | .pl (.str z) => if z.length ≤ big then some ((z.length : Int) != 0) else none
  | x => x.asS.map fun xs => !xs.isEmpty
def rb (f : T → Option Bool) (ρ : Rd T) : Rd Bool := fun env => (ρ env).bind f
def mb (f : T → Option Bool) (m : M T) : M Bool := m.bind fun t => .ofO (f t)
theorem asB_bl {t : T} {b : Bool} (h : asB t = some b) : t = .pl (.bl b) := by
  unfold asB at h
  split at h <;> cases h
  rfl
section
variable {X : Cx} {W : WX} {e a b c : Expr} {pos : Pos} {ρ ρa ρb : Rd T} {m ma mb' : M T}
theorem rt_of (h : PT X e (L2.tB (tR X ρ))) : PT X e (tRB X (rb asB ρ)) := pt_imp h fun σ H Q ⟨F, env, as, ok, rep, t, hm, post⟩ => by
  unfold rb at hm
  simp only [Option.bind_eq_some_iff] at hm
  obtain ⟨x, hx, hb⟩ := hm
  have et := asB_bl hb
  subst et
  exact ⟨F, env, as, ok, rep, _, hx, fun F1 H1 v1 at1 g1 rt1 s1 => ⟨t, rt1.bl, post F1 H1 g1⟩⟩
theorem truV_of {K mg F H t v a b} (r : RepT K mg F H t v a) (e : asTru t = some b) : TruV K v H b := by
  unfold asTru at e
  split at e
  · cases e; unfold RepT Rep at r; rw [r.2]; rfl
  · cases e; rw [r.bl]; rfl
  · cases e; rw [r.int]; rfl
  · split at e <;> cases e
    rename_i hz
    rw [r.str]; exact ⟨big_line hz, rfl⟩
  · simp only [Option.map_eq_some_iff] at e
    obtain ⟨xs, e1, rfl⟩ := e
    obtain ⟨p, vs, rfl, h1, k1⟩ := r.asS e1
    have el : (!xs.isEmpty) = !vs.isEmpty := by
      have := k1.length
      cases xs <;> cases vs <;> simp at this ⊢
    rcases h1 with h1 | h1
    · exact .inl ⟨vs, h1, el⟩
    · exact .inr (.inl ⟨vs, h1, el⟩)
theorem rt_tru (ha : PE X a (tR X ρ)) (he : ∀ whole, isTrue a X.env whole = (do let v ← whole; standAt a.pos; holding [v] (truthy v)) := by intro _; rfl) : PT X a (tRB X (rb asTru ρ)) :=
  pt_imp (pt_truth ha he) fun σ H Q ⟨F, env, as, ok, rep, t, hm, post⟩ => by
  unfold rb at hm
  simp only [Option.bind_eq_some_iff] at hm
  obtain ⟨x, hx, hb⟩ := hm
  exact ⟨F, env, as, ok, rep, _, hx, fun F1 H1 v1 at1 g1 rt1 s1 => ⟨t, truV_of rt1 hb, post F1 H1 g1⟩⟩
theorem mt_of (h : PT X e (L2.tB (tE X W m))) : PT X e (Mir.tB X W (mb asB m)) := pt_imp h fun σ H Q ⟨F, env, as, ok, rep, post⟩ => by
  refine ⟨F, env, as, ok, rep, ?_⟩
  unfold mb M.bind at post
  cases h1 : m env with
  | no => rw [h1] at post; exact post
  | ex x e1 => rw [h1] at post; exact post
  | ok x e1 =>
    rw [h1] at post
    intro F1 H1 v1 as1 at1 g1 rep1 rt1
    dsimp only at post
    cases hu : asB x with
    | none => rw [hu] at post; exact post.elim
    | some b =>
      rw [hu] at post
      have et := asB_bl hu
      subst et
      exact ⟨b, rt1.bl, post F1 H1 as1 g1.left rep1⟩
theorem mt_tru (ha : PE X a (tE X W m)) (he : ∀ whole, isTrue a X.env whole = (do let v ← whole; standAt a.pos; holding [v] (truthy v)) := by intro _; rfl) : PT X a (Mir.tB X W (mb asTru m)) :=
  pt_imp (pt_truth ha he) fun σ H Q ⟨F, env, as, ok, rep, post⟩ => by
  refine ⟨F, env, as, ok, rep, ?_⟩
  unfold mb M.bind at post
  cases h1 : m env with
  | no => rw [h1] at post; exact post
  | ex x e1 => rw [h1] at post; exact post
  | ok x e1 =>
    rw [h1] at post
    intro F1 H1 v1 as1 at1 g1 rep1 rt1
    dsimp only at post
    cases hu : asTru x with
    | none => rw [hu] at post; exact post.elim
    | some b =>
      rw [hu] at post
      exact ⟨b, truV_of rt1 hu, post F1 H1 as1 g1.left rep1⟩
/-- a reading test as a doing one -/
def ofRB (ρ : Rd Bool) : M Bool := fun env => match ρ env with
  | some b => .ok b env
  | none => .no
theorem mt_r {ρ : Rd Bool} (h : PT X e (tRB X ρ)) : PT X e (Mir.tB X W (ofRB ρ)) := pt_imp h fun σ H Q ⟨F, env, as, ok, rep, post⟩ => by
  unfold ofRB at post
  cases h1 : ρ env with
  | none => rw [h1] at post; exact post.elim
  | some b =>
    rw [h1] at post
    exact ⟨F, env, as, ok, rep, b, h1, fun F1 H1 g1 => post F1 H1 as g1.toGo (rep.readG ok g1)⟩

/-! ### and, or, not as tests -/
def rAndB (a b : Rd Bool) : Rd Bool := fun env => (a env).bind fun x => if x = true then b env else some false
def rOrB (a b : Rd Bool) : Rd Bool := fun env => (a env).bind fun x => if x = true then some true else b env
def rNotB (a : Rd Bool) : Rd Bool := fun env => (a env).map (!·)
def mAndB (a b : M Bool) : M Bool := a.bind fun x => if x = true then b else fun env => .ok false env
def mOrB (a b : M Bool) : M Bool := a.bind fun x => if x = true then fun env => .ok true env else b
def mNotB (a : M Bool) : M Bool := a.bind fun x => fun env => .ok (!x) env
variable {rest : List Expr} {β β' : Rd Bool} {μ μ' : M Bool}
theorem rw_and1 (ha : PT X a (tRB X β)) : PW X (.BoolOp .And [a] pos) (tRB X β) := pw_and1 ha
theorem rw_or1 (ha : PT X a (tRB X β)) : PW X (.BoolOp .Or [a] pos) (tRB X β) := pw_or1 ha
theorem rw_and (ha : PT X a (tRB X β)) (hb : PW X (.BoolOp .And (b :: rest) pos) (tRB X β')) : PW X (.BoolOp .And (a :: b :: rest) pos) (tRB X (rAndB β β')) :=
  pw_imp (pw_and ha hb) fun σ H Q ⟨F, env, as, ok, rep, t, hm, post⟩ => by
  unfold rAndB at hm
  simp only [Option.bind_eq_some_iff] at hm
  obtain ⟨x, hx, hy⟩ := hm
  refine ⟨F, env, as, ok, rep, x, hx, fun F1 H1 g1 => ?_⟩
  cases x with
  | true => exact iteT ⟨F1, env, as, g1.ok, rep.readG ok g1, t, by simpa using hy, fun F2 H2 g2 => post F2 H2 (g1.trans g2)⟩
  | false => simp at hy; subst hy; exact iteF (post F1 H1 g1)
theorem rw_or (ha : PT X a (tRB X β)) (hb : PW X (.BoolOp .Or (b :: rest) pos) (tRB X β')) : PW X (.BoolOp .Or (a :: b :: rest) pos) (tRB X (rOrB β β')) :=
  pw_imp (pw_or ha hb) fun σ H Q ⟨F, env, as, ok, rep, t, hm, post⟩ => by
  unfold rOrB at hm
  simp only [Option.bind_eq_some_iff] at hm
  obtain ⟨x, hx, hy⟩ := hm
  refine ⟨F, env, as, ok, rep, x, hx, fun F1 H1 g1 => ?_⟩
  cases x with
  | false => exact iteF ⟨F1, env, as, g1.ok, rep.readG ok g1, t, by simpa using hy, fun F2 H2 g2 => post F2 H2 (g1.trans g2)⟩
  | true => simp at hy; subst hy; exact iteT (post F1 H1 g1)
theorem rt_not (ha : PT X a (tRB X β)) : PT X (.UnaryOp .Not a pos) (tRB X (rNotB β)) := pt_imp (pt_not ha) fun σ H Q ⟨F, env, as, ok, rep, t, hm, post⟩ => by
  unfold rNotB at hm
  simp only [Option.map_eq_some_iff] at hm
  obtain ⟨x, hx, rfl⟩ := hm
  exact ⟨F, env, as, ok, rep, x, hx, fun F1 H1 g1 => post F1 H1 g1⟩
/-- a test of doing: cases -/
theorem PoB.bind {F H as σ Q} {Q' : Bool → Hp → Prop} {μ : M Bool} {k : Bool → M Bool} {env : Slots} (post : PoB X W F H as σ Q ((μ.bind k) env))
    (h : ∀ x e1, μ env = .ok x e1 → ∀ F1 H1 as1, Go ⟨F, H, as⟩ ⟨F1, H1, as1⟩ → RepE X.K X.mg F1 H1 e1 σ as1 → PoB X W F H as σ Q (k x e1) → Q' x H1) : PoB X W F H as σ Q' (μ env) := by
  unfold M.bind at post
  cases h1 : μ env with
  | no => rw [h1] at post; exact post
  | ex x e1 => rw [h1] at post; exact post
  | ok x e1 => rw [h1] at post; exact fun F1 H1 as1 g1 rep1 => h x e1 h1 F1 H1 as1 g1 rep1 post
/-- from a point of the way on -/
theorem PoB.from {F H as σ Q} {F1 H1 as1 o} (g1 : Go ⟨F, H, as⟩ ⟨F1, H1, as1⟩) (post : PoB X W F H as σ Q o) : PoB X W F1 H1 as1 σ Q o := by
  cases o with
  | no => exact post
  | ex x e => exact fun F2 H2 as2 cls d g2 rep2 rx => post F2 H2 as2 cls d (g1.trans g2) rep2 rx
  | ok x e => exact fun F2 H2 as2 g2 rep2 => post F2 H2 as2 (g1.trans g2) rep2
theorem PoE.from {F H as σ Q} {F1 H1 as1 o} (g1 : Go ⟨F, H, as⟩ ⟨F1, H1, as1⟩) (post : PoE X W F H as σ Q o) : PoE X W F1 H1 as1 σ Q o := by
  cases o with
  | no => exact post
  | ex x e => exact fun F2 H2 as2 cls d g2 rep2 rx => post F2 H2 as2 cls d (g1.trans g2) rep2 rx
  | ok x e => exact fun F2 H2 v as2 at2 g2 rep2 r => post F2 H2 v as2 at2 (g1.trans g2) rep2 r
theorem mw_and1 (ha : PT X a (Mir.tB X W μ)) : PW X (.BoolOp .And [a] pos) (Mir.tB X W μ) := pw_and1 ha
theorem mw_or1 (ha : PT X a (Mir.tB X W μ)) : PW X (.BoolOp .Or [a] pos) (Mir.tB X W μ) := pw_or1 ha
theorem mw_and (ha : PT X a (Mir.tB X W μ)) (hb : PW X (.BoolOp .And (b :: rest) pos) (Mir.tB X W μ')) : PW X (.BoolOp .And (a :: b :: rest) pos) (Mir.tB X W (mAndB μ μ')) :=
  pw_imp (pw_and ha hb) fun σ H Q ⟨F, env, as, ok, rep, post⟩ => ⟨F, env, as, ok, rep, PoB.bind post fun x e1 h1 F1 H1 as1 g1 rep1 p => by
    cases x with
    | true => exact iteT ⟨F1, e1, as1, g1.ok, rep1, PoB.from g1 p⟩
    | false => exact iteF (p F1 H1 as1 g1 rep1)⟩
theorem mw_or (ha : PT X a (Mir.tB X W μ)) (hb : PW X (.BoolOp .Or (b :: rest) pos) (Mir.tB X W μ')) : PW X (.BoolOp .Or (a :: b :: rest) pos) (Mir.tB X W (mOrB μ μ')) :=
  pw_imp (pw_or ha hb) fun σ H Q ⟨F, env, as, ok, rep, post⟩ => ⟨F, env, as, ok, rep, PoB.bind post fun x e1 h1 F1 H1 as1 g1 rep1 p => by
    cases x with
    | false => exact iteF ⟨F1, e1, as1, g1.ok, rep1, PoB.from g1 p⟩
    | true => exact iteT (p F1 H1 as1 g1 rep1)⟩
theorem mt_not (ha : PT X a (Mir.tB X W μ)) : PT X (.UnaryOp .Not a pos) (Mir.tB X W (mNotB μ)) := pt_imp (pt_not ha) fun σ H Q ⟨F, env, as, ok, rep, post⟩ =>
  ⟨F, env, as, ok, rep, PoB.bind post fun x e1 h1 F1 H1 as1 g1 rep1 p => p F1 H1 as1 g1 rep1⟩

/-! ### as values -/
def rAndV (a b : Rd T) : Rd T := fun env => (a env).bind fun x => (asB x).bind fun c => if c = true then b env else some (.pl (.bl false))
def rOrV (a b : Rd T) : Rd T := fun env => (a env).bind fun x => (asB x).bind fun c => if c = true then some (.pl (.bl true)) else b env
def rNotV (a : Rd T) : Rd T := fun env => (a env).bind fun x => (asB x).map fun c => .pl (.bl (!c))
theorem re_one {op} (h : PE X a (tR X ρ)) : PE X (.BoolOp op [a] pos) (tR X ρ) := pe_one h
theorem me_one {op} (h : PE X a (tE X W m)) : PE X (.BoolOp op [a] pos) (tE X W m) := pe_one h
theorem re_and (ha : PE X a (tR X ρa)) (hb : PE X (.BoolOp .And (b :: rest) pos) (tR X ρb)) : PE X (.BoolOp .And (a :: b :: rest) pos) (tR X (rAndV ρa ρb)) :=
  pe_imp (pe_and ha hb) fun σ H Q ⟨F, env, as, ok, rep, t, hm, post⟩ => by
  unfold rAndV at hm
  simp only [Option.bind_eq_some_iff] at hm
  obtain ⟨x, hx, c, hc, hy⟩ := hm
  have et := asB_bl hc
  subst et
  refine ⟨F, env, as, ok, rep, _, hx, fun F1 H1 v1 at1 g1 rt1 s1 => ⟨c, rt1.bl, ?_⟩⟩
  cases c with
  | true => exact iteT ⟨F1, env, as, g1.ok, rep.readG ok g1, t, by simpa using hy, fun F2 H2 v2 at2 g2 r2 s2 => post F2 H2 v2 at2 (g1.trans g2) r2 s2⟩
  | false => simp at hy; subst hy; exact iteF (post F1 H1 _ [] g1 (RepT.plI (by unfold Rep; rfl)) (by simp))
theorem re_or (ha : PE X a (tR X ρa)) (hb : PE X (.BoolOp .Or (b :: rest) pos) (tR X ρb)) : PE X (.BoolOp .Or (a :: b :: rest) pos) (tR X (rOrV ρa ρb)) :=
  pe_imp (pe_or ha hb) fun σ H Q ⟨F, env, as, ok, rep, t, hm, post⟩ => by
  unfold rOrV at hm
  simp only [Option.bind_eq_some_iff] at hm
  obtain ⟨x, hx, c, hc, hy⟩ := hm
  have et := asB_bl hc
  subst et
  refine ⟨F, env, as, ok, rep, _, hx, fun F1 H1 v1 at1 g1 rt1 s1 => ⟨c, rt1.bl, ?_⟩⟩
  cases c with
  | false => exact iteF ⟨F1, env, as, g1.ok, rep.readG ok g1, t, by simpa using hy, fun F2 H2 v2 at2 g2 r2 s2 => post F2 H2 v2 at2 (g1.trans g2) r2 s2⟩
  | true => simp at hy; subst hy; exact iteT (post F1 H1 _ [] g1 (RepT.plI (by unfold Rep; rfl)) (by simp))
theorem re_not (ha : PE X a (tR X ρ)) : PE X (.UnaryOp .Not a pos) (tR X (rNotV ρ)) := pe_imp (pe_not ha) fun σ H Q ⟨F, env, as, ok, rep, t, hm, post⟩ => by
  unfold rNotV at hm
  simp only [Option.bind_eq_some_iff, Option.map_eq_some_iff] at hm
  obtain ⟨x, hx, c, hc, rfl⟩ := hm
  have et := asB_bl hc
  subst et
  exact ⟨F, env, as, ok, rep, _, hx, fun F1 H1 v1 at1 g1 rt1 s1 => ⟨c, rt1.bl, post F1 H1 _ [] g1 (RepT.plI (by unfold Rep; rfl)) (by simp)⟩⟩
def rIf (c : Rd Bool) (a b : Rd T) : Rd T := fun env => (c env).bind fun x => if x = true then a env else b env
theorem re_if (hc : PT X c (tRB X β)) (ha : PE X a (tR X ρa)) (hb : PE X b (tR X ρb)) : PE X (.IfExp c a b pos) (tR X (rIf β ρa ρb)) := pe_imp (pe_ifExp hc ha hb) fun σ H Q ⟨F, env, as, ok, rep, t, hm, post⟩ => by
  unfold rIf at hm
  simp only [Option.bind_eq_some_iff] at hm
  obtain ⟨x, hx, hy⟩ := hm
  refine ⟨F, env, as, ok, rep, x, hx, fun F1 H1 g1 => ?_⟩
  cases x with
  | true => exact iteT ⟨F1, env, as, g1.ok, rep.readG ok g1, t, by simpa using hy, fun F2 H2 v2 at2 g2 r2 s2 => post F2 H2 v2 at2 (g1.trans g2) r2 s2⟩
  | false => exact iteF ⟨F1, env, as, g1.ok, rep.readG ok g1, t, by simpa using hy, fun F2 H2 v2 at2 g2 r2 s2 => post F2 H2 v2 at2 (g1.trans g2) r2 s2⟩
def mIf {α : Type} (c : M Bool) (a b : M α) : M α := c.bind fun x => if x = true then a else b
theorem me_if (hc : PT X c (Mir.tB X W μ)) (ha : PE X a (tE X W ma)) (hb : PE X b (tE X W mb')) : PE X (.IfExp c a b pos) (tE X W (mIf μ ma mb')) := pe_imp (pe_ifExp hc ha hb) fun σ H Q ⟨F, env, as, ok, rep, post⟩ => by
  refine ⟨F, env, as, ok, rep, ?_⟩
  unfold mIf M.bind at post
  cases h1 : μ env with
  | no => rw [h1] at post; exact post
  | ex x e1 => rw [h1] at post; exact post
  | ok x e1 =>
    rw [h1] at post
    intro F1 H1 as1 g1 rep1
    cases x with
    | true => exact iteT ⟨F1, e1, as1, g1.ok, rep1, PoE.from g1 post⟩
    | false => exact iteF ⟨F1, e1, as1, g1.ok, rep1, PoE.from g1 post⟩
def mAndV (a b : M T) : M T := a.bind fun x => fun env => match asB x with
  | some true => b env
  | some false => .ok (.pl (.bl false)) env
  | none => .no
def mOrV (a b : M T) : M T := a.bind fun x => fun env => match asB x with
  | some false => b env
  | some true => .ok (.pl (.bl true)) env
  | none => .no
theorem me_and (ha : PE X a (tE X W ma)) (hb : PE X (.BoolOp .And (b :: rest) pos) (tE X W mb')) : PE X (.BoolOp .And (a :: b :: rest) pos) (tE X W (mAndV ma mb')) :=
  pe_imp (pe_and ha hb) fun σ H Q ⟨F, env, as, ok, rep, post⟩ => by
  refine ⟨F, env, as, ok, rep, ?_⟩
  unfold mAndV M.bind at post
  cases h1 : ma env with
  | no => rw [h1] at post; exact post
  | ex x e1 => rw [h1] at post; exact post
  | ok x e1 =>
    rw [h1] at post
    intro F1 H1 v1 as1 at1 g1 rep1 rt1
    dsimp only at post
    cases hc : asB x with
    | none => rw [hc] at post; exact post.elim
    | some c =>
      rw [hc] at post
      have et := asB_bl hc
      subst et
      refine ⟨c, rt1.bl, ?_⟩
      cases c with
      | true => exact iteT ⟨F1, e1, as1, g1.left.ok, rep1, PoE.from g1.left post⟩
      | false => exact iteF (post F1 H1 _ as1 [] g1.left.nil rep1 (RepT.plI (by unfold Rep; rfl)))
theorem me_or (ha : PE X a (tE X W ma)) (hb : PE X (.BoolOp .Or (b :: rest) pos) (tE X W mb')) : PE X (.BoolOp .Or (a :: b :: rest) pos) (tE X W (mOrV ma mb')) :=
  pe_imp (pe_or ha hb) fun σ H Q ⟨F, env, as, ok, rep, post⟩ => by
  refine ⟨F, env, as, ok, rep, ?_⟩
  unfold mOrV M.bind at post
  cases h1 : ma env with
  | no => rw [h1] at post; exact post
  | ex x e1 => rw [h1] at post; exact post
  | ok x e1 =>
    rw [h1] at post
    intro F1 H1 v1 as1 at1 g1 rep1 rt1
    dsimp only at post
    cases hc : asB x with
    | none => rw [hc] at post; exact post.elim
    | some c =>
      rw [hc] at post
      have et := asB_bl hc
      subst et
      refine ⟨c, rt1.bl, ?_⟩
      cases c with
      | false => exact iteF ⟨F1, e1, as1, g1.left.ok, rep1, PoE.from g1.left post⟩
      | true => exact iteT (post F1 H1 _ as1 [] g1.left.nil rep1 (RepT.plI (by unfold Rep; rfl)))
end
end Mir

set_option maxHeartbeats 1000000
/-! Mir7: displays, in, is, chains of comparisons. -/
namespace Mir
open PySem L2 PyProof.Rows

def T.pl? : T → Option D
  | .pl d => some d
  | _ => none
def plains : List T → Option (List D)
  | [] => some []
  | t :: ts => t.pl?.bind fun d => (plains ts).map (d :: ·)
def frzs (ts : List T) : List D := ts.map T.frz
def rtup (ρ : Rd (List T)) : Rd T := fun env => (ρ env).bind fun ts => (plains ts).bind fun ds => if ds.length ≤ big then some (.pl (.tup ds)) else none
def rlst (ρ : Rd (List T)) : Rd T := fun env => (ρ env).bind fun ts => (plains ts).bind fun ds => if ds.length ≤ big then some (.pl (.lst ds)) else none
def mtup (μ : M (List T)) : M T := μ.bind fun ts => .ofO (if ts.length ≤ big then some (.pl (.tup (frzs ts))) else none)
def mlst (μ : M (List T)) : M T := μ.bind fun ts => .ofO (if ts.length ≤ big then some (.ol (frzs ts)) else none)
def mfz (m : M T) : M T := m.bind fun t => fun env => .ok (fz t) env
section
variable {K : PySem.W.Frag} {mg : Str → Option Value} {F : Addr → Prop} {H : Hp}
theorem RepTs.plains : ∀ {ts : List T} {ds : List D} {vs : List V} {as : List Addr}, RepTs K mg F H ts vs as → Mir.plains ts = some ds → as = [] ∧ Reps K mg F H ds vs
  | [], ds, vs, as, h, e => by
    unfold RepTs at h
    cases e
    rw [h.1]; exact ⟨h.2, .nil⟩
  | t :: ts, ds, vs, as, h, e => by
    unfold RepTs at h
    obtain ⟨v, r, a1, a2, rfl, rfl, h1, h2⟩ := h
    unfold Mir.plains at e
    simp only [Option.bind_eq_some_iff, Option.map_eq_some_iff] at e
    obtain ⟨d, hd, es, hes, rfl⟩ := e
    obtain ⟨rfl, q⟩ := RepTs.plains h2 hes
    cases t with
    | pl d' =>
      cases hd
      unfold RepT at h1
      obtain ⟨rfl, h1⟩ := h1
      exact ⟨rfl, .cons h1 q⟩
    | ol xs => cases hd
    | oo c fs => cases hd
theorem RepTs.frz : ∀ {ts : List T} {vs : List V} {as : List Addr}, RepTs K mg F H ts vs as → (∀ b ∈ as, F b) → Reps K mg F H (frzs ts) vs
  | [], vs, as, h, k => by unfold RepTs at h; rw [h.1]; exact .nil
  | t :: ts, vs, as, h, k => by
    unfold RepTs at h
    obtain ⟨v, r, a1, a2, rfl, rfl, h1, h2⟩ := h
    exact .cons (RepT.frz h1 fun b hb => k b (List.mem_append_left _ hb)) (RepTs.frz h2 fun b hb => k b (List.mem_append_right _ hb))
theorem RepTs.length : ∀ {ts : List T} {vs : List V} {as : List Addr}, RepTs K mg F H ts vs as → vs.length = ts.length
  | [], vs, as, h => by unfold RepTs at h; rw [h.1]; rfl
  | t :: ts, vs, as, h => by
    unfold RepTs at h
    obtain ⟨v, r, a1, a2, rfl, rfl, h1, h2⟩ := h
    rw [List.length_cons, List.length_cons, RepTs.length h2]
end
section
variable {X : Cx} {W : WX} {e a b c : Expr} {es : List Expr} {pos : Pos} {ρ ρa ρb ρc : Rd T} {ρs : Rd (List T)} {m ma mb' : M T} {μ : M (List T)}
theorem re_tup {x1} (h : PA X es (tRA X ρs)) : PE X (.Tuple es x1 pos) (tR X (rtup ρs)) := pe_imp (pe_tup h) fun σ H Q ⟨F, env, as, ok, rep, t, hm, post⟩ => by
  unfold rtup at hm
  simp only [Option.bind_eq_some_iff] at hm
  obtain ⟨ts, hts, ds, hds, h2⟩ := hm
  split at h2
  · rename_i hz
    cases h2
    refine ⟨F, env, as, ok, rep, ts, hts, fun F1 H1 vs at1 g1 rt1 s1 => ?_⟩
    obtain ⟨rfl, q⟩ := rt1.plains hds
    refine ⟨by rw [q.length]; exact big_line hz, fun p hp => ?_⟩
    exact (Res.of_fz (t := .pl (.tup ds)) (Q := Q) g1.ok fun F4 H4 v g4 q4 => post F4 H4 v [] (g1.trans g4) (RepT.plI q4) (by simp)).newT g1.ok hp q
  · cases h2
theorem re_lst (h : PA X es (tRA X ρs)) : PE X (.List es pos) (tR X (rlst ρs)) := pe_imp (pe_lst h) fun σ H Q ⟨F, env, as, ok, rep, t, hm, post⟩ => by
  unfold rlst at hm
  simp only [Option.bind_eq_some_iff] at hm
  obtain ⟨ts, hts, ds, hds, h2⟩ := hm
  split at h2
  · rename_i hz
    cases h2
    refine ⟨F, env, as, ok, rep, ts, hts, fun F1 H1 vs at1 g1 rt1 s1 => ?_⟩
    obtain ⟨rfl, q⟩ := rt1.plains hds
    refine ⟨by rw [q.length]; exact big_line hz, fun p hp => ?_⟩
    exact (Res.of_fz (t := .ol ds) (Q := Q) g1.ok fun F4 H4 v g4 q4 => post F4 H4 v [] (g1.trans g4) (RepT.plI q4) (by simp)).newL g1.ok hp q
  · cases h2
/-- what is in hand is frozen -/
theorem Go.fzr {w : Wd} {F1 H1 as1 at1} (g : Go w ⟨F1, H1, as1 ++ at1⟩) : Go w ⟨fun b => F1 b ∨ b ∈ at1, H1, as1⟩ := g.trans g.ok.freeze
theorem RepE.fzr {F1 H1 env σ as1} {at1 : List Addr} (r : RepE X.K X.mg F1 H1 env σ as1) : RepE X.K X.mg (fun b => F1 b ∨ b ∈ at1) H1 env σ as1 := r.mono ⟨fun _ h => .inl h, fun _ _ _ e => e⟩ fun _ _ _ e => e
theorem RepT.fzr {F1 H1 t v at1} (r : RepT X.K X.mg F1 H1 t v at1) : Rep X.K X.mg (fun b => F1 b ∨ b ∈ at1) H1 t.frz v := RepT.frz (r.mono ⟨fun _ h => .inl h, fun _ _ _ e => e⟩ fun _ _ _ e => e) fun _ h => .inr h
theorem RepTs.fzr {F1 H1 ts vs at1} (r : RepTs X.K X.mg F1 H1 ts vs at1) : Reps X.K X.mg (fun b => F1 b ∨ b ∈ at1) H1 (frzs ts) vs := RepTs.frz (r.mono ⟨fun _ h => .inl h, fun _ _ _ e => e⟩ fun _ _ _ e => e) fun _ h => .inr h
theorem me_tup {x1} (h : PA X es (tA X W μ)) : PE X (.Tuple es x1 pos) (tE X W (mtup μ)) := pe_imp (pe_tup h) fun σ H Q ⟨F, env, as, ok, rep, post⟩ => by
  refine ⟨F, env, as, ok, rep, ?_⟩
  unfold mtup M.bind at post
  cases h1 : μ env with
  | no => rw [h1] at post; exact post
  | ex x e1 => rw [h1] at post; exact post
  | ok ts e1 =>
    rw [h1] at post
    intro F1 H1 vs as1 at1 g1 rep1 rt1
    dsimp only at post
    split at post
    · rename_i hz
      refine ⟨by rw [rt1.length]; exact big_line hz, fun p hp => ?_⟩
      have g2 := g1.fzr
      exact (PoE.of_op (c := []) g2.nil rep1.fzr post).newT g2.nil.ok hp rt1.fzr
    · exact post.elim
theorem me_lst (h : PA X es (tA X W μ)) : PE X (.List es pos) (tE X W (mlst μ)) := pe_imp (pe_lst h) fun σ H Q ⟨F, env, as, ok, rep, post⟩ => by
  refine ⟨F, env, as, ok, rep, ?_⟩
  unfold mlst M.bind at post
  cases h1 : μ env with
  | no => rw [h1] at post; exact post
  | ex x e1 => rw [h1] at post; exact post
  | ok ts e1 =>
    rw [h1] at post
    intro F1 H1 vs as1 at1 g1 rep1 rt1
    dsimp only at post
    split at post
    · rename_i hz
      refine ⟨by rw [rt1.length]; exact big_line hz, fun p hp => ?_⟩
      have g2 := g1.fzr
      exact (PoE.of_op (c := []) g2.nil rep1.fzr post).newL g2.nil.ok hp rt1.fzr
    · exact post.elim
theorem me_fz (h : PE X e (tE X W m)) : PE X e (tE X W (mfz m)) := pe_imp h fun σ H Q ⟨F, env, as, ok, rep, post⟩ => by
  refine ⟨F, env, as, ok, rep, ?_⟩
  unfold mfz M.bind at post
  cases h1 : m env with
  | no => rw [h1] at post; exact post
  | ex x e1 => rw [h1] at post; exact post
  | ok t e1 =>
    rw [h1] at post
    intro F1 H1 v as1 at1 g1 rep1 rt1
    exact post _ H1 v as1 [] g1.fzr.nil rep1.fzr (RepT.plI rt1.fzr)

/-! ### in, is -/
end
def D.scal : D → Bool
  | .non => true
  | .bl _ => true
  | .int _ => true
  | .str _ => true
  | _ => false
def inD (x : D) (xs : List D) : Bool := xs.any fun y => D.eqv y x
def T.isTup : T → Bool
  | .pl (.tup _) => true
  | .pl (.scr _) => true
  | _ => false
def opIn (neg : Bool) : T → T → Option T
  | .pl (.str x), .pl (.str z) => if x.cps.size = 1 then some (.pl (.bl (if neg then !decide (x.cps.getD 0 0 ∈ z.cps.toList) else decide (x.cps.getD 0 0 ∈ z.cps.toList)))) else none
  | x, y => y.asS.bind fun ys =>
    if x.frz.scal = true ∧ ys.all D.scal = true then some (.pl (.bl (if neg then !inD x.frz ys else inD x.frz ys)))
    else if y.isTup = false ∧ D.flat 40 x.frz = true ∧ D.flats 40 ys = true then some (.pl (.bl (if neg then !inD x.frz ys else inD x.frz ys)))
    else none
section
variable {K : PySem.W.Frag} {mg : Str → Option Value} {F : Addr → Prop} {H : Hp}
theorem Rep.flatV {d : D} {v : V} (h : Rep K mg F H d v) (s : d.scal = true) : flatV v = true := by
  cases d <;> first | (unfold Rep at h; rw [h]; rfl) | cases s
theorem Rep.eqV {d e : D} {v w : V} (h : Rep K mg F H d v) (s : d.scal = true) (h' : Rep K mg F H e w) (s' : e.scal = true) : eqV v w = D.eqv d e := by
  cases d <;> first | (unfold Rep at h; rw [h]; cases e <;> first | (unfold Rep at h'; rw [h']; simp [L2.eqV, D.eqv]; done) | cases s') | cases s
theorem Reps.flatV : ∀ {ds : List D} {vs : List V}, Reps K mg F H ds vs → ds.all D.scal = true → vs.all flatV = true
  | [], vs, h, _ => by unfold Reps at h; rw [h]; rfl
  | d :: ds, vs, h, s => by
    unfold Reps at h
    obtain ⟨v, r, rfl, h1, h2⟩ := h
    simp only [List.all_cons, Bool.and_eq_true] at s ⊢
    exact ⟨h1.flatV s.1, Reps.flatV h2 s.2⟩
theorem Reps.inV {x : D} {v : V} (hx : Rep K mg F H x v) (sx : x.scal = true) : ∀ {ds : List D} {vs : List V}, Reps K mg F H ds vs → ds.all D.scal = true → inV v vs = inD x ds
  | [], vs, h, _ => by unfold Reps at h; rw [h]; rfl
  | d :: ds, vs, h, s => by
    unfold Reps at h
    obtain ⟨w, r, rfl, h1, h2⟩ := h
    simp only [List.all_cons, Bool.and_eq_true] at s
    have ih := Reps.inV hx sx h2 s.2
    unfold L2.inV inD at ih ⊢
    simp only [List.any_cons]
    rw [ih, h1.eqV s.1 hx sx]
theorem any_eqv {x : D} {n : Nat} (hx : D.flat n x = true) : ∀ {ds : List D}, D.flats n ds = true → ((D.pys ds).any fun z => PyData.eqv z (D.py x)) = inD x ds
  | [], _ => rfl
  | d :: ds, h => by
    simp only [D.flats, Bool.and_eq_true] at h
    have ih := any_eqv hx h.2
    unfold inD at ih ⊢
    simp only [D.pys, List.any_cons]
    rw [ih, eqv_py h.1 hx]
theorem RepT.frzRep {t : T} {v : V} {as} (h : RepT K mg F H t v as) (s : t.frz.scal = true) : Rep K mg F H t.frz v := by
  cases t with
  | pl d => unfold RepT at h; exact h.2
  | ol xs => cases s
  | oo c fs => cases s
end
section
variable {X : Cx}
def rInM (K : PySem.W.Frag) (neg : Bool) : R2 := fun x y H Q => (∃ (c : Nat) (z : Str), x = .str ⟨#[c]⟩ ∧ y = .str z ∧ Q (.bl (if neg then !decide (c ∈ z.cps.toList) else decide (c ∈ z.cps.toList))) H) ∨ rIn K neg x y H Q ∨
  (∃ d ds, Dp K H x d ∧ Dp K H y (.list ds) ∧ SeqAt.shaped d = true ∧ SeqAt.shaped (.list ds) = true ∧ Q (.bl (if neg then !(ds.any fun z => PyData.eqv z d) else (ds.any fun z => PyData.eqv z d))) H)
theorem op_inM (hu : X.A.units + 65 < cLine) : OpR X (compareOp .In) (rInM X.K false) := by
  refine OpR.or ?_ (OpR.or op_in_seq ?_)
  · exact op_in_sign
  · exact op_inD hu
theorem op_ninM (hu : X.A.units + 65 < cLine) : OpR X (compareOp .NotIn) (rInM X.K true) := by
  refine OpR.or ?_ (OpR.or op_notIn_seq ?_)
  · exact op_notIn_sign
  · exact op_notInD hu
theorem bin_in {neg : Bool} : Bin X (opIn neg) (rInM X.K neg) := by
  intro F H own t v a t' v' a' u Q ok r r' s s' e q
  unfold opIn at e
  split at e
  · split at e <;> cases e
    rename_i x z hx
    rw [r.str, r'.str]
    obtain ⟨cps⟩ := x
    obtain ⟨l⟩ := cps
    match l, hx with
    | [c], _ => exact .inl ⟨c, z, rfl, rfl, q.val ok (by unfold Rep; rfl)⟩
  · simp only [Option.bind_eq_some_iff] at e
    obtain ⟨ys, e1, e2⟩ := e
    split at e2
    · rename_i hs
      cases e2
      obtain ⟨p, vs, rfl, h1, k1⟩ := r'.asS e1
      have rx := r.frzRep hs.1
      refine .inr (.inl ⟨p, vs, rfl, h1, rx.flatV hs.1, k1.flatV hs.2, ?_⟩)
      rw [Reps.inV rx hs.1 k1 hs.2]
      exact q.val ok (by unfold Rep; rfl)
    · split at e2
      · rename_i hs
        cases e2
        refine .inr (.inr ⟨_, D.pys ys, r.dp hs.2.1, ?_, flat_shaped (by decide) hs.2.1, flat_shaped (n := 41) (a := .lst ys) (by decide) (by unfold D.flat; exact hs.2.2), ?_⟩)
        · cases t' with
          | oo c fs => cases e1
          | ol xs =>
            cases e1
            exact r'.dp (n := 41) (by unfold T.frz D.flat; exact hs.2.2)
          | pl d =>
            cases d <;> cases e1
            · exact nomatch hs.1
            · exact r'.dp (n := 41) (by unfold T.frz D.flat; exact hs.2.2)
            · exact nomatch hs.1
        · rw [any_eqv hs.2.1 hs.2.2]
          exact q.val ok (by unfold Rep; rfl)
      · cases e2
end
def T.isNon : T → Bool
  | .pl .non => true
  | _ => false
def opIsN (neg : Bool) : T → T → Option T
  | x, .pl .non => some (.pl (.bl (if neg then !x.isNon else x.isNon)))
  | _, _ => none
/-- is, of two truth values or two types -/
def opIs (neg : Bool) : T → T → Option T
  | .pl (.bl a), .pl (.bl b) => some (.pl (.bl (if neg then !decide (a = b) else decide (a = b))))
  | x, .pl .non => some (.pl (.bl (if neg then !x.isNon else x.isNon)))
  | _, _ => none
section
variable {X : Cx}
theorem RepT.isNon {K mg F H} {t : T} {v : V} {as} (h : RepT K mg F H t v as) : decide (v = V.non) = t.isNon := by
  cases t with
  | ol xs => unfold RepT at h; obtain ⟨a, vs, rfl, _⟩ := h; simp [T.isNon]
  | oo c fs => unfold RepT at h; obtain ⟨a, C, dx, vs, r, rfl, _⟩ := h; simp [T.isNon]
  | pl d =>
    unfold RepT at h
    obtain ⟨_, h⟩ := h
    cases d <;> unfold Rep at h <;> first | (rw [h]; simp [T.isNon]) | (obtain ⟨a, h⟩ := h; first | (obtain ⟨rfl, _⟩ := h; simp [T.isNon]) | (obtain ⟨vs, rfl, _⟩ := h; simp [T.isNon]) | (obtain ⟨C, dx, vs, rfl, _⟩ := h; simp [T.isNon]))
def rIsM (neg : Bool) : R2 := fun x y H Q => (∃ a b, x = .bl a ∧ y = .bl b ∧ Q (.bl (if neg then !decide (a = b) else decide (a = b))) H) ∨ (y = .non ∧ Q (.bl (if neg then !decide (x = .non) else decide (x = .non))) H)
theorem op_isM : OpR X (compareOp .Is) (rIsM false) := OpR.or op_is_bl op_isN
theorem op_nisM : OpR X (compareOp .IsNot) (rIsM true) := OpR.or op_isnot_bl op_notN
theorem bin_is {neg : Bool} : Bin X (opIs neg) (rIsM neg) := by
  intro F H own t v a t' v' a' u Q ok r r' s s' e q
  unfold opIs at e
  split at e
  · cases e
    rw [r.bl, r'.bl]
    exact .inl ⟨_, _, rfl, rfl, q.val ok (by unfold Rep; rfl)⟩
  · cases e
    refine .inr ⟨by unfold RepT Rep at r'; exact r'.2, ?_⟩
    rw [r.isNon]
    exact q.val ok (by unfold Rep; rfl)
  · cases e
/-! ### chains -/
def rChain (f f' : T → T → Option T) (a b c : Rd T) : Rd T := fun env => (a env).bind fun x => (b env).bind fun y => (f x y).bind fun z => (asB z).bind fun k =>
  if k = true then (c env).bind fun w => (f' y w).map fz else some (.pl (.bl false))
theorem ri_chain {f f' : T → T → Option T} {r r' : R2} {ρa ρb ρc : Rd T} (hf : Bin X f r) (hf' : Bin X f' r') {σ H Q} : tR X (rChain f f' ρa ρb ρc) σ H Q → tChain r r' (tR X ρa) (tR X ρb) (tR X ρc) σ H Q :=
  fun ⟨F, env, as, ok, rep, t, hm, post⟩ => by
  unfold rChain at hm
  simp only [Option.bind_eq_some_iff] at hm
  obtain ⟨x, hx, y, hy, z, hz, k, hk, hr⟩ := hm
  have et := asB_bl hk
  subst et
  refine ⟨F, env, as, ok, rep, x, hx, fun F1 H1 v1 at1 g1 rt1 s1 => ⟨F1, env, as, g1.ok, rep.readG ok g1, y, hy, fun F2 H2 v2 at2 g2 rt2 s2 => ?_⟩⟩
  refine hf g2.ok (rt1.readG g1.ok g2) rt2 s1 s2 hz (Res.of_fz g2.ok fun F3 H3 v g3 q3 => ?_)
  have ev : v = .bl k := by unfold T.frz Rep at q3; exact q3
  refine ⟨k, ev, ?_⟩
  cases k with
  | true =>
    simp only [if_true] at hr
    simp only [Option.bind_eq_some_iff, Option.map_eq_some_iff] at hr
    obtain ⟨w, hw, u, hu, rfl⟩ := hr
    refine iteT ⟨F3, env, as, g3.ok, ((rep.readG ok g1).readG g1.ok g2).readG g2.ok g3, w, hw, fun F4 H4 v4 at4 g4 rt4 s4 => ?_⟩
    exact hf' g4.ok ((rt2.readG g2.ok g3).readG g3.ok g4) rt4 s2 s4 hu (Res.of_fz g4.ok fun F5 H5 v5 g5 q5 => post F5 H5 v5 [] (g1.trans (g2.trans (g3.trans (g4.trans g5)))) (RepT.plI q5) (by simp))
  | false =>
    simp at hr
    subst hr
    exact iteF (post F3 H3 _ [] (g1.trans (g2.trans g3)) (RepT.plI (by unfold Rep; rfl)) (by simp))
theorem re_chain {e : Expr} {f f' : T → T → Option T} {r r' : R2} {ρa ρb ρc : Rd T} (hf : Bin X f r) (hf' : Bin X f' r') (h : PE X e (tChain r r' (tR X ρa) (tR X ρb) (tR X ρc))) : PE X e (tR X (rChain f f' ρa ρb ρc)) := pe_imp h fun σ H Q q => ri_chain hf hf' q
/-- tests by what they compute -/
theorem rt_imp {e : Expr} {t : TE} {ρ : Rd T} (h : PT X e (L2.tB t)) (i : ∀ {σ H Q}, tR X ρ σ H Q → t σ H Q) : PT X e (tRB X (rb asB ρ)) := pt_imp h fun σ H Q ⟨F, env, as, ok, rep, t, hm, post⟩ => by
  unfold rb at hm
  simp only [Option.bind_eq_some_iff] at hm
  obtain ⟨x, hx, hb⟩ := hm
  have et := asB_bl hb
  subst et
  exact i ⟨F, env, as, ok, rep, _, hx, fun F1 H1 v1 at1 g1 rt1 s1 => ⟨t, rt1.bl, post F1 H1 g1⟩⟩
theorem mt_imp {W : WX} {e : Expr} {t : TE} {m : M T} (h : PT X e (L2.tB t)) (i : ∀ {σ H Q}, tE X W m σ H Q → t σ H Q) : PT X e (Mir.tB X W (mb asB m)) := pt_imp h fun σ H Q ⟨F, env, as, ok, rep, post⟩ => by
  refine i ⟨F, env, as, ok, rep, ?_⟩
  unfold mb M.bind at post
  cases h1 : m env with
  | no => rw [h1] at post; exact post
  | ex x e1 => rw [h1] at post; exact post
  | ok x e1 =>
    rw [h1] at post
    intro F1 H1 v1 as1 at1 g1 rep1 rt1
    dsimp only at post
    cases hu : asB x with
    | none => rw [hu] at post; exact post.elim
    | some b =>
      rw [hu] at post
      have et := asB_bl hu
      subst et
      exact ⟨b, rt1.bl, post F1 H1 as1 g1.left rep1⟩
theorem rt_2 {e : Expr} {f r} {ρa ρb : Rd T} (hf : Bin X f r) (h : PT X e (tTest (tOp r (tR X ρa) (tR X ρb)))) : PT X e (tRB X (rb asB (r2 f ρa ρb))) := rt_imp (t := tOp r (tR X ρa) (tR X ρb)) h fun q => ri2 hf q
theorem mt_2 {W : WX} {e : Expr} {f r} {ma mb' : M T} (hf : Bin X f r) (h : PT X e (tTest (tOp r (tE X W ma) (tE X W mb')))) : PT X e (Mir.tB X W (mb asB (m2 f ma mb'))) := mt_imp (t := tOp r (tE X W ma) (tE X W mb')) h fun q => mi2 hf q
theorem rt_chain {e : Expr} {f f' : T → T → Option T} {r r' : R2} {ρa ρb ρc : Rd T} (hf : Bin X f r) (hf' : Bin X f' r') (h : PT X e (tTest (tChain r r' (tR X ρa) (tR X ρb) (tR X ρc)))) : PT X e (tRB X (rb asB (rChain f f' ρa ρb ρc))) := rt_imp (t := tChain r r' (tR X ρa) (tR X ρb) (tR X ρc)) h fun q => ri_chain hf hf' q
end
end Mir

set_option maxHeartbeats 1000000
/-! Mir8: statements and loops. -/
namespace Mir
open PySem L2
open PyProof.Rows hiding St

theorem PoS.from {X : Cx} {W : WX} {fx F H as σ D} {F1 H1 as1 σ1 o} (hσ : ∀ i ∈ fx, σ1[i]? = σ[i]?) (g1 : Go ⟨F, H, as⟩ ⟨F1, H1, as1⟩) (post : PoS X W fx F H as σ D o) : PoS X W fx F1 H1 as1 σ1 D o := by
  cases o with
  | no => exact post
  | ex x e => exact fun F2 H2 σ2 as2 cls d h2 g2 rep2 rx => post F2 H2 σ2 as2 cls d (fun i hi => (h2 i hi).trans (hσ i hi)) (g1.trans g2) rep2 rx
  | ok fl e =>
    cases fl with
    | nx => exact fun F2 H2 σ2 as2 h2 g2 rep2 => post F2 H2 σ2 as2 (fun i hi => (h2 i hi).trans (hσ i hi)) (g1.trans g2) rep2
    | bk => exact fun F2 H2 σ2 as2 h2 g2 rep2 => post F2 H2 σ2 as2 (fun i hi => (h2 i hi).trans (hσ i hi)) (g1.trans g2) rep2
    | ct => exact fun F2 H2 σ2 as2 h2 g2 rep2 => post F2 H2 σ2 as2 (fun i hi => (h2 i hi).trans (hσ i hi)) (g1.trans g2) rep2
    | rt t => exact fun F2 H2 σ2 v as2 at2 h2 g2 rep2 r => post F2 H2 σ2 v as2 at2 (fun i hi => (h2 i hi).trans (hσ i hi)) (g1.trans g2) rep2 r

def mSkip : MS := fun env => .ok .nx env
def mSeq (a b : MS) : MS := fun env => match a env with
  | .ok .nx e => b e
  | .ok .bk e => .ok .bk e
  | .ok .ct e => .ok .ct e
  | .ok (.rt t) e => .ok (.rt t) e
  | .ex x e => .ex x e
  | .no => .no
def mRet (m : M T) : MS := m.bind fun t => fun env => .ok (.rt t) env
def mRetN : MS := fun env => .ok (.rt (.pl .non)) env
def mDrop (m : M T) : MS := m.bind fun _ => fun env => .ok .nx env
def mIfS (c : M Bool) (a b : MS) : MS := c.bind fun x => if x = true then a else b
def mBrk : MS := fun env => .ok .bk env
def mCnt : MS := fun env => .ok .ct env
/-- a name's slot is set -/
def put (i : Nat) (t : T) : Slots → Option Slots := fun env => match env[i]? with
  | some _ => some (env.set i (some t))
  | none => none
def mSet (i : Nat) (m : M T) : MS := m.bind fun t => fun env => match put i t env with
  | some e => .ok .nx e
  | none => .no
section
variable {X : Cx} {W : WX} {fx : List Nat} {e a b c : Expr} {st : Stmt} {rest sts : List Stmt} {pos : Pos} {m : M T} {μ : M Bool} {s s' : MS}
theorem fx_refl {σ : St} : ∀ i ∈ fx, σ[i]? = σ[i]? := fun _ _ => rfl
theorem mss_nil : PSs X [] (tS X W fx mSkip) := pss_imp pss_nil fun D σ H ⟨F, env, as, ok, rep, post⟩ => post F H σ as fx_refl (Go.refl ok) rep
theorem tSeq_imp {D : Ends} {σ : St} {H : Hp} (h : tS X W fx (mSeq s s') D σ H) : tSeq (tS X W fx s) (tS X W fx s') D σ H := by
  obtain ⟨F, env, as, ok, rep, post⟩ := h
  refine ⟨F, env, as, ok, rep, ?_⟩
  unfold mSeq at post
  cases h1 : s env with
  | no => rw [h1] at post; exact post
  | ex x e1 => rw [h1] at post; exact post
  | ok fl e1 =>
    rw [h1] at post
    cases fl with
    | nx => exact fun F1 H1 σ1 as1 h1 g1 rep1 => ⟨F1, e1, as1, g1.ok, rep1, PoS.from h1 g1 post⟩
    | bk => exact post
    | ct => exact post
    | rt t => exact post
theorem mss_cons (h1 : PS X st (tS X W fx s)) (h2 : PSs X rest (tS X W fx s')) : PSs X (st :: rest) (tS X W fx (mSeq s s')) := pss_imp (pss_cons h1 h2) fun D σ H h => tSeq_imp h
theorem mss_one (h1 : PS X st (tS X W fx s)) : PSs X [st] (tS X W fx s) := pss_one h1
theorem ms_pass : PS X (.Pass pos) (tS X W fx mSkip) := ps_imp ps_pass fun D σ H ⟨F, env, as, ok, rep, post⟩ => post F H σ as fx_refl (Go.refl ok) rep
theorem ms_break : PS X (.Break pos) (tS X W fx mBrk) := ps_imp ps_break fun D σ H ⟨F, env, as, ok, rep, post⟩ => post F H σ as fx_refl (Go.refl ok) rep
theorem ms_continue : PS X (.Continue pos) (tS X W fx mCnt) := ps_imp ps_continue fun D σ H ⟨F, env, as, ok, rep, post⟩ => post F H σ as fx_refl (Go.refl ok) rep
theorem ms_doc {x j pos pos'} : PS X (.Expr (.Constant (.str x) j pos) pos') (tS X W fx mSkip) := ps_imp ps_doc fun D σ H ⟨F, env, as, ok, rep, post⟩ => post F H σ as fx_refl (Go.refl ok) rep
/-- an expression within a statement -/
theorem tE_in {D : Ends} {σ : St} {H : Hp} {k : T → MS} {Q : VK} (h : tS X W fx (m.bind k) D σ H)
    (hq : ∀ F env as t e1, Wd.Ok ⟨F, H, as⟩ → m env = .ok t e1 → PoS X W fx F H as σ D (k t e1) → ∀ F1 H1 v as1 at1, Go ⟨F, H, as⟩ ⟨F1, H1, as1 ++ at1⟩ → RepE X.K X.mg F1 H1 e1 σ as1 → RepT X.K X.mg F1 H1 t v at1 → Q v H1) : tE X W m σ H Q := by
  obtain ⟨F, env, as, ok, rep, post⟩ := h
  refine ⟨F, env, as, ok, rep, ?_⟩
  unfold M.bind at post
  cases h1 : m env with
  | no => rw [h1] at post; exact post
  | ex x e1 => rw [h1] at post; exact fun F1 H1 as1 cls d g rep1 rx => post F1 H1 σ as1 cls d fx_refl g rep1 rx
  | ok t e1 => rw [h1] at post; exact hq F env as t e1 ok h1 post
theorem tB_in {D : Ends} {σ : St} {H : Hp} {k : Bool → MS} {Q : Bool → Hp → Prop} (h : tS X W fx (μ.bind k) D σ H)
    (hq : ∀ F env as t e1, Wd.Ok ⟨F, H, as⟩ → μ env = .ok t e1 → PoS X W fx F H as σ D (k t e1) → ∀ F1 H1 as1, Go ⟨F, H, as⟩ ⟨F1, H1, as1⟩ → RepE X.K X.mg F1 H1 e1 σ as1 → Q t H1) : Mir.tB X W μ σ H Q := by
  obtain ⟨F, env, as, ok, rep, post⟩ := h
  refine ⟨F, env, as, ok, rep, ?_⟩
  unfold M.bind at post
  cases h1 : μ env with
  | no => rw [h1] at post; exact post
  | ex x e1 => rw [h1] at post; exact fun F1 H1 as1 cls d g rep1 rx => post F1 H1 σ as1 cls d fx_refl g rep1 rx
  | ok t e1 => rw [h1] at post; exact hq F env as t e1 ok h1 post
theorem ms_ret (h : PE X e (tE X W m)) : PS X (.Return (some e) pos) (tS X W fx (mRet m)) := ps_imp (ps_ret h) fun D σ H hs =>
  tE_in hs fun F env as t e1 ok h1 post F1 H1 v as1 at1 g1 rep1 rt1 => post F1 H1 σ v as1 at1 fx_refl g1 rep1 rt1
theorem ms_retN : PS X (.Return none pos) (tS X W fx mRetN) := ps_imp ps_retN fun D σ H ⟨F, env, as, ok, rep, post⟩ => post F H σ .non as [] fx_refl (Go.refl ok).nil rep (RepT.plI (by unfold Rep; rfl))
theorem ms_expr (h : PE X e (tE X W m)) (hs : swapsWith e none pos.line X.env = pure false := by rfl) : PS X (.Expr e pos) (tS X W fx (mDrop m)) := ps_imp (ps_expr h hs) fun D σ H hs =>
  tE_in hs fun F env as t e1 ok h1 post F1 H1 v as1 at1 g1 rep1 rt1 => post F1 H1 σ as1 fx_refl g1.left rep1
theorem ms_if {A B : List Stmt} (hc : PT X c (Mir.tB X W μ)) (ha : PSs X A (tS X W fx s)) (hb : PSs X B (tS X W fx s')) : PS X (.If c A B pos) (tS X W fx (mIfS μ s s')) := ps_imp (ps_if hc ha hb) fun D σ H hs =>
  tB_in hs fun F env as x e1 ok h1 post F1 H1 as1 g1 rep1 => by
    cases x with
    | true => exact iteT ⟨F1, e1, as1, g1.ok, rep1, PoS.from fx_refl g1 post⟩
    | false => exact iteF ⟨F1, e1, as1, g1.ok, rep1, PoS.from fx_refl g1 post⟩
theorem put_some {i : Nat} {t : T} {env e : Slots} (h : put i t env = some e) : i < env.length ∧ e = env.set i (some t) := by
  unfold put at h
  split at h
  · rename_i o ho
    cases h
    exact ⟨(List.getElem?_eq_some_iff.mp ho).1, rfl⟩
  · cases h
theorem fx_set {σ : St} {i : Nat} {o : Option V} (hi : i ∉ fx) : ∀ j ∈ fx, (σ.set i o)[j]? = σ[j]? := fun j hj => List.getElem?_set_ne (by intro e; subst e; exact hi hj)
/-- a slot is set -/
theorem put_ok {i : Nat} {t : T} {v : V} {env e : Slots} {w : Wd} {F H as at1 σ} (g : Go w ⟨F, H, as ++ at1⟩) (rep : RepE X.K X.mg F H env σ as) (r : RepT X.K X.mg F H t v at1) (h : put i t env = some e) :
    ∃ as', Go w ⟨F, H, as'⟩ ∧ RepE X.K X.mg F H e (σ.set i (some v)) as' := by
  obtain ⟨hi, rfl⟩ := put_some h
  obtain ⟨l1, a, l2, rfl, _, _, g3⟩ := rep.at i hi
  exact ⟨l1 ++ (at1 ++ l2), g.sub (nodup3 g.ok.nd) fun b hb => mem3 hb, (g3 F H (Le.refl F H) fun _ _ _ e => e).1 t v at1 r⟩
theorem ms_set {i : Nat} (h : PS X st (tAsg (tE X W m) (gName i))) (hi : i ∉ fx := by decide) : PS X st (tS X W fx (mSet i m)) := ps_imp h fun D σ H hs =>
  tE_in hs fun F env as t e1 ok h1 post F1 H1 v as1 at1 g1 rep1 rt1 => by
    cases hp : put i t e1 with
    | none => simp only [hp] at post; exact post.elim
    | some e2 =>
      simp only [hp] at post
      obtain ⟨as', g2, rep2⟩ := put_ok g1 rep1 rt1 hp
      exact post F1 H1 _ as' (fx_set hi) g2 rep2
/-! ### targets -/
/-- how a target takes a value -/
def GOk (X : Cx) (fx : List Nat) (g : TG) (st : D → Slots → Option Slots) : Prop := ∀ {F H σ env as d x env'}, Wd.Ok ⟨F, H, as⟩ → RepE X.K X.mg F H env σ as → Rep X.K X.mg F H d x → st d env = some env' →
  ∀ {Q : St → Hp → Prop}, (∀ σ' as', σ'.length = σ.length → (∀ i ∈ fx, σ'[i]? = σ[i]?) → Go ⟨F, H, as⟩ ⟨F, H, as'⟩ → RepE X.K X.mg F H env' σ' as' → Q σ' H) → g x σ H Q
def GsOk (X : Cx) (fx : List Nat) (g : TGs) (st : List D → Slots → Option Slots) : Prop := ∀ {F H σ env as ds xs env'}, Wd.Ok ⟨F, H, as⟩ → RepE X.K X.mg F H env σ as → Reps X.K X.mg F H ds xs → st ds env = some env' →
  ∀ {Q : St → Hp → Prop}, (∀ σ' as', σ'.length = σ.length → (∀ i ∈ fx, σ'[i]? = σ[i]?) → Go ⟨F, H, as⟩ ⟨F, H, as'⟩ → RepE X.K X.mg F H env' σ' as' → Q σ' H) → g xs σ H Q
def stN (i : Nat) : D → Slots → Option Slots := fun d => put i (.pl d)
def stNil : List D → Slots → Option Slots := fun ds env => match ds with
  | [] => some env
  | _ => none
def stCons (a : D → Slots → Option Slots) (b : List D → Slots → Option Slots) : List D → Slots → Option Slots := fun ds env => match ds with
  | d :: r => (a d env).bind (b r)
  | [] => none
def stT (n : Nat) (st : List D → Slots → Option Slots) : D → Slots → Option Slots := fun d env => match d with
  | .tup ds => if ds.length = n then st ds env else none
  | _ => none
theorem gok_name {i : Nat} (hi : i ∉ fx := by decide) : GOk X fx (gName i) (stN i) := by
  intro F H σ env as d x env' ok rep r e Q q
  obtain ⟨as', g2, rep2⟩ := put_ok (Go.refl ok).nil rep (RepT.plI r) e
  exact q _ as' List.length_set (fx_set hi) g2 rep2
theorem gsok_nil : GsOk X fx gNil stNil := by
  intro F H σ env as ds xs env' ok rep r e Q q
  unfold stNil at e
  split at e
  · cases e
    unfold Reps at r
    exact ⟨r, q σ as rfl fx_refl (Go.refl ok) rep⟩
  · cases e
theorem gsok_cons {g gs s1 s2} (h1 : GOk X fx g s1) (h2 : GsOk X fx gs s2) : GsOk X fx (gCons g gs) (stCons s1 s2) := by
  intro F H σ env as ds xs env' ok rep r e Q q
  unfold stCons at e
  split at e
  · simp only [Option.bind_eq_some_iff] at e
    obtain ⟨e1, he1, he2⟩ := e
    unfold Reps at r
    obtain ⟨v, rs, rfl, r1, r2⟩ := r
    refine ⟨v, rs, rfl, h1 ok rep r1 he1 fun σ1 as1 n1 f1 g1 rep1 => ?_⟩
    exact h2 g1.ok rep1 r2 he2 fun σ2 as2 n2 f2 g2 rep2 => q σ2 as2 (n2.trans n1) (fun i hi => (f2 i hi).trans (f1 i hi)) (g1.trans g2) rep2
  · cases e
theorem gok_tup {n : Nat} {g st} (h : GsOk X fx g st) : GOk X fx (gTup X.K n g) (stT n st) := by
  intro F H σ env as d x env' ok rep r e Q q
  unfold stT at e
  split at e
  · split at e
    · rename_i hn
      unfold Rep at r
      obtain ⟨a, vs, rfl, f, k⟩ := r
      exact ⟨a, vs, rfl, f.1, k.length.trans hn, h ok rep k e q⟩
    · cases e
  · cases e
/-- a, b = e -/
def mAsg (st : D → Slots → Option Slots) (m : M T) : MS := m.bind fun t => fun env => match st t.frz env with
  | some e => .ok .nx e
  | none => .no
theorem ms_asg {g : TG} {sd : D → Slots → Option Slots} (h : PS X st (tAsg (tE X W m) g)) (hg : GOk X fx g sd) : PS X st (tS X W fx (mAsg sd m)) := ps_imp h fun D σ H hs =>
  tE_in hs fun F env as t e1 ok h1 post F1 H1 v as1 at1 g1 rep1 rt1 => by
    cases hp : sd t.frz e1 with
    | none => simp only [hp] at post; exact post.elim
    | some e2 =>
      simp only [hp] at post
      have g2 := g1.fzr
      exact hg g2.ok rep1.fzr rt1.fzr hp fun σ' as' _ f' g' rep' => post _ H1 σ' as' f' (g2.trans g') rep'

/-! ### what is walked -/
/-- J yields ds, as long as what is known at S stays -/
def WalkOk (X : Cx) (S : Addr → Prop) (F : Addr → Prop) (H : Hp) (J : It) (ds : List D) : Prop := ∀ F' H' own, (∀ b, F b → F' b) → (∀ b o, S b → H b = some o → H' b = some o) → Wd.Ok ⟨F', H', own⟩ →
  ∀ i : Nat, (i = ds.length → J.stop i H') ∧ ∀ d, ds[i]? = some d → J.go i H' ∧ ∀ x H'', J.yld i H' x H'' → ∃ F'', GoR ⟨F', H', own⟩ ⟨F'', H'', own⟩ ∧ Rep X.K X.mg F'' H'' d x
def tI (X : Cx) (W : WX) (m : M (List D)) : TI := fun σ H R => ∃ F env as, Wd.Ok ⟨F, H, as⟩ ∧ RepE X.K X.mg F H env σ as ∧ match m env with
  | .ok ds env' => ∀ F' H' as' J, Go ⟨F, H, as⟩ ⟨F', H', as'⟩ → RepE X.K X.mg F' H' env' σ as' → WalkOk X F' F' H' J ds → R J H'
  | .ex x env' => ∀ F' H' as' cls d, Go ⟨F, H, as⟩ ⟨F', H', as'⟩ → RepE X.K X.mg F' H' env' σ as' → RepX X.K X.mg F' H' x cls d → W cls d σ H'
  | .no => False
/-- .. reading: what is walked may be owned by a slot -/
def tRI (X : Cx) (m : Rd (List D)) : TI := fun σ H R => ∃ F env as, Wd.Ok ⟨F, H, as⟩ ∧ RepE X.K X.mg F H env σ as ∧ ∃ ds, m env = some ds ∧
  ∀ F' H' J, GoR ⟨F, H, as⟩ ⟨F', H', as⟩ → WalkOk X (fun _ => True) F' H' J ds → R J H'

def mForL (st : D → Slots → Option Slots) (body : MS) : List D → MS
  | [], env => .ok .nx env
  | d :: ds, env => match st d env with
    | none => .no
    | some e1 => match body e1 with
      | .ok .nx e2 => mForL st body ds e2
      | .ok .ct e2 => mForL st body ds e2
      | .ok .bk e2 => .ok .nx e2
      | .ok (.rt t) e2 => .ok (.rt t) e2
      | .ex x e2 => .ex x e2
      | .no => .no
def mFor (st : D → Slots → Option Slots) (src : M (List D)) (body : MS) : MS := src.bind fun ds => mForL st body ds
theorem ms_for {src : M (List D)} {sd : D → Slots → Option Slots} {g : TG} (h : PS X st (tFor (tI X W src) g (tS X W fx s))) (hg : GOk X fx g sd) : PS X st (tS X W fx (mFor sd src s)) := ps_imp h fun D σ H ⟨F, env, as, ok, rep, post⟩ => by
  refine ⟨F, env, as, ok, rep, ?_⟩
  unfold mFor M.bind at post
  cases h1 : src env with
  | no => rw [h1] at post; exact post
  | ex x e1 => rw [h1] at post; exact fun F1 H1 as1 cls d g rep1 rx => post F1 H1 σ as1 cls d fx_refl g rep1 rx
  | ok ds e1 =>
    rw [h1] at post
    intro F1 H1 as1 J g1 rep1 wk
    dsimp only at post
    refine ⟨fun i k σ' H' => i ≤ ds.length ∧ k = ds.length - i ∧ ∃ F' e' as', (∀ j ∈ fx, σ'[j]? = σ[j]?) ∧ Go ⟨F, H, as⟩ ⟨F', H', as'⟩ ∧ Le F1 H1 F' H' ∧ RepE X.K X.mg F' H' e' σ' as' ∧ PoS X W fx F H as σ D (mForL sd s (ds.drop i) e'),
      ⟨ds.length, Nat.zero_le _, by simp, F1, e1, as1, fx_refl, g1, Le.refl _ _, rep1, by simpa using post⟩, ?_⟩
    rintro i k σ' H' ⟨hi, rfl, F', e', as', f', g', le', rep', post'⟩
    obtain ⟨ws, wg⟩ := wk F' H' as' le'.grow le'.keep g'.ok i
    by_cases hlt : i < ds.length
    · have hd : ds.drop i = ds[i] :: ds.drop (i + 1) := List.drop_eq_getElem_cons hlt
      rw [hd] at post'
      unfold mForL at post'
      obtain ⟨go, yl⟩ := wg ds[i] (List.getElem?_eq_getElem hlt)
      refine .inr ⟨go, fun σ2 H2 => ∃ F2 e2 as2, (∀ j ∈ fx, σ2[j]? = σ[j]?) ∧ Go ⟨F, H, as⟩ ⟨F2, H2, as2⟩ ∧ Le F1 H1 F2 H2 ∧ RepE X.K X.mg F2 H2 e2 σ2 as2 ∧ PoS X W fx F H as σ D (mForL sd s (ds.drop (i + 1)) e2),
        fun σ2 H2 ⟨F2, e2, as2, q1, q2, q3, q4, q5⟩ => ⟨ds.length - (i + 1), by omega, hlt, rfl, F2, e2, as2, q1, q2, q3, q4, q5⟩, fun x H2 y => ?_⟩
      obtain ⟨F2, gr, rx⟩ := yl x H2 y
      have g2 := g'.trans gr.toGo
      have le2 := le'.trans (gr.toGo.le g'.ok)
      have rep2 := rep'.readG g'.ok gr
      cases hs : sd ds[i] e' with
      | none => simp only [hs] at post'; exact post'.elim
      | some e3 =>
        simp only [hs] at post'
        refine hg g2.ok rep2 rx hs fun σ3 as3 _ f3 g3 rep3 => ⟨F2, e3, as3, g3.ok, rep3, ?_⟩
        have f3' : ∀ j ∈ fx, σ3[j]? = σ[j]? := fun j hj => (f3 j hj).trans (f' j hj)
        have g13 := g2.trans g3
        have le3 := le2.trans (g3.le g2.ok)
        cases hb : s e3 with
        | no => rw [hb] at post'; exact post'
        | ex x e4 => rw [hb] at post'; exact PoS.from f3' g13 post'
        | ok fl e4 =>
          rw [hb] at post'
          cases fl with
          | nx => exact fun F4 H4 σ4 as4 f4 g4 rep4 => ⟨F4, e4, as4, fun j hj => (f4 j hj).trans (f3' j hj), g13.trans g4, le3.trans (g4.le g3.ok), rep4, post'⟩
          | ct => exact fun F4 H4 σ4 as4 f4 g4 rep4 => ⟨F4, e4, as4, fun j hj => (f4 j hj).trans (f3' j hj), g13.trans g4, le3.trans (g4.le g3.ok), rep4, post'⟩
          | bk => exact fun F4 H4 σ4 as4 f4 g4 rep4 => post' F4 H4 σ4 as4 (fun j hj => (f4 j hj).trans (f3' j hj)) (g13.trans g4) rep4
          | rt t => exact fun F4 H4 σ4 v as4 at4 f4 g4 rep4 r4 => post' F4 H4 σ4 v as4 at4 (fun j hj => (f4 j hj).trans (f3' j hj)) (g13.trans g4) rep4 r4
    · have ei : i = ds.length := by omega
      refine .inl ⟨ws ei, ?_⟩
      rw [ei, List.drop_length] at post'
      exact post' F' H' σ' as' f' g' rep'
/-! ### while -/
def mWhile (c : M Bool) (body : MS) : Nat → MS
  | 0, _ => .no
  | n + 1, env => match c env with
    | .no => .no
    | .ex x e => .ex x e
    | .ok false e => .ok .nx e
    | .ok true e => match body e with
      | .ok .nx e2 => mWhile c body n e2
      | .ok .ct e2 => mWhile c body n e2
      | .ok .bk e2 => .ok .nx e2
      | .ok (.rt t) e2 => .ok (.rt t) e2
      | .ex x e2 => .ex x e2
      | .no => .no
theorem ms_while (n : Nat) (h : PS X st (tWhile (Mir.tB X W μ) (tS X W fx s))) : PS X st (tS X W fx (mWhile μ s n)) := ps_imp h fun D σ H ⟨F, env, as, ok, rep, post⟩ => by
  refine ⟨fun k σ' H' => ∃ F' e' as', (∀ j ∈ fx, σ'[j]? = σ[j]?) ∧ Go ⟨F, H, as⟩ ⟨F', H', as'⟩ ∧ RepE X.K X.mg F' H' e' σ' as' ∧ PoS X W fx F H as σ D (mWhile μ s k e'),
    ⟨n, F, env, as, fx_refl, Go.refl ok, rep, post⟩, ?_⟩
  rintro k σ' H' ⟨F', e', as', f', g', rep', post'⟩
  cases k with
  | zero => exact post'.elim
  | succ k =>
    unfold mWhile at post'
    refine ⟨F', e', as', g'.ok, rep', ?_⟩
    cases hc : μ e' with
    | no => simp only [hc] at post'; exact post'
    | ex x e1 => simp only [hc] at post'; exact fun F1 H1 as1 cls d g rep1 rx => post' F1 H1 σ' as1 cls d f' (g'.trans g) rep1 rx
    | ok b e1 =>
      simp only [hc] at post'
      intro F1 H1 as1 g1 rep1
      have g01 := g'.trans g1
      cases b with
      | false => exact post' F1 H1 σ' as1 f' g01 rep1
      | true =>
        refine ⟨fun σ2 H2 => ∃ F2 e2 as2, (∀ j ∈ fx, σ2[j]? = σ[j]?) ∧ Go ⟨F, H, as⟩ ⟨F2, H2, as2⟩ ∧ RepE X.K X.mg F2 H2 e2 σ2 as2 ∧ PoS X W fx F H as σ D (mWhile μ s k e2), fun σ2 H2 q => ⟨k, Nat.lt_succ_self k, q⟩, ?_⟩
        refine ⟨F1, e1, as1, g1.ok, rep1, ?_⟩
        cases hb : s e1 with
        | no => simp only [hb] at post'; exact post'
        | ex x e4 => simp only [hb] at post'; exact PoS.from f' g01 post'
        | ok fl e4 =>
          simp only [hb] at post'
          cases fl with
          | nx => exact fun F4 H4 σ4 as4 f4 g4 rep4 => ⟨F4, e4, as4, fun j hj => (f4 j hj).trans (f' j hj), g01.trans g4, rep4, post'⟩
          | ct => exact fun F4 H4 σ4 as4 f4 g4 rep4 => ⟨F4, e4, as4, fun j hj => (f4 j hj).trans (f' j hj), g01.trans g4, rep4, post'⟩
          | bk => exact fun F4 H4 σ4 as4 f4 g4 rep4 => post' F4 H4 σ4 as4 (fun j hj => (f4 j hj).trans (f' j hj)) (g01.trans g4) rep4
          | rt t => exact fun F4 H4 σ4 v as4 at4 f4 g4 rep4 r4 => post' F4 H4 σ4 v as4 at4 (fun j hj => (f4 j hj).trans (f' j hj)) (g01.trans g4) rep4 r4
end
end Mir

set_option maxHeartbeats 1000000
/-! Mir9: what is walked; list comprehensions. -/
namespace Mir
open PySem L2
open PyProof.Rows hiding St

theorem SqL.of_rd {K H a xs} (h : L2.Rd H a (.lst xs)) : SqL K H a xs := .inl h
section
variable {X : Cx} {W : WX} {tg l e e2 : Expr} {pos p : Pos} {m : M T} {ρ : Rd T} {μ : M (List T)} {ρs : Rd (List T)}
/-! ### walks -/
theorem walk_list {S : Addr → Prop} {F H a vs ds} (h : L2.Rd H a (.lst vs)) (hs : S a) (r : Reps X.K X.mg F H ds vs) (le : ∀ b, F b → S b) : WalkOk X S F H (Itl X.K a) ds := fun F' H' own gr kp ok i => by
  have h' : SqL X.K H' a vs := .inl (rd_keep (fun o => kp a o hs) h)
  have lf : Le F H F' H' := ⟨gr, fun b o hf => kp b o (le b hf)⟩
  refine ⟨fun e => ⟨vs, h', by rw [r.length]; exact Nat.le_of_eq e.symm⟩, fun d hd => ?_⟩
  obtain ⟨v, hv, rv⟩ := r.get hd
  refine ⟨⟨vs, v, h', hv⟩, fun x H'' y => ?_⟩
  obtain ⟨rfl, y⟩ := y
  have e := y vs h'
  rw [hv] at e; cases e
  exact ⟨F', GoR.refl ok, rv.mono lf⟩
theorem walk_tup {S : Addr → Prop} {F H a vs ds} (h : FT X.K F H a vs) (r : Reps X.K X.mg F H ds vs) (le : ∀ b, F b → S b) : WalkOk X S F H (Itt X.K a) ds := fun F' H' own gr kp ok i => by
  have lf : Le F H F' H' := ⟨gr, fun b o hf => kp b o (le b hf)⟩
  have h' : SqT X.K H' a vs := (h.mono lf).1
  refine ⟨fun e => ⟨vs, h', by rw [r.length]; exact Nat.le_of_eq e.symm⟩, fun d hd => ?_⟩
  obtain ⟨v, hv, rv⟩ := r.get hd
  refine ⟨⟨vs, v, h', hv⟩, fun x H'' y => ?_⟩
  obtain ⟨rfl, y⟩ := y
  have e := y vs h'
  rw [hv] at e; cases e
  exact ⟨F', GoR.refl ok, rv.mono lf⟩
def rgD (lo : Int) (n : Nat) : List D := (List.range n).map fun k => .int (lo + (k : Nat))
theorem walk_rng {S : Addr → Prop} {F H lo n} : WalkOk X S F H (Itr lo n) (rgD lo n) := fun F' H' own gr kp ok i => by
  refine ⟨fun e => by rw [e]; show n ≤ (rgD lo n).length; simp [rgD], fun d hd => ?_⟩
  have hi : i < n := by
    have := (List.getElem?_eq_some_iff.mp hd).1
    simpa [rgD] using this
  refine ⟨hi, fun x H'' y => ?_⟩
  obtain ⟨rfl, rfl⟩ := y
  refine ⟨F', GoR.refl ok, ?_⟩
  have : d = .int (lo + (i : Nat)) := by
    have e := hd
    simp [rgD, hi] at e
    exact e.symm
  rw [this]; unfold Rep; rfl
def rgC (lo c : Int) (n : Nat) : List D := (List.range n).map fun k => .int (lo + (k : Nat) * c)
theorem walk_rngC {S : Addr → Prop} {F H lo c n} : WalkOk X S F H (Itc lo c n) (rgC lo c n) := fun F' H' own gr kp ok i => by
  refine ⟨fun e => by rw [e]; show n ≤ (rgC lo c n).length; simp [rgC], fun d hd => ?_⟩
  have hi : i < n := by
    have := (List.getElem?_eq_some_iff.mp hd).1
    simpa [rgC] using this
  refine ⟨hi, fun x H'' y => ?_⟩
  obtain ⟨rfl, rfl⟩ := y
  refine ⟨F', GoR.refl ok, ?_⟩
  have : d = .int (lo + (i : Nat) * c) := by
    have e := hd
    simp [rgC, hi] at e
    exact e.symm
  rw [this]; unfold Rep; rfl
theorem walk_str {S : Addr → Prop} {F H z} : WalkOk X S F H (Its z) (z.cps.toList.map fun c => .str ⟨#[c]⟩) := fun F' H' own gr kp ok i => by
  refine ⟨fun e => by rw [e]; show z.cps.size ≤ _; simp, fun d hd => ?_⟩
  have hi : i < z.cps.size := by
    have := (List.getElem?_eq_some_iff.mp hd).1
    simpa using this
  refine ⟨hi, fun x H'' y => ?_⟩
  obtain ⟨rfl, c, hc, rfl⟩ := y
  refine ⟨F', GoR.refl ok, ?_⟩
  have : d = .str ⟨#[c]⟩ := by
    have e := hd
    rw [List.getElem?_map, Array.getElem?_toList, hc] at e
    exact (Option.some.inj e).symm
  rw [this]; unfold Rep; rfl
theorem WalkOk.weak {S S' : Addr → Prop} {F H J ds} (h : WalkOk X S F H J ds) (i : ∀ b, S b → S' b) : WalkOk X S' F H J ds := fun F' H' own gr kp ok => h F' H' own gr (fun b o s => kp b o (i b s)) ok
/-! ### sources -/
theorem pi_imp {t u : TI} (h : PI X tg l t) (i : ∀ σ H R, u σ H R → t σ H R) : PI X tg l u := ⟨fun pins s σ H R I hu => h.run pins s σ H R I (i σ H R hu)⟩
theorem pi_or {t u : TI} (h : PI X tg l t) (h' : PI X tg l u) : PI X tg l (fun σ H R => t σ H R ∨ u σ H R) := ⟨fun pins s σ H R I hu => hu.elim (h.run pins s σ H R I) (h'.run pins s σ H R I)⟩
/-- .. a list, a tuple or a text -/
def kSeq (K : PySem.W.Frag) (R : It → Hp → Prop) : VK := fun x H1 => (∃ a, x = .ref a ∧ (∃ xs, SqL K H1 a xs) ∧ R (Itl K a) H1) ∨ (∃ a, x = .ref a ∧ (∃ xs, SqT K H1 a xs) ∧ R (Itt K a) H1) ∨ (∃ z, x = .str z ∧ R (Its z) H1)
def iSeq (K : PySem.W.Frag) (tl : TE) : TI := fun σ H R => tl σ H (kSeq K R)
theorem pi_seq {l : Expr} {tl : TE} (hl : PE X l tl) : PI X tg l (iSeq X.K tl) := by
  refine ⟨fun pins s σ H R I h => ?_⟩
  refine thn (hl.run pins s σ H _ I h) fun v s1 ⟨x, H1, I1, r1, q⟩ => ?_
  rcases q with ⟨a, e, ⟨xs, hq⟩, q⟩ | ⟨a, e, ⟨xs, hq⟩, q⟩ | ⟨z, e, q⟩
  · subst e
    cases r1
    obtain ⟨its, rv, p, hz⟩ := I1.list hq
    refine wpAny_pyIter_list p.isList ?_
    refine ⟨s1.heap.objs.size, [s1.heap.objs.size], _, _, H1, rfl, I1.kept (t' := s1.toks) fun b o e => Heap.get?_push_of_some _ e, turn_list a _, ⟨_, Heap.get?_push_size _ rfl, rfl, rfl⟩, fun b hb => ?_, q⟩
    have e : b = s1.heap.objs.size := by simpa using hb
    subst e
    exact I1.fpOk (Nat.le_refl _) (I1.hok.fresh (Nat.le_refl _))
  · subst e
    cases r1
    obtain ⟨its, rv, p, hz⟩ := I1.tuple hq
    refine wpAny_pyIter_tuple (show s1.heap.IsTuple a its.toArray from p) ?_
    refine ⟨s1.heap.objs.size, [s1.heap.objs.size], _, _, H1, rfl, I1.kept (t' := s1.toks) fun b o e => Heap.get?_push_of_some _ e, turn_tuple a _, ⟨_, Heap.get?_push_size _ rfl, rfl, rfl⟩, fun b hb => ?_, q⟩
    have e : b = s1.heap.objs.size := by simpa using hb
    subst e
    exact I1.fpOk (Nat.le_refl _) (I1.hok.fresh (Nat.le_refl _))
  · subst e
    obtain ⟨t, rfl⟩ := r1
    cases ha : z.cps.all (· < 128)
    · exact wpAny_pyIter_wide ha (pi_one (tk := s1.toks) I1 _ (turn_str _ z t "str_iterator" (.inr rfl)) ⟨_, Heap.get?_push_size _ rfl, rfl, rfl⟩ q)
    · exact wpAny_pyIter_ascii ha (pi_one (tk := s1.toks) I1 _ (turn_str _ z t "str_ascii_iterator" (.inl rfl)) ⟨_, Heap.get?_push_size _ rfl, rfl, rfl⟩ q)
def seqD : D → Option (List D)
  | .lst xs => some xs
  | .tup xs => some xs
  | .str z => some (z.cps.toList.map fun c => .str ⟨#[c]⟩)
  | _ => none
theorem kSeq_of {S : Addr → Prop} {F H t v as ds R} (r : RepT X.K X.mg F H t v as) (e : seqD t.frz = some ds) (hs : ∀ b, F b ∨ b ∈ as → S b) (h : ∀ J, WalkOk X S F H J ds → R J H) : kSeq X.K R v H := by
  cases t with
  | oo c fs => unfold T.frz seqD at e; cases e
  | ol xs =>
    unfold T.frz seqD at e
    cases e
    unfold RepT at r
    obtain ⟨a, vs, rfl, rfl, hh, r⟩ := r
    exact .inl ⟨a, rfl, ⟨vs, .inl (.inl hh)⟩, h _ (walk_list (.inl hh) (hs a (.inr (by simp))) r fun b hb => hs b (.inl hb))⟩
  | pl d =>
    unfold RepT at r
    obtain ⟨rfl, r⟩ := r
    unfold T.frz at e
    cases d <;> unfold seqD at e <;> first | cases e; done | skip
    · cases e
      unfold Rep at r
      exact .inr (.inr ⟨_, r, h _ (walk_str)⟩)
    · cases e
      unfold Rep at r
      obtain ⟨a, vs, rfl, f, r⟩ := r
      exact .inr (.inl ⟨a, rfl, ⟨vs, f.1⟩, h _ (walk_tup f r fun b hb => hs b (.inl hb))⟩)
    · cases e
      unfold Rep at r
      obtain ⟨a, vs, rfl, f, r⟩ := r
      exact .inl ⟨a, rfl, ⟨vs, .inl f.2⟩, h _ (walk_list f.2 (hs a (.inl f.1)) r fun b hb => hs b (.inl hb))⟩
def mSeqS (m : M T) : M (List D) := m.bind fun t => .ofO (seqD t.frz)
def rSeqS (ρ : Rd T) : Rd (List D) := fun env => (ρ env).bind fun t => seqD t.frz
theorem mi_seq (h : PE X l (tE X W m)) : PI X tg l (tI X W (mSeqS m)) := pi_imp (pi_seq h) fun σ H R ⟨F, env, as, ok, rep, post⟩ => by
  refine ⟨F, env, as, ok, rep, ?_⟩
  unfold mSeqS M.bind at post
  cases h1 : m env with
  | no => simp only [h1] at post
  | ex x e1 => simp only [h1] at post; exact post
  | ok t e1 =>
    simp only [h1] at post
    intro F1 H1 v as1 at1 g1 rep1 rt1
    cases hs : seqD t.frz with
    | none => rw [hs] at post; exact post.elim
    | some ds =>
      rw [hs] at post
      have g2 := g1.fzr
      exact kSeq_of (S := fun b => F1 b ∨ b ∈ at1) (t := t) (rt1.mono ⟨fun _ h => .inl h, fun _ _ _ e => e⟩ fun _ _ _ e => e) hs (fun b hb => hb.elim id .inr) fun J wk => post _ H1 as1 J g2 rep1.fzr wk
theorem ri_seq (h : PE X l (tR X ρ)) : PI X tg l (tRI X (rSeqS ρ)) := pi_imp (pi_seq h) fun σ H R ⟨F, env, as, ok, rep, ds, hm, post⟩ => by
  unfold rSeqS at hm
  simp only [Option.bind_eq_some_iff] at hm
  obtain ⟨t, ht, hd⟩ := hm
  exact ⟨F, env, as, ok, rep, t, ht, fun F1 H1 v at1 g1 rt1 s1 => kSeq_of rt1 hd (fun _ _ => trivial) fun J wk => post F1 H1 J g1 wk⟩
/-! range -/
def rngD1 : List T → Option (List D)
  | [.pl (.int j)] => if -(2 ^ 62) ≤ j ∧ j < 2 ^ 62 then some (rgD 0 j.toNat) else none
  | _ => none
def rngD2 : List T → Option (List D)
  | [.pl (.int i), .pl (.int j)] => if -(2 ^ 62) ≤ i ∧ i < 2 ^ 62 ∧ -(2 ^ 62) ≤ j ∧ j < 2 ^ 62 then some (rgD i (j - i).toNat) else none
  | _ => none
def rngD3 : List T → Option (List D)
  | [.pl (.int i), .pl (.int j), .pl (.int (-1))] => if -(2 ^ 62) ≤ i ∧ i < 2 ^ 62 ∧ -(2 ^ 62) ≤ j ∧ j < 2 ^ 62 then some (rgC i (-1) (i - j).toNat) else none
  | _ => none
theorem RepTs.three {K mg F H} {t t' t'' : T} {vs : List V} {as} (h : RepTs K mg F H [t, t', t''] vs as) : ∃ v v' v'' a1 a2 a3, vs = [v, v', v''] ∧ as = a1 ++ (a2 ++ a3) ∧ RepT K mg F H t v a1 ∧ RepT K mg F H t' v' a2 ∧ RepT K mg F H t'' v'' a3 := by
  unfold RepTs at h
  obtain ⟨v, r, a1, a2, e, ea, h1, h2⟩ := h
  obtain ⟨v', v'', b1, b2, e', ea', r', r''⟩ := h2.two
  subst e' ea'
  exact ⟨v, v', v'', a1, b1, b2, e, ea, h1, r', r''⟩
/-- what is walked of arguments -/
def Srcs (X : Cx) (f : List T → Option (List D)) (k : (It → Hp → Prop) → List V → Hp → Prop) : Prop := ∀ {S : Addr → Prop} {F H ts vs as ds R}, RepTs X.K X.mg F H ts vs as → f ts = some ds → (∀ b, F b ∨ b ∈ as → S b) → (∀ J, WalkOk X S F H J ds → R J H) → k R vs H
def mSrc (f : List T → Option (List D)) (μ : M (List T)) : M (List D) := μ.bind fun t => .ofO (f t)
def rSrc (f : List T → Option (List D)) (ρ : Rd (List T)) : Rd (List D) := fun env => (ρ env).bind f
theorem mi_src {f k} (hf : Srcs X f k) (h : PI X tg l (fun σ H R => tA X W μ σ H (k R))) : PI X tg l (tI X W (mSrc f μ)) := pi_imp h fun σ H R ⟨F, env, as, ok, rep, post⟩ => by
  refine ⟨F, env, as, ok, rep, ?_⟩
  unfold mSrc M.bind at post
  cases h1 : μ env with
  | no => simp only [h1] at post
  | ex x e1 => simp only [h1] at post; exact post
  | ok t e1 =>
    simp only [h1] at post
    intro F1 H1 vs as1 at1 g1 rep1 rt1
    cases hs : f t with
    | none => rw [hs] at post; exact post.elim
    | some ds =>
      rw [hs] at post
      have g2 := g1.fzr
      exact hf (S := fun b => F1 b ∨ b ∈ at1) (F := fun b => F1 b ∨ b ∈ at1) (ts := t) (rt1.mono ⟨fun _ h => .inl h, fun _ _ _ e => e⟩ fun _ _ _ e => e) hs (fun b hb => hb.elim id .inr) fun J wk => post _ H1 as1 J g2 rep1.fzr wk
theorem ri_src {f k} (hf : Srcs X f k) (h : PI X tg l (fun σ H R => tRA X ρs σ H (k R))) : PI X tg l (tRI X (rSrc f ρs)) := pi_imp h fun σ H R ⟨F, env, as, ok, rep, ds, hm, post⟩ => by
  unfold rSrc at hm
  simp only [Option.bind_eq_some_iff] at hm
  obtain ⟨t, ht, hd⟩ := hm
  exact ⟨F, env, as, ok, rep, t, ht, fun F1 H1 v at1 g1 rt1 s1 => hf rt1 hd (fun _ _ => trivial) fun J wk => post F1 H1 J g1 wk⟩
theorem src_rng1 : Srcs X rngD1 fun R vs H1 => ∃ j : Int, vs = [.int j] ∧ -(2 ^ 62) ≤ j ∧ j < 2 ^ 62 ∧ R (Itr 0 j.toNat) H1 := by
  intro S F H ts vs as ds R r e _ h
  unfold rngD1 at e
  split at e
  · split at e <;> cases e
    rename_i hz
    obtain ⟨v, rfl, r1⟩ := r.one
    rw [r1.int]
    exact ⟨_, rfl, hz.1, hz.2, h _ walk_rng⟩
  · cases e
theorem src_rng2 : Srcs X rngD2 fun R vs H1 => ∃ i j : Int, vs = [.int i, .int j] ∧ (-(2 ^ 62) ≤ i ∧ i < 2 ^ 62 ∧ -(2 ^ 62) ≤ j ∧ j < 2 ^ 62) ∧ R (Itr i (j - i).toNat) H1 := by
  intro S F H ts vs as ds R r e _ h
  unfold rngD2 at e
  split at e
  · split at e <;> cases e
    rename_i hz
    obtain ⟨v, v', a1, a2, rfl, _, r1, r2⟩ := r.two
    rw [r1.int, r2.int]
    exact ⟨_, _, rfl, hz, h _ walk_rng⟩
  · cases e
theorem src_rng3 : Srcs X rngD3 fun R vs H1 => ∃ (i j c : Int) (n : Nat), vs = [.int i, .int j, .int c] ∧ RgC i j c n ∧ R (Itc i c n) H1 := by
  intro S F H ts vs as ds R r e _ h
  unfold rngD3 at e
  split at e
  · split at e <;> cases e
    rename_i hz
    obtain ⟨v, v', v'', a1, a2, a3, rfl, _, r1, r2, r3⟩ := r.three
    rw [r1.int, r2.int, r3.int]
    exact ⟨_, _, _, _, rfl, RgC.neg hz.1 hz.2.1 hz.2.2.1 hz.2.2.2, h _ walk_rngC⟩
  · cases e
/-! zip of two lists or two tuples; reversed and enumerate of a list -/
def pairD (x y : D) : D := .tup [x, y]
def zipD : List T → Option (List D)
  | [.pl (.tup xs), .pl (.tup ys)] => some (List.zipWith pairD xs ys)
  | [x, y] => x.asL.bind fun xs => y.asL.map fun ys => List.zipWith pairD xs ys
  | _ => none
theorem rep_pair {F H own} {x y : D} {v w : V} {p : Addr} (ok : Wd.Ok ⟨F, H, own⟩) (hp : H p = none) (rx : Rep X.K X.mg F H x v) (ry : Rep X.K X.mg F H y w) :
    ∃ F'', GoR ⟨F, H, own⟩ ⟨F'', upd H p (.tup [v, w]), own⟩ ∧ Rep X.K X.mg F'' (upd H p (.tup [v, w])) (pairD x y) (.ref p) := by
  have g := ok.lay (o := .tup [v, w]) hp
  refine ⟨_, g, ?_⟩
  unfold pairD Rep
  exact ⟨p, [v, w], rfl, ⟨.inl (.inl upd_same), .inl (.inr rfl)⟩, .cons (rx.mono (g.toGo.le ok)) (.one (ry.mono (g.toGo.le ok)))⟩
theorem zip_get {α β γ : Type} {f : α → β → γ} : ∀ {xs : List α} {ys : List β} {i : Nat} {z : γ}, (List.zipWith f xs ys)[i]? = some z → ∃ x y, xs[i]? = some x ∧ ys[i]? = some y ∧ z = f x y := by
  intro xs ys i z h
  rw [List.getElem?_zipWith] at h
  split at h <;> cases h
  exact ⟨_, _, by assumption, by assumption, rfl⟩
theorem walk_zipL {S : Addr → Prop} {F H a b vs ws ds es} (h : L2.Rd H a (.lst vs)) (hs : S a) (r : Reps X.K X.mg F H ds vs) (h2 : L2.Rd H b (.lst ws)) (hs2 : S b) (r2 : Reps X.K X.mg F H es ws) (le : ∀ b, F b → S b) :
    WalkOk X S F H (Itz X.K a b) (List.zipWith pairD ds es) := fun F' H' own gr kp ok i => by
  have h' : SqL X.K H' a vs := .inl (rd_keep (fun o => kp a o hs) h)
  have h2' : SqL X.K H' b ws := .inl (rd_keep (fun o => kp b o hs2) h2)
  have lf : Le F H F' H' := ⟨gr, fun b o hf => kp b o (le b hf)⟩
  refine ⟨fun e => ⟨vs, ws, h', h2', by rw [r.length, r2.length]; rw [List.length_zipWith] at e; omega⟩, fun d hd => ?_⟩
  obtain ⟨x, y, hx, hy, rfl⟩ := zip_get hd
  obtain ⟨v, hv, rv⟩ := r.get hx
  obtain ⟨w, hw, rw'⟩ := r2.get hy
  refine ⟨⟨vs, ws, v, w, h', h2', hv, hw⟩, fun z H'' q => ?_⟩
  obtain ⟨p, x', y', rfl, hp, rfl, q1, q2⟩ := q
  have e1 := q1 vs h'
  have e2 := q2 ws h2'
  rw [hv] at e1; cases e1
  rw [hw] at e2; cases e2
  exact rep_pair ok hp (rv.mono lf) (rw'.mono lf)
theorem walk_zipT {S : Addr → Prop} {F H a b vs ws ds es} (h : FT X.K F H a vs) (r : Reps X.K X.mg F H ds vs) (h2 : FT X.K F H b ws) (r2 : Reps X.K X.mg F H es ws) (le : ∀ b, F b → S b) :
    WalkOk X S F H (RZ.ItzT X.K a b) (List.zipWith pairD ds es) := fun F' H' own gr kp ok i => by
  have lf : Le F H F' H' := ⟨gr, fun b o hf => kp b o (le b hf)⟩
  have h' := (h.mono lf).1
  have h2' := (h2.mono lf).1
  refine ⟨fun e => ⟨vs, ws, h', h2', by rw [r.length, r2.length]; rw [List.length_zipWith] at e; omega⟩, fun d hd => ?_⟩
  obtain ⟨x, y, hx, hy, rfl⟩ := zip_get hd
  obtain ⟨v, hv, rv⟩ := r.get hx
  obtain ⟨w, hw, rw'⟩ := r2.get hy
  refine ⟨⟨vs, ws, v, w, h', h2', hv, hw⟩, fun z H'' q => ?_⟩
  obtain ⟨p, x', y', rfl, hp, rfl, q1, q2⟩ := q
  have e1 := q1 vs h'
  have e2 := q2 ws h2'
  rw [hv] at e1; cases e1
  rw [hw] at e2; cases e2
  exact rep_pair ok hp (rv.mono lf) (rw'.mono lf)
/-- where a list that is read stands -/
theorem RepT.asLS {K mg F H} {S : Addr → Prop} {t : T} {ds : List D} {v : V} {as} (h : RepT K mg F H t v as) (e : t.asL = some ds) (hs : ∀ b, F b ∨ b ∈ as → S b) : ∃ a vs, v = .ref a ∧ L2.Rd H a (.lst vs) ∧ S a ∧ Reps K mg F H ds vs := by
  cases t with
  | ol xs =>
    unfold T.asL at e; cases e
    unfold RepT at h
    obtain ⟨a, vs, e, rfl, hh, r⟩ := h
    exact ⟨a, vs, e, .inl hh, hs a (.inr (by simp)), r⟩
  | oo c fs => unfold T.asL at e; cases e
  | pl d =>
    cases d <;> unfold T.asL at e <;> cases e
    unfold RepT Rep at h
    obtain ⟨_, a, vs, e, f, r⟩ := h
    exact ⟨a, vs, e, f.2, hs a (.inl f.1), r⟩
theorem src_zip : Srcs X zipD fun R vs H1 => ∃ a b xs ys, vs = [.ref a, .ref b] ∧ ((SqL X.K H1 a xs ∧ SqL X.K H1 b ys ∧ R (Itz X.K a b) H1) ∨ (SqT X.K H1 a xs ∧ SqT X.K H1 b ys ∧ R (RZ.ItzT X.K a b) H1)) := by
  intro S F H ts vs as ds R r e hs h
  unfold zipD at e
  split at e
  · cases e
    obtain ⟨v, v', a1, a2, rfl, rfl, r1, r2⟩ := r.two
    obtain ⟨a, xs, rfl, s1, f1, k1⟩ := r1.tup
    obtain ⟨b, ys, rfl, s2, f2, k2⟩ := r2.tup
    exact ⟨a, b, xs, ys, rfl, .inr ⟨s1, s2, h _ (walk_zipT f1 k1 f2 k2 fun b hb => hs b (.inl hb))⟩⟩
  · simp only [Option.bind_eq_some_iff, Option.map_eq_some_iff] at e
    obtain ⟨xs', e1, ys', e2, rfl⟩ := e
    obtain ⟨v, v', a1, a2, rfl, rfl, r1, r2⟩ := r.two
    obtain ⟨a, xs, rfl, q1, z1, k1⟩ := r1.asLS (S := S) e1 fun b hb => hs b (hb.imp id fun z => List.mem_append_left _ z)
    obtain ⟨b, ys, rfl, q2, z2, k2⟩ := r2.asLS (S := S) e2 fun b hb => hs b (hb.imp id fun z => List.mem_append_right _ z)
    exact ⟨a, b, xs, ys, rfl, .inl ⟨.inl q1, .inl q2, h _ (walk_zipL q1 z1 k1 q2 z2 k2 fun b hb => hs b (.inl hb))⟩⟩
  · cases e
def revD : List T → Option (List D)
  | [x] => x.asL.map List.reverse
  | _ => none
theorem walk_rev {S : Addr → Prop} {F H a vs ds} (h : L2.Rd H a (.lst vs)) (hs : S a) (r : Reps X.K X.mg F H ds vs) (le : ∀ b, F b → S b) : WalkOk X S F H (Itv X.K a vs.length) ds.reverse := fun F' H' own gr kp ok i => by
  have h' : SqL X.K H' a vs := .inl (rd_keep (fun o => kp a o hs) h)
  have lf : Le F H F' H' := ⟨gr, fun b o hf => kp b o (le b hf)⟩
  refine ⟨fun e => by rw [e, List.length_reverse]; exact Nat.le_of_eq r.length, fun d hd => ?_⟩
  have hi : i < ds.length := by
    have := (List.getElem?_eq_some_iff.mp hd).1
    simpa using this
  rw [List.getElem?_reverse hi] at hd
  obtain ⟨v, hv, rv⟩ := r.get hd
  rw [← r.length] at hv
  refine ⟨⟨by rw [r.length]; exact hi, vs, v, h', hv⟩, fun x H'' y => ?_⟩
  obtain ⟨rfl, y⟩ := y
  have e := y vs h'
  rw [hv] at e; cases e
  exact ⟨F', GoR.refl ok, rv.mono lf⟩
theorem src_rev : Srcs X revD fun R vs H1 => ∃ (a : Addr) (xs : List V), vs = [.ref a] ∧ SqL X.K H1 a xs ∧ R (Itv X.K a xs.length) H1 := by
  intro S F H ts vs as ds R r e hs h
  unfold revD at e
  split at e
  · simp only [Option.map_eq_some_iff] at e
    obtain ⟨xs', e1, rfl⟩ := e
    obtain ⟨v, rfl, r1⟩ := r.one
    obtain ⟨a, xs, rfl, q1, z1, k1⟩ := r1.asLS (S := S) e1 hs
    exact ⟨a, xs, rfl, .inl q1, h _ (walk_rev q1 z1 k1 fun b hb => hs b (.inl hb))⟩
  · cases e
end
end Mir

set_option maxHeartbeats 1000000
/-! Mir10: list comprehensions. -/
namespace Mir
open PySem L2
open PyProof.Rows hiding St

abbrev W0 : WX := fun _ _ _ _ => False
def wipeS (env : Slots) : List Nat → Slots
  | [] => env
  | v :: vs => (wipeS env vs).set v none
def restS (env env' : Slots) : List Nat → Slots
  | [] => env'
  | v :: vs => restS env (env'.set v (((wipeS env vs)[v]?).join)) vs
theorem wipeS_length (env : Slots) : ∀ vs, (wipeS env vs).length = env.length
  | [] => rfl
  | v :: vs => by unfold wipeS; rw [List.length_set, wipeS_length env vs]
theorem wipeS_none {env : Slots} : ∀ {vs : List Nat} {v : Nat}, v ∈ vs → v < env.length → (wipeS env vs)[v]? = some none
  | v :: vs, u, h, hl => by
    unfold wipeS
    by_cases e : v = u
    · subst e
      rw [List.getElem?_set_self (by rw [wipeS_length]; exact hl)]
    · rw [List.getElem?_set_ne e]
      exact wipeS_none ((List.mem_cons.mp h).resolve_left fun z => e z.symm) hl
theorem wipe_get {σ : St} : ∀ {vs : List Nat} {i : Nat}, (wipe σ vs)[i]? = if i ∈ vs then (σ[i]?).map fun _ => none else σ[i]?
  | [], i => by simp [wipe]
  | v :: vs, i => by
    unfold wipe
    by_cases e : v = i
    · subst e
      rw [if_pos (by simp)]
      by_cases hl : v < σ.length
      · rw [List.getElem?_set_self (by rw [wipe_length]; exact hl), List.getElem?_eq_getElem hl]; rfl
      · rw [List.getElem?_eq_none (by rw [List.length_set, wipe_length]; omega), List.getElem?_eq_none (by omega)]; rfl
    · rw [List.getElem?_set_ne e, wipe_get]
      by_cases hi : i ∈ vs
      · rw [if_pos hi, if_pos (by simp [hi])]
      · rw [if_neg hi, if_neg (by simp [hi, Ne.symm e])]
theorem wipe_eq {σ σ' : St} {vs : List Nat} (hl : σ'.length = σ.length) (h : ∀ i, i ∉ vs → σ'[i]? = σ[i]?) : wipe σ' vs = wipe σ vs := by
  refine List.ext_getElem? fun i => ?_
  rw [wipe_get, wipe_get]
  by_cases hi : i ∈ vs
  · rw [if_pos hi, if_pos hi]
    by_cases hlt : i < σ.length
    · rw [List.getElem?_eq_getElem hlt, List.getElem?_eq_getElem (by omega)]; rfl
    · rw [List.getElem?_eq_none (by omega), List.getElem?_eq_none (by omega)]
  · rw [if_neg hi, if_neg hi, h i hi]
theorem wipe_wipe {σ : St} {vs : List Nat} : wipe (wipe σ vs) vs = wipe σ vs := wipe_eq (wipe_length _ _) fun i hi => by rw [wipe_get, if_neg hi]
theorem join_some {α : Type} {l : List (Option α)} {i : Nat} (h : i < l.length) : l[i]? = some (l[i]?.join) := by
  rw [List.getElem?_eq_getElem h]; rfl
section
variable {K : PySem.W.Frag} {mg : Str → Option Value} {F : Addr → Prop} {H : Hp}
theorem RepE.wipe : ∀ {vs : List Nat} {env : Slots} {σ : St} {as : List Addr}, vs.Nodup → RepE K mg F H env σ as →
    ∃ as1 h, (as1 ++ h).Perm as ∧ RepE K mg F H (wipeS env vs) (L2.wipe σ vs) as1 ∧ ∀ (F' : Addr → Prop) (H' : Hp) (env' : Slots) (as' : List Addr), Le F H F' H' → (∀ b ∈ h, ∀ o, H b = some o → H' b = some o) →
      (∀ v ∈ vs, v < env.length → env'[v]? = some none) → RepE K mg F' H' env' (L2.wipe σ vs) as' → ∃ as2, as2.Perm (as' ++ h) ∧ RepE K mg F' H' (restS env env' vs) σ as2
  | [], env, σ, as, _, rep => ⟨as, [], by simp, rep, fun F' H' env' as' _ _ _ r => ⟨as', by simp, r⟩⟩
  | v :: vs, env, σ, as, nd, rep => by
    obtain ⟨as1, h, pm, rep1, back⟩ := RepE.wipe (List.nodup_cons.mp nd).2 rep
    by_cases hv : v < env.length
    · obtain ⟨l1, a, l2, rfl, q1, q2, q3⟩ := rep1.at v (by rw [wipeS_length]; exact hv)
      have r2 := (q3 F H (Le.refl F H) fun _ _ _ e => e).2 none
      refine ⟨l1 ++ l2, a ++ h, ?_, r2, fun F' H' env' as' le kp nn r' => ?_⟩
      · refine List.Perm.trans ?_ pm
        rw [List.append_assoc l1, List.append_assoc l1, ← List.append_assoc l2]
        refine List.Perm.append_left _ ?_
        refine (List.Perm.append_right _ List.perm_append_comm).trans ?_
        rw [List.append_assoc]
      · have hl' : env'.length = env.length := by rw [r'.length, wipe_length, rep.length]
        have e1 : env'[v]? = some none := nn v (by simp) hv
        obtain ⟨m1, a', m2, rfl, p1, p2, p3⟩ := r'.at v (by rw [hl']; exact hv)
        have ea := p2 e1
        subst ea
        have hσ : (L2.wipe σ vs).length = σ.length := wipe_length _ _
        have hvσ : v < σ.length := by rw [← rep.length]; exact hv
        have sset : (L2.wipe σ (v :: vs)).set v ((L2.wipe σ vs)[v]?.join) = L2.wipe σ vs := by
          show ((L2.wipe σ vs).set v none).set v _ = _
          rw [List.set_set]
          exact set_self (join_some (by rw [hσ]; exact hvσ))
        have hj : (wipeS env vs)[v]? = some ((wipeS env vs)[v]?.join) := join_some (by rw [wipeS_length]; exact hv)
        have others : ∀ u ∈ vs, u < env.length → (env'.set v ((wipeS env vs)[v]?.join))[u]? = some none := fun u hu hul => by
          rw [List.getElem?_set_ne (by intro e; subst e; exact (List.nodup_cons.mp nd).1 hu)]
          exact nn u (by simp [hu]) hul
        have kh : ∀ b ∈ h, ∀ o, H b = some o → H' b = some o := fun b hb => kp b (List.mem_append_right _ hb)
        cases hc : (wipeS env vs)[v]?.join with
        | none =>
          rw [hc] at hj others
          have ha : a = [] := q2 hj
          subst ha
          have r3 := (p3 F' H' (Le.refl F' H') fun _ _ _ e => e).2 ((L2.wipe σ vs)[v]?.join)
          rw [sset] at r3
          obtain ⟨as2, pm2, r4⟩ := back F' H' _ _ le kh others r3
          refine ⟨as2, by simpa using pm2, ?_⟩
          unfold restS
          rw [hc]
          exact r4
        | some t =>
          rw [hc] at hj others
          obtain ⟨w, ew, rt⟩ := q1 t hj
          have r3 := (p3 F' H' (Le.refl F' H') fun _ _ _ e => e).1 t w a (rt.mono le fun b hb => kp b (List.mem_append_left _ hb))
          have eσ : (L2.wipe σ (v :: vs)).set v (some w) = L2.wipe σ vs := by
            rw [← sset, ew]; rfl
          rw [eσ] at r3
          obtain ⟨as2, pm2, r4⟩ := back F' H' _ _ le kh others r3
          refine ⟨as2, pm2.trans ?_, ?_⟩
          · simp only [List.nil_append, List.append_assoc]
            refine List.Perm.append_left _ ?_
            rw [← List.append_assoc, ← List.append_assoc]
            exact List.Perm.append_right _ List.perm_append_comm
          · unfold restS
            rw [hc]
            exact r4
    · have e1 : wipeS env (v :: vs) = wipeS env vs := by
        show (wipeS env vs).set v none = _
        exact List.set_eq_of_length_le (by rw [wipeS_length]; omega)
      have e2 : L2.wipe σ (v :: vs) = L2.wipe σ vs := by
        show (L2.wipe σ vs).set v none = _
        exact List.set_eq_of_length_le (by rw [wipe_length, ← rep.length]; omega)
      rw [e1, e2]
      refine ⟨as1, h, pm, rep1, fun F' H' env' as' le kp nn r' => ?_⟩
      have hl' : env'.length = env.length := by rw [r'.length, wipe_length, rep.length]
      obtain ⟨as2, pm2, r4⟩ := back F' H' env' as' le kp (fun u hu => nn u (by simp [hu])) r'
      refine ⟨as2, pm2, ?_⟩
      unfold restS
      rw [List.set_eq_of_length_le (by omega)]
      exact r4
end

/-! ### reading -/
def rCompL (st : D → Slots → Option Slots) (tt : Rd Bool) (el : Rd T) (env : Slots) : List D → Option (List D)
  | [] => some []
  | d :: ds => (st d env).bind fun e1 => (tt e1).bind fun b => if b = true then (el e1).bind fun t => t.pl?.bind fun y => (rCompL st tt el env ds).map (y :: ·) else rCompL st tt el env ds
def rComp (vs : List Nat) (st : D → Slots → Option Slots) (src : Rd (List D)) (tt : Rd Bool) (el : Rd T) : Rd T := fun env =>
  (src env).bind fun ds => (rCompL st tt el (wipeS env vs) ds).bind fun ys => if ys.length < big then some (.pl (.lst ys)) else none
/-- how a block's target takes a value: nothing but the block's names change -/
def GBk (X : Cx) (vs : List Nat) (g : TG) (st : D → Slots → Option Slots) : Prop := ∀ fx : List Nat, (∀ i ∈ vs, i ∉ fx) → GOk X fx g st
section
variable {X : Cx} {vs : List Nat} {g : TG} {st : D → Slots → Option Slots} {tt : Rd Bool} {el : Rd T} {src : Rd (List D)}
theorem block_tgt (hg : GBk X vs g st) {F H as d x env' σ} {env : Slots} (ok : Wd.Ok ⟨F, H, as⟩) (rep : RepE X.K X.mg F H env (wipe σ vs) as) (r : Rep X.K X.mg F H d x) (e : st d env = some env') {Q : St → Hp → Prop}
    (h : ∀ σ' as', wipe σ' vs = wipe σ vs → Go ⟨F, H, as⟩ ⟨F, H, as'⟩ → RepE X.K X.mg F H env' σ' as' → Q σ' H) : g x (wipe σ vs) H Q := by
  refine hg ((List.range (wipe σ vs).length).filter fun i => decide (i ∉ vs)) (fun i hi hm => ?_) ok rep r e fun σ' as' hl hf g' rep' => h σ' as' ?_ g' rep'
  · have := (List.mem_filter.mp hm).2
    simp at this
    exact this hi
  · rw [← wipe_wipe (σ := σ)]
    refine wipe_eq hl fun i hi => ?_
    by_cases hlt : i < (wipe σ vs).length
    · exact hf i (List.mem_filter.mpr ⟨List.mem_range.mpr hlt, by simpa using hi⟩)
    · rw [List.getElem?_eq_none (by omega), List.getElem?_eq_none (by omega)]
theorem rlc {wi : TI} {σ : St} {H : Hp} {Q : VK} (hv : vs.Nodup) (hg : GBk X vs g st) (h : tR X (rComp vs st src tt el) σ H Q) (hw : ∀ σ H R, tRI X src σ H R → wi σ H R) : tLc wi g (tRB X tt) (tR X el) vs σ H Q := by
  obtain ⟨F, env, as, ok, rep, t, hm, post⟩ := h
  unfold rComp at hm
  simp only [Option.bind_eq_some_iff] at hm
  obtain ⟨ds, hds, ys, hys, hz⟩ := hm
  split at hz
  · rename_i hlen
    cases hz
    refine hw _ _ _ ⟨F, env, as, ok, rep, ds, hds, fun F1 H1 J g1 wk L hL => ?_⟩
    have ok1 := g1.ok
    have rep1 := rep.readG ok g1
    have gl := ok1.layO (o := .lst []) hL
    have allL : ∀ b o, H1 b = some o → upd H1 L (.lst []) b = some o := fun b o e => by rw [upd_ne (ne_of_none e hL)]; exact e
    -- the state of the walk
    refine ⟨fun i k H' => i ≤ ds.length ∧ k = ds.length - i ∧ ∃ F' acc vacc rest, Wd.Ok ⟨F', H', as ++ [L]⟩ ∧ Go ⟨F1, H1, as⟩ ⟨F', H', as ++ [L]⟩ ∧ (∀ b o, H1 b = some o → H' b = some o) ∧ H' L = some (.lst vacc) ∧ Reps X.K X.mg F' H' acc vacc ∧
        rCompL st tt el (wipeS env vs) (ds.drop i) = some rest ∧ acc ++ rest = ys,
      ⟨ds.length, Nat.zero_le _, by simp, F1, [], [], ys, gl.ok, gl, allL, upd_same, .nil, by simpa using hys, rfl⟩, ?_⟩
    rintro i k H' ⟨hi, rfl, F', acc, vacc, rest, ok', g', all', hL', racc, hrest, happ⟩
    have le' : Le F1 H1 F' H' := g'.le ok1
    obtain ⟨ws, wg⟩ := wk F' H' (as ++ [L]) g'.grow (fun b o _ e => all' b o e) ok' i
    by_cases hlt : i < ds.length
    · have hd : ds.drop i = ds[i] :: ds.drop (i + 1) := List.drop_eq_getElem_cons hlt
      rw [hd] at hrest
      unfold rCompL at hrest
      simp only [Option.bind_eq_some_iff] at hrest
      obtain ⟨e1, he1, b, hb, hr⟩ := hrest
      obtain ⟨go, yl⟩ := wg ds[i] (List.getElem?_eq_getElem hlt)
      refine .inr ⟨go, fun H2 => ∃ F2 acc2 vacc2 rest2, Wd.Ok ⟨F2, H2, as ++ [L]⟩ ∧ Go ⟨F1, H1, as⟩ ⟨F2, H2, as ++ [L]⟩ ∧ (∀ b o, H1 b = some o → H2 b = some o) ∧ H2 L = some (.lst vacc2) ∧ Reps X.K X.mg F2 H2 acc2 vacc2 ∧
        rCompL st tt el (wipeS env vs) (ds.drop (i + 1)) = some rest2 ∧ acc2 ++ rest2 = ys, fun H2 q => ⟨ds.length - (i + 1), by omega, hlt, rfl, q⟩, fun x H2 y => ?_⟩
      obtain ⟨F2, gr, rx⟩ := yl x H2 y
      have g2 := g'.trans gr.toGo
      have all2 : ∀ b o, H1 b = some o → H2 b = some o := fun b o e => gr.all b o (all' b o e)
      have repw : ∃ asw, RepE X.K X.mg F2 H2 (wipeS env vs) (wipe σ vs) asw ∧ Wd.Ok ⟨F2, H2, asw⟩ ∧ ∀ b ∈ asw, b ∈ as := by
        obtain ⟨asw, hid, pm, rw', _⟩ := rep1.wipe hv
        have sub : ∀ b ∈ asw, b ∈ as := fun b hb => pm.mem_iff.mp (List.mem_append_left _ hb)
        refine ⟨asw, rw'.mono (g2.le ok1) fun b _ o e => all2 b o e, ?_, sub⟩
        exact gr.ok.sub ((List.nodup_append.mp (pm.nodup_iff.mpr ok1.nd)).1) fun b hb => List.mem_append_left _ (sub b hb)
      obtain ⟨asw, repw, okw, subw⟩ := repw
      have racc2 := racc.mono (gr.toGo.le ok')
      have hL2 : H2 L = some (.lst vacc) := gr.all _ _ hL'
      refine block_tgt hg okw repw rx he1 fun σ3 as3 ew g3 rep3 => ⟨ew, F2, e1, as3, g3.ok, rep3, b, hb, fun F4 H4 g4 => ?_⟩
      -- from the block's small world to the whole one
      have big4 : GoR ⟨F2, H2, as ++ [L]⟩ ⟨F4, H4, as ++ [L]⟩ := by
        have sub3 : ∀ b ∈ as3, b ∈ as ∨ H2 b = none := fun b hb => (g3.newO b hb).imp (subw b) id
        refine ⟨⟨fun b o e _ => g4.all b o e, g4.grow, fun b hb => ?_, fun b hb => .inl hb, ?_⟩, g4.all⟩
        · rcases g4.newF b hb with z | z | z
          · exact .inl z
          · rcases sub3 b z with z | z
            · exact .inr (.inl (List.mem_append_left _ z))
            · exact .inr (.inr z)
          · exact .inr (.inr z)
        · refine ⟨gr.ok.nd, fun b hb hF => ?_, fun b hb => ?_, g4.ok.fs⟩
          · rcases g4.newF b hF with z | z | z
            · exact gr.ok.nf b hb z
            · exact g4.ok.nf b z hF
            · exact gr.ok.so b hb z
          · obtain ⟨o, e⟩ := some_of_ne (gr.ok.so b hb)
            show H4 b ≠ none
            have e4 : H4 b = some o := g4.all b o e
            rw [e4]; exact fun q => nomatch q
      have g24 := g2.trans big4.toGo
      have all4 : ∀ b o, H1 b = some o → H4 b = some o := fun b o e => g4.all b o (all2 b o e)
      have racc4 := racc2.mono (big4.toGo.le gr.ok)
      have hL4 : H4 L = some (.lst vacc) := g4.all _ _ hL2
      cases b with
      | false =>
        simp at hr
        exact iteF ⟨F4, acc, vacc, rest, big4.ok, g24, all4, hL4, racc4, hr, happ⟩
      | true =>
        simp only [if_true, Option.bind_eq_some_iff, Option.map_eq_some_iff] at hr
        obtain ⟨t, ht, y0, hy0, rest2, hrest2, rfl⟩ := hr
        have et : t = .pl y0 := by
          cases t <;> simp [T.pl?] at hy0
          rw [hy0]
        subst et
        refine iteT ⟨F4, e1, as3, g4.ok, rep3.readG g3.ok g4, _, ht, fun F5 H5 v5 at5 g5 rt5 s5 => ?_⟩
        have big5 : GoR ⟨F4, H4, as ++ [L]⟩ ⟨F5, H5, as ++ [L]⟩ := by
          have sub3 : ∀ b ∈ as3, b ∈ as ∨ H4 b = none ∨ b ∈ as3 := fun b hb => .inr (.inr hb)
          have sub3' : ∀ b ∈ as3, b ∈ as := fun b hb => by
            rcases g3.newO b hb with z | z
            · exact subw b z
            · exact absurd z (g3.ok.so b hb)
          refine ⟨⟨fun b o e _ => g5.all b o e, g5.grow, fun b hb => ?_, fun b hb => .inl hb, ?_⟩, g5.all⟩
          · rcases g5.newF b hb with z | z | z
            · exact .inl z
            · exact .inr (.inl (List.mem_append_left _ (sub3' b z)))
            · exact .inr (.inr z)
          · refine ⟨big4.ok.nd, fun b hb hF => ?_, fun b hb => ?_, g5.ok.fs⟩
            · rcases g5.newF b hF with z | z | z
              · exact big4.ok.nf b hb z
              · exact g5.ok.nf b z hF
              · exact big4.ok.so b hb z
            · obtain ⟨o, e⟩ := some_of_ne (big4.ok.so b hb)
              show H5 b ≠ none
              have e5 : H5 b = some o := g5.all b o e
              rw [e5]; exact fun q => nomatch q
        have hL5 : H5 L = some (.lst vacc) := g5.all _ _ hL4
        have rv : Rep X.K X.mg F5 H5 y0 v5 := by unfold RepT at rt5; exact rt5.2
        have racc5 := racc4.mono (big5.toGo.le big4.ok)
        have mem : L ∈ as ++ [L] := by simp
        have gm := big5.ok.mut (o := .lst (vacc ++ [v5])) mem
        have nL : ¬ F5 L := big5.ok.nf L mem
        have leM : Le F5 H5 F5 (upd H5 L (.lst (vacc ++ [v5]))) := gm.le big5.ok
        have hlen2 : vacc.length < big := by
          rw [racc.length]
          have : acc.length ≤ (acc ++ (y0 :: rest2)).length := by simp
          rw [happ] at this
          omega
        refine ⟨vacc, hL5, big_line' hlen2, F5, acc ++ [y0], vacc ++ [v5], rest2, gm.ok, (g24.trans big5.toGo).trans gm, fun b o e => ?_, upd_same, (racc5.append (.one rv)).mono leM, hrest2, by rw [← happ]; simp⟩
        rw [upd_ne (ne_of_none e hL)]
        exact g5.all b o (all4 b o e)
    · have ei : i = ds.length := by omega
      refine .inl ⟨ws ei, ?_⟩
      rw [ei, List.drop_length] at hrest
      cases hrest
      rw [List.append_nil] at happ
      subst happ
      have g2 := ok'.freeze
      have gf := g'.trans g2
      refine post _ H' (.ref L) [] (g1.trans ⟨gf, all'⟩) (RepT.plI ?_) (by simp)
      unfold Rep
      exact ⟨L, vacc, rfl, ⟨.inr (by simp), .inl hL'⟩, racc.mono ⟨fun _ h => .inl h, fun _ _ _ e => e⟩⟩
  · cases hz
theorem re_lc {e : Expr} {wi : TI} (h : PE X e (tLc wi g (tRB X tt) (tR X el) vs)) (hg : GBk X vs g st) (hw : ∀ σ H R, tRI X src σ H R → wi σ H R := by intro _ _ _ h; exact h) (hv : vs.Nodup := by decide) : PE X e (tR X (rComp vs st src tt el)) :=
  pe_imp h fun σ H Q q => rlc hv hg q hw
def rYes : Rd Bool := fun _ => some true
theorem rts_nil : PTs X [] (tRB X rYes) := ⟨fun pins s σ H Q I h => by
  obtain ⟨F, env, as, ok, rep, b, hb, post⟩ := h
  cases hb
  exact pts_nil.run pins s σ H Q I (post F H (GoR.refl ok))⟩
end

/-! ### doing -/
def mCompL (vs : List Nat) (st : D → Slots → Option Slots) (tt : M Bool) (el : M T) : List D → List D → Slots → Out (List D)
  | [], acc, env => .ok acc env
  | d :: ds, acc, env => match st d env with
    | none => .no
    | some e1 => match tt e1 with
      | .no => .no
      | .ex x e => .ex x e
      | .ok false e2 => mCompL vs st tt el ds acc (wipeS e2 vs)
      | .ok true e2 => match el e2 with
        | .no => .no
        | .ex x e => .ex x e
        | .ok t e3 => mCompL vs st tt el ds (acc ++ [t.frz]) (wipeS e3 vs)
def mComp (vs : List Nat) (st : D → Slots → Option Slots) (src : M (List D)) (tt : M Bool) (el : M T) : M T := src.bind fun ds => fun env => match mCompL vs st tt el ds [] (wipeS env vs) with
  | .ok acc env' => if acc.length < big then .ok (.ol acc) (restS env env' vs) else .no
  | .ex x e => .no
  | .no => .no
theorem mCompL_len {vs st tt el} : ∀ {ds acc : List D} {env env' acc'}, mCompL vs st tt el ds acc env = .ok acc' env' → acc.length ≤ acc'.length
  | [], acc, env, env', acc', h => by unfold mCompL at h; cases h; exact Nat.le_refl _
  | d :: ds, acc, env, env', acc', h => by
    unfold mCompL at h
    split at h
    · cases h
    · split at h
      · cases h
      · cases h
      · exact mCompL_len h
      · split at h
        · cases h
        · cases h
        · have := mCompL_len h
          simp at this
          omega
theorem mCompL_len' {vs st tt el} : ∀ {ds acc : List D} {env env' acc'}, mCompL vs st tt el ds acc env = .ok acc' env' → True := fun _ => trivial
section
variable {X : Cx} {W : WX} {vs : List Nat} {g : TG} {st : D → Slots → Option Slots} {tt : M Bool} {el : M T} {src : M (List D)}
theorem wipe_again {K mg F H env σ as} (hv : vs.Nodup) (rep : RepE K mg F H env σ as) : ∃ as1, (∀ b ∈ as1, b ∈ as) ∧ (as.Nodup → as1.Nodup) ∧ RepE K mg F H (wipeS env vs) (wipe σ vs) as1 := by
  obtain ⟨as1, h, pm, r, _⟩ := rep.wipe hv
  exact ⟨as1, fun b hb => pm.mem_iff.mp (List.mem_append_left _ hb), fun nd => (List.nodup_append.mp (pm.nodup_iff.mpr nd)).1, r⟩
theorem mlc {wi : TI} {σ : St} {H : Hp} {Q : VK} (hv : vs.Nodup) (hg : GBk X vs g st) (h : tE X W (mComp vs st src tt el) σ H Q) (hw : ∀ σ H R, tI X W src σ H R → wi σ H R) : tLc wi g (Mir.tB X W0 tt) (tE X W0 el) vs σ H Q := by
  obtain ⟨F, env, as, ok, rep, post⟩ := h
  refine hw _ _ _ ⟨F, env, as, ok, rep, ?_⟩
  unfold mComp M.bind at post
  cases h1 : src env with
  | no => simp only [h1] at post; exact post
  | ex x e1 => simp only [h1] at post; exact post
  | ok ds e1 =>
    simp only [h1] at post
    intro F1 H1 as1 J g1 rep1 wk L hL
    have ok1 := g1.ok
    have gl := ok1.layO (o := .lst []) hL
    -- the hidden slots
    obtain ⟨asw, hid, pm, repw, back⟩ := rep1.wipe hv
    have okw : Wd.Ok ⟨F1, H1, asw ++ (hid ++ [L])⟩ ∨ True := .inr trivial
    cases h2 : mCompL vs st tt el ds [] (wipeS e1 vs) with
    | no => simp only [h2] at post; exact post.elim
    | ex x e2 => simp only [h2] at post; exact post.elim
    | ok acc' e2 =>
      simp only [h2] at post
      split at post
      rotate_left
      · exact post.elim
      rename_i hlen
      have le0 : Le F1 H1 F1 (upd H1 L (.lst [])) := gl.le ok1
      have g0 : Go ⟨F1, H1, as1⟩ ⟨F1, upd H1 L (.lst []), asw ++ (hid ++ [L])⟩ := by
        refine gl.sub ?_ fun b hb => ?_
        · have : ((asw ++ hid) ++ [L]).Nodup := by
            have e : ((asw ++ hid) ++ [L]).Perm (as1 ++ [L]) := List.Perm.append_right _ pm
            exact e.nodup_iff.mpr gl.ok.nd
          simpa using this
        · simp only [List.mem_append] at hb ⊢
          rcases hb with z | z | z
          · exact .inl (pm.mem_iff.mp (List.mem_append_left _ z))
          · exact .inl (pm.mem_iff.mp (List.mem_append_right _ z))
          · exact .inr z
      have all0 : ∀ b o, H1 b = some o → upd H1 L (.lst []) b = some o := fun b o e => by rw [upd_ne (ne_of_none e hL)]; exact e
      refine ⟨fun i k H' => i ≤ ds.length ∧ k = ds.length - i ∧ ∃ F' acc vacc env' as', Go ⟨F1, H1, as1⟩ ⟨F', H', as' ++ (hid ++ [L])⟩ ∧ (∀ b ∈ hid, ∀ o, H1 b = some o → H' b = some o) ∧ H' L = some (.lst vacc) ∧ Reps X.K X.mg F' H' acc vacc ∧
          RepE X.K X.mg F' H' env' (wipe σ vs) as' ∧ (∀ v ∈ vs, v < e1.length → env'[v]? = some none) ∧ mCompL vs st tt el (ds.drop i) acc env' = .ok acc' e2,
        ⟨ds.length, Nat.zero_le _, by simp, F1, [], [], wipeS e1 vs, asw, g0, fun b _ => all0 b, upd_same, .nil, repw.mono le0 fun b _ => all0 b, fun v hv' hl => wipeS_none hv' hl, by simpa using h2⟩, ?_⟩
      rintro i k H' ⟨hi, rfl, F', acc, vacc, env', as', g', hh', hL', racc, rep', hn', hrest⟩
      have le' : Le F1 H1 F' H' := g'.le ok1
      obtain ⟨ws, wg⟩ := wk F' H' _ g'.grow le'.keep g'.ok i
      have okc := g'.ok.left
      by_cases hlt : i < ds.length
      · have hd : ds.drop i = ds[i] :: ds.drop (i + 1) := List.drop_eq_getElem_cons hlt
        rw [hd] at hrest
        unfold mCompL at hrest
        obtain ⟨go, yl⟩ := wg ds[i] (List.getElem?_eq_getElem hlt)
        refine .inr ⟨go, fun H2 => ∃ F' acc vacc env' as', Go ⟨F1, H1, as1⟩ ⟨F', H2, as' ++ (hid ++ [L])⟩ ∧ (∀ b ∈ hid, ∀ o, H1 b = some o → H2 b = some o) ∧ H2 L = some (.lst vacc) ∧ Reps X.K X.mg F' H2 acc vacc ∧
          RepE X.K X.mg F' H2 env' (wipe σ vs) as' ∧ (∀ v ∈ vs, v < e1.length → env'[v]? = some none) ∧ mCompL vs st tt el (ds.drop (i + 1)) acc env' = .ok acc' e2, fun H2 q => ⟨ds.length - (i + 1), by omega, hlt, rfl, q⟩, fun x H2 y => ?_⟩
        obtain ⟨F2, gr, rx⟩ := yl x H2 y
        have g2 := g'.trans gr.toGo
        have rep2 := rep'.readG g'.ok gr
        have racc2 := racc.mono (gr.toGo.le g'.ok)
        have hL2 : H2 L = some (.lst vacc) := gr.all _ _ hL'
        have hh2 : ∀ b ∈ hid, ∀ o, H1 b = some o → H2 b = some o := fun b hb o e => gr.all b o (hh' b hb o e)
        split at hrest
        · cases hrest
        · rename_i e3 he3
          have rep2' : RepE X.K X.mg F2 H2 env' (wipe σ vs) as' := rep2
          refine block_tgt hg g2.ok.left rep2' rx he3 fun σ3 as3 ew g3 rep3 => ⟨ew, F2, e3, as3, g3.ok, rep3, ?_⟩
          have ctx3 := g2.next g3
          have hl3 : e3.length = e1.length := by
            rw [rep3.length, rep1.length, ← wipe_length σ vs, ← ew, wipe_length]
          cases hb : tt e3 with
          | no => rw [hb] at hrest; cases hrest
          | ex x e => rw [hb] at hrest; cases hrest
          | ok b e4 =>
            rw [hb] at hrest
            intro F4 H4 as4 g4 rep4
            have ctx4 := ctx3.next g4
            have keepC : ∀ b ∈ hid ++ [L], ∀ o, H2 b = some o → H4 b = some o := fun b hb o e => g4.keep b o e fun z => (List.nodup_append.mp ctx3.ok.nd).2.2 b z b hb rfl
            have racc4 := racc2.mono ((g3.trans g4).le g2.ok.left)
            have hL4 := keepC L (by simp) _ hL2
            have hh4 : ∀ b ∈ hid, ∀ o, H1 b = some o → H4 b = some o := fun b hb o e => keepC b (by simp [hb]) o (hh2 b hb o e)
            have nw : ∀ {eN : Slots} {asN : List Addr} {FN : Addr → Prop} {HN : Hp}, RepE X.K X.mg FN HN eN σ3 asN → ∃ as5, (∀ b ∈ as5, b ∈ asN) ∧ (asN.Nodup → as5.Nodup) ∧ RepE X.K X.mg FN HN (wipeS eN vs) (wipe σ vs) as5 ∧ ∀ v ∈ vs, v < e1.length → (wipeS eN vs)[v]? = some none := fun {eN asN FN HN} rN => by
              obtain ⟨as5, q1, q2, q3⟩ := wipe_again hv rN
              rw [ew] at q3
              refine ⟨as5, q1, q2, q3, fun v hv' hl => wipeS_none hv' ?_⟩
              rw [rN.length, ← rep3.length, hl3]; exact hl
            have subN : ∀ {FN : Addr → Prop} {HN : Hp} {asN as5 : List Addr}, Go ⟨F1, H1, as1⟩ ⟨FN, HN, asN ++ (hid ++ [L])⟩ → (∀ b ∈ as5, b ∈ asN) → (asN.Nodup → as5.Nodup) → Go ⟨F1, H1, as1⟩ ⟨FN, HN, as5 ++ (hid ++ [L])⟩ := fun {FN HN asN as5} gN q1 q2 => by
              have nd := List.nodup_append.mp gN.ok.nd
              refine gN.sub (List.nodup_append.mpr ⟨q2 nd.1, nd.2.1, fun a ha b hb => nd.2.2 a (q1 a ha) b hb⟩) fun b hb => ?_
              rcases List.mem_append.mp hb with z | z
              · exact List.mem_append_left _ (q1 b z)
              · exact List.mem_append_right _ z
            cases b with
            | false =>
              simp only at hrest
              obtain ⟨as5, q1, q2, q3, q4⟩ := nw rep4
              exact iteF ⟨F4, acc, vacc, _, as5, subN ctx4 q1 q2, hh4, hL4, racc4, q3, q4, hrest⟩
            | true =>
              simp only at hrest
              refine iteT ⟨F4, e4, as4, g4.ok, rep4, ?_⟩
              cases he : el e4 with
              | no => rw [he] at hrest; cases hrest
              | ex x e => rw [he] at hrest; cases hrest
              | ok t e5 =>
                rw [he] at hrest
                intro F5 H5 v5 as5 at5 g5 rep5 rt5
                have gf := g5.fzr
                have ctx5 := ctx4.next gf
                have keepC5 : ∀ b ∈ hid ++ [L], ∀ o, H4 b = some o → H5 b = some o := fun b hb o e => g5.keep b o e fun z => (List.nodup_append.mp ctx4.ok.nd).2.2 b z b hb rfl
                have racc5 := racc4.mono (gf.le g4.ok)
                have hL5 := keepC5 L (by simp) _ hL4
                have memL : L ∈ as5 ++ (hid ++ [L]) := by simp
                have gm := ctx5.ok.mut (o := .lst (vacc ++ [v5])) memL
                have leM := gm.le ctx5.ok
                have nLas : L ∉ as5 := fun z => (List.nodup_append.mp ctx5.ok.nd).2.2 L z L (by simp) rfl
                have nLh : L ∉ hid := fun z => (List.nodup_append.mp ((List.nodup_append.mp ctx5.ok.nd).2.1)).2.2 L z L (by simp) rfl
                have hacc : acc.length < big := by
                  have := mCompL_len hrest
                  simp at this
                  omega
                obtain ⟨as6, q1, q2, q3, q4⟩ := nw (rep5.fzr (at1 := at5))
                refine ⟨vacc, hL5, big_line' (by rw [racc.length]; exact hacc), _, acc ++ [t.frz], vacc ++ [v5], _, as6, subN (ctx5.trans gm) q1 q2, fun b hb o e => ?_, upd_same, (racc5.append (.one rt5.fzr)).mono leM, q3.mono leM fun b hb o e => ?_, q4, hrest⟩
                · rw [upd_ne (by intro z; subst z; exact nLh hb)]
                  exact keepC5 b (by simp [hb]) o (hh4 b hb o e)
                · show upd H5 L (.lst (vacc ++ [v5])) b = some o
                  rw [upd_ne (by intro z; subst z; exact nLas (q1 _ hb))]
                  exact e
      · have ei : i = ds.length := by omega
        refine .inl ⟨ws ei, ?_⟩
        rw [ei, List.drop_length] at hrest
        unfold mCompL at hrest
        cases hrest
        obtain ⟨as2, pm2, rep2⟩ := back F' H' _ as' le' hh' hn' rep'
        refine post F' H' (.ref L) as2 [L] ((g1.trans g').sub ?_ fun b hb => ?_) rep2 ?_
        · have e : (as2 ++ [L]).Perm (as' ++ (hid ++ [L])) := by
            rw [← List.append_assoc]; exact List.Perm.append_right _ pm2
          exact e.nodup_iff.mpr g'.ok.nd
        · rcases List.mem_append.mp hb with z | z
          · rcases List.mem_append.mp (pm2.mem_iff.mp z) with y | y
            · exact List.mem_append_left _ y
            · exact List.mem_append_right _ (List.mem_append_left _ y)
          · exact List.mem_append_right _ (List.mem_append_right _ z)
        · unfold RepT
          exact ⟨L, vacc, rfl, rfl, hL', racc⟩
theorem me_lc {e : Expr} {wi : TI} (h : PE X e (tLc wi g (Mir.tB X W0 tt) (tE X W0 el) vs)) (hg : GBk X vs g st) (hw : ∀ σ H R, tI X W src σ H R → wi σ H R := by intro _ _ _ h; exact h) (hv : vs.Nodup := by decide) : PE X e (tE X W (mComp vs st src tt el)) :=
  pe_imp h fun σ H Q q => mlc hv hg q hw
def mYes : M Bool := fun env => .ok true env
theorem mts_nil : PTs X [] (Mir.tB X W0 mYes) := ⟨fun pins s σ H Q I h => by
  obtain ⟨F, env, as, ok, rep, post⟩ := h
  exact pts_nil.run pins s σ H Q I (post F H as (Go.refl ok) rep)⟩
end
end Mir

set_option maxHeartbeats 1000000
/-! Mir11: lists changed in place; calls; defs. -/
namespace Mir
open PySem L2
open PyProof.Rows hiding St

/-! ### methods of a list in a slot -/
/-- a method as a function of the items and the arguments: its value, the items behind it -/
abbrev LF := List D → List D → Option (D × List D)
def LMut (X : Cx) (f : LF) (r : V → List V → Hp → VK → Prop) : Prop := ∀ {F H own a xs vs ds ws d xs'}, Wd.Ok ⟨F, H, own⟩ → a ∈ own → H a = some (.lst vs) → Reps X.K X.mg F H xs vs → Reps X.K X.mg F H ds ws → f xs ds = some (d, xs') →
  ∀ {Q : VK}, (∀ v vs', Rep X.K X.mg F H d v → Reps X.K X.mg F H xs' vs' → Q v (upd H a (.lst vs'))) → r (.ref a) ws H Q
def mMut (f : LF) (j : Nat) (μ : M (List T)) : M T := fun env => match env[j]? with
  | some (some (.ol _)) => match μ env with
    | .ok ts e1 => match e1[j]? with
      | some (some (.ol xs)) => match f xs (frzs ts) with
        | some (d, xs') => .ok (.pl d) (e1.set j (some (.ol xs')))
        | none => .no
      | _ => .no
    | .ex x e1 => .ex x e1
    | .no => .no
  | _ => .no
theorem RepE.ol {K mg F H} {env : Slots} {σ : St} {as : List Addr} {j : Nat} {xs : List D} (rep : RepE K mg F H env σ as) (h : env[j]? = some (some (.ol xs))) : ∃ a vs, σ[j]? = some (some (.ref a)) ∧ a ∈ as ∧ H a = some (.lst vs) ∧ Reps K mg F H xs vs := by
  obtain ⟨l1, a, l2, rfl, g1, _, _⟩ := rep.at j (List.getElem?_eq_some_iff.mp h).1
  obtain ⟨v, e1, r⟩ := g1 _ h
  unfold RepT at r
  obtain ⟨b, vs, rfl, rfl, hh, rr⟩ := r
  exact ⟨b, vs, e1, by simp, hh, rr⟩
theorem RepE.olSet {K mg F H} {env : Slots} {σ : St} {as : List Addr} {j : Nat} {xs xs' : List D} {a : Addr} {vs' : List V} (rep : RepE K mg F H env σ as) (nd : as.Nodup) (nf : ∀ b ∈ as, ¬ F b) (h : env[j]? = some (some (.ol xs))) (hσ : σ[j]? = some (some (.ref a))) (r' : Reps K mg F (upd H a (.lst vs')) xs' vs') :
    RepE K mg F (upd H a (.lst vs')) (env.set j (some (.ol xs'))) σ as := by
  obtain ⟨l1, a1, l2, rfl, g1, _, g3⟩ := rep.at j (List.getElem?_eq_some_iff.mp h).1
  obtain ⟨v, e1, r⟩ := g1 _ h
  unfold RepT at r
  obtain ⟨b, vs, rfl, rfl, hh, rr⟩ := r
  have eab : b = a := by rw [hσ] at e1; simpa using e1.symm
  subst eab
  have nl : ∀ c ∈ l1 ++ l2, c ≠ b := fun c hc e => by
    subst e
    have := nd
    simp only [List.nodup_append, List.mem_append, List.mem_cons, List.not_mem_nil, or_false] at this hc
    rcases hc with z | z
    · exact this.2.2 _ z _ (.inl rfl) rfl
    · exact this.2.1.2.2 _ rfl _ z rfl
  have le : Le F H F (upd H b (.lst vs')) := ⟨fun _ h => h, fun c o hf e => by rw [upd_ne (by intro z; subst z; exact nf _ (by simp) hf)]; exact e⟩
  have q := (g3 F (upd H b (.lst vs')) le fun c hc o e => by rw [upd_ne (nl c hc)]; exact e).1 (.ol xs') (.ref b) [b] (by unfold RepT; exact ⟨b, vs', rfl, rfl, upd_same, r'⟩)
  rw [set_self hσ] at q
  exact q
section
variable {X : Cx} {W : WX} {e : Expr} {fx : List Nat} {st : Stmt} {μ : M (List T)} {m : M T}
theorem me_mut {f : LF} {r : V → List V → Hp → VK → Prop} {j : Nat} (hf : LMut X f r) (h : PE X e (tBM X.K "list" r (tVar j) (tA X W μ))) : PE X e (tE X W (mMut f j μ)) := pe_imp h fun σ H Q ⟨F, env, as, ok, rep, post⟩ => by
  unfold mMut at post
  split at post
  rotate_left
  · exact post.elim
  rename_i xs0 hj
  obtain ⟨a, vs0, hσ, ha, hH, k0⟩ := rep.ol hj
  refine ⟨.ref a, hσ, .inl ⟨rfl, vs0, .inl (.inl hH)⟩, F, env, as, ok, rep, ?_⟩
  cases h1 : μ env with
  | no => simp only [h1] at post; exact post.elim
  | ex x e1 => simp only [h1] at post; exact post
  | ok ts e1 =>
    simp only [h1] at post
    intro F1 H1 ws as1 at1 g1 rep1 rt1
    split at post
    rotate_left
    · exact post.elim
    rename_i xs hj1
    cases hu : f xs (frzs ts) with
    | none => rw [hu] at post; exact post.elim
    | some p =>
      obtain ⟨d, xs'⟩ := p
      rw [hu] at post
      have g2 := g1.fzr
      have rep2 := rep1.fzr (at1 := at1)
      obtain ⟨a', vs, hσ', ha', hH', k'⟩ := rep2.ol hj1
      have eaa : a' = a := by rw [hσ] at hσ'; simpa using hσ'.symm
      subst eaa
      refine hf g2.ok ha' hH' k' rt1.fzr hu fun v vs' rv rvs => ?_
      have gm := g2.ok.mut (o := .lst vs') ha'
      have le := gm.le g2.ok
      exact post _ _ v as1 [] (g2.trans gm).nil (rep2.olSet g2.ok.nd g2.ok.nf hj1 hσ' (rvs.mono le)) (RepT.plI (rv.mono le))
theorem me_mut0 {f : LF} {r : V → List V → Hp → VK → Prop} {j : Nat} (hf : LMut X f r) (h : PE X e (tBM0 X.K "list" r (tVar j))) : PE X e (tE X W (mMut f j mnil)) := pe_imp h fun σ H Q ⟨F, env, as, ok, rep, post⟩ => by
  unfold mMut mnil at post
  split at post
  rotate_left
  · exact post.elim
  rename_i xs hj
  simp only [hj] at post
  obtain ⟨a, vs, hσ, ha, hH, k0⟩ := rep.ol hj
  refine ⟨.ref a, hσ, .inl ⟨rfl, vs, .inl (.inl hH)⟩, ?_⟩
  cases hu : f xs (frzs []) with
  | none => rw [hu] at post; exact post.elim
  | some p =>
    obtain ⟨d, xs'⟩ := p
    rw [hu] at post
    refine hf ok ha hH k0 .nil hu fun v vs' rv rvs => ?_
    have gm := ok.mut (o := .lst vs') ha
    have le := gm.le ok
    exact post _ _ v as [] gm.nil (rep.olSet ok.nd ok.nf hj hσ (rvs.mono le)) (RepT.plI (rv.mono le))
end
def lAppend : LF := fun xs ds => match ds with
  | [d] => if xs.length < big then some (.non, xs ++ [d]) else none
  | _ => none
def lPop : LF := fun xs ds => match ds with
  | [] => (xs[xs.length - 1]?).map fun d => (d, xs.dropLast)
  | _ => none
def lPopAt : LF := fun xs ds => match ds with
  | [.int i] => if -(2 ^ 63) ≤ i ∧ i < 2 ^ 63 then (ixN xs.length i).bind fun k => (xs[k]?).map fun d => (d, xs.eraseIdx k) else none
  | _ => none
def lReverse : LF := fun xs ds => match ds with
  | [] => some (.non, xs.reverse)
  | _ => none
def lClear : LF := fun xs ds => match ds with
  | [] => some (.non, [])
  | _ => none
section
variable {X : Cx}
theorem Reps.one' {K mg F H d vs} (h : Reps K mg F H [d] vs) : ∃ v, vs = [v] ∧ Rep K mg F H d v := by
  unfold Reps Reps at h
  obtain ⟨v, r, e, h1, h2⟩ := h
  exact ⟨v, by rw [e, h2], h1⟩
theorem Reps.nil' {K mg F H vs} (h : Reps K mg F H [] vs) : vs = [] := by unfold Reps at h; exact h
theorem Rep.nonI {K mg F H} : Rep K mg F H .non .non := by unfold Rep; rfl
theorem lm_append : LMut X lAppend rAppend := by
  intro F H own a xs vs ds ws d xs' ok ha hH r rd e Q q
  unfold lAppend at e
  split at e
  · split at e <;> cases e
    rename_i hz
    obtain ⟨v, rfl, rv⟩ := rd.one'
    exact ⟨a, vs, v, rfl, rfl, hH, by rw [r.length]; exact big_line' hz, q .non _ Rep.nonI (r.append (.one rv))⟩
  · cases e
theorem dropLast_rep {K mg F H} {ds : List D} {vs : List V} (r : Reps K mg F H ds vs) : Reps K mg F H ds.dropLast vs.dropLast := by
  rw [List.dropLast_eq_take, List.dropLast_eq_take, r.length]
  exact r.take _
theorem lm_pop : LMut X lPop rPop := by
  intro F H own a xs vs ds ws d xs' ok ha hH r rd e Q q
  unfold lPop at e
  split at e
  · simp only [Option.map_eq_some_iff, Prod.mk.injEq] at e
    obtain ⟨d', hd, rfl, rfl⟩ := e
    have := rd.nil'
    subst this
    obtain ⟨v, hv, rv⟩ := r.get hd
    exact ⟨a, vs, v, rfl, rfl, hH, by rw [r.length]; exact hv, q v _ rv (dropLast_rep r)⟩
  · cases e
theorem lm_popAt : LMut X lPopAt rPopAt := by
  intro F H own a xs vs ds ws d xs' ok ha hH r rd e Q q
  unfold lPopAt at e
  split at e
  · split at e
    · rename_i hz
      simp only [Option.bind_eq_some_iff, Option.map_eq_some_iff, Prod.mk.injEq] at e
      obtain ⟨k, hk, d', hd, rfl, rfl⟩ := e
      obtain ⟨v, rfl, rv⟩ := rd.one'
      unfold Rep at rv
      subst rv
      obtain ⟨w, hw, rw'⟩ := r.get hd
      exact ⟨a, vs, _, k, w, rfl, rfl, hH, hz.1, hz.2, by rw [r.length]; exact (ixN_seq hk).1, hw, q w _ rw' (r.eraseIdx k)⟩
    · cases e
  · cases e
theorem lm_reverse : LMut X lReverse rReverse := by
  intro F H own a xs vs ds ws d xs' ok ha hH r rd e Q q
  unfold lReverse at e
  split at e <;> cases e
  have := rd.nil'
  subst this
  exact ⟨a, vs, rfl, rfl, hH, q .non _ Rep.nonI r.reverse⟩
theorem lm_clear : LMut X lClear rClear := by
  intro F H own a xs vs ds ws d xs' ok ha hH r rd e Q q
  unfold lClear at e
  split at e <;> cases e
  have := rd.nil'
  subst this
  exact ⟨a, vs, rfl, rfl, hH, q .non _ Rep.nonI .nil⟩
/-! xs[i] = e -/
end
def mSetIx (j : Nat) (i : Rd T) (m : M T) : MS := m.bind fun t => fun env => match env[j]? with
  | some (some (.ol xs)) => match (i env).bind asI with
    | some k => match ixN xs.length k with
      | some n => .ok .nx (env.set j (some (.ol (xs.set n t.frz))))
      | none => .no
    | none => .no
  | _ => .no
section
variable {X : Cx} {W : WX} {fx : List Nat} {st : Stmt} {m : M T} {ρ : Rd T}
theorem ms_setix {j : Nat} (h : PS X st (tAsg (tE X W m) (gSub (tVar j) (tR X ρ) rSetL))) : PS X st (tS X W fx (mSetIx j ρ m)) := ps_imp h fun D σ H hs =>
  tE_in hs fun F env as t e1 ok h1 post F1 H1 v as1 at1 g1 rep1 rt1 => by
    split at post
    rotate_left
    · exact post.elim
    rename_i xs hj
    split at post
    rotate_left
    · exact post.elim
    rename_i k hk
    split at post
    rotate_left
    · exact post.elim
    rename_i n hn
    have g2 := g1.fzr
    have rep2 := rep1.fzr (at1 := at1)
    obtain ⟨a, vs, hσ, ha, hH, kk⟩ := rep2.ol hj
    simp only [Option.bind_eq_some_iff] at hk
    obtain ⟨ti, hti, hki⟩ := hk
    have et := asI_int hki
    subst et
    refine ⟨.ref a, hσ, _, e1, as1, g2.ok, rep2, _, hti, fun F3 H3 v3 at3 g3 rt3 s3 => ?_⟩
    have rep3 := rep2.readG g2.ok g3
    have kk3 := kk.mono (g3.toGo.le g2.ok)
    have rt := (rt1.fzr).mono (g3.toGo.le g2.ok)
    refine ⟨a, vs, k, n, rfl, rt3.int, g3.all _ _ hH, by rw [kk.length]; exact hn, ?_⟩
    have gm := g3.ok.mut (o := .lst (vs.set n v)) ha
    have le := gm.le g3.ok
    exact post _ _ σ as1 fx_refl ((g2.trans g3.toGo).trans gm) (rep3.olSet g3.ok.nd g3.ok.nf hj hσ ((kk3.set n rt).mono le))
end

/-! ### calls -/
inductive FRes where
  | ok (t : T) (outs : List T) | ex (x : Exn) (outs : List T) | no
section
variable (K : PySem.W.Frag) (mg : Str → Option Value)
def PoF (F : Addr → Prop) (H : Hp) (as : List Addr) (vs : List V) (Q : VK) (E : XK) : FRes → Prop
  | .ok t outs => ∀ F' H' v as' at', Go ⟨F, H, as⟩ ⟨F', H', as' ++ at'⟩ → RepTs K mg F' H' outs vs as' → RepT K mg F' H' t v at' → Q v H'
  | .ex x outs => ∀ F' H' as' cls d, Go ⟨F, H, as⟩ ⟨F', H', as'⟩ → RepTs K mg F' H' outs vs as' → RepX K mg F' H' x cls d → E cls d H'
  | .no => False
/-- a def's promise by its mirror -/
def spM (n : Nat) (f : List T → FRes) : Sp := fun vs H Q E => vs.length = n ∧ ∃ F ts as, Wd.Ok ⟨F, H, as⟩ ∧ RepTs K mg F H ts vs as ∧ PoF K mg F H as vs Q E (f ts)
end
inductive PreT where
  | v (t : T) | s (i : Nat)
def takeAll : List PreT → Slots → Option (List T × Slots)
  | [], env => some ([], env)
  | .v t :: r, env => (takeAll r env).map fun p => (t :: p.1, p.2)
  | .s i :: r, env => match env[i]? with
    | some (some t) => (takeAll r (env.set i none)).map fun p => (t :: p.1, p.2)
    | _ => none
def backAll : List PreT → List T → Slots → Slots
  | .v _ :: r, _ :: os, env => backAll r os env
  | .s i :: r, o :: os, env => (backAll r os env).set i (some o)
  | _, _, env => env
section
variable (K : PySem.W.Frag) (mg : Str → Option Value) (F : Addr → Prop) (H : Hp)
def RepPs (σ : St) : List PreT → List V → List Addr → Prop
  | [], vs, as => vs = [] ∧ as = []
  | .v t :: r, vs, as => ∃ v ws a1 a2, vs = v :: ws ∧ as = a1 ++ a2 ∧ RepT K mg F H t v a1 ∧ RepPs σ r ws a2
  | .s i :: r, vs, as => ∃ v ws, vs = v :: ws ∧ σ[i]? = some (some v) ∧ RepPs σ r ws as
end
section
variable {K : PySem.W.Frag} {mg : Str → Option Value} {F F' : Addr → Prop} {H H' : Hp}
theorem RepPs.mono (l : Le F H F' H') {σ : St} : ∀ {ts : List PreT} {vs : List V} {as : List Addr}, (∀ b ∈ as, ∀ o, H b = some o → H' b = some o) → RepPs K mg F H σ ts vs as → RepPs K mg F' H' σ ts vs as
  | [], vs, as, k, h => by unfold RepPs at h ⊢; exact h
  | .v t :: e, vs, as, k, h => by
    unfold RepPs at h ⊢
    obtain ⟨v, r, a1, a2, eσ, ea, h1, h2⟩ := h
    exact ⟨v, r, a1, a2, eσ, ea, RepT.mono l (fun b hb => k b (by rw [ea]; exact List.mem_append_left _ hb)) h1, RepPs.mono l (fun b hb => k b (by rw [ea]; exact List.mem_append_right _ hb)) h2⟩
  | .s i :: e, vs, as, k, h => by
    unfold RepPs at h ⊢
    obtain ⟨v, r, eσ, ea, h2⟩ := h
    exact ⟨v, r, eσ, ea, RepPs.mono l k h2⟩
theorem take_rep {σ : St} : ∀ {pres : List PreT} {env env2 : Slots} {ts : List T} {vs : List V} {as at1 : List Addr}, RepE K mg F H env σ as → RepPs K mg F H σ pres vs at1 → takeAll pres env = some (ts, env2) →
    ∃ as2 own, RepE K mg F H env2 σ as2 ∧ RepTs K mg F H ts vs own ∧ (as2 ++ own).Perm (as ++ at1) ∧ env2.length = env.length ∧ ∀ j : Nat, env[j]? = some none → env2[j]? = some none
  | [], env, env2, ts, vs, as, at1, rep, rp, e => by
    unfold takeAll at e
    cases e
    unfold RepPs at rp
    exact ⟨as, [], rep, by unfold RepTs; exact ⟨rp.1, rfl⟩, by rw [rp.2], rfl, fun _ h => h⟩
  | .v t :: r, env, env2, ts, vs, as, at1, rep, rp, e => by
    unfold takeAll at e
    simp only [Option.map_eq_some_iff, Prod.mk.injEq] at e
    obtain ⟨⟨ts', e2⟩, he, rfl, rfl⟩ := e
    unfold RepPs at rp
    obtain ⟨v, ws, a1, a2, rfl, rfl, h1, h2⟩ := rp
    obtain ⟨as2, own, q1, q2, q3, q4, q5⟩ := take_rep rep h2 he
    refine ⟨as2, a1 ++ own, q1, by unfold RepTs; exact ⟨v, ws, a1, own, rfl, rfl, h1, q2⟩, ?_, q4, q5⟩
    rw [← List.append_assoc, ← List.append_assoc]
    refine ((List.Perm.append_right own List.perm_append_comm).trans ?_)
    rw [List.append_assoc]
    refine (List.Perm.append_left a1 q3).trans ?_
    rw [← List.append_assoc]
    exact List.Perm.append_right a2 List.perm_append_comm
  | .s i :: r, env, env2, ts, vs, as, at1, rep, rp, e => by
    unfold takeAll at e
    split at e
    · rename_i t hi
      simp only [Option.map_eq_some_iff, Prod.mk.injEq] at e
      obtain ⟨⟨ts', e2⟩, he, rfl, rfl⟩ := e
      unfold RepPs at rp
      obtain ⟨v, ws, rfl, hσ, h2⟩ := rp
      obtain ⟨l1, a, l2, rfl, g1, _, g3⟩ := rep.at i (List.getElem?_eq_some_iff.mp hi).1
      obtain ⟨v', e1, rt⟩ := g1 t hi
      have ev : v' = v := by rw [hσ] at e1; simpa using e1.symm
      subst ev
      have r2 := (g3 F H (Le.refl F H) fun _ _ _ e => e).2 (some v')
      rw [set_self hσ] at r2
      obtain ⟨as2, own, q1, q2, q3, q4, q5⟩ := take_rep r2 h2 he
      refine ⟨as2, a ++ own, q1, by unfold RepTs; exact ⟨v', ws, a, own, rfl, rfl, rt, q2⟩, ?_, by rw [q4, List.length_set], fun j hj => q5 j ?_⟩
      · rw [← List.append_assoc]
        refine ((List.Perm.append_right own List.perm_append_comm).trans ?_)
        rw [List.append_assoc]
        refine (List.Perm.append_left a q3).trans ?_
        simp only [← List.append_assoc]
        refine List.Perm.append_right _ (List.Perm.append_right _ List.perm_append_comm)
      · by_cases eij : i = j
        · subst eij; rw [hj] at hi; cases hi
        · rw [List.getElem?_set_ne eij]; exact hj
    · cases e
theorem take_none : ∀ {pres : List PreT} {env env2 : Slots} {ts : List T}, takeAll pres env = some (ts, env2) → ∀ j : Nat, (env[j]? = some none → env2[j]? = some none) ∧ (PreT.s j ∈ pres → env2[j]? = some none)
  | [], env, env2, ts, e, j => by
    unfold takeAll at e
    cases e
    exact ⟨fun h => h, fun h => by simp at h⟩
  | .v t :: r, env, env2, ts, e, j => by
    unfold takeAll at e
    simp only [Option.map_eq_some_iff, Prod.mk.injEq] at e
    obtain ⟨⟨ts', e2⟩, he, rfl, rfl⟩ := e
    have := take_none he j
    exact ⟨this.1, fun h => this.2 (by simpa using h)⟩
  | .s i :: r, env, env2, ts, e, j => by
    unfold takeAll at e
    split at e
    · rename_i t hi
      simp only [Option.map_eq_some_iff, Prod.mk.injEq] at e
      obtain ⟨⟨ts', e2⟩, he, rfl, rfl⟩ := e
      have := take_none he j
      refine ⟨fun h => this.1 ?_, fun h => ?_⟩
      · by_cases eij : i = j
        · subst eij; rw [h] at hi; cases hi
        · rw [List.getElem?_set_ne eij]; exact h
      · rcases List.mem_cons.mp h with z | z
        · cases z
          exact this.1 (by rw [List.getElem?_set_self (List.getElem?_eq_some_iff.mp hi).1])
        · exact this.2 z
    · cases e
/-- slots taken are distinct -/
theorem take_nodup : ∀ {pres : List PreT} {env env2 : Slots} {ts : List T}, takeAll pres env = some (ts, env2) → ∀ j : Nat, env[j]? = some none → PreT.s j ∉ pres
  | [], env, env2, ts, e, j, h => by simp
  | .v t :: r, env, env2, ts, e, j, h => by
    unfold takeAll at e
    simp only [Option.map_eq_some_iff, Prod.mk.injEq] at e
    obtain ⟨⟨ts', e2⟩, he, rfl, rfl⟩ := e
    have := take_nodup he j h
    simpa using this
  | .s i :: r, env, env2, ts, e, j, h => by
    unfold takeAll at e
    split at e
    · rename_i t hi
      simp only [Option.map_eq_some_iff, Prod.mk.injEq] at e
      obtain ⟨⟨ts', e2⟩, he, rfl, rfl⟩ := e
      intro hm
      rcases List.mem_cons.mp hm with z | z
      · cases z; rw [h] at hi; cases hi
      · refine take_nodup he j ?_ z
        by_cases eij : i = j
        · subst eij; rw [h] at hi; cases hi
        · rw [List.getElem?_set_ne eij]; exact h
    · cases e
theorem backAll_none : ∀ {pres : List PreT} {outs : List T} {env : Slots} {j : Nat}, PreT.s j ∉ pres → (backAll pres outs env)[j]? = env[j]?
  | [], outs, env, j, h => by simp [backAll]
  | .v t :: r, [], env, j, h => by simp [backAll]
  | .s i :: r, [], env, j, h => by simp [backAll]
  | .v t :: r, o :: os, env, j, h => by
    unfold backAll
    exact backAll_none (by simpa using h)
  | .s i :: r, o :: os, env, j, h => by
    unfold backAll
    rw [List.getElem?_set_ne (by intro e; subst e; simp at h)]
    exact backAll_none fun z => h (List.mem_cons_of_mem _ z)
theorem back_rep {σ : St} : ∀ {pres : List PreT} {env env0 : Slots} {ts outs : List T} {vs : List V} {as own at1 : List Addr} {F0 : Addr → Prop} {H0 : Hp}, RepE K mg F H env σ as → RepPs K mg F0 H0 σ pres vs at1 → RepTs K mg F H outs vs own → takeAll pres env0 = some (ts, env) →
    ∃ as2, RepE K mg F H (backAll pres outs env) σ as2 ∧ as2.Sublist as2 ∧ (∀ b ∈ as2, b ∈ as ++ own) ∧ ((as ++ own).Nodup → as2.Nodup)
  | [], env, env0, ts, outs, vs, as, own, at1, F0, H0, rep, rp, ro, he => by
    refine ⟨as, ?_, List.Sublist.refl _, fun b hb => List.mem_append_left _ hb, fun nd => (List.nodup_append.mp nd).1⟩
    cases outs <;> (unfold backAll; exact rep)
  | .v t :: r, env, env0, ts, outs, vs, as, own, at1, F0, H0, rep, rp, ro, he => by
    unfold takeAll at he
    simp only [Option.map_eq_some_iff, Prod.mk.injEq] at he
    obtain ⟨⟨ts', e2⟩, he, rfl, rfl⟩ := he
    unfold RepPs at rp
    obtain ⟨v, ws, a1, a2, rfl, rfl, h1, h2⟩ := rp
    cases outs with
    | nil => unfold RepTs at ro; exact nomatch ro.1
    | cons o os =>
      unfold RepTs at ro
      obtain ⟨v', ws', b1, b2, e, rfl, q1, q2⟩ := ro
      cases e
      obtain ⟨as2, r2, s1, s2, s3⟩ := back_rep rep h2 q2 he
      refine ⟨as2, by unfold backAll; exact r2, List.Sublist.refl _, fun b hb => ?_, fun nd => s3 ?_⟩
      · rcases List.mem_append.mp (s2 b hb) with z | z
        · exact List.mem_append_left _ z
        · exact List.mem_append_right _ (List.mem_append_right _ z)
      · exact List.Sublist.nodup (List.Sublist.append (List.Sublist.refl _) (List.sublist_append_right _ _)) nd
  | .s i :: r, env, env0, ts, outs, vs, as, own, at1, F0, H0, rep, rp, ro, he => by
    have hnone := (take_none he i).2 (by simp)
    unfold takeAll at he
    split at he
    · rename_i t hi
      simp only [Option.map_eq_some_iff, Prod.mk.injEq] at he
      obtain ⟨⟨ts', e2⟩, he, rfl, rfl⟩ := he
      unfold RepPs at rp
      obtain ⟨v, ws, rfl, hσ, h2⟩ := rp
      cases outs with
      | nil => unfold RepTs at ro; exact nomatch ro.1
      | cons o os =>
        unfold RepTs at ro
        obtain ⟨v', ws', b1, b2, e, rfl, q1, q2⟩ := ro
        cases e
        obtain ⟨as2, r2, s1, s2, s3⟩ := back_rep rep h2 q2 he
        have ni : PreT.s i ∉ r := take_nodup he i (by rw [List.getElem?_set_self (List.getElem?_eq_some_iff.mp hi).1])
        have hn2 : (backAll r os e2)[i]? = some none := by rw [backAll_none ni]; exact hnone
        obtain ⟨l1, a, l2, rfl, _, g2, g3⟩ := r2.at i (List.getElem?_eq_some_iff.mp hn2).1
        have ea := g2 hn2
        subst ea
        have r3 := (g3 F H (Le.refl F H) fun _ _ _ e => e).1 o v b1 q1
        rw [set_self hσ] at r3
        refine ⟨l1 ++ (b1 ++ l2), by unfold backAll; exact r3, List.Sublist.refl _, fun b hb => ?_, fun nd => ?_⟩
        · have : b ∈ l1 ++ ([] ++ l2) ∨ b ∈ b1 := by
            simp only [List.mem_append] at hb ⊢
            rcases hb with z | z | z
            · exact .inl (.inl z)
            · exact .inr z
            · exact .inl (.inr (.inr z))
          rcases this with z | z
          · rcases List.mem_append.mp (s2 b z) with y | y
            · exact List.mem_append_left _ y
            · exact List.mem_append_right _ (List.mem_append_right _ y)
          · exact List.mem_append_right _ (List.mem_append_left _ z)
        · have nd1 : (as ++ b2).Nodup := List.Sublist.nodup (List.Sublist.append (List.Sublist.refl _) (List.sublist_append_right _ _)) nd
          have nda := s3 nd1
          have ndb : b1.Nodup := (List.nodup_append.mp (List.nodup_append.mp nd).2.1).1
          have dis : ∀ x ∈ l1 ++ ([] ++ l2), ∀ y ∈ b1, x ≠ y := fun x hx y hy exy => by
            subst exy
            have nd' := List.nodup_append.mp nd
            rcases List.mem_append.mp (s2 x hx) with z | z
            · exact nd'.2.2 x z x (List.mem_append_left _ hy) rfl
            · exact (List.nodup_append.mp nd'.2.1).2.2 x hy x z rfl
          have full : ((l1 ++ ([] ++ l2)) ++ b1).Nodup := List.nodup_append.mpr ⟨nda, ndb, dis⟩
          exact nodup3 full
    · cases he
end
section
variable {X : Cx} {W : WX} {e : Expr} {es : List Expr} {m : M T} {μ : M (List PreT)}
theorem RepPs.length {K mg F H σ} : ∀ {ps : List PreT} {vs : List V} {as : List Addr}, RepPs K mg F H σ ps vs as → vs.length = ps.length
  | [], vs, as, h => by unfold RepPs at h; rw [h.1]; rfl
  | .v t :: r, vs, as, h => by
    unfold RepPs at h
    obtain ⟨v, ws, a1, a2, rfl, _, _, h2⟩ := h
    rw [List.length_cons, List.length_cons, RepPs.length h2]
  | .s i :: r, vs, as, h => by
    unfold RepPs at h
    obtain ⟨v, ws, rfl, _, h2⟩ := h
    rw [List.length_cons, List.length_cons, RepPs.length h2]
def PoP (X : Cx) (W : WX) (F : Addr → Prop) (H : Hp) (as : List Addr) (σ : St) (Q : List V → Hp → Prop) : Out (List PreT) → Prop
  | .ok ts env' => ∀ F' H' vs as' at', Go ⟨F, H, as⟩ ⟨F', H', as' ++ at'⟩ → RepE X.K X.mg F' H' env' σ as' → RepPs X.K X.mg F' H' σ ts vs at' → Q vs H'
  | .ex x env' => ∀ F' H' as' cls d, Go ⟨F, H, as⟩ ⟨F', H', as'⟩ → RepE X.K X.mg F' H' env' σ as' → RepX X.K X.mg F' H' x cls d → W cls d σ H'
  | .no => False
def tP (X : Cx) (W : WX) (m : M (List PreT)) : TA := fun σ H Q => ∃ F env as, Wd.Ok ⟨F, H, as⟩ ∧ RepE X.K X.mg F H env σ as ∧ PoP X W F H as σ Q (m env)
def pnil : M (List PreT) := fun env => .ok [] env
def pval (m : M T) (r : M (List PreT)) : M (List PreT) := m.bind fun t => r.bind fun ts => fun env => .ok (.v t :: ts) env
def pslot (i : Nat) (r : M (List PreT)) : M (List PreT) := fun env => match env[i]? with
  | some (some _) => (r.bind fun ts => fun env => .ok (.s i :: ts) env) env
  | _ => .no
theorem mp_nil : PA X [] (tP X W pnil) := pa_imp pa_nil fun σ H Q ⟨F, env, as, ok, rep, post⟩ => by
  exact post F H [] as [] (Go.refl ok).nil rep (by unfold RepPs; exact ⟨rfl, rfl⟩)
theorem mp_val (ha : PE X e (tE X W m)) (hr : PA X es (tP X W μ)) (hs : starEach (e :: es) X.env = (false, eval e X.env) :: starEach es X.env := by rfl) : PA X (e :: es) (tP X W (pval m μ)) :=
  pa_imp (pa_cons ha hr hs) fun σ H Q ⟨F, env, as, ok, rep, post⟩ => by
  refine ⟨F, env, as, ok, rep, ?_⟩
  unfold pval M.bind at post
  cases h1 : m env with
  | no => rw [h1] at post; exact post
  | ex x e1 => rw [h1] at post; exact post
  | ok x e1 =>
    rw [h1] at post
    intro F1 H1 v1 as1 at1 g1 rep1 rt1
    refine ⟨F1, e1, as1, g1.ok.left, rep1, ?_⟩
    dsimp only at post
    cases h2 : μ e1 with
    | no => rw [h2] at post; exact post
    | ex x e2 =>
      rw [h2] at post
      intro F2 H2 as2 cls d g2 rep2 rx
      exact post F2 H2 as2 cls d (g1.next g2).left rep2 rx
    | ok y e2 =>
      rw [h2] at post
      intro F2 H2 v2 as2 at2 g2 rep2 rt2
      have g12 := g1.next g2
      rw [List.append_assoc] at g12
      have nd2 : (as2 ++ (at1 ++ at2)).Nodup := (List.Perm.nodup_iff (List.Perm.append_left _ List.perm_append_comm)).mp g12.ok.nd
      refine post F2 H2 (v1 :: v2) as2 (at1 ++ at2) (g12.sub nd2 fun b hb => ?_) rep2 ?_
      · simp only [List.mem_append] at hb ⊢
        rcases hb with z | z | z
        · exact .inl z
        · exact .inr (.inr z)
        · exact .inr (.inl z)
      · unfold RepPs
        exact ⟨v1, v2, at1, at2, rfl, rfl, rt1.next g1 g2, rt2⟩
theorem mp_slot {i : Nat} (ha : PE X e (tVar i)) (hr : PA X es (tP X W μ)) (hs : starEach (e :: es) X.env = (false, eval e X.env) :: starEach es X.env := by rfl) : PA X (e :: es) (tP X W (pslot i μ)) :=
  pa_imp (pa_cons ha hr hs) fun σ H Q ⟨F, env, as, ok, rep, post⟩ => by
  unfold pslot at post
  split at post
  · rename_i t hi
    obtain ⟨l1, a, l2, ea, g1, _, _⟩ := rep.at i (List.getElem?_eq_some_iff.mp hi).1
    obtain ⟨v, hσ, r⟩ := g1 t hi
    refine ⟨v, hσ, F, env, as, ok, rep, ?_⟩
    unfold M.bind at post
    cases h1 : μ env with
    | no => rw [h1] at post; exact post
    | ex x e1 => rw [h1] at post; exact post
    | ok ts e1 =>
      rw [h1] at post
      exact fun F1 H1 vs as1 at1 g1 rep1 rt1 => post F1 H1 (v :: vs) as1 at1 g1 rep1 (by unfold RepPs; exact ⟨v, vs, rfl, hσ, rt1⟩)
  · exact post.elim
/-! a call that may change what is lent; nothing is raised -/
def mCall (f : List T → FRes) (μ : M (List PreT)) : M T := μ.bind fun pres => fun env => match takeAll pres env with
  | some (ts, e2) => match f ts with
    | .ok t outs => .ok t (backAll pres outs e2)
    | _ => .no
  | none => .no
theorem me_call {n : Nat} {f : List T → FRes} {E : XK} (h : PE X e (tCall (spM X.K X.mg n f) [] E (tP X W μ))) (hn : ∀ env pres e1, μ env = .ok pres e1 → pres.length = n) : PE X e (tE X W (mCall f μ)) := pe_imp h fun σ H Q ⟨F, env, as, ok, rep, post⟩ => by
  refine ⟨F, env, as, ok, rep, ?_⟩
  unfold mCall M.bind at post
  cases h1 : μ env with
  | no => rw [h1] at post; exact post
  | ex x e1 => rw [h1] at post; exact post
  | ok pres e1 =>
    rw [h1] at post
    intro F1 H1 vs as1 at1 g1 rep1 rp1
    dsimp only at post
    cases ht : takeAll pres e1 with
    | none => rw [ht] at post; exact post.elim
    | some p =>
      obtain ⟨ts, e2⟩ := p
      rw [ht] at post
      dsimp only at post
      obtain ⟨as2, own, rep2, rts, pm, _, _⟩ := take_rep rep1 rp1 ht
      have g1' : Go ⟨F, H, as⟩ ⟨F1, H1, as2 ++ own⟩ := g1.sub (pm.nodup_iff.mpr g1.ok.nd) fun b hb => pm.mem_iff.mp hb
      have okc : Wd.Ok ⟨F1, H1, own⟩ := g1'.ok.sub (List.nodup_append.mp g1'.ok.nd).2.1 fun b hb => List.mem_append_right _ hb
      have hlen : (vs ++ ([] : List V)).length = n := by
        rw [List.append_nil, rp1.length, hn env pres e1 h1]
      refine ⟨hlen, F1, ts, own, okc, by rw [List.append_nil]; exact rts, ?_⟩
      cases hf : f ts with
      | no => rw [hf] at post; exact post.elim
      | ex x outs => rw [hf] at post; exact post.elim
      | ok t outs =>
        rw [hf] at post
        dsimp only at post
        intro F2 H2 v as' at' g2 ro rt
        rw [List.append_nil] at ro
        -- the rest of the slots is kept
        have ok12 : Wd.Ok ⟨F1, H1, own ++ as2⟩ := g1'.ok.sub (List.perm_append_comm.nodup_iff.mp g1'.ok.nd) fun b hb => List.perm_append_comm.mem_iff.mp hb
        have g3 := g2.ctx ok12
        have keep2 : ∀ b ∈ as2, ∀ o, H1 b = some o → H2 b = some o := fun b hb o e => g2.keep b o e fun z => (List.nodup_append.mp g1'.ok.nd).2.2 b hb b z rfl
        have rep3 := rep2.mono (g2.le okc) keep2
        obtain ⟨as3, rep4, _, sub, nd⟩ := back_rep rep3 rp1 ro ht
        have full : ((as' ++ at') ++ as2).Nodup := g3.ok.nd
        have nd0 : (as2 ++ as').Nodup := by
          have : (as2 ++ (as' ++ at')).Nodup := List.perm_append_comm.nodup_iff.mp full
          exact List.Sublist.nodup (List.Sublist.append (List.Sublist.refl _) (List.sublist_append_left _ _)) this
        refine post F2 H2 v as3 at' (Go.sub ((g1'.src (fun b hb => hb)).trans (g3.src (l' := as2 ++ own) fun b hb => List.perm_append_comm.mem_iff.mp hb)) ?_ fun b hb => ?_) rep4 rt
        · refine List.nodup_append.mpr ⟨nd nd0, (List.nodup_append.mp (List.nodup_append.mp full).1).2.1, fun x hx y hy e => ?_⟩
          subst e
          rcases List.mem_append.mp (sub x hx) with z | z
          · exact (List.nodup_append.mp full).2.2 x (List.mem_append_right _ hy) x z rfl
          · exact (List.nodup_append.mp (List.nodup_append.mp full).1).2.2 x z x hy rfl
        · rcases List.mem_append.mp hb with z | z
          · rcases List.mem_append.mp (sub b z) with y | y
            · exact List.mem_append_right _ y
            · exact List.mem_append_left _ (List.mem_append_left _ y)
          · exact List.mem_append_left _ (List.mem_append_right _ z)
end
end Mir

set_option maxHeartbeats 1000000
/-! Mir12: calls that read; defs. -/
namespace Mir
open PySem L2
open PyProof.Rows hiding St

def PLen (μ : M (List PreT)) (n : Nat) : Prop := ∀ env pres e1, μ env = .ok pres e1 → pres.length = n
theorem PLen.nil : PLen pnil 0 := fun env pres e1 h => by unfold pnil at h; cases h; rfl
theorem PLen.val {m μ n} (h : PLen μ n) : PLen (pval m μ) (n + 1) := fun env pres e1 e => by
  unfold pval M.bind at e
  split at e
  · dsimp only at e
    split at e
    · cases e
      rename_i h2
      rw [List.length_cons, h _ _ _ h2]
    · cases e
    · cases e
  · cases e
  · cases e
theorem PLen.slot {i μ n} (h : PLen μ n) : PLen (pslot i μ) (n + 1) := fun env pres e1 e => by
  unfold pslot M.bind at e
  split at e
  · dsimp only at e
    split at e
    · cases e
      rename_i h2
      rw [List.length_cons, h _ _ _ h2]
    · cases e
    · cases e
  · cases e
def RLen (ρ : Rd (List T)) (n : Nat) : Prop := ∀ env ts, ρ env = some ts → ts.length = n
theorem RLen.nil : RLen rnil 0 := fun env ts h => by unfold rnil at h; cases h; rfl
theorem RLen.cons {a b n} (h : RLen b n) : RLen (rcons a b) (n + 1) := fun env ts e => by
  unfold rcons at e
  simp only [Option.bind_eq_some_iff, Option.map_eq_some_iff] at e
  obtain ⟨x, hx, y, hy, rfl⟩ := e
  rw [List.length_cons, h _ _ hy]
mutual
/-- no list, no instance within -/
def D.noRef : D → Bool
  | .lst _ => false
  | .obj _ _ => false
  | .scr _ => false
  | .tup xs => D.noRefs xs
  | _ => true
def D.noRefs : List D → Bool
  | [] => true
  | x :: xs => D.noRef x && D.noRefs xs
end
section
variable {K : PySem.W.Frag} {mg : Str → Option Value} {F F' : Addr → Prop} {H : Hp}
mutual
theorem Rep.noRef (h : ∀ a vs, F a → SqT K H a vs → F' a ∨ SqT K (fun _ => none) a vs) : ∀ {d : D} {v : V}, d.noRef = true → Rep K mg F H d v → Rep K mg F' H d v
  | .non, v, _, r => by unfold Rep at r ⊢; exact r
  | .bl _, v, _, r => by unfold Rep at r ⊢; exact r
  | .int _, v, _, r => by unfold Rep at r ⊢; exact r
  | .str _, v, _, r => by unfold Rep at r ⊢; exact r
  | .ty _, v, _, r => by unfold Rep at r ⊢; exact r
  | .cls _, v, _, r => by unfold Rep at r ⊢; exact r
  | .tup xs, v, n, r => by
    unfold Rep at r ⊢
    obtain ⟨a, vs, e, f, q⟩ := r
    refine ⟨a, vs, e, ⟨f.1, ?_⟩, Reps.noRef h (by simpa [D.noRef] using n) q⟩
    rcases f.2 with z | z
    · exact h a vs z f.1
    · exact .inr z
  | .lst xs, v, n, r => by simp [D.noRef] at n
  | .obj c fs, v, n, r => by simp [D.noRef] at n
  | .scr xs, v, n, r => by simp [D.noRef] at n
theorem Reps.noRef (h : ∀ a vs, F a → SqT K H a vs → F' a ∨ SqT K (fun _ => none) a vs) : ∀ {ds : List D} {vs : List V}, D.noRefs ds = true → Reps K mg F H ds vs → Reps K mg F' H ds vs
  | [], vs, _, r => by unfold Reps at r ⊢; exact r
  | d :: ds, vs, n, r => by
    simp only [D.noRefs, Bool.and_eq_true] at n
    unfold Reps at r ⊢
    obtain ⟨v, ws, e, h1, h2⟩ := r
    exact ⟨v, ws, e, Rep.noRef h n.1 h1, Reps.noRef h n.2 h2⟩
end
mutual
/-- what is owned is a list or an instance -/
theorem RepT.owned : ∀ {t : T} {v : V} {as : List Addr}, RepT K mg F H t v as → ∀ b ∈ as, (∃ xs, H b = some (.lst xs)) ∨ ∃ C dx fs, H b = some (.ins C dx fs)
  | .pl d, v, as, r, b, hb => by unfold RepT at r; rw [r.1] at hb; simp at hb
  | .ol xs, v, as, r, b, hb => by
    unfold RepT at r
    obtain ⟨a, vs, rfl, rfl, hh, _⟩ := r
    simp at hb; subst hb
    exact .inl ⟨vs, hh⟩
  | .oo c fs, v, as, r, b, hb => by
    unfold RepT at r
    obtain ⟨a, C, dx, vs, r, rfl, rfl, hh, _, q⟩ := r
    rcases List.mem_cons.mp hb with z | z
    · subst z; exact .inr ⟨C, dx, vs, hh⟩
    · exact RepTF.owned q b z
theorem RepTF.owned : ∀ {ts : List (Str × T)} {vs : List (Str × V)} {as : List Addr}, RepTF K mg F H ts vs as → ∀ b ∈ as, (∃ xs, H b = some (.lst xs)) ∨ ∃ C dx fs, H b = some (.ins C dx fs)
  | [], vs, as, r, b, hb => by unfold RepTF at r; rw [r.2] at hb; simp at hb
  | (x, t) :: ts, vs, as, r, b, hb => by
    unfold RepTF at r
    obtain ⟨v, ws, a1, a2, _, rfl, h1, h2⟩ := r
    rcases List.mem_append.mp hb with z | z
    · exact RepT.owned h1 b z
    · exact RepTF.owned h2 b z
end
theorem RepTs.owned : ∀ {ts : List T} {vs : List V} {as : List Addr}, RepTs K mg F H ts vs as → ∀ b ∈ as, (∃ xs, H b = some (.lst xs)) ∨ ∃ C dx fs, H b = some (.ins C dx fs)
  | [], vs, as, r, b, hb => by unfold RepTs at r; rw [r.2] at hb; simp at hb
  | t :: ts, vs, as, r, b, hb => by
    unfold RepTs at r
    obtain ⟨v, ws, a1, a2, _, rfl, h1, h2⟩ := r
    rcases List.mem_append.mp hb with z | z
    · exact RepT.owned h1 b z
    · exact RepTs.owned h2 b z
theorem RepTs.fzAll : ∀ {ts : List T} {vs : List V} {as : List Addr}, RepTs K mg F H ts vs as → (∀ b ∈ as, F b) → RepTs K mg F H (ts.map fz) vs []
  | [], vs, as, r, k => by unfold RepTs at r; rw [List.map_nil]; unfold RepTs; exact ⟨r.1, rfl⟩
  | t :: ts, vs, as, r, k => by
    unfold RepTs at r
    obtain ⟨v, ws, a1, a2, e, rfl, h1, h2⟩ := r
    rw [List.map_cons]
    unfold RepTs
    exact ⟨v, ws, [], [], e, rfl, RepT.plI (RepT.frz h1 fun b hb => k b (List.mem_append_left _ hb)), RepTs.fzAll h2 fun b hb => k b (List.mem_append_right _ hb)⟩
end
/-- a call that only reads -/
def rCall (f : List T → FRes) (ρ : Rd (List T)) : Rd T := fun env => (ρ env).bind fun ts => match f (ts.map fz) with
  | .ok t _ => if ((plains ts).isSome || t.frz.noRef) = true then some (fz t) else none
  | _ => none
section
variable {X : Cx} {e : Expr} {ρ : Rd (List T)}
theorem re_call {n : Nat} {f : List T → FRes} {E : XK} (h : PE X e (tCall (spM X.K X.mg n f) [] E (tRA X ρ))) (hn : RLen ρ n) : PE X e (tR X (rCall f ρ)) := pe_imp h fun σ H Q ⟨F, env, as, ok, rep, t, hm, post⟩ => by
  unfold rCall at hm
  simp only [Option.bind_eq_some_iff] at hm
  obtain ⟨ts, hts, h2⟩ := hm
  split at h2
  rotate_left
  · cases h2
  rename_i u outs hf
  split at h2
  rotate_left
  · cases h2
  rename_i hc
  cases h2
  refine ⟨F, env, as, ok, rep, ts, hts, fun F1 H1 vs at1 g1 rts s1 => ?_⟩
  have hlen : (vs ++ ([] : List V)).length = n := by rw [List.append_nil, rts.length, hn env ts hts]
  -- the callee's world
  have ok1 := g1.ok
  have okc : Wd.Ok ⟨fun b => F1 b ∨ b ∈ at1, H1, []⟩ := ⟨List.nodup_nil, by simp, by simp, fun b hb => hb.elim (ok1.fs b) fun z => ok1.so b (s1 b z)⟩
  have rts' := (rts.mono (F' := fun b => F1 b ∨ b ∈ at1) ⟨fun _ h => .inl h, fun _ _ _ e => e⟩ fun _ _ _ e => e).fzAll fun b hb => .inr hb
  refine ⟨hlen, _, ts.map fz, [], okc, by rw [List.append_nil]; exact rts', ?_⟩
  rw [hf]
  intro F2 H2 v as' at2 g2 ro rt
  have g3 := g2.fzr
  have all2 : ∀ b o, H1 b = some o → H2 b = some o := fun b o e => g2.keep b o e (by simp)
  have rv : Rep X.K X.mg (fun b => F2 b ∨ b ∈ at2) H2 u.frz v := rt.fzr
  have own1 := rts.owned
  -- the caller's world
  have hG : GoR ⟨F1, H1, as⟩ ⟨fun b => (F2 b ∨ b ∈ at2) ∧ b ∉ at1, H2, as⟩ := by
    refine ⟨⟨fun b o e _ => all2 b o e, fun b hb => ⟨g3.grow b (.inl hb), fun z => ok1.nf b (s1 b z) hb⟩, fun b hb => ?_, fun b hb => .inl hb, ?_⟩, all2⟩
    · rcases g3.newF b hb.1 with z | z | z
      · rcases z with z | z
        · exact .inl z
        · exact absurd z hb.2
      · simp at z
      · exact .inr (.inr z)
    · refine ⟨ok1.nd, fun b hb hF => ?_, fun b hb => ?_, fun b hF => g3.ok.fs b hF.1⟩
      · rcases g3.newF b hF.1 with z | z | z
        · rcases z with z | z
          · exact ok1.nf b hb z
          · exact hF.2 z
        · simp at z
        · exact ok1.so b hb z
      · obtain ⟨o, e⟩ := some_of_ne (ok1.so b hb)
        have e2 : H2 b = some o := all2 b o e
        show H2 b ≠ none
        rw [e2]; exact fun q => nomatch q
  refine post _ H2 v [] (g1.trans hG) (RepT.plI ?_) (by simp)
  simp only [Bool.or_eq_true] at hc
  rcases hc with hc | hc
  · obtain ⟨ds, hds⟩ := Option.isSome_iff_exists.mp hc
    obtain ⟨rfl, _⟩ := rts.plains hds
    exact rv.mono ⟨fun b hb => ⟨hb, by simp⟩, fun _ _ _ e => e⟩
  · refine rv.noRef (fun a ws hF hs => ?_) hc
    by_cases ha : a ∈ at1
    · rcases hs with (z | ⟨o, z⟩) | z
      · rcases own1 a ha with ⟨xs, e⟩ | ⟨C, dx, fs, e⟩
        · rw [all2 a _ e] at z; cases z
        · rw [all2 a _ e] at z; cases z
      · rcases own1 a ha with ⟨xs, e⟩ | ⟨C, dx, fs, e⟩
        · rw [all2 a _ e] at z; cases z
        · rw [all2 a _ e] at z; cases z
      · exact .inr (.inr z)
    · exact .inl ⟨hF, ha⟩
end

/-- an assignment's value, by what it computes -/
theorem asg_imp {X : Cx} {st : Stmt} {t u : TE} {g : TG} (h : PS X st (tAsg t g)) (i : ∀ {σ H Q}, u σ H Q → t σ H Q) : PS X st (tAsg u g) := ps_imp h fun D σ H q => i q
/-! ### defs -/
def ownOk (fx : List Nat) : Nat → List T → Bool
  | _, [] => true
  | k, .pl _ :: ts => ownOk fx (k + 1) ts
  | k, _ :: ts => fx.contains k && ownOk fx (k + 1) ts
def outsOf : List T → Slots → Option (List T)
  | [], _ => some []
  | .pl d :: ts, _ :: env => (outsOf ts env).map (.pl d :: ·)
  | _ :: ts, some t :: env => (outsOf ts env).map (t :: ·)
  | _, _ => none
def mkFn (n : Nat) (fx : List Nat) (body : MS) (args : List T) : FRes :=
  if ownOk fx 0 args = true then match body (args.map some ++ List.replicate (n - args.length) none) with
    | .ok (.rt t) env => match outsOf args env with
      | some outs => .ok t outs
      | none => .no
    | .ok .nx env => match outsOf args env with
      | some outs => .ok (.pl .non) outs
      | none => .no
    | _ => .no
  else .no
section
variable {K : PySem.W.Frag} {mg : Str → Option Value} {F F' : Addr → Prop} {H H' : Hp}
theorem start_rep : ∀ {ts : List T} {vs : List V} {as : List Addr} (k : Nat), RepTs K mg F H ts vs as → RepE K mg F H (ts.map some ++ List.replicate k none) (vs.map some ++ List.replicate k none) as
  | [], vs, as, k, r => by
    unfold RepTs at r
    obtain ⟨rfl, rfl⟩ := r
    simp only [List.map_nil, List.nil_append]
    induction k with
    | zero => simp only [List.replicate_zero]; unfold RepE; exact ⟨rfl, rfl⟩
    | succ k ih => simp only [List.replicate_succ]; unfold RepE; exact ⟨none, _, rfl, ih⟩
  | t :: ts, vs, as, k, r => by
    unfold RepTs at r
    obtain ⟨v, ws, a1, a2, rfl, rfl, h1, h2⟩ := r
    simp only [List.map_cons, List.cons_append]
    unfold RepE
    exact ⟨v, _, a1, a2, rfl, rfl, h1, start_rep k h2⟩
theorem outs_rep {fx : List Nat} : ∀ {ts outs : List T} {env : Slots} {σ : St} {vs : List V} {as as0 : List Addr} {k : Nat}, RepE K mg F' H' env σ as → RepTs K mg F H ts vs as0 → Le F H F' H' → ownOk fx k ts = true →
    (∀ i, k + i ∈ fx → i < vs.length → σ[i]? = (vs[i]?).map some) → outsOf ts env = some outs → ∃ as', as'.Sublist as ∧ RepTs K mg F' H' outs vs as'
  | [], outs, env, σ, vs, as, as0, k, rep, r, le, ho, hs, e => by
    unfold outsOf at e
    cases e
    unfold RepTs at r
    exact ⟨[], List.nil_sublist _, by unfold RepTs; exact ⟨r.1, rfl⟩⟩
  | .pl d :: ts, outs, env, σ, vs, as, as0, k, rep, r, le, ho, hs, e => by
    cases env with
    | nil => unfold outsOf at e; cases e
    | cons o env =>
      unfold outsOf at e
      simp only [Option.map_eq_some_iff] at e
      obtain ⟨os, he, rfl⟩ := e
      unfold RepTs at r
      obtain ⟨v, ws, a1, a2, rfl, rfl, h1, h2⟩ := r
      have rd : Rep K mg F' H' d v := by unfold RepT at h1; exact h1.2.mono le
      have tail : ∃ σ' as', σ = σ[0]?.join :: σ' ∧ as'.Sublist as ∧ RepE K mg F' H' env σ' as' := by
        cases o with
        | none => unfold RepE at rep; obtain ⟨o', r', rfl, q⟩ := rep; exact ⟨r', as, by simp, List.Sublist.refl _, q⟩
        | some t => unfold RepE at rep; obtain ⟨v', r', b1, b2, rfl, rfl, _, q⟩ := rep; exact ⟨r', b2, by simp, List.sublist_append_right _ _, q⟩
      obtain ⟨σ', as1, eσ, sub, rep'⟩ := tail
      obtain ⟨as', s1, q⟩ := outs_rep (k := k + 1) rep' h2 le (by unfold ownOk at ho; exact ho) (fun i hi hl => by
        have := hs (i + 1) (by rw [← Nat.add_assoc, Nat.add_right_comm]; exact hi) (by simp; omega)
        rw [eσ] at this
        simpa using this) he
      exact ⟨as', s1.trans sub, by unfold RepTs; exact ⟨v, ws, [], as', rfl, rfl, RepT.plI rd, q⟩⟩
  | .ol xs :: ts, outs, env, σ, vs, as, as0, k, rep, r, le, ho, hs, e => by
    cases env with
    | nil => unfold outsOf at e; cases e
    | cons o env =>
      cases o with
      | none => unfold outsOf at e; cases e
      | some t =>
        unfold outsOf at e
        simp only [Option.map_eq_some_iff] at e
        obtain ⟨os, he, rfl⟩ := e
        unfold RepTs at r
        obtain ⟨v, ws, a1, a2, rfl, rfl, h1, h2⟩ := r
        unfold RepE at rep
        obtain ⟨v', r', b1, b2, rfl, rfl, q1, q2⟩ := rep
        unfold ownOk at ho
        simp only [Bool.and_eq_true, List.contains_iff_mem] at ho
        have ev := hs 0 (by simpa using ho.1) (by simp)
        simp at ev
        subst ev
        obtain ⟨as', s1, q⟩ := outs_rep (k := k + 1) q2 h2 le ho.2 (fun i hi hl => by
          have := hs (i + 1) (by rw [← Nat.add_assoc, Nat.add_right_comm]; exact hi) (by simp; omega)
          simpa using this) he
        exact ⟨b1 ++ as', List.Sublist.append (List.Sublist.refl _) s1, by unfold RepTs; exact ⟨v', ws, b1, as', rfl, rfl, q1, q⟩⟩
  | .oo c fs :: ts, outs, env, σ, vs, as, as0, k, rep, r, le, ho, hs, e => by
    cases env with
    | nil => unfold outsOf at e; cases e
    | cons o env =>
      cases o with
      | none => unfold outsOf at e; cases e
      | some t =>
        unfold outsOf at e
        simp only [Option.map_eq_some_iff] at e
        obtain ⟨os, he, rfl⟩ := e
        unfold RepTs at r
        obtain ⟨v, ws, a1, a2, rfl, rfl, h1, h2⟩ := r
        unfold RepE at rep
        obtain ⟨v', r', b1, b2, rfl, rfl, q1, q2⟩ := rep
        unfold ownOk at ho
        simp only [Bool.and_eq_true, List.contains_iff_mem] at ho
        have ev := hs 0 (by simpa using ho.1) (by simp)
        simp at ev
        subst ev
        obtain ⟨as', s1, q⟩ := outs_rep (k := k + 1) q2 h2 le ho.2 (fun i hi hl => by
          have := hs (i + 1) (by rw [← Nat.add_assoc, Nat.add_right_comm]; exact hi) (by simp; omega)
          simpa using this) he
        exact ⟨b1 ++ as', List.Sublist.append (List.Sublist.refl _) s1, by unfold RepTs; exact ⟨v', ws, b1, as', rfl, rfl, q1, q⟩⟩
end
section
variable {P : Program} {w : World} {K : PySem.W.Frag} {mg : Str → Option Value} {base : Heap}
/-- a def keeps its mirror's promise (nothing is raised) -/
theorem fn_mir {x qual : Str} {st : Stmt} {f : Addr} {fd : FuncData} {N ps : List Str} {k : Nat} {fx : List Nat} {body : MS} (Fn : Fun K x qual st f fd) (S : FnScope N ps (defScope st))
    (hb : ∀ (cdv : Value) (A : Around) (outer : List Env) (s : Shared) (H : Hp) (E : XK), Room k (A.deeper (envOfC qual (defScope st) s.heap.objs.size f cdv)) →
      PSs (cxOf CX0 P w K mg base N qual (defScope st) f cdv A outer s H E).nox (defBody st) (tS (cxOf CX0 P w K mg base N qual (defScope st) f cdv A outer s H E).nox W0 fx body)) :
    FnOk P w K mg base CX0 (k + 1) f fd ps (spM K mg ps.length (mkFn N.length fx body)) := by
  refine Fn.ok S (fun vs H Q E h => h.1) (fun cdv A outer s H vs Q E hr h => ?_)
  obtain ⟨hlen, F, ts, as, ok, rts, post⟩ := h
  refine ⟨tS (cxOf CX0 P w K mg base N qual (defScope st) f cdv A outer s H E).nox W0 fx body, hb cdv A outer s H E hr, ?_⟩
  have hl : ts.length = vs.length := rts.length.symm
  unfold mkFn at post
  split at post
  rotate_left
  · exact post.elim
  rename_i hown
  refine ⟨F, ts.map some ++ List.replicate (N.length - ts.length) none, as, ok, ?_, ?_⟩
  · unfold L2.start
    rw [← hl]
    exact start_rep _ rts
  · have fxs : ∀ {σ' : St}, (∀ i ∈ fx, σ'[i]? = (L2.start N vs)[i]?) → ∀ i, 0 + i ∈ fx → i < vs.length → σ'[i]? = (vs[i]?).map some := fun {σ'} h i hi hlt => by
      rw [h i (by simpa using hi)]
      unfold L2.start
      rw [List.getElem?_append_left (by simpa using hlt), List.getElem?_map]
    cases hbd : body (ts.map some ++ List.replicate (N.length - ts.length) none) with
    | no => rw [hbd] at post; exact post.elim
    | ex y env' =>
      rw [hbd] at post
      exact post.elim
    | ok fl env' =>
      rw [hbd] at post
      cases fl with
      | nx =>
        dsimp only at post
        intro F' H' σ' as' hσ g rep
        cases ho : outsOf ts env' with
        | none => rw [ho] at post; exact post.elim
        | some outs =>
          rw [ho] at post
          obtain ⟨as2, sub, ro⟩ := outs_rep rep rts (g.le ok) hown (fxs hσ) ho
          exact post F' H' .non as2 [] (g.sub (by simpa using sub.nodup g.ok.nd) fun b hb => sub.subset (by simpa using hb)) ro (RepT.plI Rep.nonI)
      | bk => exact post.elim
      | ct => exact post.elim
      | rt t =>
        dsimp only at post
        intro F' H' σ' v as' at' hσ g rep rt
        cases ho : outsOf ts env' with
        | none => rw [ho] at post; exact post.elim
        | some outs =>
          rw [ho] at post
          obtain ⟨as2, sub, ro⟩ := outs_rep rep rts (g.le ok) hown (fxs hσ) ho
          refine post F' H' v as2 at' (g.sub ((List.Sublist.append sub (List.Sublist.refl _)).nodup g.ok.nd) fun b hb => ?_) ro rt
          rcases List.mem_append.mp hb with z | z
          · exact List.mem_append_left _ (sub.subset z)
          · exact List.mem_append_right _ z
end
end Mir

set_option maxHeartbeats 1000000
/-! Mir13: odds and ends that the printed texts use. -/
namespace Mir
open PySem L2
open PyProof.Rows hiding St
theorem u65 {k : Nat} {A : Around} (r : Room k A) : A.units + 65 < cLine := by have := r.un; omega
theorem bb_len : bootBuiltins "len" = some (.builtin "len") := by decide +kernel
theorem bb_abs : bootBuiltins "abs" = some (.builtin "abs") := by decide +kernel
theorem bb_max : bootBuiltins "max" = some (.builtin "max") := by decide +kernel
theorem bb_min : bootBuiltins "min" = some (.builtin "min") := by decide +kernel
theorem bb_sum : bootBuiltins "sum" = some (.builtin "sum") := by decide +kernel
theorem bb_isinstance : bootBuiltins "isinstance" = some (.builtin "isinstance") := by decide +kernel
theorem bb_tuple : bootBuiltins "tuple" = some (.type "tuple") := by decide +kernel
theorem bb_list : bootBuiltins "list" = some (.type "list") := by decide +kernel
theorem bb_int : bootBuiltins "int" = some (.type "int") := by decide +kernel
theorem bb_str : bootBuiltins "str" = some (.type "str") := by decide +kernel
theorem bb_bool : bootBuiltins "bool" = some (.type "bool") := by decide +kernel
theorem bb_type : bootBuiltins "type" = some (.type "type") := by decide +kernel
theorem re_ty {X : Cx} {x : Str} {n : String} {pos : Pos} (hv : bootBuiltins x = some (.type n)) (hg : Gl X x) (hm : X.mg x = none) (hn : x ≠ "__name__" := by decide) (hd : (x == ("__debug__" : Str)) = false := by decide) : PE X (.Name x pos) (tR X (rc (.ty n))) :=
  re_c (pe_bltn (v := .ty n) hg hm hv rfl hn hd) fun _ _ => by unfold Rep; rfl
/-- an operation on what is read; its new list is owned -/
def mNr (f : List T → Option T) (ρ : Rd (List T)) : M T := fun env => match (ρ env).bind f with
  | some t => .ok t env
  | none => .no
section
variable {X : Cx} {W : WX} {e : Expr} {ρs : Rd (List T)} {m : M T}
theorem meNr {f r} (hf : Nary X f r) (h : PE X e (tCB r (tRA X ρs))) : PE X e (tE X W (mNr f ρs)) := pe_imp h fun σ H Q ⟨F, env, as, ok, rep, post⟩ => by
  unfold mNr at post
  split at post
  · rename_i t ht
    simp only [Option.bind_eq_some_iff] at ht
    obtain ⟨ts, hts, hf'⟩ := ht
    refine ⟨F, env, as, ok, rep, ts, hts, fun F1 H1 vs at1 g1 rt1 s1 => hf g1.ok rt1 s1 hf' fun F3 H3 v at3 g3 all r3 => ?_⟩
    exact post F3 H3 v as at3 (g1.toGo.trans g3) (rep.mono ((g1.toGo.le ok).trans ⟨g3.grow, fun b o _ e => all b o e⟩) fun b _ o e => all b o (g1.all b o e)) r3
  · exact post.elim
theorem tE_fz {σ H Q} : tE X W (mfz m) σ H Q → tE X W m σ H Q := fun ⟨F, env, as, ok, rep, post⟩ => by
  refine ⟨F, env, as, ok, rep, ?_⟩
  unfold mfz M.bind at post
  cases h1 : m env with
  | no => rw [h1] at post; exact post
  | ex x e1 => rw [h1] at post; exact post
  | ok t e1 =>
    rw [h1] at post
    intro F1 H1 v as1 at1 g1 rep1 rt1
    exact post _ H1 v as1 [] g1.fzr.nil rep1.fzr (RepT.plI rt1.fzr)
end
/-- a law's promise -/
def spLaw (K : PySem.W.Frag) : Sp := fun vs H Q _ => ∃ (a : Addr) (ns : List Int), vs = [.ref a] ∧ SqL K H a (ns.map V.int) ∧ ns.length ≤ 63 ∧ (∀ z ∈ ns, Builtin.Int.intBits z ≤ 1048576) ∧ ∀ H', Q (.bl true) H'
theorem law_sp {K : PySem.W.Frag} {mg : Str → Option Value} {f : List T → FRes} (hm : ∀ ns : List Int, ns.length ≤ 63 → (∀ z ∈ ns, Builtin.Int.intBits z ≤ 1048576) → ∃ outs, f [.pl (.scr (ns.map D.int))] = .ok (.pl (.bl true)) outs)
    (vs : List V) (H : Hp) (Q : VK) (E : XK) (h : spLaw K vs H Q E) : spM K mg 1 f vs H Q E := by
  obtain ⟨a, ns, rfl, hS, hl, hb, q⟩ := h
  obtain ⟨outs, ho⟩ := hm ns hl hb
  refine ⟨rfl, fun b => b = a ∧ H b ≠ none, [.pl (.scr (ns.map D.int))], [], ⟨List.nodup_nil, by simp, by simp, fun b hb => hb.2⟩, ?_, ?_⟩
  · unfold RepTs RepTs
    refine ⟨.ref a, [], [], [], rfl, rfl, RepT.plI ?_, rfl, rfl⟩
    unfold Rep
    refine ⟨a, _, rfl, ⟨hS, ?_⟩, Reps.of_ints ns⟩
    rcases hS with (z | ⟨o, z⟩) | z
    · exact .inl ⟨rfl, by rw [z]; exact fun q => nomatch q⟩
    · exact .inl ⟨rfl, by rw [z]; exact fun q => nomatch q⟩
    · exact .inr (.inr z)
  · rw [ho]
    intro F' H' v as' at' g ro rt
    rw [rt.bl]
    exact q H'
def D.intsOf : List D → Option (List Int)
  | [] => some []
  | .int i :: r => (D.intsOf r).map (i :: ·)
  | _ => none
theorem intsOf_eq : ∀ {ds : List D} {ns : List Int}, D.intsOf ds = some ns → ds = ns.map D.int
  | [], ns, h => by unfold D.intsOf at h; cases h; rfl
  | .int i :: r, ns, h => by
    unfold D.intsOf at h
    simp only [Option.map_eq_some_iff] at h
    obtain ⟨ms, h1, rfl⟩ := h
    rw [intsOf_eq h1]; rfl
@[simp] theorem intsOf_map (ns : List Int) : D.intsOf (ns.map D.int) = some ns := by
  induction ns with
  | nil => rfl
  | cons n ns ih => rw [List.map_cons]; unfold D.intsOf; rw [ih]; rfl
def opSum : List T → Option T
  | [x] => x.asL.bind fun xs => (D.intsOf xs).map fun ns => .pl (.int ns.sum)
  | _ => none
section
variable {X : Cx}
theorem na_sum : Nary X opSum (rSum X.K) := by
  intro F H own ts vs a u Q ok r s e q
  unfold opSum at e
  split at e
  · simp only [Option.bind_eq_some_iff, Option.map_eq_some_iff] at e
    obtain ⟨xs, e1, ns, e2, rfl⟩ := e
    obtain ⟨v, rfl, r1⟩ := r.one
    obtain ⟨p, ws, rfl, h1, k1⟩ := r1.asL e1
    rw [intsOf_eq e2] at k1
    rw [k1.ints] at h1
    exact ⟨p, ns, rfl, .inl h1, q.val ok (by unfold Rep; rfl)⟩
  · cases e
end
end Mir

/-! MirW: what a mirror's run gives, step by step. -/
namespace Mir
open PySem

/-! ### sizes of ints -/
class Sz (i : Int) (n : outParam Nat) : Prop where
  lt : i.natAbs < 2 ^ n
theorem Sz.mono {i : Int} {n m : Nat} (h : Sz i n) (l : n ≤ m) : Sz i m := ⟨Nat.lt_of_lt_of_le h.lt (Nat.pow_le_pow_right (by decide) l)⟩
theorem Sz.log {i : Int} {n : Nat} (h : Sz i n) : i.natAbs.log2 < n + 1 := by
  by_cases hi : i.natAbs = 0
  · rw [hi, show Nat.log2 0 = 0 from by decide]; omega
  · have := (Nat.log2_lt hi).mpr (Nat.lt_of_lt_of_le h.lt (Nat.pow_le_pow_right (by decide) (Nat.le_succ n)))
    exact this
instance szMul {i j : Int} {n m : Nat} [h : Sz i n] [k : Sz j m] : Sz (i * j) (n + m) := ⟨by
  rw [Int.natAbs_mul, Nat.pow_add]
  exact Nat.mul_lt_mul'' h.lt k.lt⟩
theorem pow_add2 (n m : Nat) : 2 ^ n + 2 ^ m ≤ 2 ^ (n + m + 1) := by
  have h1 : 2 ^ n ≤ 2 ^ (n + m) := Nat.pow_le_pow_right (by decide) (Nat.le_add_right n m)
  have h2 : 2 ^ m ≤ 2 ^ (n + m) := Nat.pow_le_pow_right (by decide) (Nat.le_add_left m n)
  rw [Nat.pow_succ]; omega
theorem pow_max (n m : Nat) : 2 ^ n + 2 ^ m ≤ 2 ^ (max n m + 1) := by
  have h1 : 2 ^ n ≤ 2 ^ (max n m) := Nat.pow_le_pow_right (by decide) (Nat.le_max_left n m)
  have h2 : 2 ^ m ≤ 2 ^ (max n m) := Nat.pow_le_pow_right (by decide) (Nat.le_max_right n m)
  rw [Nat.pow_succ]; omega
instance szAdd {i j : Int} {n m : Nat} [h : Sz i n] [k : Sz j m] : Sz (i + j) (max n m + 1) := ⟨Nat.lt_of_lt_of_le (Nat.lt_of_le_of_lt (Int.natAbs_add_le i j) (by have := h.lt; have := k.lt; omega)) (pow_max n m)⟩
instance szSub {i j : Int} {n m : Nat} [h : Sz i n] [k : Sz j m] : Sz (i - j) (max n m + 1) := ⟨by
  have e : (i - j).natAbs ≤ i.natAbs + j.natAbs := by omega
  exact Nat.lt_of_lt_of_le (Nat.lt_of_le_of_lt e (by have := h.lt; have := k.lt; omega)) (pow_max n m)⟩
instance szNeg {i : Int} {n : Nat} [h : Sz i n] : Sz (-i) n := ⟨by rw [Int.natAbs_neg]; exact h.lt⟩
instance (priority := low) szLit {k : Nat} : Sz (no_index (OfNat.ofNat k : Int)) (k.log2 + 1) := ⟨by
  show (Int.ofNat k).natAbs < 2 ^ (k.log2 + 1)
  rw [Int.natAbs_ofNat']
  exact Nat.lt_log2_self⟩
theorem sz_le {i j : Int} {n : Nat} (k : Sz j n) (h : i.natAbs ≤ j.natAbs) : Sz i n := ⟨Nat.lt_of_le_of_lt h k.lt⟩
theorem sz_lt {i : Int} {b : Int} {n : Nat} (k : Sz b n) (h0 : 0 ≤ i) (h : i < b) : Sz i n := sz_le k (by omega)
theorem opMul_sz {i j : Int} {n m : Nat} [h : Sz i n] [k : Sz j m] (hh : n + m < 100000000) : opMul (.pl (.int i)) (.pl (.int j)) = some (.pl (.int (i * j))) := by
  show (if i.natAbs.log2 + j.natAbs.log2 < 100000000 then some (T.pl (.int (i * j))) else none) = _
  have := h.log
  have := k.log
  by_cases hi : i.natAbs.log2 + j.natAbs.log2 < 100000000
  · rw [if_pos hi]
  · omega
theorem opDiv_sz {i j : Int} {m : Nat} [k : Sz j m] (h0 : 0 < j) (hh : m < 9000) : opDiv (.pl (.int i)) (.pl (.int j)) = some (.pl (.int (i / j))) := by
  show (if j ≠ 0 ∧ j.natAbs.log2 < 9000 then some (T.pl (.int (i.fdiv j))) else none) = _
  have := k.log
  have hj : j ≠ 0 ∧ j.natAbs.log2 < 9000 := by
    refine ⟨by omega, ?_⟩
    have : j.natAbs.log2 < m ∨ j.natAbs.log2 ≤ m := .inr (by omega)
    omega
  rw [if_pos hj, Int.fdiv_eq_ediv_of_nonneg i (by omega)]
theorem opMod_pos {i j : Int} (h0 : 0 < j) : opMod (.pl (.int i)) (.pl (.int j)) = some (.pl (.int (i % j))) := by
  show (if j ≠ 0 then some (T.pl (.int (i.fmod j))) else none) = _
  rw [if_pos (show j ≠ 0 by omega), Int.fmod_eq_emod_of_nonneg i (by omega)]
theorem opAdd_int (i j : Int) : opAdd (.pl (.int i)) (.pl (.int j)) = some (.pl (.int (i + j))) := rfl
theorem opSub_int (i j : Int) : opSub (.pl (.int i)) (.pl (.int j)) = some (.pl (.int (i - j))) := rfl
theorem opNeg_int (i : Int) : opNeg (.pl (.int i)) = some (.pl (.int (-i))) := rfl
theorem opCmp_int (p : Int → Int → Bool) (i j : Int) : opCmp p (.pl (.int i)) (.pl (.int j)) = some (.pl (.bl (p i j))) := rfl

/-! ### runs -/
structure W {α : Type} (o : Out α) (Q : α → Slots → Prop) : Prop where
  go : match o with
    | .ok a e => Q a e
    | _ => False
structure WF (r : FRes) (Q : T → List T → Prop) : Prop where
  go : match r with
    | .ok t o => Q t o
    | _ => False
theorem W.no {α : Type} {Q : α → Slots → Prop} {C : Prop} (h : W .no Q) : C := (show False from h.go).elim
theorem W.ex {α : Type} {Q : α → Slots → Prop} {C : Prop} {x e} (h : W (.ex x e) Q) : C := (show False from h.go).elim
theorem W.ok {α : Type} {Q : α → Slots → Prop} {x e} (h : W (.ok x e) Q) : Q x e := h.go
theorem W.I {α : Type} {Q : α → Slots → Prop} {x e} (h : Q x e) : W (.ok x e) Q := ⟨h⟩
theorem WF.no {Q} {C : Prop} (h : WF .no Q) : C := (show False from h.go).elim
theorem WF.ex {Q} {C : Prop} {x e} (h : WF (.ex x e) Q) : C := (show False from h.go).elim
theorem WF.ok {Q} {x e} (h : WF (.ok x e) Q) : Q x e := h.go
theorem WF.I {Q : T → List T → Prop} {x e} (h : Q x e) : WF (.ok x e) Q := ⟨h⟩
theorem W.mono {α : Type} {o : Out α} {Q Q' : α → Slots → Prop} (h : W o Q) (i : ∀ a e, Q a e → Q' a e) : W o Q' := by
  cases o with
  | ok a e => exact .I (i a e h.ok)
  | ex x e => exact h.ex
  | no => exact h.no
theorem WF.mono {r : FRes} {Q Q' : T → List T → Prop} (h : WF r Q) (i : ∀ a e, Q a e → Q' a e) : WF r Q' := by
  cases r with
  | ok a e => exact .I (i a e h.ok)
  | ex x e => exact h.ex
  | no => exact h.no
theorem WF.eq {r : FRes} {Q : T → List T → Prop} (h : WF r Q) : ∃ t o, r = .ok t o ∧ Q t o := by
  cases r with
  | ok a e => exact ⟨a, e, rfl, h.ok⟩
  | ex x e => exact h.ex
  | no => exact h.no
theorem WF.of {r : FRes} {t o} {Q : T → List T → Prop} (e : r = .ok t o) (h : Q t o) : WF r Q := by rw [e]; exact .I h
/-- behind a statement -/
def SeqK (b : MS) (Q : Fl → Slots → Prop) : Fl → Slots → Prop
  | .nx, e => W (b e) Q
  | .bk, e => Q .bk e
  | .ct, e => Q .ct e
  | .rt t, e => Q (.rt t) e
section
variable {env e1 e2 : Slots} {Q : Fl → Slots → Prop} {R : T → Slots → Prop} {B : Bool → Slots → Prop} {a b s s' : MS} {m m' : M T} {ρ : Rd T} {β : Rd Bool} {μ : M Bool} {i : Nat} {t : T} {d : D}
theorem w_seq (h : W (a env) (SeqK b Q)) : W (mSeq a b env) Q := by
  unfold mSeq
  cases h1 : a env with
  | no => rw [h1] at h; exact h.no
  | ex x e => rw [h1] at h; exact h.ex
  | ok fl e =>
    rw [h1] at h
    cases fl with
    | nx => exact h.ok
    | bk => exact .I h.ok
    | ct => exact .I h.ok
    | rt t => exact .I h.ok
theorem w_nx (h : W (b env) Q) : SeqK b Q .nx env := h
theorem w_bk (h : Q .bk env) : SeqK b Q .bk env := h
theorem w_ct (h : Q .ct env) : SeqK b Q .ct env := h
theorem w_rt (h : Q (.rt t) env) : SeqK b Q (.rt t) env := h
theorem w_skip (h : Q .nx env) : W (mSkip env) Q := .I h
theorem w_brk (h : Q .bk env) : W (mBrk env) Q := .I h
theorem w_cnt (h : Q .ct env) : W (mCnt env) Q := .I h
theorem w_bind {α γ : Type} {m : M α} {k : α → M γ} {Q : γ → Slots → Prop} (h : W (m env) fun a e => W (k a e) Q) : W (m.bind k env) Q := by
  unfold M.bind
  cases h1 : m env with
  | no => rw [h1] at h; exact h.no
  | ex x e => rw [h1] at h; exact h.ex
  | ok x e => rw [h1] at h; exact h.ok
def PutK (i : Nat) (Q : Fl → Slots → Prop) : T → Slots → Prop := fun t e => ∃ e', put i t e = some e' ∧ Q .nx e'
theorem w_set (h : W (m env) (PutK i Q)) : W (mSet i m env) Q := by
  unfold mSet
  refine w_bind (h.mono fun t e ⟨e', h1, h2⟩ => ?_)
  rw [h1]; exact .I h2
theorem w_put (h1 : put i t env = some e1) (h : Q .nx e1) : PutK i Q t env := ⟨e1, h1, h⟩
theorem w_r (h1 : ρ env = some (.pl d)) (h : R (.pl d) env) : W (ofR ρ env) R := by
  unfold ofR; rw [h1]; exact .I h
theorem w_rB {b : Bool} (h1 : β env = some b) (h : B b env) : W (ofRB β env) B := by
  unfold ofRB; rw [h1]; exact .I h
theorem w_ifS (h : W (μ env) fun c e => (c = true → W (s e) Q) ∧ (c = false → W (s' e) Q)) : W (mIfS μ s s' env) Q := by
  unfold mIfS
  refine w_bind (h.mono fun c e h => ?_)
  cases c with
  | true => exact h.1 rfl
  | false => exact h.2 rfl
theorem w_ifr {c : Bool} (h1 : β env = some c) (ht : c = true → W (s env) Q) (hf : c = false → W (s' env) Q) : W (mIfS (ofRB β) s s' env) Q := w_ifS (w_rB h1 ⟨ht, hf⟩)
theorem w_ret (h : W (m env) fun t e => Q (.rt t) e) : W (mRet m env) Q := by
  unfold mRet
  exact w_bind (h.mono fun _ _ h => .I h)
theorem w_retR (h1 : ρ env = some (.pl d)) (h : Q (.rt (.pl d)) env) : W (mRet (ofR ρ) env) Q := w_ret (w_r h1 h)
theorem w_retN (h : Q (.rt (.pl .non)) env) : W (mRetN env) Q := .I h
theorem w_drop (h : W (m env) fun t e => Q .nx e) : W (mDrop m env) Q := by
  unfold mDrop
  exact w_bind (h.mono fun _ _ h => .I h)
theorem w_setR (h1 : ρ env = some (.pl d)) (h2 : put i (.pl d) env = some e1) (h : Q .nx e1) : W (mSet i (ofR ρ) env) Q := w_set (w_r h1 (w_put h2 h))
theorem w_mv (h1 : env[i]? = some (some t)) (h : R (fz t) (env.set i (some (fz t)))) : W (mv i env) R := by
  unfold mv; rw [h1]; exact .I h
theorem w_move (h1 : env[i]? = some (some t)) (h : R t (env.set i none)) : W (mmove i env) R := by
  unfold mmove; rw [h1]; exact .I h
theorem w_mfz (h : W (m env) fun t e => R (fz t) e) : W (mfz m env) R := by
  unfold mfz
  exact w_bind (h.mono fun _ _ h => .I h)
theorem w_m1 {f : T → Option T} (h : W (m env) fun x e => ∃ z, f x = some z ∧ R z e) : W (m1 f m env) R := by
  unfold m1
  refine w_bind (h.mono fun x e ⟨z, h1, h2⟩ => ?_)
  rw [h1]; exact .I h2
theorem w_m2 {f : T → T → Option T} (h : W (m env) fun x e => W (m' e) fun y e => ∃ z, f x y = some z ∧ R z e) : W (m2 f m m' env) R := by
  unfold m2
  refine w_bind (h.mono fun x e h => w_bind (h.mono fun y e ⟨z, h1, h2⟩ => ?_))
  rw [h1]; exact .I h2
theorem w_mN {f : List T → Option T} {μ : M (List T)} (h : W (μ env) fun x e => ∃ z, f x = some z ∧ R z e) : W (mN f μ env) R := by
  unfold mN
  refine w_bind (h.mono fun x e ⟨z, h1, h2⟩ => ?_)
  rw [h1]; exact .I h2
theorem w_mNr {f : List T → Option T} {ρ : Rd (List T)} (h1 : (ρ env).bind f = some t) (h : R t env) : W (mNr f ρ env) R := by
  unfold mNr
  rw [h1]; exact .I h
theorem w_mnil {L : List T → Slots → Prop} (h : L [] env) : W (mnil env) L := .I h
theorem w_mcons {μ : M (List T)} {L : List T → Slots → Prop} (h : W (m env) fun x e => W (μ e) fun y e => L (x :: y) e) : W (mcons m μ env) L := by
  unfold mcons
  exact w_bind (h.mono fun x e h => w_bind (h.mono fun _ _ h => .I h))
theorem w_mlst {μ : M (List T)} (h : W (μ env) fun ts e => ts.length ≤ big ∧ R (.ol (frzs ts)) e) : W (mlst μ env) R := by
  unfold mlst
  refine w_bind (h.mono fun x e ⟨h1, h2⟩ => ?_)
  unfold M.ofO
  rw [if_pos h1]; exact .I h2
theorem w_mtup {μ : M (List T)} (h : W (μ env) fun ts e => ts.length ≤ big ∧ R (.pl (.tup (frzs ts))) e) : W (mtup μ env) R := by
  unfold mtup
  refine w_bind (h.mono fun x e ⟨h1, h2⟩ => ?_)
  unfold M.ofO
  rw [if_pos h1]; exact .I h2
theorem w_mb {f : T → Option Bool} (h : W (m env) fun x e => ∃ z, f x = some z ∧ B z e) : W (mb f m env) B := by
  unfold mb
  refine w_bind (h.mono fun x e ⟨z, h1, h2⟩ => ?_)
  rw [h1]; exact .I h2
theorem w_mAndB {μ' : M Bool} (h : W (μ env) fun c e => (c = true → W (μ' e) B) ∧ (c = false → B false e)) : W (mAndB μ μ' env) B := by
  unfold mAndB
  refine w_bind (h.mono fun c e h => ?_)
  cases c with
  | true => exact h.1 rfl
  | false => exact .I (h.2 rfl)
theorem w_mOrB {μ' : M Bool} (h : W (μ env) fun c e => (c = true → B true e) ∧ (c = false → W (μ' e) B)) : W (mOrB μ μ' env) B := by
  unfold mOrB
  refine w_bind (h.mono fun c e h => ?_)
  cases c with
  | true => exact .I (h.1 rfl)
  | false => exact h.2 rfl
theorem w_mNotB (h : W (μ env) fun c e => B (!c) e) : W (mNotB μ env) B := by
  unfold mNotB
  exact w_bind (h.mono fun _ _ h => .I h)
theorem w_mIf {α : Type} {x y : M α} {Q : α → Slots → Prop} (h : W (μ env) fun c e => (c = true → W (x e) Q) ∧ (c = false → W (y e) Q)) : W (mIf μ x y env) Q := by
  unfold mIf
  refine w_bind (h.mono fun c e h => ?_)
  cases c with
  | true => exact h.1 rfl
  | false => exact h.2 rfl
theorem w_mAndV (h : W (m env) fun x e => ∃ c, asB x = some c ∧ (c = true → W (m' e) R) ∧ (c = false → R (.pl (.bl false)) e)) : W (mAndV m m' env) R := by
  unfold mAndV
  refine w_bind (h.mono fun x e ⟨c, h1, h2, h3⟩ => ?_)
  rw [h1]
  cases c with
  | true => exact h2 rfl
  | false => exact .I (h3 rfl)
theorem w_mOrV (h : W (m env) fun x e => ∃ c, asB x = some c ∧ (c = true → R (.pl (.bl true)) e) ∧ (c = false → W (m' e) R)) : W (mOrV m m' env) R := by
  unfold mOrV
  refine w_bind (h.mono fun x e ⟨c, h1, h2, h3⟩ => ?_)
  rw [h1]
  cases c with
  | true => exact .I (h2 rfl)
  | false => exact h3 rfl
/-! calls -/
theorem w_pnil {L : List PreT → Slots → Prop} (h : L [] env) : W (pnil env) L := .I h
theorem w_pval {μ : M (List PreT)} {L : List PreT → Slots → Prop} (h : W (m env) fun x e => W (μ e) fun y e => L (.v x :: y) e) : W (pval m μ env) L := by
  unfold pval
  exact w_bind (h.mono fun x e h => w_bind (h.mono fun _ _ h => .I h))
theorem w_pslot {μ : M (List PreT)} {L : List PreT → Slots → Prop} (h1 : env[i]? = some (some t)) (h : W (μ env) fun y e => L (.s i :: y) e) : W (pslot i μ env) L := by
  unfold pslot
  rw [h1]
  exact w_bind (h.mono fun _ _ h => .I h)
theorem w_call {f : List T → FRes} {μ : M (List PreT)} (h : W (μ env) fun ps e => ∃ ts e2, takeAll ps e = some (ts, e2) ∧ WF (f ts) fun t o => R t (backAll ps o e2)) : W (mCall f μ env) R := by
  unfold mCall
  refine w_bind (h.mono fun ps e ⟨ts, e2, h1, h2⟩ => ?_)
  rw [h1]
  dsimp only
  cases hf : f ts with
  | ok t o => rw [hf] at h2; exact .I h2.ok
  | ex x o => rw [hf] at h2; exact h2.ex
  | no => rw [hf] at h2; exact h2.no
theorem w_take {f : List T → FRes} {ps : List PreT} {ts : List T} (h1 : takeAll ps env = some (ts, e2)) (h : WF (f ts) fun t o => R t (backAll ps o e2)) : ∃ ts e2, takeAll ps env = some (ts, e2) ∧ WF (f ts) fun t o => R t (backAll ps o e2) := ⟨ts, e2, h1, h⟩
/-! lists changed in place -/
theorem w_mut {f : LF} {μ : M (List T)} {xs0 : List D} (h0 : env[i]? = some (some (.ol xs0))) (h : W (μ env) fun ts e => ∃ xs d xs', e[i]? = some (some (.ol xs)) ∧ f xs (frzs ts) = some (d, xs') ∧ R (.pl d) (e.set i (some (.ol xs')))) : W (mMut f i μ env) R := by
  unfold mMut
  rw [h0]
  dsimp only
  cases h1 : μ env with
  | no => rw [h1] at h; exact h.no
  | ex x e => rw [h1] at h; exact h.ex
  | ok ts e =>
    rw [h1] at h
    obtain ⟨xs, d, xs', q1, q2, q3⟩ := h
    dsimp only
    rw [q1]
    dsimp only
    rw [q2]; exact .I q3
theorem w_setix {k : Rd T} (h : W (m env) fun t e => ∃ xs n j, e[i]? = some (some (.ol xs)) ∧ k e = some (.pl (.int n)) ∧ L2.ixN xs.length n = some j ∧ Q .nx (e.set i (some (.ol (xs.set j t.frz))))) : W (mSetIx i k m env) Q := by
  unfold mSetIx
  refine w_bind (h.mono fun t e ⟨xs, n, j, h1, h2, h3, h4⟩ => ?_)
  rw [h1]
  dsimp only
  rw [h2]
  show W (match L2.ixN xs.length n with | some n => _ | none => _) Q
  rw [h3]; exact .I h4
/-! loops -/
theorem w_for {st : D → Slots → Option Slots} {src : M (List D)} (h : W (src env) fun ds e => W (mForL st s ds e) Q) : W (mFor st src s env) Q := by
  unfold mFor
  exact w_bind h
theorem w_seqS {L : List D → Slots → Prop} (h : W (m env) fun t e => ∃ ds, seqD t.frz = some ds ∧ L ds e) : W (mSeqS m env) L := by
  unfold mSeqS
  refine w_bind (h.mono fun t e ⟨ds, h1, h2⟩ => ?_)
  rw [h1]; exact .I h2
theorem w_src {f : List T → Option (List D)} {μ : M (List T)} {L : List D → Slots → Prop} (h : W (μ env) fun ts e => ∃ ds, f ts = some ds ∧ L ds e) : W (mSrc f μ env) L := by
  unfold mSrc
  refine w_bind (h.mono fun t e ⟨ds, h1, h2⟩ => ?_)
  rw [h1]; exact .I h2
def ForK (I : Slots → Prop) (Q : Fl → Slots → Prop) : Fl → Slots → Prop
  | .nx, e => I e
  | .ct, e => I e
  | .bk, e => Q .nx e
  | .rt t, e => Q (.rt t) e
theorem w_forL {st : D → Slots → Option Slots} (I : List D → Slots → Prop) {ds : List D} (h0 : I ds env) (hs : ∀ d r e, I (d :: r) e → ∃ e1, st d e = some e1 ∧ W (s e1) (ForK (I r) Q)) (hd : ∀ e, I [] e → Q .nx e) : W (mForL st s ds env) Q := by
  induction ds generalizing env with
  | nil => exact .I (hd env h0)
  | cons d r ih =>
    obtain ⟨e1, q1, q2⟩ := hs d r env h0
    unfold mForL
    rw [q1]
    dsimp only
    cases hb : s e1 with
    | no => rw [hb] at q2; exact q2.no
    | ex x e => rw [hb] at q2; exact q2.ex
    | ok fl e =>
      rw [hb] at q2
      cases fl with
      | nx => exact ih q2.ok
      | ct => exact ih q2.ok
      | bk => exact .I q2.ok
      | rt t => exact .I q2.ok
/-- by the turn's number -/
theorem w_forN {st : D → Slots → Option Slots} {ds : List D} (I : Nat → Slots → Prop) (h0 : I 0 env) (hs : ∀ k d e, ds[k]? = some d → I k e → ∃ e1, st d e = some e1 ∧ W (s e1) (ForK (I (k + 1)) Q)) (hd : ∀ e, I ds.length e → Q .nx e) : W (mForL st s ds env) Q := by
  refine w_forL (fun r e => ∃ k, k ≤ ds.length ∧ r = ds.drop k ∧ I k e) ⟨0, Nat.zero_le _, by simp, h0⟩ (fun d r e ⟨k, hk, hr, hi⟩ => ?_) fun e ⟨k, hk, hr, hi⟩ => ?_
  · have hlt : k < ds.length := by
      have := congrArg List.length hr
      simp at this; omega
    rw [List.drop_eq_getElem_cons hlt] at hr
    obtain ⟨rfl, rfl⟩ := List.cons.inj hr
    obtain ⟨e1, q1, q2⟩ := hs k _ e (List.getElem?_eq_getElem hlt) hi
    refine ⟨e1, q1, q2.mono fun fl e h => ?_⟩
    cases fl with
    | nx => exact ⟨k + 1, hlt, rfl, h⟩
    | ct => exact ⟨k + 1, hlt, rfl, h⟩
    | bk => exact h
    | rt t => exact h
  · have : k = ds.length := by
      have := congrArg List.length hr
      simp at this; omega
    subst this; exact hd e hi
theorem f_nx {I : Slots → Prop} (h : I env) : ForK I Q .nx env := h
theorem f_ct {I : Slots → Prop} (h : I env) : ForK I Q .ct env := h
theorem f_bk {I : Slots → Prop} (h : Q .nx env) : ForK I Q .bk env := h
theorem f_rt {I : Slots → Prop} (h : Q (.rt t) env) : ForK I Q (.rt t) env := h
/-! comprehensions that do -/
theorem w_comp {vs : List Nat} {st : D → Slots → Option Slots} {src : M (List D)} {tt : M Bool} {el : M T} (h : W (src env) fun ds e => W (mCompL vs st tt el ds [] (wipeS e vs)) fun acc e' => acc.length < big ∧ R (.ol acc) (restS e e' vs)) : W (mComp vs st src tt el env) R := by
  unfold mComp
  refine w_bind (h.mono fun ds e h => ?_)
  cases h1 : mCompL vs st tt el ds [] (wipeS e vs) with
  | no => rw [h1] at h; exact h.no
  | ex x e => rw [h1] at h; exact h.ex
  | ok acc e' =>
    rw [h1] at h
    obtain ⟨q1, q2⟩ := h
    dsimp only
    rw [if_pos q1]; exact .I q2
theorem w_compL {vs : List Nat} {st : D → Slots → Option Slots} {tt : M Bool} {el : M T} {L : List D → Slots → Prop} {ds : List D} {acc : List D} (I : List D → List D → Slots → Prop) (h0 : I ds acc env)
    (hs : ∀ d r acc e, I (d :: r) acc e → ∃ e1, st d e = some e1 ∧ W (tt e1) fun c e2 => (c = true → W (el e2) fun t e3 => I r (acc ++ [t.frz]) (wipeS e3 vs)) ∧ (c = false → I r acc (wipeS e2 vs))) (hd : ∀ acc e, I [] acc e → L acc e) : W (mCompL vs st tt el ds acc env) L := by
  induction ds generalizing env acc with
  | nil => unfold mCompL; exact .I (hd acc env h0)
  | cons d r ih =>
    obtain ⟨e1, q1, q2⟩ := hs d r acc env h0
    unfold mCompL
    rw [q1]
    dsimp only
    cases h1 : tt e1 with
    | no => rw [h1] at q2; exact q2.no
    | ex x e => rw [h1] at q2; exact q2.ex
    | ok c e2 =>
      rw [h1] at q2
      cases c with
      | false => exact ih (q2.ok.2 rfl)
      | true =>
        have q3 := q2.ok.1 rfl
        dsimp only
        cases h2 : el e2 with
        | no => rw [h2] at q3; exact q3.no
        | ex x e => rw [h2] at q3; exact q3.ex
        | ok t e3 => rw [h2] at q3; exact ih q3.ok
theorem w_yes (h : B true env) : W (mYes env) B := .I h
end
/-! defs -/
def FnK (args : List T) (Q : T → List T → Prop) : Fl → Slots → Prop
  | .rt t, e => ∃ o, outsOf args e = some o ∧ Q t o
  | .nx, e => ∃ o, outsOf args e = some o ∧ Q (.pl .non) o
  | _, _ => False
theorem w_fn {n : Nat} {fx : List Nat} {body : MS} {args : List T} {Q : T → List T → Prop} (h0 : ownOk fx 0 args = true) (h : W (body (args.map some ++ List.replicate (n - args.length) none)) (FnK args Q)) : WF (mkFn n fx body args) Q := by
  unfold mkFn
  rw [if_pos h0]
  cases h1 : body (args.map some ++ List.replicate (n - args.length) none) with
  | no => rw [h1] at h; exact h.no
  | ex x e => rw [h1] at h; exact h.ex
  | ok fl e =>
    rw [h1] at h
    cases fl with
    | nx => obtain ⟨o, q1, q2⟩ := h.ok; dsimp only; rw [q1]; exact .I q2
    | rt t => obtain ⟨o, q1, q2⟩ := h.ok; dsimp only; rw [q1]; exact .I q2
    | bk => exact h.ok.elim
    | ct => exact h.ok.elim
theorem fn_rt {args o : List T} {t : T} {e : Slots} {Q : T → List T → Prop} (h1 : outsOf args e = some o) (h : Q t o) : FnK args Q (.rt t) e := ⟨o, h1, h⟩
theorem fn_nx {args o : List T} {e : Slots} {Q : T → List T → Prop} (h1 : outsOf args e = some o) (h : Q (.pl .non) o) : FnK args Q .nx e := ⟨o, h1, h⟩
/-- a reading call -/
theorem rCall_of {f : List T → FRes} {ρ : Rd (List T)} {env : Slots} {ts : List T} {t : T} {o : List T} (h1 : ρ env = some ts) (h2 : f (ts.map fz) = .ok t o) (h3 : ((plains ts).isSome || t.frz.noRef) = true) : rCall f ρ env = some (fz t) := by
  unfold rCall
  rw [h1, Option.bind_some, h2]
  dsimp only
  rw [if_pos h3]
end Mir

/-! MirE: what a mirror's reads give. -/
namespace Mir
open PySem L2
section
variable {env e1 e2 : Slots} {ρ ρ' ρc : Rd T} {β β' : Rd Bool} {κ : Rd (List T)} {σ : Rd (List D)} {ts : List T} {t t' u : T} {d : D} {x y : Bool} {i : Nat} {f : T → T → Option T} {ds : List D} {o o' : Option Int}
theorem e_r1 {f : T → Option T} (h : ρ env = some t) (hf : f t = some u) : r1 f ρ env = some (fz u) := by unfold r1; rw [h, Option.bind_some, hf]; rfl
theorem e_r2 (h : ρ env = some t) (h' : ρ' env = some t') (hf : f t t' = some u) : r2 f ρ ρ' env = some (fz u) := by unfold r2; rw [h, Option.bind_some, h', Option.bind_some, hf]; rfl
theorem e_r2p (h : ρ env = some t) (h' : ρ' env = some t') (hf : f t t' = some (.pl d)) : r2 f ρ ρ' env = some (.pl d) := e_r2 h h' hf
theorem e_r1p {f : T → Option T} (h : ρ env = some t) (hf : f t = some (.pl d)) : r1 f ρ env = some (.pl d) := e_r1 h hf
theorem e_rN {f : List T → Option T} (h : κ env = some ts) (hf : f ts = some u) : rN f κ env = some (fz u) := by unfold rN; rw [h, Option.bind_some, hf]; rfl
theorem e_rNp {f : List T → Option T} (h : κ env = some ts) (hf : f ts = some (.pl d)) : rN f κ env = some (.pl d) := e_rN h hf
theorem e_rcons (h : ρ env = some t) (h' : κ env = some ts) : rcons ρ κ env = some (t :: ts) := by unfold rcons; rw [h, Option.bind_some, h']; rfl
theorem e_rnil : rnil env = some [] := rfl
theorem e_rsome {ρ : Rd T} {n : Int} (h : ρ env = some (.pl (.int n))) : rsome ρ env = some (some n) := by unfold rsome; rw [h]; rfl
theorem e_r3 {f : T → Option Int → Option Int → Option T} {l h : Rd (Option Int)} (h0 : ρ env = some t) (h1 : l env = some o) (h2 : h env = some o') (hf : f t o o' = some u) : r3 f ρ l h env = some (fz u) := by
  unfold r3; rw [h0, Option.bind_some, h1, Option.bind_some, h2, Option.bind_some, hf]; rfl
theorem e_rtup (h : κ env = some ts) (hp : plains ts = some ds) (hl : ds.length ≤ big) : rtup κ env = some (.pl (.tup ds)) := by unfold rtup; rw [h, Option.bind_some, hp, Option.bind_some, if_pos hl]
theorem e_rlst (h : κ env = some ts) (hp : plains ts = some ds) (hl : ds.length ≤ big) : rlst κ env = some (.pl (.lst ds)) := by unfold rlst; rw [h, Option.bind_some, hp, Option.bind_some, if_pos hl]
theorem e_rb {f : T → Option Bool} (h : ρ env = some t) (hf : f t = some x) : rb f ρ env = some x := by unfold rb; rw [h, Option.bind_some, hf]
theorem e_and (h : β env = some x) (h' : x = true → β' env = some y) : rAndB β β' env = some (x && y) := by
  unfold rAndB; rw [h, Option.bind_some]
  cases x with
  | true => exact h' rfl
  | false => rfl
theorem e_or (h : β env = some x) (h' : x = false → β' env = some y) : rOrB β β' env = some (x || y) := by
  unfold rOrB; rw [h, Option.bind_some]
  cases x with
  | true => rfl
  | false => exact h' rfl
theorem e_not (h : β env = some x) : rNotB β env = some (!x) := by unfold rNotB; rw [h]; rfl
theorem e_notV (h : ρ env = some (.pl (.bl x))) : rNotV ρ env = some (.pl (.bl (!x))) := by unfold rNotV; rw [h]; rfl
theorem e_andV (h : ρ env = some (.pl (.bl x))) (h' : x = true → ρ' env = some (.pl (.bl y))) : rAndV ρ ρ' env = some (.pl (.bl (x && y))) := by
  unfold rAndV; rw [h, Option.bind_some]
  cases x with
  | true => exact h' rfl
  | false => rfl
theorem e_orV (h : ρ env = some (.pl (.bl x))) (h' : x = false → ρ' env = some (.pl (.bl y))) : rOrV ρ ρ' env = some (.pl (.bl (x || y))) := by
  unfold rOrV; rw [h, Option.bind_some]
  cases x with
  | true => rfl
  | false => exact h' rfl
theorem e_if (h : β env = some x) (h1 : x = true → ρ env = some t) (h2 : x = false → ρ' env = some t') : rIf β ρ ρ' env = some (if x = true then t else t') := by
  unfold rIf; rw [h, Option.bind_some]
  cases x with
  | true => exact h1 rfl
  | false => exact h2 rfl
theorem e_call {f : List T → FRes} {o : List T} (h : κ env = some ts) (h2 : f (ts.map fz) = .ok t o) (h3 : ((plains ts).isSome || t.frz.noRef) = true) : rCall f κ env = some (fz t) := rCall_of h h2 h3
theorem e_seqS (h : ρ env = some t) (h2 : seqD t.frz = some ds) : rSeqS ρ env = some ds := by unfold rSeqS; rw [h, Option.bind_some, h2]
theorem e_src {f : List T → Option (List D)} (h : κ env = some ts) (h2 : f ts = some ds) : rSrc f κ env = some ds := by unfold rSrc; rw [h, Option.bind_some, h2]
theorem compL_map {st : D → Slots → Option Slots} {el : Rd T} {env : Slots} {g : D → D} : ∀ {ds : List D}, (∀ d ∈ ds, ∃ e1, st d env = some e1 ∧ el e1 = some (.pl (g d))) → rCompL st rYes el env ds = some (ds.map g)
  | [], _ => rfl
  | d :: ds, h => by
    obtain ⟨e1, q1, q2⟩ := h d (by simp)
    unfold rCompL
    rw [q1, Option.bind_some]
    show ((el e1).bind _) = _
    rw [q2]
    show (Option.map _ (rCompL st rYes el env ds)) = _
    rw [compL_map fun d' hd => h d' (List.mem_cons_of_mem _ hd)]
    rfl
theorem e_comp {vs : List Nat} {st : D → Slots → Option Slots} {el : Rd T} (g : D → D) (hs : σ env = some ds) (hl : ds.length < big) (h : ∀ d ∈ ds, ∃ e1, st d (wipeS env vs) = some e1 ∧ el e1 = some (.pl (g d))) :
    rComp vs st σ rYes el env = some (.pl (.lst (ds.map g))) := by
  unfold rComp
  rw [hs, Option.bind_some, compL_map h, Option.bind_some, if_pos (by rw [List.length_map]; exact hl)]
end
/-! iL -/
abbrev iL (xs : List Int) : List D := xs.map D.int
theorem rgD0 (n : Nat) : rgD 0 n = iL ((List.range n).map fun k : Nat => (k : Int)) := by
  unfold rgD iL
  rw [List.map_map]
  apply List.map_congr_left
  intro k _
  show D.int (0 + (k : Int)) = D.int (k : Int)
  rw [Int.zero_add]
theorem rng_at {n k : Nat} {d : D} (h : (iL ((List.range n).map fun k : Nat => (k : Int)))[k]? = some d) : k < n ∧ d = .int (k : Int) := by
  unfold iL at h
  rw [List.map_map, List.getElem?_map, Option.map_eq_some_iff] at h
  obtain ⟨j, hj, rfl⟩ := h
  obtain ⟨q1, q2⟩ := List.getElem?_eq_some_iff.mp hj
  rw [List.length_range] at q1
  rw [List.getElem_range] at q2
  subst q2
  exact ⟨q1, rfl⟩
theorem rng1 {n : Nat} (h : n < 1000000) : rngD1 [.pl (.int (n : Int))] = some (iL ((List.range n).map fun k : Nat => (k : Int))) := by
  simp only [rngD1]
  rw [if_pos (show -(2 ^ 62) ≤ (n : Int) ∧ (n : Int) < 2 ^ 62 by omega), rgD0, Int.toNat_natCast]
section
variable {env e1 e2 : Slots} {ρ : Rd T} {σ : Rd (List D)} {xs : List Int}
theorem e_compI {vs : List Nat} {st : D → Slots → Option Slots} {el : Rd T} (g : Int → Int) (hs : σ env = some (iL xs)) (hl : xs.length < 1000000) (h : ∀ x ∈ xs, ∃ e1, st (.int x) (wipeS env vs) = some e1 ∧ el e1 = some (.pl (.int (g x)))) :
    rComp vs st σ rYes el env = some (.pl (.lst (iL (xs.map g)))) := by
  rw [e_comp (g := fun d => match d with | .int x => .int (g x) | d => d) hs (by rw [List.length_map]; exact hl) (fun d hd => ?_)]
  · unfold iL
    rw [List.map_map, List.map_map]
    rfl
  · obtain ⟨x, hx, rfl⟩ := List.mem_map.mp hd
    exact h x hx
theorem e_compR {vs : List Nat} {st : D → Slots → Option Slots} {el : Rd T} (g : Nat → Int) {n : Nat} (hs : σ env = some (iL ((List.range n).map fun k : Nat => (k : Int)))) (hl : n < 1000000) (h : ∀ k, k < n → ∃ e1, st (.int (k : Int)) (wipeS env vs) = some e1 ∧ el e1 = some (.pl (.int (g k)))) :
    rComp vs st σ rYes el env = some (.pl (.lst (iL ((List.range n).map g)))) := by
  rw [e_compI (g := fun x => g x.toNat) hs (by simpa using hl) (fun x hx => ?_), List.map_map]
  · rfl
  · obtain ⟨k, hk, rfl⟩ := List.mem_map.mp hx
    exact h k (List.mem_range.mp hk)
theorem getD_map {α β : Type} (f : α → β) (xs : List α) (k : Nat) (d : α) (e : β) (h : k < xs.length) : (xs.map f).getD k e = f (xs.getD k d) := by
  rw [List.getD_eq_getElem?_getD, List.getD_eq_getElem?_getD, List.getElem?_map, List.getElem?_eq_getElem h]; rfl
theorem atI_nat {α : Type} {xs : List α} {k : Nat} (h : k < xs.length) : atI xs (k : Int) = some xs[k] := by
  unfold atI
  have : ixN xs.length (k : Int) = some k := by
    unfold ixN
    rw [if_pos (by omega), if_pos (by omega)]
    rfl
  rw [this]
  exact List.getElem?_eq_getElem h
theorem ix_lst {ds : List D} {k : Nat} (h : k < ds.length) : opIx (.pl (.lst ds)) (.pl (.int (k : Int))) = some (.pl ds[k]) := by
  show (atI ds (k : Int)).map T.pl = _
  rw [atI_nat h]; rfl
theorem ix_tup {ds : List D} {k : Nat} (h : k < ds.length) : opIx (.pl (.tup ds)) (.pl (.int (k : Int))) = some (.pl ds[k]) := by
  show (atI ds (k : Int)).map T.pl = _
  rw [atI_nat h]; rfl
theorem ix_iL {xs : List Int} {k : Nat} (h : k < xs.length) : opIx (.pl (.lst (iL xs))) (.pl (.int (k : Int))) = some (.pl (.int (xs.getD k 0))) := by
  rw [ix_lst (by rw [List.length_map]; exact h), List.getElem_map, List.getD_eq_getElem?_getD, List.getElem?_eq_getElem h]; rfl
theorem ix_iLT {xs : List Int} {k : Nat} (h : k < xs.length) : opIx (.pl (.tup (iL xs))) (.pl (.int (k : Int))) = some (.pl (.int (xs.getD k 0))) := by
  rw [ix_tup (by rw [List.length_map]; exact h), List.getElem_map, List.getD_eq_getElem?_getD, List.getElem?_eq_getElem h]; rfl
end
theorem eqvs_iL : ∀ xs ys : List Int, D.eqvs (iL xs) (iL ys) = decide (xs = ys)
  | [], [] => rfl
  | [], _ :: _ => by simp [iL, D.eqvs]
  | _ :: _, [] => by simp [iL, D.eqvs]
  | x :: xs, y :: ys => by
    have := eqvs_iL xs ys
    unfold iL at this ⊢
    rw [List.map_cons, List.map_cons]
    unfold D.eqvs
    rw [this]
    simp [D.eqv, List.cons.injEq, Bool.decide_and, BEq.beq]
theorem flats_iL (n : Nat) : ∀ xs : List Int, D.flats n (iL xs) = true
  | [] => rfl
  | x :: xs => by
    have := flats_iL n xs
    unfold iL at this ⊢
    rw [List.map_cons]
    unfold D.flats D.flat
    rw [this]; rfl
theorem opEq_int (neg : Bool) (i j : Int) : opEq neg (.pl (.int i)) (.pl (.int j)) = some (.pl (.bl (if neg then !(i == j) else (i == j)))) := by
  unfold opEq
  rw [if_pos ⟨by simp [T.frz, D.flat], by simp [T.frz, D.flat]⟩]
  simp [T.frz, D.eqv]
theorem opEq_lst (neg : Bool) (xs ys : List Int) : opEq neg (.pl (.lst (iL xs))) (.pl (.lst (iL ys))) = some (.pl (.bl (if neg then !decide (xs = ys) else decide (xs = ys)))) := by
  unfold opEq
  rw [if_pos ⟨by unfold T.frz D.flat; exact flats_iL _ _, by unfold T.frz D.flat; exact flats_iL _ _⟩]
  unfold T.frz D.eqv
  rw [eqvs_iL]
theorem opEq_tup (neg : Bool) (xs ys : List Int) : opEq neg (.pl (.tup (iL xs))) (.pl (.tup (iL ys))) = some (.pl (.bl (if neg then !decide (xs = ys) else decide (xs = ys)))) := by
  unfold opEq
  rw [if_pos ⟨by unfold T.frz D.flat; exact flats_iL _ _, by unfold T.frz D.flat; exact flats_iL _ _⟩]
  unfold T.frz D.eqv
  rw [eqvs_iL]
theorem noRefs_iL : ∀ xs : List Int, D.noRefs (iL xs) = true
  | [] => rfl
  | x :: xs => by
    have := noRefs_iL xs
    unfold iL at this ⊢
    rw [List.map_cons]
    unfold D.noRefs D.noRef
    rw [this]; rfl
theorem WF.is {r : FRes} {a : T} {b : List T} (h : WF r fun t o => t = a ∧ o = b) : r = .ok a b := by
  obtain ⟨t, o, h1, rfl, rfl⟩ := h.eq
  exact h1
end Mir

namespace Law
open PySem PySem.Spec L2 Mir
open PyProof.Rows hiding St
def topS (i : Nat) : Stmt := PySem.Challenge.pw_whateverthenumbers_k00_points_in_lowest.main.body.getD i (.Pass ⟨0, 0, 0, 0⟩)
abbrev s__law_state : Stmt := topS 13
abbrev N__law_state : List Str := ["script", "at", "cell", "large"]
theorem sc__law_state : FnScope N__law_state ["script", "at"] (defScope s__law_state) := ⟨rfl, rfl, rfl, by decide +kernel, rfl, by decide +kernel, by decide +kernel⟩
abbrev s__law_pick : Stmt := topS 14
abbrev N__law_pick : List Str := ["state", "size", "told"]
theorem sc__law_pick : FnScope N__law_pick ["state", "size"] (defScope s__law_pick) := ⟨rfl, rfl, rfl, by decide +kernel, rfl, by decide +kernel, by decide +kernel⟩
abbrev s__law_draw : Stmt := topS 19
abbrev N__law_draw : List Str := ["state", "count", "size", "factor", "row", "last", "k"]
theorem sc__law_draw : FnScope N__law_draw ["state", "count", "size", "factor"] (defScope s__law_draw) := ⟨rfl, rfl, rfl, by decide +kernel, rfl, by decide +kernel, by decide +kernel⟩
abbrev s__law_gcd : Stmt := topS 15
abbrev N__law_gcd : List Str := ["numbers", "found", "number", "a", "k", "b"]
theorem sc__law_gcd : FnScope N__law_gcd ["numbers"] (defScope s__law_gcd) := ⟨rfl, rfl, rfl, by decide +kernel, rfl, by decide +kernel, by decide +kernel⟩
abbrev s__law_are_integers : Stmt := topS 16
abbrev N__law_are_integers : List Str := ["told", "count", "number"]
theorem sc__law_are_integers : FnScope N__law_are_integers ["told", "count"] (defScope s__law_are_integers) := ⟨rfl, rfl, rfl, by decide +kernel, rfl, by decide +kernel, by decide +kernel⟩
abbrev s__law_is_lowest : Stmt := topS 17
abbrev N__law_is_lowest : List Str := ["told", "numbers", "divisor", "k"]
theorem sc__law_is_lowest : FnScope N__law_is_lowest ["told", "numbers"] (defScope s__law_is_lowest) := ⟨rfl, rfl, rfl, by decide +kernel, rfl, by decide +kernel, by decide +kernel⟩
abbrev s__law_stands : Stmt := topS 18
abbrev N__law_stands : List Str := ["told", "numerators", "denominator", "number"]
theorem sc__law_stands : FnScope N__law_stands ["told", "numerators", "denominator"] (defScope s__law_stands) := ⟨rfl, rfl, rfl, by decide +kernel, rfl, by decide +kernel, by decide +kernel⟩
abbrev s_compare : Stmt := topS 8
abbrev N_compare : List Str := ["first", "second", "difference"]
theorem sc_compare : FnScope N_compare ["first", "second"] (defScope s_compare) := ⟨rfl, rfl, rfl, by decide +kernel, rfl, by decide +kernel, by decide +kernel⟩
abbrev s_lowest : Stmt := topS 2
abbrev N_lowest : List Str := ["numbers", "divisor", "number"]
theorem sc_lowest : FnScope N_lowest ["numbers"] (defScope s_lowest) := ⟨rfl, rfl, rfl, by decide +kernel, rfl, by decide +kernel, by decide +kernel⟩
abbrev s_point : Stmt := topS 3
abbrev N_point : List Str := ["numerators", "denominator", "number"]
theorem sc_point : FnScope N_point ["numerators", "denominator"] (defScope s_point) := ⟨rfl, rfl, rfl, by decide +kernel, rfl, by decide +kernel, by decide +kernel⟩
abbrev s_ratio : Stmt := topS 4
abbrev N_ratio : List Str := ["numerator", "denominator"]
theorem sc_ratio : FnScope N_ratio ["numerator", "denominator"] (defScope s_ratio) := ⟨rfl, rfl, rfl, by decide +kernel, rfl, by decide +kernel, by decide +kernel⟩
abbrev s_add : Stmt := topS 5
abbrev N_add : List Str := ["first", "second"]
theorem sc_add : FnScope N_add ["first", "second"] (defScope s_add) := ⟨rfl, rfl, rfl, by decide +kernel, rfl, by decide +kernel, by decide +kernel⟩
abbrev s_subtract : Stmt := topS 6
abbrev N_subtract : List Str := ["first", "second"]
theorem sc_subtract : FnScope N_subtract ["first", "second"] (defScope s_subtract) := ⟨rfl, rfl, rfl, by decide +kernel, rfl, by decide +kernel, by decide +kernel⟩
abbrev s_multiply : Stmt := topS 7
abbrev N_multiply : List Str := ["first", "second"]
theorem sc_multiply : FnScope N_multiply ["first", "second"] (defScope s_multiply) := ⟨rfl, rfl, rfl, by decide +kernel, rfl, by decide +kernel, by decide +kernel⟩
abbrev s__law_arithmetic : Stmt := topS 20
abbrev N__law_arithmetic : List Str := ["state", "size", "a", "b", "first", "second", "order", "told", "back"]
theorem sc__law_arithmetic : FnScope N__law_arithmetic ["state", "size"] (defScope s__law_arithmetic) := ⟨rfl, rfl, rfl, by decide +kernel, rfl, by decide +kernel, by decide +kernel⟩
abbrev s_between : Stmt := topS 11
abbrev N_between : List Str := ["first", "second", "share", "near", "far", "numerators", "a", "b"]
theorem sc_between : FnScope N_between ["first", "second", "share"] (defScope s_between) := ⟨rfl, rfl, rfl, by decide +kernel, rfl, by decide +kernel, by decide +kernel⟩
abbrev s__law_between : Stmt := topS 21
abbrev N__law_between : List Str := ["state", "size", "count", "first", "second", "share", "d", "e", "near", "due", "told", "k"]
theorem sc__law_between : FnScope N__law_between ["state", "size", "count"] (defScope s__law_between) := ⟨rfl, rfl, rfl, by decide +kernel, rfl, by decide +kernel, by decide +kernel⟩
abbrev s_dot : Stmt := topS 9
abbrev N_dot : List Str := ["first", "second", "total", "left", "right"]
theorem sc_dot : FnScope N_dot ["first", "second"] (defScope s_dot) := ⟨rfl, rfl, rfl, by decide +kernel, rfl, by decide +kernel, by decide +kernel⟩
abbrev s_slack : Stmt := topS 10
abbrev N_slack : List Str := ["row", "place"]
theorem sc_slack : FnScope N_slack ["row", "place"] (defScope s_slack) := ⟨rfl, rfl, rfl, by decide +kernel, rfl, by decide +kernel, by decide +kernel⟩
abbrev s__law_sums : Stmt := topS 22
abbrev N__law_sums : List Str := ["state", "size", "count", "row", "place", "total", "k", "due", "short"]
theorem sc__law_sums : FnScope N__law_sums ["state", "size", "count"] (defScope s__law_sums) := ⟨rfl, rfl, rfl, by decide +kernel, rfl, by decide +kernel, by decide +kernel⟩
abbrev s_law : Stmt := topS 23
abbrev N_law : List Str := ["script", "state", "size", "count", "factor", "drawn", "numerators", "handed", "k"]
theorem sc_law : FnScope N_law ["script"] (defScope s_law) := ⟨rfl, rfl, rfl, by decide +kernel, rfl, by decide +kernel, by decide +kernel⟩
/-! ### mirrors -/
def b__law_state : MS :=
    (mSeq (mSet 2 (ofR (rc (.int 0))))
    (mSeq (mIfS (ofRB (rAndB (rb asB (r2 opLt (rv 1) (rN opLen (rcons (rv 0) rnil)))) (rb asB (r2 opLt (rv 1) (rc (.int 63))))))
    (mSet 2 (ofR (r2 opIx (rv 0) (rv 1))))
    mSkip)
    (mSeq (mSet 3 (ofR (rc (.int 0))))
    (mSeq (mIfS (ofRB (rb asB (r2 opGe (rv 2) (r2 opPow (rc (.int 10)) (rc (.int 18))))))
    (mSet 3 (ofR (rv 2)))
    mSkip)
    (mRet (mlst (mcons (ofR (rv 3)) (mcons (ofR (r2 opMod (rN opInt (rcons (r2 opAdd (r2 opAdd (r2 opMul (rv 2) (rc (.int 48271))) (r2 opMul (rv 1) (rc (.int 69621)))) (rc (.int 5))) rnil)) (rc (.int 2147483647)))) mnil))))))))
def m__law_state : List T → FRes := mkFn 4 [] b__law_state
def b__law_pick : MS :=
    (mSeq (mIfS (ofRB (rb asB (r2 opGt (r2 opIx (rv 0) (rc (.int 0))) (rc (.int 0)))))
    (mSeq (mSet 2 (ofR (r2 opMod (rN opInt (rcons (r2 opIx (rv 0) (rc (.int 0))) rnil)) (rv 1))))
    (mSeq (mSetIx 0 (rc (.int 0)) (ofR (r2 opDiv (r2 opIx (rv 0) (rc (.int 0))) (rv 1))))
    (mRet (ofR (rv 2)))))
    mSkip)
    (mSeq (mSetIx 0 (rc (.int 1)) (ofR (r2 opMod (rN opInt (rcons (r2 opAdd (r2 opMul (r2 opIx (rv 0) (rc (.int 1))) (rc (.int 48271))) (rc (.int 11))) rnil)) (rc (.int 2147483647)))))
    (mRet (ofR (r2 opMod (rN opInt (rcons (r2 opAdd (r2 opMul (r2 opIx (rv 0) (rc (.int 1))) (rc (.int 65537))) (r2 opDiv (r2 opIx (rv 0) (rc (.int 1))) (rc (.int 8)))) rnil)) (rv 1))))))
def m__law_pick : List T → FRes := mkFn 3 [0] b__law_pick
def b__law_draw : MS :=
    (mSeq (mSet 4 (mfz (mComp [6] (stN 6) (mSrc rngD1 (mcons (ofR (rv 1)) mnil)) mYes (m2 opMul (m2 opSub (mCall m__law_pick (pslot 0 (pval (ofR (r2 opAdd (r2 opMul (rc (.int 2)) (rv 2)) (rc (.int 1)))) pnil))) (ofR (rv 2))) (ofR (rv 3))))))
    (mSeq (mSet 5 (mfz (m2 opMul (m2 opAdd (mCall m__law_pick (pslot 0 (pval (ofR (rv 2)) pnil))) (ofR (rc (.int 1)))) (ofR (rv 3)))))
    (mSeq (mIfS (mb asB (m2 (opEq false) (mCall m__law_pick (pslot 0 (pval (ofR (rc (.int 2))) pnil))) (ofR (rc (.int 1)))))
    (mSet 5 (ofR (r1 opNeg (rv 5))))
    mSkip)
    (mRet (mlst (mcons (ofR (rv 4)) (mcons (ofR (rv 5)) mnil)))))))
def m__law_draw : List T → FRes := mkFn 7 [0] b__law_draw
def b__law_gcd : MS :=
    (mSeq (mSet 1 (ofR (rc (.int 0))))
    (mSeq (mFor (stN 2) (mSeqS (ofR (rv 0)))
    (mSeq (mSet 3 (ofR (rN opAbs (rcons (rv 2) rnil))))
    (mSeq (mFor (stN 4) (mSrc rngD1 (mcons (ofR (rc (.int 800))) mnil))
    (mSeq (mIfS (ofRB (rb asB (r2 (opEq false) (rv 3) (rc (.int 0)))))
    mBrk
    mSkip)
    (mSeq (mSet 5 (ofR (r2 opMod (rN opInt (rcons (rv 1) rnil)) (rv 3))))
    (mSeq (mSet 1 (ofR (rv 3)))
    (mSet 3 (ofR (rv 5)))))))
    (mIfS (ofRB (rb asB (r2 (opEq true) (rv 3) (rc (.int 0)))))
    (mRet (ofR (rc (.int 0))))
    mSkip))))
    (mRet (ofR (rv 1)))))
def m__law_gcd : List T → FRes := mkFn 6 [] b__law_gcd
def b__law_are_integers : MS :=
    (mSeq (mIfS (ofRB (rOrB (rNotB (rb asTru (rN opIsi (rcons (rv 0) (rcons (rc (.ty "tuple")) rnil))))) (rb asB (r2 (opEq true) (rN opLen (rcons (rv 0) rnil)) (rv 1)))))
    (mRet (ofR (rc (.bl false))))
    mSkip)
    (mSeq (mFor (stN 2) (mSeqS (ofR (rv 0)))
    (mIfS (ofRB (rOrB (rNotB (rb asTru (rN opIsi (rcons (rv 2) (rcons (rc (.ty "int")) rnil))))) (rb asTru (rN opIsi (rcons (rv 2) (rcons (rc (.ty "bool")) rnil))))))
    (mRet (ofR (rc (.bl false))))
    mSkip))
    (mRet (ofR (rc (.bl true))))))
def m__law_are_integers : List T → FRes := mkFn 3 [] b__law_are_integers
def b__law_is_lowest : MS :=
    (mSeq (mIfS (ofRB (rNotB (rb asTru (rCall m__law_are_integers (rcons (rv 0) (rcons (rN opLen (rcons (rv 1) rnil)) rnil))))))
    (mRet (ofR (rc (.bl false))))
    mSkip)
    (mSeq (mSet 2 (ofR (rCall m__law_gcd (rcons (rv 1) rnil))))
    (mSeq (mIfS (ofRB (rb asB (r2 (opEq false) (rv 2) (rc (.int 0)))))
    (mSet 2 (ofR (rc (.int 1))))
    mSkip)
    (mSeq (mFor (stN 3) (mSrc rngD1 (mcons (ofR (rN opLen (rcons (rv 1) rnil))) mnil))
    (mIfS (ofRB (rb asB (r2 (opEq true) (r2 opMul (r2 opIx (rv 0) (rv 3)) (rv 2)) (r2 opIx (rv 1) (rv 3)))))
    (mRet (ofR (rc (.bl false))))
    mSkip))
    (mRet (ofR (rc (.bl true))))))))
def m__law_is_lowest : List T → FRes := mkFn 4 [] b__law_is_lowest
def b__law_stands : MS :=
    (mSeq (mIfS (ofRB (rb asB (r2 opLt (rv 2) (rc (.int 0)))))
    (mSeq (mSet 1 (ofR (rComp [3] (stN 3) (rSeqS (rv 1)) rYes (r1 opNeg (rv 3)))))
    (mSet 2 (ofR (r1 opNeg (rv 2)))))
    mSkip)
    (mRet (ofR (rCall m__law_is_lowest (rcons (rv 0) (rcons (r2 opAdd (rv 1) (rlst (rcons (rv 2) rnil))) rnil))))))
def m__law_stands : List T → FRes := mkFn 4 [] b__law_stands
def b_compare : MS :=
    (mSeq (mSet 2 (ofR (r2 opSub (r2 opMul (r2 opIx (rv 0) (rc (.int 0))) (r2 opIx (rv 1) (rc (.int 1)))) (r2 opMul (r2 opIx (rv 1) (rc (.int 0))) (r2 opIx (rv 0) (rc (.int 1)))))))
    (mSeq (mIfS (ofRB (rb asB (r2 opGt (rv 2) (rc (.int 0)))))
    (mRet (ofR (rc (.int 1))))
    mSkip)
    (mSeq (mIfS (ofRB (rb asB (r2 opLt (rv 2) (rc (.int 0)))))
    (mRet (ofR (r1 opNeg (rc (.int 1)))))
    mSkip)
    (mRet (ofR (rc (.int 0)))))))
def m_compare : List T → FRes := mkFn 3 [] b_compare
def b_lowest : MS :=
    (mSeq (mSet 1 (ofR (rc (.int 0))))
    (mSeq (mFor (stN 2) (mSeqS (ofR (rv 0)))
    (mSet 1 (ofR (rN opGcd (rcons (rv 1) (rcons (rv 2) rnil))))))
    (mSeq (mIfS (ofRB (rb asB (r2 opLt (rv 1) (rc (.int 2)))))
    (mRet (ofR (rN opTuple (rcons (rv 0) rnil))))
    mSkip)
    (mRet (ofR (rN opTuple (rcons (rComp [2] (stN 2) (rSeqS (rv 0)) rYes (r2 opDiv (rv 2) (rv 1))) rnil)))))))
def m_lowest : List T → FRes := mkFn 3 [] b_lowest
def b_point : MS :=
    (mSeq (mIfS (ofRB (rb asB (r2 opLt (rv 1) (rc (.int 0)))))
    (mRet (ofR (rCall m_lowest (rcons (r2 opAdd (rComp [2] (stN 2) (rSeqS (rv 0)) rYes (r1 opNeg (rv 2))) (rlst (rcons (r1 opNeg (rv 1)) rnil))) rnil))))
    mSkip)
    (mRet (ofR (rCall m_lowest (rcons (r2 opAdd (rN opList (rcons (rv 0) rnil)) (rlst (rcons (rv 1) rnil))) rnil)))))
def m_point : List T → FRes := mkFn 3 [] b_point
def b_ratio : MS :=
    (mRet (ofR (rCall m_point (rcons (rlst (rcons (rv 0) rnil)) (rcons (rv 1) rnil)))))
def m_ratio : List T → FRes := mkFn 2 [] b_ratio
def b_add : MS :=
    (mRet (ofR (rCall m_ratio (rcons (r2 opAdd (r2 opMul (r2 opIx (rv 0) (rc (.int 0))) (r2 opIx (rv 1) (rc (.int 1)))) (r2 opMul (r2 opIx (rv 1) (rc (.int 0))) (r2 opIx (rv 0) (rc (.int 1))))) (rcons (r2 opMul (r2 opIx (rv 0) (rc (.int 1))) (r2 opIx (rv 1) (rc (.int 1)))) rnil)))))
def m_add : List T → FRes := mkFn 2 [] b_add
def b_subtract : MS :=
    (mRet (ofR (rCall m_ratio (rcons (r2 opSub (r2 opMul (r2 opIx (rv 0) (rc (.int 0))) (r2 opIx (rv 1) (rc (.int 1)))) (r2 opMul (r2 opIx (rv 1) (rc (.int 0))) (r2 opIx (rv 0) (rc (.int 1))))) (rcons (r2 opMul (r2 opIx (rv 0) (rc (.int 1))) (r2 opIx (rv 1) (rc (.int 1)))) rnil)))))
def m_subtract : List T → FRes := mkFn 2 [] b_subtract
def b_multiply : MS :=
    (mRet (ofR (rCall m_ratio (rcons (r2 opMul (r2 opIx (rv 0) (rc (.int 0))) (r2 opIx (rv 1) (rc (.int 0)))) (rcons (r2 opMul (r2 opIx (rv 0) (rc (.int 1))) (r2 opIx (rv 1) (rc (.int 1)))) rnil)))))
def m_multiply : List T → FRes := mkFn 2 [] b_multiply
def b__law_arithmetic : MS :=
    (mSeq (mSet 2 (mfz (mlst (mcons (m2 opSub (mCall m__law_pick (pslot 0 (pval (ofR (r2 opAdd (r2 opMul (rc (.int 2)) (rv 1)) (rc (.int 1)))) pnil))) (ofR (rv 1))) (mcons (m2 opAdd (mCall m__law_pick (pslot 0 (pval (ofR (rv 1)) pnil))) (ofR (rc (.int 1)))) mnil)))))
    (mSeq (mSet 3 (mfz (mlst (mcons (m2 opSub (mCall m__law_pick (pslot 0 (pval (ofR (r2 opAdd (r2 opMul (rc (.int 2)) (rv 1)) (rc (.int 1)))) pnil))) (ofR (rv 1))) (mcons (m2 opAdd (mCall m__law_pick (pslot 0 (pval (ofR (rv 1)) pnil))) (ofR (rc (.int 1)))) mnil)))))
    (mSeq (mIfS (mb asB (m2 (opEq false) (mCall m__law_pick (pslot 0 (pval (ofR (rc (.int 4))) pnil))) (ofR (rc (.int 1)))))
    (mSet 3 (ofR (rlst (rcons (r2 opMul (r2 opIx (rv 2) (rc (.int 0))) (rc (.int 3))) (rcons (r2 opMul (r2 opIx (rv 2) (rc (.int 1))) (rc (.int 3))) rnil)))))
    mSkip)
    (mSeq (mSet 4 (ofR (rN opTuple (rcons (rv 2) rnil))))
    (mSeq (mSet 5 (ofR (rN opTuple (rcons (rv 3) rnil))))
    (mSeq (mIfS (ofRB (rNotB (rb asTru (rCall m__law_stands (rcons (rCall m_add (rcons (rv 4) (rcons (rv 5) rnil))) (rcons (rlst (rcons (r2 opAdd (r2 opMul (r2 opIx (rv 2) (rc (.int 0))) (r2 opIx (rv 3) (rc (.int 1)))) (r2 opMul (r2 opIx (rv 3) (rc (.int 0))) (r2 opIx (rv 2) (rc (.int 1))))) rnil)) (rcons (r2 opMul (r2 opIx (rv 2) (rc (.int 1))) (r2 opIx (rv 3) (rc (.int 1)))) rnil)))))))
    (mRet (ofR (rc (.bl false))))
    mSkip)
    (mSeq (mIfS (ofRB (rNotB (rb asTru (rCall m__law_stands (rcons (rCall m_subtract (rcons (rv 4) (rcons (rv 5) rnil))) (rcons (rlst (rcons (r2 opSub (r2 opMul (r2 opIx (rv 2) (rc (.int 0))) (r2 opIx (rv 3) (rc (.int 1)))) (r2 opMul (r2 opIx (rv 3) (rc (.int 0))) (r2 opIx (rv 2) (rc (.int 1))))) rnil)) (rcons (r2 opMul (r2 opIx (rv 2) (rc (.int 1))) (r2 opIx (rv 3) (rc (.int 1)))) rnil)))))))
    (mRet (ofR (rc (.bl false))))
    mSkip)
    (mSeq (mIfS (ofRB (rNotB (rb asTru (rCall m__law_stands (rcons (rCall m_multiply (rcons (rv 4) (rcons (rv 5) rnil))) (rcons (rlst (rcons (r2 opMul (r2 opIx (rv 2) (rc (.int 0))) (r2 opIx (rv 3) (rc (.int 0)))) rnil)) (rcons (r2 opMul (r2 opIx (rv 2) (rc (.int 1))) (r2 opIx (rv 3) (rc (.int 1)))) rnil)))))))
    (mRet (ofR (rc (.bl false))))
    mSkip)
    (mSeq (mSet 6 (ofR (rc (.int 0))))
    (mSeq (mIfS (ofRB (rb asB (r2 opGt (r2 opMul (r2 opIx (rv 2) (rc (.int 0))) (r2 opIx (rv 3) (rc (.int 1)))) (r2 opMul (r2 opIx (rv 3) (rc (.int 0))) (r2 opIx (rv 2) (rc (.int 1)))))))
    (mSet 6 (ofR (rc (.int 1))))
    mSkip)
    (mSeq (mIfS (ofRB (rb asB (r2 opLt (r2 opMul (r2 opIx (rv 2) (rc (.int 0))) (r2 opIx (rv 3) (rc (.int 1)))) (r2 opMul (r2 opIx (rv 3) (rc (.int 0))) (r2 opIx (rv 2) (rc (.int 1)))))))
    (mSet 6 (ofR (r1 opNeg (rc (.int 1)))))
    mSkip)
    (mSeq (mSet 7 (ofR (rCall m_compare (rcons (rv 4) (rcons (rv 5) rnil)))))
    (mSeq (mSet 8 (ofR (rCall m_compare (rcons (rv 5) (rcons (rv 4) rnil)))))
    (mRet (ofR (rAndV (rCall m__law_are_integers (rcons (rtup (rcons (rv 7) (rcons (rv 8) rnil))) (rcons (rc (.int 2)) rnil))) (rAndV (r2 (opEq false) (rv 7) (rv 6)) (r2 (opEq false) (rv 8) (r1 opNeg (rv 6))))))))))))))))))))
def m__law_arithmetic : List T → FRes := mkFn 9 [0] b__law_arithmetic
def b_between : MS :=
    (mSeq (mSet 3 (ofR (r2 opMul (r2 opSub (r2 opIx (rv 2) (rc (.int 1))) (r2 opIx (rv 2) (rc (.int 0)))) (r2 opIx (rv 1) (r1 opNeg (rc (.int 1)))))))
    (mSeq (mSet 4 (ofR (r2 opMul (r2 opIx (rv 2) (rc (.int 0))) (r2 opIx (rv 0) (r1 opNeg (rc (.int 1)))))))
    (mSeq (mSet 5 (ofR (rComp [6, 7] (stT 2 (stCons (stN 6) (stCons (stN 7) stNil))) (rSrc zipD (rcons (r3 opSl (rv 0) rnone (rsome (r1 opNeg (rc (.int 1))))) (rcons (r3 opSl (rv 1) rnone (rsome (r1 opNeg (rc (.int 1))))) rnil))) rYes (r2 opAdd (r2 opMul (rv 3) (rv 6)) (r2 opMul (rv 4) (rv 7))))))
    (mRet (ofR (rCall m_point (rcons (rv 5) (rcons (r2 opMul (r2 opMul (r2 opIx (rv 2) (rc (.int 1))) (r2 opIx (rv 0) (r1 opNeg (rc (.int 1))))) (r2 opIx (rv 1) (r1 opNeg (rc (.int 1))))) rnil))))))))
def m_between : List T → FRes := mkFn 8 [] b_between
def b__law_between : MS :=
    (mSeq (mSet 3 (mfz (mCall m__law_draw (pslot 0 (pval (ofR (rv 2)) (pval (ofR (rv 1)) (pval (ofR (rc (.int 1))) pnil)))))))
    (mSeq (mSet 4 (mfz (mCall m__law_draw (pslot 0 (pval (ofR (rv 2)) (pval (ofR (rv 1)) (pval (ofR (rc (.int 1))) pnil)))))))
    (mSeq (mSet 5 (mfz (mlst (mcons (m2 opSub (mCall m__law_pick (pslot 0 (pval (ofR (rc (.int 15))) pnil))) (ofR (rc (.int 5)))) (mcons (m2 opAdd (mCall m__law_pick (pslot 0 (pval (ofR (rc (.int 4))) pnil))) (ofR (rc (.int 1)))) mnil)))))
    (mSeq (mSet 6 (ofR (rN opAbs (rcons (r2 opIx (rv 3) (rc (.int 1))) rnil))))
    (mSeq (mSet 7 (ofR (rN opAbs (rcons (r2 opIx (rv 4) (rc (.int 1))) rnil))))
    (mSeq (mSet 8 (ofR (r2 opMul (r2 opSub (r2 opIx (rv 5) (rc (.int 1))) (r2 opIx (rv 5) (rc (.int 0)))) (rv 7))))
    (mSeq (mSet 9 (ofR (rComp [11] (stN 11) (rSrc rngD1 (rcons (rv 2) rnil)) rYes (r2 opAdd (r2 opMul (rv 8) (r2 opIx (r2 opIx (rv 3) (rc (.int 0))) (rv 11))) (r2 opMul (r2 opMul (r2 opIx (rv 5) (rc (.int 0))) (rv 6)) (r2 opIx (r2 opIx (rv 4) (rc (.int 0))) (rv 11)))))))
    (mSeq (mSet 10 (ofR (rCall m_between (rcons (rN opTuple (rcons (r2 opAdd (r2 opIx (rv 3) (rc (.int 0))) (rlst (rcons (rv 6) rnil))) rnil)) (rcons (rN opTuple (rcons (r2 opAdd (r2 opIx (rv 4) (rc (.int 0))) (rlst (rcons (rv 7) rnil))) rnil)) (rcons (rN opTuple (rcons (rv 5) rnil)) rnil))))))
    (mRet (ofR (rCall m__law_stands (rcons (rv 10) (rcons (rv 9) (rcons (r2 opMul (r2 opMul (r2 opIx (rv 5) (rc (.int 1))) (rv 6)) (rv 7)) rnil))))))))))))))
def m__law_between : List T → FRes := mkFn 12 [0] b__law_between
def b_dot : MS :=
    (mSeq (mSet 2 (ofR (rc (.int 0))))
    (mSeq (mFor (stT 2 (stCons (stN 3) (stCons (stN 4) stNil))) (mSrc zipD (mcons (ofR (rv 0)) (mcons (ofR (rv 1)) mnil)))
    (mSet 2 (ofR (r2 opAdd (rv 2) (r2 opMul (rv 3) (rv 4))))))
    (mRet (ofR (rv 2)))))
def m_dot : List T → FRes := mkFn 5 [] b_dot
def b_slack : MS :=
    (mRet (ofR (r2 opSub (r2 opMul (r2 opIx (rv 0) (r1 opNeg (rc (.int 1)))) (r2 opIx (rv 1) (r1 opNeg (rc (.int 1))))) (rCall m_dot (rcons (r3 opSl (rv 0) rnone (rsome (r1 opNeg (rc (.int 1))))) (rcons (rv 1) rnil))))))
def m_slack : List T → FRes := mkFn 2 [] b_slack
def b__law_sums : MS :=
    (mSeq (mSet 3 (mfz (mComp [6] (stN 6) (mSrc rngD1 (mcons (ofR (r2 opAdd (rv 2) (rc (.int 1)))) mnil)) mYes (m2 opSub (mCall m__law_pick (pslot 0 (pval (ofR (r2 opAdd (r2 opMul (rc (.int 2)) (rv 1)) (rc (.int 1)))) pnil))) (ofR (rv 1))))))
    (mSeq (mSet 4 (m2 opAdd (mComp [6] (stN 6) (mSrc rngD1 (mcons (ofR (rv 2)) mnil)) mYes (m2 opSub (mCall m__law_pick (pslot 0 (pval (ofR (r2 opAdd (r2 opMul (rc (.int 2)) (rv 1)) (rc (.int 1)))) pnil))) (ofR (rv 1)))) (mlst (mcons (mCall m__law_pick (pslot 0 (pval (ofR (rc (.int 3))) pnil))) mnil))))
    (mSeq (mIfS (ofRB (rAndB (rb asB (r2 (opEq false) (r2 opIx (rv 4) (rv 2)) (rc (.int 0)))) (rb asB (r2 (opEq false) (r2 opIx (rv 4) (rc (.int 0))) (rc (.int 0))))))
    (mSetIx 4 (rc (.int 0)) (ofR (rc (.int 1))))
    mSkip)
    (mSeq (mSet 5 (ofR (rc (.int 0))))
    (mSeq (mFor (stN 6) (mSrc rngD1 (mcons (ofR (rv 2)) mnil))
    (mSet 5 (ofR (r2 opAdd (rv 5) (r2 opMul (r2 opIx (rv 3) (rv 6)) (r2 opIx (rv 4) (rv 6)))))))
    (mSeq (mSet 7 (ofR (r2 opSub (r2 opMul (r2 opIx (rv 3) (rv 2)) (r2 opIx (rv 4) (rv 2))) (rv 5))))
    (mSeq (mSet 8 (ofR (rComp [6] (stN 6) (rSrc rngD1 (rcons (rv 2) rnil)) rYes (r2 opIx (rv 4) (rv 6)))))
    (mSeq (mIfS (ofRB (rNotB (rb asTru (rCall m__law_are_integers (rcons (rtup (rcons (rCall m_slack (rcons (rN opTuple (rcons (rv 3) rnil)) (rcons (rN opTuple (rcons (rv 4) rnil)) rnil))) (rcons (rCall m_dot (rcons (rN opList (rcons (rv 3) rnil)) (rcons (rN opList (rcons (rv 4) rnil)) rnil))) rnil))) (rcons (rc (.int 2)) rnil))))))
    (mRet (ofR (rc (.bl false))))
    mSkip)
    (mSeq (mIfS (ofRB (rOrB (rb asB (r2 (opEq true) (rCall m_slack (rcons (rN opTuple (rcons (rv 3) rnil)) (rcons (rN opTuple (rcons (rv 4) rnil)) rnil))) (rv 7))) (rb asB (r2 (opEq true) (rCall m_slack (rcons (rN opList (rcons (rv 3) rnil)) (rcons (rN opList (rcons (rv 4) rnil)) rnil))) (rv 7)))))
    (mRet (ofR (rc (.bl false))))
    mSkip)
    (mRet (ofR (rAndV (r2 (opEq false) (rCall m_dot (rcons (rN opList (rcons (rv 3) rnil)) (rcons (rN opList (rcons (rv 8) rnil)) rnil))) (rv 5)) (rAndV (r2 (opEq false) (rCall m_dot (rcons (rN opTuple (rcons (rv 8) rnil)) (rcons (rN opTuple (rcons (rv 3) rnil)) rnil))) (rv 5)) (r2 (opEq false) (rCall m_dot (rcons (rlst rnil) (rcons (rN opList (rcons (rv 3) rnil)) rnil))) (rc (.int 0))))))))))))))))
def m__law_sums : List T → FRes := mkFn 9 [0] b__law_sums
def b_law : MS :=
    (mSeq (mSet 1 (mCall m__law_state (pval (ofR (rv 0)) (pval (ofR (rc (.int 0))) pnil))))
    (mSeq (mSet 2 (mfz (m2 opIx (ofR (rlst (rcons (rc (.int 9)) (rcons (rc (.int 1000)) (rcons (r2 opPow (rc (.int 10)) (rc (.int 30))) rnil))))) (mCall m__law_pick (pslot 1 (pval (ofR (rc (.int 3))) pnil))))))
    (mSeq (mSet 3 (mfz (m2 opAdd (mCall m__law_pick (pslot 1 (pval (ofR (rc (.int 5))) pnil))) (ofR (rc (.int 1))))))
    (mSeq (mSet 4 (mfz (m2 opAdd (ofR (rc (.int 1))) (m2 opMul (mCall m__law_pick (pslot 1 (pval (ofR (rc (.int 2))) pnil))) (mCall m__law_pick (pslot 1 (pval (ofR (rc (.int 60))) pnil)))))))
    (mSeq (mSet 5 (mfz (mCall m__law_draw (pslot 1 (pval (ofR (rv 3)) (pval (ofR (rv 2)) (pval (ofR (rv 4)) pnil)))))))
    (mSeq (mSet 6 (ofR (r2 opIx (rv 5) (rc (.int 0)))))
    (mSeq (mIfS (mb asB (m2 (opEq false) (mCall m__law_pick (pslot 1 (pval (ofR (rc (.int 5))) pnil))) (ofR (rc (.int 1)))))
    (mSet 6 (ofR (rComp [8] (stN 8) (rSrc rngD1 (rcons (rv 3) rnil)) rYes (rc (.int 0)))))
    mSkip)
    (mSeq (mSet 7 (ofR (rN opList (rcons (rv 6) rnil))))
    (mSeq (mIfS (ofRB (rOrB (rNotB (rb asTru (rCall m__law_is_lowest (rcons (rCall m_lowest (rcons (rv 7) rnil)) (rcons (rv 6) rnil))))) (rb asB (r2 (opEq true) (rv 7) (rv 6)))))
    (mRet (ofR (rc (.bl false))))
    mSkip)
    (mSeq (mIfS (ofRB (rOrB (rNotB (rb asTru (rCall m__law_is_lowest (rcons (rCall m_lowest (rcons (rN opTuple (rcons (rv 6) rnil)) rnil)) (rcons (rv 6) rnil))))) (rb asB (r2 (opEq true) (rCall m_lowest (rcons (rlst rnil) rnil)) (rtup rnil)))))
    (mRet (ofR (rc (.bl false))))
    mSkip)
    (mSeq (mSet 7 (ofR (rN opList (rcons (rv 6) rnil))))
    (mSeq (mIfS (ofRB (rOrB (rNotB (rb asTru (rCall m__law_stands (rcons (rCall m_point (rcons (rv 7) (rcons (r2 opIx (rv 5) (rc (.int 1))) rnil))) (rcons (rv 6) (rcons (r2 opIx (rv 5) (rc (.int 1))) rnil)))))) (rb asB (r2 (opEq true) (rv 7) (rv 6)))))
    (mRet (ofR (rc (.bl false))))
    mSkip)
    (mSeq (mIfS (ofRB (rNotB (rb asTru (rCall m__law_stands (rcons (rCall m_point (rcons (rN opTuple (rcons (rv 6) rnil)) (rcons (r2 opIx (rv 5) (rc (.int 1))) rnil))) (rcons (rv 6) (rcons (r2 opIx (rv 5) (rc (.int 1))) rnil)))))))
    (mRet (ofR (rc (.bl false))))
    mSkip)
    (mSeq (mIfS (ofRB (rNotB (rb asTru (rCall m__law_stands (rcons (rCall m_ratio (rcons (r2 opIx (rv 6) (rc (.int 0))) (rcons (r2 opIx (rv 5) (rc (.int 1))) rnil))) (rcons (rlst (rcons (r2 opIx (rv 6) (rc (.int 0))) rnil)) (rcons (r2 opIx (rv 5) (rc (.int 1))) rnil)))))))
    (mRet (ofR (rc (.bl false))))
    mSkip)
    (mSeq (mSet 1 (mCall m__law_state (pval (ofR (rv 0)) (pval (ofR (rc (.int 1))) pnil))))
    (mSeq (mIfS (mNotB (mb asTru (mCall m__law_arithmetic (pslot 1 (pval (ofR (rv 2)) pnil)))))
    (mRet (ofR (rc (.bl false))))
    mSkip)
    (mSeq (mSet 1 (mCall m__law_state (pval (ofR (rv 0)) (pval (ofR (rc (.int 2))) pnil))))
    (mRet (mAndV (mCall m__law_between (pslot 1 (pval (ofR (rv 2)) (pval (ofR (rv 3)) pnil)))) (mCall m__law_sums (pslot 1 (pval (ofR (rv 2)) (pval (ofR (rv 3)) pnil)))))))))))))))))))))))
def m_law : List T → FRes := mkFn 9 [] b_law
/-! ### what the top holds -/
structure Tx (K : PySem.W.Frag) (mg : Str → Option Value) where
  f__law_state : Addr
  d__law_state : FuncData
  F__law_state : Fun K "_law_state" "_law_state" s__law_state f__law_state d__law_state
  g__law_state : mg "_law_state" = some (.ref f__law_state)
  b__law_state : Binds K d__law_state ["script", "at"] []
  f__law_pick : Addr
  d__law_pick : FuncData
  F__law_pick : Fun K "_law_pick" "_law_pick" s__law_pick f__law_pick d__law_pick
  g__law_pick : mg "_law_pick" = some (.ref f__law_pick)
  b__law_pick : Binds K d__law_pick ["state", "size"] []
  f__law_draw : Addr
  d__law_draw : FuncData
  F__law_draw : Fun K "_law_draw" "_law_draw" s__law_draw f__law_draw d__law_draw
  g__law_draw : mg "_law_draw" = some (.ref f__law_draw)
  b__law_draw : Binds K d__law_draw ["state", "count", "size", "factor"] []
  f__law_gcd : Addr
  d__law_gcd : FuncData
  F__law_gcd : Fun K "_law_gcd" "_law_gcd" s__law_gcd f__law_gcd d__law_gcd
  g__law_gcd : mg "_law_gcd" = some (.ref f__law_gcd)
  b__law_gcd : Binds K d__law_gcd ["numbers"] []
  f__law_are_integers : Addr
  d__law_are_integers : FuncData
  F__law_are_integers : Fun K "_law_are_integers" "_law_are_integers" s__law_are_integers f__law_are_integers d__law_are_integers
  g__law_are_integers : mg "_law_are_integers" = some (.ref f__law_are_integers)
  b__law_are_integers : Binds K d__law_are_integers ["told", "count"] []
  f__law_is_lowest : Addr
  d__law_is_lowest : FuncData
  F__law_is_lowest : Fun K "_law_is_lowest" "_law_is_lowest" s__law_is_lowest f__law_is_lowest d__law_is_lowest
  g__law_is_lowest : mg "_law_is_lowest" = some (.ref f__law_is_lowest)
  b__law_is_lowest : Binds K d__law_is_lowest ["told", "numbers"] []
  f__law_stands : Addr
  d__law_stands : FuncData
  F__law_stands : Fun K "_law_stands" "_law_stands" s__law_stands f__law_stands d__law_stands
  g__law_stands : mg "_law_stands" = some (.ref f__law_stands)
  b__law_stands : Binds K d__law_stands ["told", "numerators", "denominator"] []
  f_compare : Addr
  d_compare : FuncData
  F_compare : Fun K "compare" "compare" s_compare f_compare d_compare
  g_compare : mg "compare" = some (.ref f_compare)
  b_compare : Binds K d_compare ["first", "second"] []
  f_lowest : Addr
  d_lowest : FuncData
  F_lowest : Fun K "lowest" "lowest" s_lowest f_lowest d_lowest
  g_lowest : mg "lowest" = some (.ref f_lowest)
  b_lowest : Binds K d_lowest ["numbers"] []
  f_point : Addr
  d_point : FuncData
  F_point : Fun K "point" "point" s_point f_point d_point
  g_point : mg "point" = some (.ref f_point)
  b_point : Binds K d_point ["numerators", "denominator"] []
  f_ratio : Addr
  d_ratio : FuncData
  F_ratio : Fun K "ratio" "ratio" s_ratio f_ratio d_ratio
  g_ratio : mg "ratio" = some (.ref f_ratio)
  b_ratio : Binds K d_ratio ["numerator", "denominator"] []
  f_add : Addr
  d_add : FuncData
  F_add : Fun K "add" "add" s_add f_add d_add
  g_add : mg "add" = some (.ref f_add)
  b_add : Binds K d_add ["first", "second"] []
  f_subtract : Addr
  d_subtract : FuncData
  F_subtract : Fun K "subtract" "subtract" s_subtract f_subtract d_subtract
  g_subtract : mg "subtract" = some (.ref f_subtract)
  b_subtract : Binds K d_subtract ["first", "second"] []
  f_multiply : Addr
  d_multiply : FuncData
  F_multiply : Fun K "multiply" "multiply" s_multiply f_multiply d_multiply
  g_multiply : mg "multiply" = some (.ref f_multiply)
  b_multiply : Binds K d_multiply ["first", "second"] []
  f__law_arithmetic : Addr
  d__law_arithmetic : FuncData
  F__law_arithmetic : Fun K "_law_arithmetic" "_law_arithmetic" s__law_arithmetic f__law_arithmetic d__law_arithmetic
  g__law_arithmetic : mg "_law_arithmetic" = some (.ref f__law_arithmetic)
  b__law_arithmetic : Binds K d__law_arithmetic ["state", "size"] []
  f_between : Addr
  d_between : FuncData
  F_between : Fun K "between" "between" s_between f_between d_between
  g_between : mg "between" = some (.ref f_between)
  b_between : Binds K d_between ["first", "second", "share"] []
  f__law_between : Addr
  d__law_between : FuncData
  F__law_between : Fun K "_law_between" "_law_between" s__law_between f__law_between d__law_between
  g__law_between : mg "_law_between" = some (.ref f__law_between)
  b__law_between : Binds K d__law_between ["state", "size", "count"] []
  f_dot : Addr
  d_dot : FuncData
  F_dot : Fun K "dot" "dot" s_dot f_dot d_dot
  g_dot : mg "dot" = some (.ref f_dot)
  b_dot : Binds K d_dot ["first", "second"] []
  f_slack : Addr
  d_slack : FuncData
  F_slack : Fun K "slack" "slack" s_slack f_slack d_slack
  g_slack : mg "slack" = some (.ref f_slack)
  b_slack : Binds K d_slack ["row", "place"] []
  f__law_sums : Addr
  d__law_sums : FuncData
  F__law_sums : Fun K "_law_sums" "_law_sums" s__law_sums f__law_sums d__law_sums
  g__law_sums : mg "_law_sums" = some (.ref f__law_sums)
  b__law_sums : Binds K d__law_sums ["state", "size", "count"] []
  f_law : Addr
  d_law : FuncData
  F_law : Fun K "law" "law" s_law f_law d_law
  g_law : mg "law" = some (.ref f_law)
  b_law : Binds K d_law ["script"] []
  z_abs : mg "abs" = none
  z_bool : mg "bool" = none
  z_int : mg "int" = none
  z_isinstance : mg "isinstance" = none
  z_len : mg "len" = none
  z_list : mg "list" = none
  z_range : mg "range" = none
  z_tuple : mg "tuple" = none
  z_zip : mg "zip" = none
  x_gcd : mg "gcd" = some (.builtin "math.gcd")
/-! ### each def keeps its mirror's promise -/
section
variable {P : Program} {w : World} {K : PySem.W.Frag} {mg : Str → Option Value} {base : Heap}
set_option maxHeartbeats 4000000 in
theorem ok__law_state (T : Tx K mg) : FnOk P w K mg base CX0 1 T.f__law_state T.d__law_state ["script", "at"] (spM K mg 2 m__law_state) :=
  fn_mir (N := N__law_state) (ps := ["script", "at"]) (k := 0) (body := b__law_state) (fx := []) T.F__law_state sc__law_state (fun cdv A outer s H E hr =>
    (mss_cons (ms_set (i := 2) (ps_set (i := 2) sc__law_state.nd rfl (by first | exact .inl rfl | exact .inr rfl) (me_r re_int)) (by decide))
    (mss_cons (ms_if (mt_r ((rw_and (rt_2 bin_cmp (pt_cmpR op_lt (re_var (pv 1)) (reN na_len (pe_callB call_len (by rfl) T.z_len bb_len (ra_cons (re_var (pv 0)) ra_nil))) (nomark _))) (rw_and1 (rt_2 bin_cmp (pt_cmpR op_lt (re_var (pv 1)) re_int (nomark _)))))).pt) (mss_one (ms_set (i := 2) (ps_set (i := 2) sc__law_state.nd rfl (by first | exact .inl rfl | exact .inr rfl) (me_r (re2 bin_ix (pe_ix ix_seq (re_var (pv 0)) (re_var (pv 1)) (fun _ _ => rfl))))) (by decide))) mss_nil)
    (mss_cons (ms_set (i := 3) (ps_set (i := 3) sc__law_state.nd rfl (by first | exact .inl rfl | exact .inr rfl) (me_r re_int)) (by decide))
    (mss_cons (ms_if (mt_r (rt_2 bin_cmp (pt_cmpR op_ge (re_var (pv 2)) (re2 bin_pow (pe_op op_pow re_int re_int)) (nomark _)))) (mss_one (ms_set (i := 3) (ps_set (i := 3) sc__law_state.nd rfl (by first | exact .inl rfl | exact .inr rfl) (me_r (re_var (pv 2)))) (by decide))) mss_nil)
    (mss_one (ms_ret (me_lst (ma_cons (me_r (re_var (pv 3))) (ma_cons (me_r (re2 bin_mod (pe_op op_modN (reN na_intC (pe_callTy call_int1 (by rfl) T.z_int bb_int (ra_cons (re2 bin_add (pe_op op_addM (re2 bin_add (pe_op op_addM (re2 bin_mul (pe_op op_mulM (re_var (pv 2)) re_int)) (re2 bin_mul (pe_op op_mulM (re_var (pv 1)) re_int)))) re_int)) ra_nil))) re_int))) ma_nil))))))))))
set_option maxHeartbeats 4000000 in
theorem ok__law_pick (T : Tx K mg) : FnOk P w K mg base CX0 1 T.f__law_pick T.d__law_pick ["state", "size"] (spM K mg 2 m__law_pick) :=
  fn_mir (N := N__law_pick) (ps := ["state", "size"]) (k := 0) (body := b__law_pick) (fx := [0]) T.F__law_pick sc__law_pick (fun cdv A outer s H E hr =>
    (mss_cons (ms_if (mt_r (rt_2 bin_cmp (pt_cmpR op_gt (re2 bin_ix (pe_ix ix_seq (re_var (pv 0)) re_int (fun _ _ => rfl))) re_int (nomark _)))) (mss_cons (ms_set (i := 2) (ps_set (i := 2) sc__law_pick.nd rfl (by first | exact .inl rfl | exact .inr rfl) (me_r (re2 bin_mod (pe_op op_modN (reN na_intC (pe_callTy call_int1 (by rfl) T.z_int bb_int (ra_cons (re2 bin_ix (pe_ix ix_seq (re_var (pv 0)) re_int (fun _ _ => rfl))) ra_nil))) (re_var (pv 1)))))) (by decide))
    (mss_cons (ms_setix (j := 0) (ps_asg (me_r (re2 bin_div (pe_op op_divM (re2 bin_ix (pe_ix ix_seq (re_var (pv 0)) re_int (fun _ _ => rfl))) (re_var (pv 1))))) (pg_sub (pv 0) re_int set_list)))
    (mss_one (ms_ret (me_r (re_var (pv 2))))))) mss_nil)
    (mss_cons (ms_setix (j := 0) (ps_asg (me_r (re2 bin_mod (pe_op op_modN (reN na_intC (pe_callTy call_int1 (by rfl) T.z_int bb_int (ra_cons (re2 bin_add (pe_op op_addM (re2 bin_mul (pe_op op_mulM (re2 bin_ix (pe_ix ix_seq (re_var (pv 0)) re_int (fun _ _ => rfl))) re_int)) re_int)) ra_nil))) re_int))) (pg_sub (pv 0) re_int set_list)))
    (mss_one (ms_ret (me_r (re2 bin_mod (pe_op op_modN (reN na_intC (pe_callTy call_int1 (by rfl) T.z_int bb_int (ra_cons (re2 bin_add (pe_op op_addM (re2 bin_mul (pe_op op_mulM (re2 bin_ix (pe_ix ix_seq (re_var (pv 0)) re_int (fun _ _ => rfl))) re_int)) (re2 bin_div (pe_op op_divM (re2 bin_ix (pe_ix ix_seq (re_var (pv 0)) re_int (fun _ _ => rfl))) re_int)))) ra_nil))) (re_var (pv 1))))))))))
set_option maxHeartbeats 4000000 in
theorem ok__law_draw (T : Tx K mg) : FnOk P w K mg base CX0 2 T.f__law_draw T.d__law_draw ["state", "count", "size", "factor"] (spM K mg 4 m__law_draw) :=
  fn_mir (N := N__law_draw) (ps := ["state", "count", "size", "factor"]) (k := 1) (body := b__law_draw) (fx := [0]) T.F__law_draw sc__law_draw (fun cdv A outer s H E hr =>
    (mss_cons (ms_set (i := 4) (asg_imp (ps_setLc (i := 4) (own := [("k", 6)]) (g := (gName 6)) rfl sc__law_draw.nd rfl rfl (sw_true rfl rfl rfl (by decide +kernel)) (mi_src src_rng1 (pi_range1 (by rfl) T.z_range (ma_cons (me_r (re_var (pv 1))) ma_nil))) (blkOk_by (own := [("k", 6)]) (N := N__law_draw) (sc := defScope s__law_draw) (by decide +kernel)) (fun _ _ _ _ _ => (pg_name (i := 6) sc__law_draw.nd rfl (by first | exact .inl rfl | exact .inr rfl))) (fun _ _ _ _ _ => mts_nil) (fun _ _ _ _ _ => (me2 bin_mul (pe_op op_mulM (me2 bin_sub (pe_op op_sub (me_call (pe_call (ok__law_pick T) (hr.mono (by decide)) (by rfl) T.g__law_pick T.F__law_pick.kp T.b__law_pick .nil pass0 (mp_slot (pv 0) (mp_val (me_r (re2 bin_add (pe_op op_addM (re2 bin_mul (pe_op op_mulM re_int (re_var (pv 2)))) re_int))) mp_nil))) (PLen.slot (PLen.val PLen.nil))) (me_r (re_var (pv 2))))) (me_r (re_var (pv 3))))))) (fun q => mlc (by decide) (fun fx h => (gok_name (h 6 (by decide)))) (tE_fz q) (fun _ _ _ h => h))) (by decide))
    (mss_cons (ms_set (i := 5) (ps_set (i := 5) sc__law_draw.nd rfl (by first | exact .inl rfl | exact .inr rfl) (me_fz (me2 bin_mul (pe_op op_mulM (me2 bin_add (pe_op op_addM (me_call (pe_call (ok__law_pick T) (hr.mono (by decide)) (by rfl) T.g__law_pick T.F__law_pick.kp T.b__law_pick .nil pass0 (mp_slot (pv 0) (mp_val (me_r (re_var (pv 2))) mp_nil))) (PLen.slot (PLen.val PLen.nil))) (me_r re_int))) (me_r (re_var (pv 3))))))) (by decide))
    (mss_cons (ms_if (mt_2 bin_eq (pt_cmpR (op_eqD hr.units) (me_call (pe_call (ok__law_pick T) (hr.mono (by decide)) (by rfl) T.g__law_pick T.F__law_pick.kp T.b__law_pick .nil pass0 (mp_slot (pv 0) (mp_val (me_r re_int) mp_nil))) (PLen.slot (PLen.val PLen.nil))) (me_r re_int) (nomark _))) (mss_one (ms_set (i := 5) (ps_set (i := 5) sc__law_draw.nd rfl (by first | exact .inl rfl | exact .inr rfl) (me_r (re1 un_negM (pe_un un_neg (re_var (pv 5)))))) (by decide))) mss_nil)
    (mss_one (ms_ret (me_lst (ma_cons (me_r (re_var (pv 4))) (ma_cons (me_r (re_var (pv 5))) ma_nil)))))))))
set_option maxHeartbeats 4000000 in
theorem ok__law_gcd (T : Tx K mg) : FnOk P w K mg base CX0 1 T.f__law_gcd T.d__law_gcd ["numbers"] (spM K mg 1 m__law_gcd) :=
  fn_mir (N := N__law_gcd) (ps := ["numbers"]) (k := 0) (body := b__law_gcd) (fx := []) T.F__law_gcd sc__law_gcd (fun cdv A outer s H E hr =>
    (mss_cons (ms_set (i := 1) (ps_set (i := 1) sc__law_gcd.nd rfl (by first | exact .inl rfl | exact .inr rfl) (me_r re_int)) (by decide))
    (mss_cons (ms_for (ps_for PassesOwn.never rfl (mi_seq (me_r (re_var (pv 0)))) (pg_name (i := 2) sc__law_gcd.nd rfl (by first | exact .inl rfl | exact .inr rfl)) (mss_cons (ms_set (i := 3) (ps_set (i := 3) sc__law_gcd.nd rfl (by first | exact .inl rfl | exact .inr rfl) (me_r (reN na_abs (pe_callB call_abs (by rfl) T.z_abs bb_abs (ra_cons (re_var (pv 2)) ra_nil))))) (by decide))
    (mss_cons (ms_for (ps_for PassesOwn.never rfl (mi_src src_rng1 (pi_range1 (by rfl) T.z_range (ma_cons (me_r re_int) ma_nil))) (pg_name (i := 4) sc__law_gcd.nd rfl (by first | exact .inl rfl | exact .inr rfl)) (mss_cons (ms_if (mt_r (rt_2 bin_eq (pt_cmpR (op_eqD hr.units) (re_var (pv 3)) re_int (nomark _)))) (mss_one ms_break) mss_nil)
    (mss_cons (ms_set (i := 5) (ps_set (i := 5) sc__law_gcd.nd rfl (by first | exact .inl rfl | exact .inr rfl) (me_r (re2 bin_mod (pe_op op_modN (reN na_intC (pe_callTy call_int1 (by rfl) T.z_int bb_int (ra_cons (re_var (pv 1)) ra_nil))) (re_var (pv 3)))))) (by decide))
    (mss_cons (ms_set (i := 1) (ps_set (i := 1) sc__law_gcd.nd rfl (by first | exact .inl rfl | exact .inr rfl) (me_r (re_var (pv 3)))) (by decide))
    (mss_one (ms_set (i := 3) (ps_set (i := 3) sc__law_gcd.nd rfl (by first | exact .inl rfl | exact .inr rfl) (me_r (re_var (pv 5)))) (by decide))))))) (gok_name (i := 4) (by decide)))
    (mss_one (ms_if (mt_r (rt_2 bin_ne (pt_cmpR (op_neD hr.units) (re_var (pv 3)) re_int (nomark _)))) (mss_one (ms_ret (me_r re_int))) mss_nil))))) (gok_name (i := 2) (by decide)))
    (mss_one (ms_ret (me_r (re_var (pv 1))))))))
set_option maxHeartbeats 4000000 in
theorem ok__law_are_integers (T : Tx K mg) : FnOk P w K mg base CX0 1 T.f__law_are_integers T.d__law_are_integers ["told", "count"] (spM K mg 2 m__law_are_integers) :=
  fn_mir (N := N__law_are_integers) (ps := ["told", "count"]) (k := 0) (body := b__law_are_integers) (fx := []) T.F__law_are_integers sc__law_are_integers (fun cdv A outer s H E hr =>
    (mss_cons (ms_if (mt_r ((rw_or (rt_not (rt_tru (reN na_isi (pe_callB call_isi (by rfl) T.z_isinstance bb_isinstance (ra_cons (re_var (pv 0)) (ra_cons (re_ty bb_tuple (by rfl) T.z_tuple) ra_nil)))))) (rw_or1 (rt_2 bin_ne (pt_cmpR (op_neD hr.units) (reN na_len (pe_callB call_len (by rfl) T.z_len bb_len (ra_cons (re_var (pv 0)) ra_nil))) (re_var (pv 1)) (nomark _)))))).pt) (mss_one (ms_ret (me_r re_bl))) mss_nil)
    (mss_cons (ms_for (ps_for PassesOwn.never rfl (mi_seq (me_r (re_var (pv 0)))) (pg_name (i := 2) sc__law_are_integers.nd rfl (by first | exact .inl rfl | exact .inr rfl)) (mss_one (ms_if (mt_r ((rw_or (rt_not (rt_tru (reN na_isi (pe_callB call_isi (by rfl) T.z_isinstance bb_isinstance (ra_cons (re_var (pv 2)) (ra_cons (re_ty bb_int (by rfl) T.z_int) ra_nil)))))) (rw_or1 (rt_tru (reN na_isi (pe_callB call_isi (by rfl) T.z_isinstance bb_isinstance (ra_cons (re_var (pv 2)) (ra_cons (re_ty bb_bool (by rfl) T.z_bool) ra_nil)))))))).pt) (mss_one (ms_ret (me_r re_bl))) mss_nil))) (gok_name (i := 2) (by decide)))
    (mss_one (ms_ret (me_r re_bl))))))
set_option maxHeartbeats 4000000 in
theorem ok__law_is_lowest (T : Tx K mg) : FnOk P w K mg base CX0 2 T.f__law_is_lowest T.d__law_is_lowest ["told", "numbers"] (spM K mg 2 m__law_is_lowest) :=
  fn_mir (N := N__law_is_lowest) (ps := ["told", "numbers"]) (k := 1) (body := b__law_is_lowest) (fx := []) T.F__law_is_lowest sc__law_is_lowest (fun cdv A outer s H E hr =>
    (mss_cons (ms_if (mt_r (rt_not (rt_tru (re_call (pe_call (ok__law_are_integers T) (hr.mono (by decide)) (by rfl) T.g__law_are_integers T.F__law_are_integers.kp T.b__law_are_integers .nil pass0 (ra_cons (re_var (pv 0)) (ra_cons (reN na_len (pe_callB call_len (by rfl) T.z_len bb_len (ra_cons (re_var (pv 1)) ra_nil))) ra_nil))) (.cons (.cons .nil)))))) (mss_one (ms_ret (me_r re_bl))) mss_nil)
    (mss_cons (ms_set (i := 2) (ps_set (i := 2) sc__law_is_lowest.nd rfl (by first | exact .inl rfl | exact .inr rfl) (me_r (re_call (pe_call (ok__law_gcd T) (hr.mono (by decide)) (by rfl) T.g__law_gcd T.F__law_gcd.kp T.b__law_gcd .nil pass0 (ra_cons (re_var (pv 1)) ra_nil)) (.cons .nil)))) (by decide))
    (mss_cons (ms_if (mt_r (rt_2 bin_eq (pt_cmpR (op_eqD hr.units) (re_var (pv 2)) re_int (nomark _)))) (mss_one (ms_set (i := 2) (ps_set (i := 2) sc__law_is_lowest.nd rfl (by first | exact .inl rfl | exact .inr rfl) (me_r re_int)) (by decide))) mss_nil)
    (mss_cons (ms_for (ps_for PassesOwn.never rfl (mi_src src_rng1 (pi_range1 (by rfl) T.z_range (ma_cons (me_r (reN na_len (pe_callB call_len (by rfl) T.z_len bb_len (ra_cons (re_var (pv 1)) ra_nil)))) ma_nil))) (pg_name (i := 3) sc__law_is_lowest.nd rfl (by first | exact .inl rfl | exact .inr rfl)) (mss_one (ms_if (mt_r (rt_2 bin_ne (pt_cmpR (op_neD hr.units) (re2 bin_mul (pe_op op_mulM (re2 bin_ix (pe_ix ix_seq (re_var (pv 0)) (re_var (pv 3)) (fun _ _ => rfl))) (re_var (pv 2)))) (re2 bin_ix (pe_ix ix_seq (re_var (pv 1)) (re_var (pv 3)) (fun _ _ => rfl))) (nomark _)))) (mss_one (ms_ret (me_r re_bl))) mss_nil))) (gok_name (i := 3) (by decide)))
    (mss_one (ms_ret (me_r re_bl))))))))
set_option maxHeartbeats 4000000 in
theorem ok__law_stands (T : Tx K mg) : FnOk P w K mg base CX0 3 T.f__law_stands T.d__law_stands ["told", "numerators", "denominator"] (spM K mg 3 m__law_stands) :=
  fn_mir (N := N__law_stands) (ps := ["told", "numerators", "denominator"]) (k := 2) (body := b__law_stands) (fx := []) T.F__law_stands sc__law_stands (fun cdv A outer s H E hr =>
    (mss_cons (ms_if (mt_r (rt_2 bin_cmp (pt_cmpR op_lt (re_var (pv 2)) re_int (nomark _)))) (mss_cons (ms_set (i := 1) (asg_imp (ps_setLc (i := 1) (own := [("number", 3)]) (g := (gName 3)) rfl sc__law_stands.nd rfl rfl (sw_true rfl rfl rfl (by decide +kernel)) (ri_seq (re_var (pv 1))) (blkOk_by (own := [("number", 3)]) (N := N__law_stands) (sc := defScope s__law_stands) (by decide +kernel)) (fun _ _ _ _ _ => (pg_name (i := 3) sc__law_stands.nd rfl (by first | exact .inl rfl | exact .inr rfl))) (fun _ _ _ _ _ => rts_nil) (fun _ _ _ _ _ => (re1 un_negM (pe_un un_neg (re_var (pv 3)))))) (fun q => rlc (by decide) (fun fx h => (gok_name (h 3 (by decide)))) (tE_ofR q) (fun _ _ _ h => h))) (by decide))
    (mss_one (ms_set (i := 2) (ps_set (i := 2) sc__law_stands.nd rfl (by first | exact .inl rfl | exact .inr rfl) (me_r (re1 un_negM (pe_un un_neg (re_var (pv 2)))))) (by decide)))) mss_nil)
    (mss_one (ms_ret (me_r (re_call (pe_call (ok__law_is_lowest T) (hr.mono (by decide)) (by rfl) T.g__law_is_lowest T.F__law_is_lowest.kp T.b__law_is_lowest .nil pass0 (ra_cons (re_var (pv 0)) (ra_cons (re2 bin_add (pe_op op_addM (re_var (pv 1)) (re_lst (ra_cons (re_var (pv 2)) ra_nil)))) ra_nil))) (.cons (.cons .nil))))))))
set_option maxHeartbeats 4000000 in
theorem ok_compare (T : Tx K mg) : FnOk P w K mg base CX0 1 T.f_compare T.d_compare ["first", "second"] (spM K mg 2 m_compare) :=
  fn_mir (N := N_compare) (ps := ["first", "second"]) (k := 0) (body := b_compare) (fx := []) T.F_compare sc_compare (fun cdv A outer s H E hr =>
    (mss_cons (ms_set (i := 2) (ps_set (i := 2) sc_compare.nd rfl (by first | exact .inl rfl | exact .inr rfl) (me_r (re2 bin_sub (pe_op op_sub (re2 bin_mul (pe_op op_mulM (re2 bin_ix (pe_ix ix_seq (re_var (pv 0)) re_int (fun _ _ => rfl))) (re2 bin_ix (pe_ix ix_seq (re_var (pv 1)) re_int (fun _ _ => rfl))))) (re2 bin_mul (pe_op op_mulM (re2 bin_ix (pe_ix ix_seq (re_var (pv 1)) re_int (fun _ _ => rfl))) (re2 bin_ix (pe_ix ix_seq (re_var (pv 0)) re_int (fun _ _ => rfl))))))))) (by decide))
    (mss_cons (ms_if (mt_r (rt_2 bin_cmp (pt_cmpR op_gt (re_var (pv 2)) re_int (nomark _)))) (mss_one (ms_ret (me_r re_int))) mss_nil)
    (mss_cons (ms_if (mt_r (rt_2 bin_cmp (pt_cmpR op_lt (re_var (pv 2)) re_int (nomark _)))) (mss_one (ms_ret (me_r (re1 un_negM (pe_un un_neg re_int))))) mss_nil)
    (mss_one (ms_ret (me_r re_int)))))))
set_option maxHeartbeats 4000000 in
theorem ok_lowest (T : Tx K mg) : FnOk P w K mg base CX0 1 T.f_lowest T.d_lowest ["numbers"] (spM K mg 1 m_lowest) :=
  fn_mir (N := N_lowest) (ps := ["numbers"]) (k := 0) (body := b_lowest) (fx := []) T.F_lowest sc_lowest (fun cdv A outer s H E hr =>
    (mss_cons (ms_set (i := 1) (ps_set (i := 1) sc_lowest.nd rfl (by first | exact .inl rfl | exact .inr rfl) (me_r re_int)) (by decide))
    (mss_cons (ms_for (ps_for PassesOwn.never rfl (mi_seq (me_r (re_var (pv 0)))) (pg_name (i := 2) sc_lowest.nd rfl (by first | exact .inl rfl | exact .inr rfl)) (mss_one (ms_set (i := 1) (ps_set (i := 1) sc_lowest.nd rfl (by first | exact .inl rfl | exact .inr rfl) (me_r (reN na_gcd (pe_callBfun cr_gcd (by rfl) T.x_gcd (ra_cons (re_var (pv 1)) (ra_cons (re_var (pv 2)) ra_nil)))))) (by decide)))) (gok_name (i := 2) (by decide)))
    (mss_cons (ms_if (mt_r (rt_2 bin_cmp (pt_cmpR op_lt (re_var (pv 1)) re_int (nomark _)))) (mss_one (ms_ret (me_r (reN na_tuple (pe_callTy call_tuple_of (by rfl) T.z_tuple bb_tuple (ra_cons (re_var (pv 0)) ra_nil)))))) mss_nil)
    (mss_one (ms_ret (me_r (reN na_tuple (pe_callTy call_tuple_of (by rfl) T.z_tuple bb_tuple (ra_cons (re_lc (pe_lc (own := [("number", 2)]) (g := (gName 2)) rfl sc_lowest.nd (ri_seq (re_var (pv 0))) (blkOk_by (own := [("number", 2)]) (N := N_lowest) (sc := defScope s_lowest) (by decide +kernel)) (fun _ _ _ _ _ => (pg_name (i := 2) sc_lowest.nd rfl (by first | exact .inl rfl | exact .inr rfl))) (fun _ _ _ _ _ => rts_nil) (fun _ _ _ _ _ => (re2 bin_div (pe_op op_divM (re_var (pv 2)) (re_var (pv 1)))))) (fun fx h => (gok_name (h 2 (by decide))))) ra_nil))))))))))
set_option maxHeartbeats 4000000 in
theorem ok_point (T : Tx K mg) : FnOk P w K mg base CX0 2 T.f_point T.d_point ["numerators", "denominator"] (spM K mg 2 m_point) :=
  fn_mir (N := N_point) (ps := ["numerators", "denominator"]) (k := 1) (body := b_point) (fx := []) T.F_point sc_point (fun cdv A outer s H E hr =>
    (mss_cons (ms_if (mt_r (rt_2 bin_cmp (pt_cmpR op_lt (re_var (pv 1)) re_int (nomark _)))) (mss_one (ms_ret (me_r (re_call (pe_call (ok_lowest T) (hr.mono (by decide)) (by rfl) T.g_lowest T.F_lowest.kp T.b_lowest .nil pass0 (ra_cons (re2 bin_add (pe_op op_addM (re_lc (pe_lc (own := [("number", 2)]) (g := (gName 2)) rfl sc_point.nd (ri_seq (re_var (pv 0))) (blkOk_by (own := [("number", 2)]) (N := N_point) (sc := defScope s_point) (by decide +kernel)) (fun _ _ _ _ _ => (pg_name (i := 2) sc_point.nd rfl (by first | exact .inl rfl | exact .inr rfl))) (fun _ _ _ _ _ => rts_nil) (fun _ _ _ _ _ => (re1 un_negM (pe_un un_neg (re_var (pv 2)))))) (fun fx h => (gok_name (h 2 (by decide))))) (re_lst (ra_cons (re1 un_negM (pe_un un_neg (re_var (pv 1)))) ra_nil)))) ra_nil)) (.cons .nil))))) mss_nil)
    (mss_one (ms_ret (me_r (re_call (pe_call (ok_lowest T) (hr.mono (by decide)) (by rfl) T.g_lowest T.F_lowest.kp T.b_lowest .nil pass0 (ra_cons (re2 bin_add (pe_op op_addM (reN na_list (pe_callTy call_list_of (by rfl) T.z_list bb_list (ra_cons (re_var (pv 0)) ra_nil))) (re_lst (ra_cons (re_var (pv 1)) ra_nil)))) ra_nil)) (.cons .nil)))))))
set_option maxHeartbeats 4000000 in
theorem ok_ratio (T : Tx K mg) : FnOk P w K mg base CX0 3 T.f_ratio T.d_ratio ["numerator", "denominator"] (spM K mg 2 m_ratio) :=
  fn_mir (N := N_ratio) (ps := ["numerator", "denominator"]) (k := 2) (body := b_ratio) (fx := []) T.F_ratio sc_ratio (fun cdv A outer s H E hr =>
    (mss_one (ms_ret (me_r (re_call (pe_call (ok_point T) (hr.mono (by decide)) (by rfl) T.g_point T.F_point.kp T.b_point .nil pass0 (ra_cons (re_lst (ra_cons (re_var (pv 0)) ra_nil)) (ra_cons (re_var (pv 1)) ra_nil))) (.cons (.cons .nil)))))))
set_option maxHeartbeats 4000000 in
theorem ok_add (T : Tx K mg) : FnOk P w K mg base CX0 4 T.f_add T.d_add ["first", "second"] (spM K mg 2 m_add) :=
  fn_mir (N := N_add) (ps := ["first", "second"]) (k := 3) (body := b_add) (fx := []) T.F_add sc_add (fun cdv A outer s H E hr =>
    (mss_one (ms_ret (me_r (re_call (pe_call (ok_ratio T) (hr.mono (by decide)) (by rfl) T.g_ratio T.F_ratio.kp T.b_ratio .nil pass0 (ra_cons (re2 bin_add (pe_op op_addM (re2 bin_mul (pe_op op_mulM (re2 bin_ix (pe_ix ix_seq (re_var (pv 0)) re_int (fun _ _ => rfl))) (re2 bin_ix (pe_ix ix_seq (re_var (pv 1)) re_int (fun _ _ => rfl))))) (re2 bin_mul (pe_op op_mulM (re2 bin_ix (pe_ix ix_seq (re_var (pv 1)) re_int (fun _ _ => rfl))) (re2 bin_ix (pe_ix ix_seq (re_var (pv 0)) re_int (fun _ _ => rfl))))))) (ra_cons (re2 bin_mul (pe_op op_mulM (re2 bin_ix (pe_ix ix_seq (re_var (pv 0)) re_int (fun _ _ => rfl))) (re2 bin_ix (pe_ix ix_seq (re_var (pv 1)) re_int (fun _ _ => rfl))))) ra_nil))) (.cons (.cons .nil)))))))
set_option maxHeartbeats 4000000 in
theorem ok_subtract (T : Tx K mg) : FnOk P w K mg base CX0 4 T.f_subtract T.d_subtract ["first", "second"] (spM K mg 2 m_subtract) :=
  fn_mir (N := N_subtract) (ps := ["first", "second"]) (k := 3) (body := b_subtract) (fx := []) T.F_subtract sc_subtract (fun cdv A outer s H E hr =>
    (mss_one (ms_ret (me_r (re_call (pe_call (ok_ratio T) (hr.mono (by decide)) (by rfl) T.g_ratio T.F_ratio.kp T.b_ratio .nil pass0 (ra_cons (re2 bin_sub (pe_op op_sub (re2 bin_mul (pe_op op_mulM (re2 bin_ix (pe_ix ix_seq (re_var (pv 0)) re_int (fun _ _ => rfl))) (re2 bin_ix (pe_ix ix_seq (re_var (pv 1)) re_int (fun _ _ => rfl))))) (re2 bin_mul (pe_op op_mulM (re2 bin_ix (pe_ix ix_seq (re_var (pv 1)) re_int (fun _ _ => rfl))) (re2 bin_ix (pe_ix ix_seq (re_var (pv 0)) re_int (fun _ _ => rfl))))))) (ra_cons (re2 bin_mul (pe_op op_mulM (re2 bin_ix (pe_ix ix_seq (re_var (pv 0)) re_int (fun _ _ => rfl))) (re2 bin_ix (pe_ix ix_seq (re_var (pv 1)) re_int (fun _ _ => rfl))))) ra_nil))) (.cons (.cons .nil)))))))
set_option maxHeartbeats 4000000 in
theorem ok_multiply (T : Tx K mg) : FnOk P w K mg base CX0 4 T.f_multiply T.d_multiply ["first", "second"] (spM K mg 2 m_multiply) :=
  fn_mir (N := N_multiply) (ps := ["first", "second"]) (k := 3) (body := b_multiply) (fx := []) T.F_multiply sc_multiply (fun cdv A outer s H E hr =>
    (mss_one (ms_ret (me_r (re_call (pe_call (ok_ratio T) (hr.mono (by decide)) (by rfl) T.g_ratio T.F_ratio.kp T.b_ratio .nil pass0 (ra_cons (re2 bin_mul (pe_op op_mulM (re2 bin_ix (pe_ix ix_seq (re_var (pv 0)) re_int (fun _ _ => rfl))) (re2 bin_ix (pe_ix ix_seq (re_var (pv 1)) re_int (fun _ _ => rfl))))) (ra_cons (re2 bin_mul (pe_op op_mulM (re2 bin_ix (pe_ix ix_seq (re_var (pv 0)) re_int (fun _ _ => rfl))) (re2 bin_ix (pe_ix ix_seq (re_var (pv 1)) re_int (fun _ _ => rfl))))) ra_nil))) (.cons (.cons .nil)))))))
set_option maxHeartbeats 4000000 in
theorem ok__law_arithmetic (T : Tx K mg) : FnOk P w K mg base CX0 5 T.f__law_arithmetic T.d__law_arithmetic ["state", "size"] (spM K mg 2 m__law_arithmetic) :=
  fn_mir (N := N__law_arithmetic) (ps := ["state", "size"]) (k := 4) (body := b__law_arithmetic) (fx := [0]) T.F__law_arithmetic sc__law_arithmetic (fun cdv A outer s H E hr =>
    (mss_cons (ms_set (i := 2) (ps_set (i := 2) sc__law_arithmetic.nd rfl (by first | exact .inl rfl | exact .inr rfl) (me_fz (me_lst (ma_cons (me2 bin_sub (pe_op op_sub (me_call (pe_call (ok__law_pick T) (hr.mono (by decide)) (by rfl) T.g__law_pick T.F__law_pick.kp T.b__law_pick .nil pass0 (mp_slot (pv 0) (mp_val (me_r (re2 bin_add (pe_op op_addM (re2 bin_mul (pe_op op_mulM re_int (re_var (pv 1)))) re_int))) mp_nil))) (PLen.slot (PLen.val PLen.nil))) (me_r (re_var (pv 1))))) (ma_cons (me2 bin_add (pe_op op_addM (me_call (pe_call (ok__law_pick T) (hr.mono (by decide)) (by rfl) T.g__law_pick T.F__law_pick.kp T.b__law_pick .nil pass0 (mp_slot (pv 0) (mp_val (me_r (re_var (pv 1))) mp_nil))) (PLen.slot (PLen.val PLen.nil))) (me_r re_int))) ma_nil))))) (by decide))
    (mss_cons (ms_set (i := 3) (ps_set (i := 3) sc__law_arithmetic.nd rfl (by first | exact .inl rfl | exact .inr rfl) (me_fz (me_lst (ma_cons (me2 bin_sub (pe_op op_sub (me_call (pe_call (ok__law_pick T) (hr.mono (by decide)) (by rfl) T.g__law_pick T.F__law_pick.kp T.b__law_pick .nil pass0 (mp_slot (pv 0) (mp_val (me_r (re2 bin_add (pe_op op_addM (re2 bin_mul (pe_op op_mulM re_int (re_var (pv 1)))) re_int))) mp_nil))) (PLen.slot (PLen.val PLen.nil))) (me_r (re_var (pv 1))))) (ma_cons (me2 bin_add (pe_op op_addM (me_call (pe_call (ok__law_pick T) (hr.mono (by decide)) (by rfl) T.g__law_pick T.F__law_pick.kp T.b__law_pick .nil pass0 (mp_slot (pv 0) (mp_val (me_r (re_var (pv 1))) mp_nil))) (PLen.slot (PLen.val PLen.nil))) (me_r re_int))) ma_nil))))) (by decide))
    (mss_cons (ms_if (mt_2 bin_eq (pt_cmpR (op_eqD hr.units) (me_call (pe_call (ok__law_pick T) (hr.mono (by decide)) (by rfl) T.g__law_pick T.F__law_pick.kp T.b__law_pick .nil pass0 (mp_slot (pv 0) (mp_val (me_r re_int) mp_nil))) (PLen.slot (PLen.val PLen.nil))) (me_r re_int) (nomark _))) (mss_one (ms_set (i := 3) (ps_set (i := 3) sc__law_arithmetic.nd rfl (by first | exact .inl rfl | exact .inr rfl) (me_r (re_lst (ra_cons (re2 bin_mul (pe_op op_mulM (re2 bin_ix (pe_ix ix_seq (re_var (pv 2)) re_int (fun _ _ => rfl))) re_int)) (ra_cons (re2 bin_mul (pe_op op_mulM (re2 bin_ix (pe_ix ix_seq (re_var (pv 2)) re_int (fun _ _ => rfl))) re_int)) ra_nil))))) (by decide))) mss_nil)
    (mss_cons (ms_set (i := 4) (ps_set (i := 4) sc__law_arithmetic.nd rfl (by first | exact .inl rfl | exact .inr rfl) (me_r (reN na_tuple (pe_callTy call_tuple_of (by rfl) T.z_tuple bb_tuple (ra_cons (re_var (pv 2)) ra_nil))))) (by decide))
    (mss_cons (ms_set (i := 5) (ps_set (i := 5) sc__law_arithmetic.nd rfl (by first | exact .inl rfl | exact .inr rfl) (me_r (reN na_tuple (pe_callTy call_tuple_of (by rfl) T.z_tuple bb_tuple (ra_cons (re_var (pv 3)) ra_nil))))) (by decide))
    (mss_cons (ms_if (mt_r (rt_not (rt_tru (re_call (pe_call (ok__law_stands T) (hr.mono (by decide)) (by rfl) T.g__law_stands T.F__law_stands.kp T.b__law_stands .nil pass0 (ra_cons (re_call (pe_call (ok_add T) (hr.mono (by decide)) (by rfl) T.g_add T.F_add.kp T.b_add .nil pass0 (ra_cons (re_var (pv 4)) (ra_cons (re_var (pv 5)) ra_nil))) (.cons (.cons .nil))) (ra_cons (re_lst (ra_cons (re2 bin_add (pe_op op_addM (re2 bin_mul (pe_op op_mulM (re2 bin_ix (pe_ix ix_seq (re_var (pv 2)) re_int (fun _ _ => rfl))) (re2 bin_ix (pe_ix ix_seq (re_var (pv 3)) re_int (fun _ _ => rfl))))) (re2 bin_mul (pe_op op_mulM (re2 bin_ix (pe_ix ix_seq (re_var (pv 3)) re_int (fun _ _ => rfl))) (re2 bin_ix (pe_ix ix_seq (re_var (pv 2)) re_int (fun _ _ => rfl))))))) ra_nil)) (ra_cons (re2 bin_mul (pe_op op_mulM (re2 bin_ix (pe_ix ix_seq (re_var (pv 2)) re_int (fun _ _ => rfl))) (re2 bin_ix (pe_ix ix_seq (re_var (pv 3)) re_int (fun _ _ => rfl))))) ra_nil)))) (.cons (.cons (.cons .nil))))))) (mss_one (ms_ret (me_r re_bl))) mss_nil)
    (mss_cons (ms_if (mt_r (rt_not (rt_tru (re_call (pe_call (ok__law_stands T) (hr.mono (by decide)) (by rfl) T.g__law_stands T.F__law_stands.kp T.b__law_stands .nil pass0 (ra_cons (re_call (pe_call (ok_subtract T) (hr.mono (by decide)) (by rfl) T.g_subtract T.F_subtract.kp T.b_subtract .nil pass0 (ra_cons (re_var (pv 4)) (ra_cons (re_var (pv 5)) ra_nil))) (.cons (.cons .nil))) (ra_cons (re_lst (ra_cons (re2 bin_sub (pe_op op_sub (re2 bin_mul (pe_op op_mulM (re2 bin_ix (pe_ix ix_seq (re_var (pv 2)) re_int (fun _ _ => rfl))) (re2 bin_ix (pe_ix ix_seq (re_var (pv 3)) re_int (fun _ _ => rfl))))) (re2 bin_mul (pe_op op_mulM (re2 bin_ix (pe_ix ix_seq (re_var (pv 3)) re_int (fun _ _ => rfl))) (re2 bin_ix (pe_ix ix_seq (re_var (pv 2)) re_int (fun _ _ => rfl))))))) ra_nil)) (ra_cons (re2 bin_mul (pe_op op_mulM (re2 bin_ix (pe_ix ix_seq (re_var (pv 2)) re_int (fun _ _ => rfl))) (re2 bin_ix (pe_ix ix_seq (re_var (pv 3)) re_int (fun _ _ => rfl))))) ra_nil)))) (.cons (.cons (.cons .nil))))))) (mss_one (ms_ret (me_r re_bl))) mss_nil)
    (mss_cons (ms_if (mt_r (rt_not (rt_tru (re_call (pe_call (ok__law_stands T) (hr.mono (by decide)) (by rfl) T.g__law_stands T.F__law_stands.kp T.b__law_stands .nil pass0 (ra_cons (re_call (pe_call (ok_multiply T) (hr.mono (by decide)) (by rfl) T.g_multiply T.F_multiply.kp T.b_multiply .nil pass0 (ra_cons (re_var (pv 4)) (ra_cons (re_var (pv 5)) ra_nil))) (.cons (.cons .nil))) (ra_cons (re_lst (ra_cons (re2 bin_mul (pe_op op_mulM (re2 bin_ix (pe_ix ix_seq (re_var (pv 2)) re_int (fun _ _ => rfl))) (re2 bin_ix (pe_ix ix_seq (re_var (pv 3)) re_int (fun _ _ => rfl))))) ra_nil)) (ra_cons (re2 bin_mul (pe_op op_mulM (re2 bin_ix (pe_ix ix_seq (re_var (pv 2)) re_int (fun _ _ => rfl))) (re2 bin_ix (pe_ix ix_seq (re_var (pv 3)) re_int (fun _ _ => rfl))))) ra_nil)))) (.cons (.cons (.cons .nil))))))) (mss_one (ms_ret (me_r re_bl))) mss_nil)
    (mss_cons (ms_set (i := 6) (ps_set (i := 6) sc__law_arithmetic.nd rfl (by first | exact .inl rfl | exact .inr rfl) (me_r re_int)) (by decide))
    (mss_cons (ms_if (mt_r (rt_2 bin_cmp (pt_cmpR op_gt (re2 bin_mul (pe_op op_mulM (re2 bin_ix (pe_ix ix_seq (re_var (pv 2)) re_int (fun _ _ => rfl))) (re2 bin_ix (pe_ix ix_seq (re_var (pv 3)) re_int (fun _ _ => rfl))))) (re2 bin_mul (pe_op op_mulM (re2 bin_ix (pe_ix ix_seq (re_var (pv 3)) re_int (fun _ _ => rfl))) (re2 bin_ix (pe_ix ix_seq (re_var (pv 2)) re_int (fun _ _ => rfl))))) (nomark _)))) (mss_one (ms_set (i := 6) (ps_set (i := 6) sc__law_arithmetic.nd rfl (by first | exact .inl rfl | exact .inr rfl) (me_r re_int)) (by decide))) mss_nil)
    (mss_cons (ms_if (mt_r (rt_2 bin_cmp (pt_cmpR op_lt (re2 bin_mul (pe_op op_mulM (re2 bin_ix (pe_ix ix_seq (re_var (pv 2)) re_int (fun _ _ => rfl))) (re2 bin_ix (pe_ix ix_seq (re_var (pv 3)) re_int (fun _ _ => rfl))))) (re2 bin_mul (pe_op op_mulM (re2 bin_ix (pe_ix ix_seq (re_var (pv 3)) re_int (fun _ _ => rfl))) (re2 bin_ix (pe_ix ix_seq (re_var (pv 2)) re_int (fun _ _ => rfl))))) (nomark _)))) (mss_one (ms_set (i := 6) (ps_set (i := 6) sc__law_arithmetic.nd rfl (by first | exact .inl rfl | exact .inr rfl) (me_r (re1 un_negM (pe_un un_neg re_int)))) (by decide))) mss_nil)
    (mss_cons (ms_set (i := 7) (ps_set (i := 7) sc__law_arithmetic.nd rfl (by first | exact .inl rfl | exact .inr rfl) (me_r (re_call (pe_call (ok_compare T) (hr.mono (by decide)) (by rfl) T.g_compare T.F_compare.kp T.b_compare .nil pass0 (ra_cons (re_var (pv 4)) (ra_cons (re_var (pv 5)) ra_nil))) (.cons (.cons .nil))))) (by decide))
    (mss_cons (ms_set (i := 8) (ps_set (i := 8) sc__law_arithmetic.nd rfl (by first | exact .inl rfl | exact .inr rfl) (me_r (re_call (pe_call (ok_compare T) (hr.mono (by decide)) (by rfl) T.g_compare T.F_compare.kp T.b_compare .nil pass0 (ra_cons (re_var (pv 5)) (ra_cons (re_var (pv 4)) ra_nil))) (.cons (.cons .nil))))) (by decide))
    (mss_one (ms_ret (me_r (re_and (re_call (pe_call (ok__law_are_integers T) (hr.mono (by decide)) (by rfl) T.g__law_are_integers T.F__law_are_integers.kp T.b__law_are_integers .nil pass0 (ra_cons (re_tup (ra_cons (re_var (pv 7)) (ra_cons (re_var (pv 8)) ra_nil))) (ra_cons re_int ra_nil))) (.cons (.cons .nil))) (re_and (re2 bin_eq (pe_cmpR (op_eqD hr.units) (re_var (pv 7)) (re_var (pv 6)) (nomark _))) (re_one (re2 bin_eq (pe_cmpR (op_eqD hr.units) (re_var (pv 8)) (re1 un_negM (pe_un un_neg (re_var (pv 6)))) (nomark _)))))))))))))))))))))))
set_option maxHeartbeats 4000000 in
theorem ok_between (T : Tx K mg) : FnOk P w K mg base CX0 3 T.f_between T.d_between ["first", "second", "share"] (spM K mg 3 m_between) :=
  fn_mir (N := N_between) (ps := ["first", "second", "share"]) (k := 2) (body := b_between) (fx := []) T.F_between sc_between (fun cdv A outer s H E hr =>
    (mss_cons (ms_set (i := 3) (ps_set (i := 3) sc_between.nd rfl (by first | exact .inl rfl | exact .inr rfl) (me_r (re2 bin_mul (pe_op op_mulM (re2 bin_sub (pe_op op_sub (re2 bin_ix (pe_ix ix_seq (re_var (pv 2)) re_int (fun _ _ => rfl))) (re2 bin_ix (pe_ix ix_seq (re_var (pv 2)) re_int (fun _ _ => rfl))))) (re2 bin_ix (pe_ix ix_seq (re_var (pv 1)) (re1 un_negM (pe_un un_neg re_int)) (fun _ _ => rfl))))))) (by decide))
    (mss_cons (ms_set (i := 4) (ps_set (i := 4) sc_between.nd rfl (by first | exact .inl rfl | exact .inr rfl) (me_r (re2 bin_mul (pe_op op_mulM (re2 bin_ix (pe_ix ix_seq (re_var (pv 2)) re_int (fun _ _ => rfl))) (re2 bin_ix (pe_ix ix_seq (re_var (pv 0)) (re1 un_negM (pe_un un_neg re_int)) (fun _ _ => rfl))))))) (by decide))
    (mss_cons (ms_set (i := 5) (asg_imp (ps_setLc (i := 5) (own := [("a", 6), ("b", 7)]) (g := (gTup K 2 (gCons (gName 6) (gCons (gName 7) gNil)))) rfl sc_between.nd rfl rfl (sw_true rfl rfl rfl (by decide +kernel)) (ri_src src_zip (RZ.pi_zipA (by rfl) T.z_zip (ra_cons (re_sl (re_var (pv 0)) ro_none (ro_some (re1 un_negM (pe_un un_neg re_int)))) (ra_cons (re_sl (re_var (pv 1)) ro_none (ro_some (re1 un_negM (pe_un un_neg re_int)))) ra_nil)))) (blkOk_by (own := [("a", 6), ("b", 7)]) (N := N_between) (sc := defScope s_between) (by decide +kernel)) (fun _ _ _ _ _ => (pg_tup rfl (pgs_cons (pg_name (i := 6) sc_between.nd rfl (by first | exact .inl rfl | exact .inr rfl)) (pgs_cons (pg_name (i := 7) sc_between.nd rfl (by first | exact .inl rfl | exact .inr rfl)) pgs_nil)))) (fun _ _ _ _ _ => rts_nil) (fun _ _ _ _ _ => (re2 bin_add (pe_op op_addM (re2 bin_mul (pe_op op_mulM (re_var (pv 3)) (re_var (pv 6)))) (re2 bin_mul (pe_op op_mulM (re_var (pv 4)) (re_var (pv 7)))))))) (fun q => rlc (by decide) (fun fx h => (gok_tup (gsok_cons (gok_name (h 6 (by decide))) (gsok_cons (gok_name (h 7 (by decide))) gsok_nil)))) (tE_ofR q) (fun _ _ _ h => h))) (by decide))
    (mss_one (ms_ret (me_r (re_call (pe_call (ok_point T) (hr.mono (by decide)) (by rfl) T.g_point T.F_point.kp T.b_point .nil pass0 (ra_cons (re_var (pv 5)) (ra_cons (re2 bin_mul (pe_op op_mulM (re2 bin_mul (pe_op op_mulM (re2 bin_ix (pe_ix ix_seq (re_var (pv 2)) re_int (fun _ _ => rfl))) (re2 bin_ix (pe_ix ix_seq (re_var (pv 0)) (re1 un_negM (pe_un un_neg re_int)) (fun _ _ => rfl))))) (re2 bin_ix (pe_ix ix_seq (re_var (pv 1)) (re1 un_negM (pe_un un_neg re_int)) (fun _ _ => rfl))))) ra_nil))) (.cons (.cons .nil))))))))))
set_option maxHeartbeats 4000000 in
theorem ok__law_between (T : Tx K mg) : FnOk P w K mg base CX0 4 T.f__law_between T.d__law_between ["state", "size", "count"] (spM K mg 3 m__law_between) :=
  fn_mir (N := N__law_between) (ps := ["state", "size", "count"]) (k := 3) (body := b__law_between) (fx := [0]) T.F__law_between sc__law_between (fun cdv A outer s H E hr =>
    (mss_cons (ms_set (i := 3) (ps_set (i := 3) sc__law_between.nd rfl (by first | exact .inl rfl | exact .inr rfl) (me_fz (me_call (pe_call (ok__law_draw T) (hr.mono (by decide)) (by rfl) T.g__law_draw T.F__law_draw.kp T.b__law_draw .nil pass0 (mp_slot (pv 0) (mp_val (me_r (re_var (pv 2))) (mp_val (me_r (re_var (pv 1))) (mp_val (me_r re_int) mp_nil))))) (PLen.slot (PLen.val (PLen.val (PLen.val PLen.nil))))))) (by decide))
    (mss_cons (ms_set (i := 4) (ps_set (i := 4) sc__law_between.nd rfl (by first | exact .inl rfl | exact .inr rfl) (me_fz (me_call (pe_call (ok__law_draw T) (hr.mono (by decide)) (by rfl) T.g__law_draw T.F__law_draw.kp T.b__law_draw .nil pass0 (mp_slot (pv 0) (mp_val (me_r (re_var (pv 2))) (mp_val (me_r (re_var (pv 1))) (mp_val (me_r re_int) mp_nil))))) (PLen.slot (PLen.val (PLen.val (PLen.val PLen.nil))))))) (by decide))
    (mss_cons (ms_set (i := 5) (ps_set (i := 5) sc__law_between.nd rfl (by first | exact .inl rfl | exact .inr rfl) (me_fz (me_lst (ma_cons (me2 bin_sub (pe_op op_sub (me_call (pe_call (ok__law_pick T) (hr.mono (by decide)) (by rfl) T.g__law_pick T.F__law_pick.kp T.b__law_pick .nil pass0 (mp_slot (pv 0) (mp_val (me_r re_int) mp_nil))) (PLen.slot (PLen.val PLen.nil))) (me_r re_int))) (ma_cons (me2 bin_add (pe_op op_addM (me_call (pe_call (ok__law_pick T) (hr.mono (by decide)) (by rfl) T.g__law_pick T.F__law_pick.kp T.b__law_pick .nil pass0 (mp_slot (pv 0) (mp_val (me_r re_int) mp_nil))) (PLen.slot (PLen.val PLen.nil))) (me_r re_int))) ma_nil))))) (by decide))
    (mss_cons (ms_set (i := 6) (ps_set (i := 6) sc__law_between.nd rfl (by first | exact .inl rfl | exact .inr rfl) (me_r (reN na_abs (pe_callB call_abs (by rfl) T.z_abs bb_abs (ra_cons (re2 bin_ix (pe_ix ix_seq (re_var (pv 3)) re_int (fun _ _ => rfl))) ra_nil))))) (by decide))
    (mss_cons (ms_set (i := 7) (ps_set (i := 7) sc__law_between.nd rfl (by first | exact .inl rfl | exact .inr rfl) (me_r (reN na_abs (pe_callB call_abs (by rfl) T.z_abs bb_abs (ra_cons (re2 bin_ix (pe_ix ix_seq (re_var (pv 4)) re_int (fun _ _ => rfl))) ra_nil))))) (by decide))
    (mss_cons (ms_set (i := 8) (ps_set (i := 8) sc__law_between.nd rfl (by first | exact .inl rfl | exact .inr rfl) (me_r (re2 bin_mul (pe_op op_mulM (re2 bin_sub (pe_op op_sub (re2 bin_ix (pe_ix ix_seq (re_var (pv 5)) re_int (fun _ _ => rfl))) (re2 bin_ix (pe_ix ix_seq (re_var (pv 5)) re_int (fun _ _ => rfl))))) (re_var (pv 7)))))) (by decide))
    (mss_cons (ms_set (i := 9) (asg_imp (ps_setLc (i := 9) (own := [("k", 11)]) (g := (gName 11)) rfl sc__law_between.nd rfl rfl (sw_true rfl rfl rfl (by decide +kernel)) (ri_src src_rng1 (pi_range1 (by rfl) T.z_range (ra_cons (re_var (pv 2)) ra_nil))) (blkOk_by (own := [("k", 11)]) (N := N__law_between) (sc := defScope s__law_between) (by decide +kernel)) (fun _ _ _ _ _ => (pg_name (i := 11) sc__law_between.nd rfl (by first | exact .inl rfl | exact .inr rfl))) (fun _ _ _ _ _ => rts_nil) (fun _ _ _ _ _ => (re2 bin_add (pe_op op_addM (re2 bin_mul (pe_op op_mulM (re_var (pv 8)) (re2 bin_ix (pe_ix ix_seq (re2 bin_ix (pe_ix ix_seq (re_var (pv 3)) re_int (fun _ _ => rfl))) (re_var (pv 11)) (fun _ _ => rfl))))) (re2 bin_mul (pe_op op_mulM (re2 bin_mul (pe_op op_mulM (re2 bin_ix (pe_ix ix_seq (re_var (pv 5)) re_int (fun _ _ => rfl))) (re_var (pv 6)))) (re2 bin_ix (pe_ix ix_seq (re2 bin_ix (pe_ix ix_seq (re_var (pv 4)) re_int (fun _ _ => rfl))) (re_var (pv 11)) (fun _ _ => rfl))))))))) (fun q => rlc (by decide) (fun fx h => (gok_name (h 11 (by decide)))) (tE_ofR q) (fun _ _ _ h => h))) (by decide))
    (mss_cons (ms_set (i := 10) (ps_set (i := 10) sc__law_between.nd rfl (by first | exact .inl rfl | exact .inr rfl) (me_r (re_call (pe_call (ok_between T) (hr.mono (by decide)) (by rfl) T.g_between T.F_between.kp T.b_between .nil pass0 (ra_cons (reN na_tuple (pe_callTy call_tuple_of (by rfl) T.z_tuple bb_tuple (ra_cons (re2 bin_add (pe_op op_addM (re2 bin_ix (pe_ix ix_seq (re_var (pv 3)) re_int (fun _ _ => rfl))) (re_lst (ra_cons (re_var (pv 6)) ra_nil)))) ra_nil))) (ra_cons (reN na_tuple (pe_callTy call_tuple_of (by rfl) T.z_tuple bb_tuple (ra_cons (re2 bin_add (pe_op op_addM (re2 bin_ix (pe_ix ix_seq (re_var (pv 4)) re_int (fun _ _ => rfl))) (re_lst (ra_cons (re_var (pv 7)) ra_nil)))) ra_nil))) (ra_cons (reN na_tuple (pe_callTy call_tuple_of (by rfl) T.z_tuple bb_tuple (ra_cons (re_var (pv 5)) ra_nil))) ra_nil)))) (.cons (.cons (.cons .nil)))))) (by decide))
    (mss_one (ms_ret (me_r (re_call (pe_call (ok__law_stands T) (hr.mono (by decide)) (by rfl) T.g__law_stands T.F__law_stands.kp T.b__law_stands .nil pass0 (ra_cons (re_var (pv 10)) (ra_cons (re_var (pv 9)) (ra_cons (re2 bin_mul (pe_op op_mulM (re2 bin_mul (pe_op op_mulM (re2 bin_ix (pe_ix ix_seq (re_var (pv 5)) re_int (fun _ _ => rfl))) (re_var (pv 6)))) (re_var (pv 7)))) ra_nil)))) (.cons (.cons (.cons .nil))))))))))))))))
set_option maxHeartbeats 4000000 in
theorem ok_dot (T : Tx K mg) : FnOk P w K mg base CX0 1 T.f_dot T.d_dot ["first", "second"] (spM K mg 2 m_dot) :=
  fn_mir (N := N_dot) (ps := ["first", "second"]) (k := 0) (body := b_dot) (fx := []) T.F_dot sc_dot (fun cdv A outer s H E hr =>
    (mss_cons (ms_set (i := 2) (ps_set (i := 2) sc_dot.nd rfl (by first | exact .inl rfl | exact .inr rfl) (me_r re_int)) (by decide))
    (mss_cons (ms_for (ps_for PassesOwn.never rfl (mi_src src_zip (RZ.pi_zipA (by rfl) T.z_zip (ma_cons (me_r (re_var (pv 0))) (ma_cons (me_r (re_var (pv 1))) ma_nil)))) (pg_tup rfl (pgs_cons (pg_name (i := 3) sc_dot.nd rfl (by first | exact .inl rfl | exact .inr rfl)) (pgs_cons (pg_name (i := 4) sc_dot.nd rfl (by first | exact .inl rfl | exact .inr rfl)) pgs_nil))) (mss_one (ms_set (i := 2) (ps_set (i := 2) sc_dot.nd rfl (by first | exact .inl rfl | exact .inr rfl) (me_r (re2 bin_add (pe_op op_addM (re_var (pv 2)) (re2 bin_mul (pe_op op_mulM (re_var (pv 3)) (re_var (pv 4)))))))) (by decide)))) (gok_tup (n := 2) (gsok_cons (gok_name (i := 3) (by decide)) (gsok_cons (gok_name (i := 4) (by decide)) gsok_nil))))
    (mss_one (ms_ret (me_r (re_var (pv 2))))))))
set_option maxHeartbeats 4000000 in
theorem ok_slack (T : Tx K mg) : FnOk P w K mg base CX0 2 T.f_slack T.d_slack ["row", "place"] (spM K mg 2 m_slack) :=
  fn_mir (N := N_slack) (ps := ["row", "place"]) (k := 1) (body := b_slack) (fx := []) T.F_slack sc_slack (fun cdv A outer s H E hr =>
    (mss_one (ms_ret (me_r (re2 bin_sub (pe_op op_sub (re2 bin_mul (pe_op op_mulM (re2 bin_ix (pe_ix ix_seq (re_var (pv 0)) (re1 un_negM (pe_un un_neg re_int)) (fun _ _ => rfl))) (re2 bin_ix (pe_ix ix_seq (re_var (pv 1)) (re1 un_negM (pe_un un_neg re_int)) (fun _ _ => rfl))))) (re_call (pe_call (ok_dot T) (hr.mono (by decide)) (by rfl) T.g_dot T.F_dot.kp T.b_dot .nil pass0 (ra_cons (re_sl (re_var (pv 0)) ro_none (ro_some (re1 un_negM (pe_un un_neg re_int)))) (ra_cons (re_var (pv 1)) ra_nil))) (.cons (.cons .nil)))))))))
set_option maxHeartbeats 4000000 in
theorem ok__law_sums (T : Tx K mg) : FnOk P w K mg base CX0 3 T.f__law_sums T.d__law_sums ["state", "size", "count"] (spM K mg 3 m__law_sums) :=
  fn_mir (N := N__law_sums) (ps := ["state", "size", "count"]) (k := 2) (body := b__law_sums) (fx := [0]) T.F__law_sums sc__law_sums (fun cdv A outer s H E hr =>
    (mss_cons (ms_set (i := 3) (asg_imp (ps_setLc (i := 3) (own := [("k", 6)]) (g := (gName 6)) rfl sc__law_sums.nd rfl rfl (sw_true rfl rfl rfl (by decide +kernel)) (mi_src src_rng1 (pi_range1 (by rfl) T.z_range (ma_cons (me_r (re2 bin_add (pe_op op_addM (re_var (pv 2)) re_int))) ma_nil))) (blkOk_by (own := [("k", 6)]) (N := N__law_sums) (sc := defScope s__law_sums) (by decide +kernel)) (fun _ _ _ _ _ => (pg_name (i := 6) sc__law_sums.nd rfl (by first | exact .inl rfl | exact .inr rfl))) (fun _ _ _ _ _ => mts_nil) (fun _ _ _ _ _ => (me2 bin_sub (pe_op op_sub (me_call (pe_call (ok__law_pick T) (hr.mono (by decide)) (by rfl) T.g__law_pick T.F__law_pick.kp T.b__law_pick .nil pass0 (mp_slot (pv 0) (mp_val (me_r (re2 bin_add (pe_op op_addM (re2 bin_mul (pe_op op_mulM re_int (re_var (pv 1)))) re_int))) mp_nil))) (PLen.slot (PLen.val PLen.nil))) (me_r (re_var (pv 1))))))) (fun q => mlc (by decide) (fun fx h => (gok_name (h 6 (by decide)))) (tE_fz q) (fun _ _ _ h => h))) (by decide))
    (mss_cons (ms_set (i := 4) (ps_set (i := 4) sc__law_sums.nd rfl (by first | exact .inl rfl | exact .inr rfl) (me2 bin_add (pe_op op_addM (me_lc (pe_lc (own := [("k", 6)]) (g := (gName 6)) rfl sc__law_sums.nd (mi_src src_rng1 (pi_range1 (by rfl) T.z_range (ma_cons (me_r (re_var (pv 2))) ma_nil))) (blkOk_by (own := [("k", 6)]) (N := N__law_sums) (sc := defScope s__law_sums) (by decide +kernel)) (fun _ _ _ _ _ => (pg_name (i := 6) sc__law_sums.nd rfl (by first | exact .inl rfl | exact .inr rfl))) (fun _ _ _ _ _ => mts_nil) (fun _ _ _ _ _ => (me2 bin_sub (pe_op op_sub (me_call (pe_call (ok__law_pick T) (hr.mono (by decide)) (by rfl) T.g__law_pick T.F__law_pick.kp T.b__law_pick .nil pass0 (mp_slot (pv 0) (mp_val (me_r (re2 bin_add (pe_op op_addM (re2 bin_mul (pe_op op_mulM re_int (re_var (pv 1)))) re_int))) mp_nil))) (PLen.slot (PLen.val PLen.nil))) (me_r (re_var (pv 1))))))) (fun fx h => (gok_name (h 6 (by decide))))) (me_lst (ma_cons (me_call (pe_call (ok__law_pick T) (hr.mono (by decide)) (by rfl) T.g__law_pick T.F__law_pick.kp T.b__law_pick .nil pass0 (mp_slot (pv 0) (mp_val (me_r re_int) mp_nil))) (PLen.slot (PLen.val PLen.nil))) ma_nil))))) (by decide))
    (mss_cons (ms_if (mt_r ((rw_and (rt_2 bin_eq (pt_cmpR (op_eqD hr.units) (re2 bin_ix (pe_ix ix_seq (re_var (pv 4)) (re_var (pv 2)) (fun _ _ => rfl))) re_int (nomark _))) (rw_and1 (rt_2 bin_eq (pt_cmpR (op_eqD hr.units) (re2 bin_ix (pe_ix ix_seq (re_var (pv 4)) re_int (fun _ _ => rfl))) re_int (nomark _)))))).pt) (mss_one (ms_setix (j := 4) (ps_asg (me_r re_int) (pg_sub (pv 4) re_int set_list)))) mss_nil)
    (mss_cons (ms_set (i := 5) (ps_set (i := 5) sc__law_sums.nd rfl (by first | exact .inl rfl | exact .inr rfl) (me_r re_int)) (by decide))
    (mss_cons (ms_for (ps_for PassesOwn.never rfl (mi_src src_rng1 (pi_range1 (by rfl) T.z_range (ma_cons (me_r (re_var (pv 2))) ma_nil))) (pg_name (i := 6) sc__law_sums.nd rfl (by first | exact .inl rfl | exact .inr rfl)) (mss_one (ms_set (i := 5) (ps_set (i := 5) sc__law_sums.nd rfl (by first | exact .inl rfl | exact .inr rfl) (me_r (re2 bin_add (pe_op op_addM (re_var (pv 5)) (re2 bin_mul (pe_op op_mulM (re2 bin_ix (pe_ix ix_seq (re_var (pv 3)) (re_var (pv 6)) (fun _ _ => rfl))) (re2 bin_ix (pe_ix ix_seq (re_var (pv 4)) (re_var (pv 6)) (fun _ _ => rfl))))))))) (by decide)))) (gok_name (i := 6) (by decide)))
    (mss_cons (ms_set (i := 7) (ps_set (i := 7) sc__law_sums.nd rfl (by first | exact .inl rfl | exact .inr rfl) (me_r (re2 bin_sub (pe_op op_sub (re2 bin_mul (pe_op op_mulM (re2 bin_ix (pe_ix ix_seq (re_var (pv 3)) (re_var (pv 2)) (fun _ _ => rfl))) (re2 bin_ix (pe_ix ix_seq (re_var (pv 4)) (re_var (pv 2)) (fun _ _ => rfl))))) (re_var (pv 5)))))) (by decide))
    (mss_cons (ms_set (i := 8) (asg_imp (ps_setLc (i := 8) (own := [("k", 6)]) (g := (gName 6)) rfl sc__law_sums.nd rfl rfl (sw_true rfl rfl rfl (by decide +kernel)) (ri_src src_rng1 (pi_range1 (by rfl) T.z_range (ra_cons (re_var (pv 2)) ra_nil))) (blkOk_by (own := [("k", 6)]) (N := N__law_sums) (sc := defScope s__law_sums) (by decide +kernel)) (fun _ _ _ _ _ => (pg_name (i := 6) sc__law_sums.nd rfl (by first | exact .inl rfl | exact .inr rfl))) (fun _ _ _ _ _ => rts_nil) (fun _ _ _ _ _ => (re2 bin_ix (pe_ix ix_seq (re_var (pv 4)) (re_var (pv 6)) (fun _ _ => rfl))))) (fun q => rlc (by decide) (fun fx h => (gok_name (h 6 (by decide)))) (tE_ofR q) (fun _ _ _ h => h))) (by decide))
    (mss_cons (ms_if (mt_r (rt_not (rt_tru (re_call (pe_call (ok__law_are_integers T) (hr.mono (by decide)) (by rfl) T.g__law_are_integers T.F__law_are_integers.kp T.b__law_are_integers .nil pass0 (ra_cons (re_tup (ra_cons (re_call (pe_call (ok_slack T) (hr.mono (by decide)) (by rfl) T.g_slack T.F_slack.kp T.b_slack .nil pass0 (ra_cons (reN na_tuple (pe_callTy call_tuple_of (by rfl) T.z_tuple bb_tuple (ra_cons (re_var (pv 3)) ra_nil))) (ra_cons (reN na_tuple (pe_callTy call_tuple_of (by rfl) T.z_tuple bb_tuple (ra_cons (re_var (pv 4)) ra_nil))) ra_nil))) (.cons (.cons .nil))) (ra_cons (re_call (pe_call (ok_dot T) (hr.mono (by decide)) (by rfl) T.g_dot T.F_dot.kp T.b_dot .nil pass0 (ra_cons (reN na_list (pe_callTy call_list_of (by rfl) T.z_list bb_list (ra_cons (re_var (pv 3)) ra_nil))) (ra_cons (reN na_list (pe_callTy call_list_of (by rfl) T.z_list bb_list (ra_cons (re_var (pv 4)) ra_nil))) ra_nil))) (.cons (.cons .nil))) ra_nil))) (ra_cons re_int ra_nil))) (.cons (.cons .nil)))))) (mss_one (ms_ret (me_r re_bl))) mss_nil)
    (mss_cons (ms_if (mt_r ((rw_or (rt_2 bin_ne (pt_cmpR (op_neD hr.units) (re_call (pe_call (ok_slack T) (hr.mono (by decide)) (by rfl) T.g_slack T.F_slack.kp T.b_slack .nil pass0 (ra_cons (reN na_tuple (pe_callTy call_tuple_of (by rfl) T.z_tuple bb_tuple (ra_cons (re_var (pv 3)) ra_nil))) (ra_cons (reN na_tuple (pe_callTy call_tuple_of (by rfl) T.z_tuple bb_tuple (ra_cons (re_var (pv 4)) ra_nil))) ra_nil))) (.cons (.cons .nil))) (re_var (pv 7)) (nomark _))) (rw_or1 (rt_2 bin_ne (pt_cmpR (op_neD hr.units) (re_call (pe_call (ok_slack T) (hr.mono (by decide)) (by rfl) T.g_slack T.F_slack.kp T.b_slack .nil pass0 (ra_cons (reN na_list (pe_callTy call_list_of (by rfl) T.z_list bb_list (ra_cons (re_var (pv 3)) ra_nil))) (ra_cons (reN na_list (pe_callTy call_list_of (by rfl) T.z_list bb_list (ra_cons (re_var (pv 4)) ra_nil))) ra_nil))) (.cons (.cons .nil))) (re_var (pv 7)) (nomark _)))))).pt) (mss_one (ms_ret (me_r re_bl))) mss_nil)
    (mss_one (ms_ret (me_r (re_and (re2 bin_eq (pe_cmpR (op_eqD hr.units) (re_call (pe_call (ok_dot T) (hr.mono (by decide)) (by rfl) T.g_dot T.F_dot.kp T.b_dot .nil pass0 (ra_cons (reN na_list (pe_callTy call_list_of (by rfl) T.z_list bb_list (ra_cons (re_var (pv 3)) ra_nil))) (ra_cons (reN na_list (pe_callTy call_list_of (by rfl) T.z_list bb_list (ra_cons (re_var (pv 8)) ra_nil))) ra_nil))) (.cons (.cons .nil))) (re_var (pv 5)) (nomark _))) (re_and (re2 bin_eq (pe_cmpR (op_eqD hr.units) (re_call (pe_call (ok_dot T) (hr.mono (by decide)) (by rfl) T.g_dot T.F_dot.kp T.b_dot .nil pass0 (ra_cons (reN na_tuple (pe_callTy call_tuple_of (by rfl) T.z_tuple bb_tuple (ra_cons (re_var (pv 8)) ra_nil))) (ra_cons (reN na_tuple (pe_callTy call_tuple_of (by rfl) T.z_tuple bb_tuple (ra_cons (re_var (pv 3)) ra_nil))) ra_nil))) (.cons (.cons .nil))) (re_var (pv 5)) (nomark _))) (re_one (re2 bin_eq (pe_cmpR (op_eqD hr.units) (re_call (pe_call (ok_dot T) (hr.mono (by decide)) (by rfl) T.g_dot T.F_dot.kp T.b_dot .nil pass0 (ra_cons (re_lst ra_nil) (ra_cons (reN na_list (pe_callTy call_list_of (by rfl) T.z_list bb_list (ra_cons (re_var (pv 3)) ra_nil))) ra_nil))) (.cons (.cons .nil))) re_int (nomark _)))))))))))))))))))
set_option maxHeartbeats 4000000 in
theorem ok_law (T : Tx K mg) : FnOk P w K mg base CX0 6 T.f_law T.d_law ["script"] (spM K mg 1 m_law) :=
  fn_mir (N := N_law) (ps := ["script"]) (k := 5) (body := b_law) (fx := []) T.F_law sc_law (fun cdv A outer s H E hr =>
    (mss_cons (ms_set (i := 1) (ps_set (i := 1) sc_law.nd rfl (by first | exact .inl rfl | exact .inr rfl) (me_call (pe_call (ok__law_state T) (hr.mono (by decide)) (by rfl) T.g__law_state T.F__law_state.kp T.b__law_state .nil pass0 (mp_val (me_r (re_var (pv 0))) (mp_val (me_r re_int) mp_nil))) (PLen.val (PLen.val PLen.nil)))) (by decide))
    (mss_cons (ms_set (i := 2) (ps_set (i := 2) sc_law.nd rfl (by first | exact .inl rfl | exact .inr rfl) (me_fz (me2 bin_ix (pe_ix ix_seq (me_r (re_lst (ra_cons re_int (ra_cons re_int (ra_cons (re2 bin_pow (pe_op op_pow re_int re_int)) ra_nil))))) (me_call (pe_call (ok__law_pick T) (hr.mono (by decide)) (by rfl) T.g__law_pick T.F__law_pick.kp T.b__law_pick .nil pass0 (mp_slot (pv 1) (mp_val (me_r re_int) mp_nil))) (PLen.slot (PLen.val PLen.nil))) (fun _ _ => rfl))))) (by decide))
    (mss_cons (ms_set (i := 3) (ps_set (i := 3) sc_law.nd rfl (by first | exact .inl rfl | exact .inr rfl) (me_fz (me2 bin_add (pe_op op_addM (me_call (pe_call (ok__law_pick T) (hr.mono (by decide)) (by rfl) T.g__law_pick T.F__law_pick.kp T.b__law_pick .nil pass0 (mp_slot (pv 1) (mp_val (me_r re_int) mp_nil))) (PLen.slot (PLen.val PLen.nil))) (me_r re_int))))) (by decide))
    (mss_cons (ms_set (i := 4) (ps_set (i := 4) sc_law.nd rfl (by first | exact .inl rfl | exact .inr rfl) (me_fz (me2 bin_add (pe_op op_addM (me_r re_int) (me2 bin_mul (pe_op op_mulM (me_call (pe_call (ok__law_pick T) (hr.mono (by decide)) (by rfl) T.g__law_pick T.F__law_pick.kp T.b__law_pick .nil pass0 (mp_slot (pv 1) (mp_val (me_r re_int) mp_nil))) (PLen.slot (PLen.val PLen.nil))) (me_call (pe_call (ok__law_pick T) (hr.mono (by decide)) (by rfl) T.g__law_pick T.F__law_pick.kp T.b__law_pick .nil pass0 (mp_slot (pv 1) (mp_val (me_r re_int) mp_nil))) (PLen.slot (PLen.val PLen.nil))))))))) (by decide))
    (mss_cons (ms_set (i := 5) (ps_set (i := 5) sc_law.nd rfl (by first | exact .inl rfl | exact .inr rfl) (me_fz (me_call (pe_call (ok__law_draw T) (hr.mono (by decide)) (by rfl) T.g__law_draw T.F__law_draw.kp T.b__law_draw .nil pass0 (mp_slot (pv 1) (mp_val (me_r (re_var (pv 3))) (mp_val (me_r (re_var (pv 2))) (mp_val (me_r (re_var (pv 4))) mp_nil))))) (PLen.slot (PLen.val (PLen.val (PLen.val PLen.nil))))))) (by decide))
    (mss_cons (ms_set (i := 6) (ps_set (i := 6) sc_law.nd rfl (by first | exact .inl rfl | exact .inr rfl) (me_r (re2 bin_ix (pe_ix ix_seq (re_var (pv 5)) re_int (fun _ _ => rfl))))) (by decide))
    (mss_cons (ms_if (mt_2 bin_eq (pt_cmpR (op_eqD hr.units) (me_call (pe_call (ok__law_pick T) (hr.mono (by decide)) (by rfl) T.g__law_pick T.F__law_pick.kp T.b__law_pick .nil pass0 (mp_slot (pv 1) (mp_val (me_r re_int) mp_nil))) (PLen.slot (PLen.val PLen.nil))) (me_r re_int) (nomark _))) (mss_one (ms_set (i := 6) (asg_imp (ps_setLc (i := 6) (own := [("k", 8)]) (g := (gName 8)) rfl sc_law.nd rfl rfl (sw_true rfl rfl rfl (by decide +kernel)) (ri_src src_rng1 (pi_range1 (by rfl) T.z_range (ra_cons (re_var (pv 3)) ra_nil))) (blkOk_by (own := [("k", 8)]) (N := N_law) (sc := defScope s_law) (by decide +kernel)) (fun _ _ _ _ _ => (pg_name (i := 8) sc_law.nd rfl (by first | exact .inl rfl | exact .inr rfl))) (fun _ _ _ _ _ => rts_nil) (fun _ _ _ _ _ => re_int)) (fun q => rlc (by decide) (fun fx h => (gok_name (h 8 (by decide)))) (tE_ofR q) (fun _ _ _ h => h))) (by decide))) mss_nil)
    (mss_cons (ms_set (i := 7) (ps_set (i := 7) sc_law.nd rfl (by first | exact .inl rfl | exact .inr rfl) (me_r (reN na_list (pe_callTy call_list_of (by rfl) T.z_list bb_list (ra_cons (re_var (pv 6)) ra_nil))))) (by decide))
    (mss_cons (ms_if (mt_r ((rw_or (rt_not (rt_tru (re_call (pe_call (ok__law_is_lowest T) (hr.mono (by decide)) (by rfl) T.g__law_is_lowest T.F__law_is_lowest.kp T.b__law_is_lowest .nil pass0 (ra_cons (re_call (pe_call (ok_lowest T) (hr.mono (by decide)) (by rfl) T.g_lowest T.F_lowest.kp T.b_lowest .nil pass0 (ra_cons (re_var (pv 7)) ra_nil)) (.cons .nil)) (ra_cons (re_var (pv 6)) ra_nil))) (.cons (.cons .nil))))) (rw_or1 (rt_2 bin_ne (pt_cmpR (op_neD hr.units) (re_var (pv 7)) (re_var (pv 6)) (nomark _)))))).pt) (mss_one (ms_ret (me_r re_bl))) mss_nil)
    (mss_cons (ms_if (mt_r ((rw_or (rt_not (rt_tru (re_call (pe_call (ok__law_is_lowest T) (hr.mono (by decide)) (by rfl) T.g__law_is_lowest T.F__law_is_lowest.kp T.b__law_is_lowest .nil pass0 (ra_cons (re_call (pe_call (ok_lowest T) (hr.mono (by decide)) (by rfl) T.g_lowest T.F_lowest.kp T.b_lowest .nil pass0 (ra_cons (reN na_tuple (pe_callTy call_tuple_of (by rfl) T.z_tuple bb_tuple (ra_cons (re_var (pv 6)) ra_nil))) ra_nil)) (.cons .nil)) (ra_cons (re_var (pv 6)) ra_nil))) (.cons (.cons .nil))))) (rw_or1 (rt_2 bin_ne (pt_cmpR (op_neD hr.units) (re_call (pe_call (ok_lowest T) (hr.mono (by decide)) (by rfl) T.g_lowest T.F_lowest.kp T.b_lowest .nil pass0 (ra_cons (re_lst ra_nil) ra_nil)) (.cons .nil)) (re_tup ra_nil) (nomark _)))))).pt) (mss_one (ms_ret (me_r re_bl))) mss_nil)
    (mss_cons (ms_set (i := 7) (ps_set (i := 7) sc_law.nd rfl (by first | exact .inl rfl | exact .inr rfl) (me_r (reN na_list (pe_callTy call_list_of (by rfl) T.z_list bb_list (ra_cons (re_var (pv 6)) ra_nil))))) (by decide))
    (mss_cons (ms_if (mt_r ((rw_or (rt_not (rt_tru (re_call (pe_call (ok__law_stands T) (hr.mono (by decide)) (by rfl) T.g__law_stands T.F__law_stands.kp T.b__law_stands .nil pass0 (ra_cons (re_call (pe_call (ok_point T) (hr.mono (by decide)) (by rfl) T.g_point T.F_point.kp T.b_point .nil pass0 (ra_cons (re_var (pv 7)) (ra_cons (re2 bin_ix (pe_ix ix_seq (re_var (pv 5)) re_int (fun _ _ => rfl))) ra_nil))) (.cons (.cons .nil))) (ra_cons (re_var (pv 6)) (ra_cons (re2 bin_ix (pe_ix ix_seq (re_var (pv 5)) re_int (fun _ _ => rfl))) ra_nil)))) (.cons (.cons (.cons .nil)))))) (rw_or1 (rt_2 bin_ne (pt_cmpR (op_neD hr.units) (re_var (pv 7)) (re_var (pv 6)) (nomark _)))))).pt) (mss_one (ms_ret (me_r re_bl))) mss_nil)
    (mss_cons (ms_if (mt_r (rt_not (rt_tru (re_call (pe_call (ok__law_stands T) (hr.mono (by decide)) (by rfl) T.g__law_stands T.F__law_stands.kp T.b__law_stands .nil pass0 (ra_cons (re_call (pe_call (ok_point T) (hr.mono (by decide)) (by rfl) T.g_point T.F_point.kp T.b_point .nil pass0 (ra_cons (reN na_tuple (pe_callTy call_tuple_of (by rfl) T.z_tuple bb_tuple (ra_cons (re_var (pv 6)) ra_nil))) (ra_cons (re2 bin_ix (pe_ix ix_seq (re_var (pv 5)) re_int (fun _ _ => rfl))) ra_nil))) (.cons (.cons .nil))) (ra_cons (re_var (pv 6)) (ra_cons (re2 bin_ix (pe_ix ix_seq (re_var (pv 5)) re_int (fun _ _ => rfl))) ra_nil)))) (.cons (.cons (.cons .nil))))))) (mss_one (ms_ret (me_r re_bl))) mss_nil)
    (mss_cons (ms_if (mt_r (rt_not (rt_tru (re_call (pe_call (ok__law_stands T) (hr.mono (by decide)) (by rfl) T.g__law_stands T.F__law_stands.kp T.b__law_stands .nil pass0 (ra_cons (re_call (pe_call (ok_ratio T) (hr.mono (by decide)) (by rfl) T.g_ratio T.F_ratio.kp T.b_ratio .nil pass0 (ra_cons (re2 bin_ix (pe_ix ix_seq (re_var (pv 6)) re_int (fun _ _ => rfl))) (ra_cons (re2 bin_ix (pe_ix ix_seq (re_var (pv 5)) re_int (fun _ _ => rfl))) ra_nil))) (.cons (.cons .nil))) (ra_cons (re_lst (ra_cons (re2 bin_ix (pe_ix ix_seq (re_var (pv 6)) re_int (fun _ _ => rfl))) ra_nil)) (ra_cons (re2 bin_ix (pe_ix ix_seq (re_var (pv 5)) re_int (fun _ _ => rfl))) ra_nil)))) (.cons (.cons (.cons .nil))))))) (mss_one (ms_ret (me_r re_bl))) mss_nil)
    (mss_cons (ms_set (i := 1) (ps_set (i := 1) sc_law.nd rfl (by first | exact .inl rfl | exact .inr rfl) (me_call (pe_call (ok__law_state T) (hr.mono (by decide)) (by rfl) T.g__law_state T.F__law_state.kp T.b__law_state .nil pass0 (mp_val (me_r (re_var (pv 0))) (mp_val (me_r re_int) mp_nil))) (PLen.val (PLen.val PLen.nil)))) (by decide))
    (mss_cons (ms_if (mt_not (mt_tru (me_call (pe_call (ok__law_arithmetic T) (hr.mono (by decide)) (by rfl) T.g__law_arithmetic T.F__law_arithmetic.kp T.b__law_arithmetic .nil pass0 (mp_slot (pv 1) (mp_val (me_r (re_var (pv 2))) mp_nil))) (PLen.slot (PLen.val PLen.nil))))) (mss_one (ms_ret (me_r re_bl))) mss_nil)
    (mss_cons (ms_set (i := 1) (ps_set (i := 1) sc_law.nd rfl (by first | exact .inl rfl | exact .inr rfl) (me_call (pe_call (ok__law_state T) (hr.mono (by decide)) (by rfl) T.g__law_state T.F__law_state.kp T.b__law_state .nil pass0 (mp_val (me_r (re_var (pv 0))) (mp_val (me_r re_int) mp_nil))) (PLen.val (PLen.val PLen.nil)))) (by decide))
    (mss_one (ms_ret (me_and (me_call (pe_call (ok__law_between T) (hr.mono (by decide)) (by rfl) T.g__law_between T.F__law_between.kp T.b__law_between .nil pass0 (mp_slot (pv 1) (mp_val (me_r (re_var (pv 2))) (mp_val (me_r (re_var (pv 3))) mp_nil)))) (PLen.slot (PLen.val (PLen.val PLen.nil)))) (me_one (me_call (pe_call (ok__law_sums T) (hr.mono (by decide)) (by rfl) T.g__law_sums T.F__law_sums.kp T.b__law_sums .nil pass0 (mp_slot (pv 1) (mp_val (me_r (re_var (pv 2))) (mp_val (me_r (re_var (pv 3))) mp_nil)))) (PLen.slot (PLen.val (PLen.val PLen.nil))))))))))))))))))))))))))
end
/-! ### the top -/
theorem all_mk (hm : ∀ ns : List Int, ns.length ≤ 63 → (∀ z ∈ ns, Builtin.Int.intBits z ≤ 1048576) → ∃ outs, m_law [.pl (.scr (ns.map D.int))] = .ok (.pl (.bl true)) outs)
    {l : PySem.W.OpenLaw} {w : World} {K : PySem.W.Frag} {h : Heap} {mg : Str → Option Value} {fa : Addr} (X : K.In h) (G : h.Ns mainGlobals mg) (hfa : mg "law" = some (.ref fa))
    {f0 f1 f2 f3 f4 f5 f6 f7 f8 f9 f10 f11 f12 f13 f14 f15 f16 f17 f18 f19 f20 : Addr}
    {od0 an0 od1 an1 od2 an2 od3 an3 od4 an4 od5 an5 od6 an6 od7 an7 od8 an8 od9 an9 od10 an10 od11 an11 od12 an12 od13 an13 od14 an14 od15 an15 od16 an16 od17 an17 od18 an18 od19 an19 od20 an20 : Option Addr}
    {sl0 sl1 sl2 sl3 sl4 sl5 sl6 sl7 sl8 sl9 sl10 sl11 sl12 sl13 sl14 sl15 sl16 sl17 sl18 sl19 sl20 : Array (Option Value)}
    {oc0 kV0 dc0 pm0 cd0 ct0 oc1 kV1 dc1 pm1 cd1 ct1 oc2 kV2 dc2 pm2 cd2 ct2 oc3 kV3 dc3 pm3 cd3 ct3 oc4 kV4 dc4 pm4 cd4 ct4 oc5 kV5 dc5 pm5 cd5 ct5 oc6 kV6 dc6 pm6 cd6 ct6 oc7 kV7 dc7 pm7 cd7 ct7 oc8 kV8 dc8 pm8 cd8 ct8 oc9 kV9 dc9 pm9 cd9 ct9 oc10 kV10 dc10 pm10 cd10 ct10 oc11 kV11 dc11 pm11 cd11 ct11 oc12 kV12 dc12 pm12 cd12 ct12 oc13 kV13 dc13 pm13 cd13 ct13 oc14 kV14 dc14 pm14 cd14 ct14 oc15 kV15 dc15 pm15 cd15 ct15 oc16 kV16 dc16 pm16 cd16 ct16 oc17 kV17 dc17 pm17 cd17 ct17 oc18 kV18 dc18 pm18 cd18 ct18 oc19 kV19 dc19 pm19 cd19 ct19 oc20 kV20 dc20 pm20 cd20 ct20 : Value}
    (a0 : PySem.W.nsIn K mainGlobals "_law_state" = some (some (.ref f0))) (l0 : K.lookup f0 = some ⟨oc0, od0, .func (PySem.W.fnOf "_law_state" "_law_state" (defArgs s__law_state) (defBody s__law_state) (defScope s__law_state) .none kV0 dc0 pm0 an0 cd0 ct0), sl0⟩) (c0 : PySem.W.codeIn K cd0 "_law_state" = true) (k0 : PySem.W.keepIn K (.ref f0) = true)
    (a1 : PySem.W.nsIn K mainGlobals "_law_pick" = some (some (.ref f1))) (l1 : K.lookup f1 = some ⟨oc1, od1, .func (PySem.W.fnOf "_law_pick" "_law_pick" (defArgs s__law_pick) (defBody s__law_pick) (defScope s__law_pick) .none kV1 dc1 pm1 an1 cd1 ct1), sl1⟩) (c1 : PySem.W.codeIn K cd1 "_law_pick" = true) (k1 : PySem.W.keepIn K (.ref f1) = true)
    (a2 : PySem.W.nsIn K mainGlobals "_law_draw" = some (some (.ref f2))) (l2 : K.lookup f2 = some ⟨oc2, od2, .func (PySem.W.fnOf "_law_draw" "_law_draw" (defArgs s__law_draw) (defBody s__law_draw) (defScope s__law_draw) .none kV2 dc2 pm2 an2 cd2 ct2), sl2⟩) (c2 : PySem.W.codeIn K cd2 "_law_draw" = true) (k2 : PySem.W.keepIn K (.ref f2) = true)
    (a3 : PySem.W.nsIn K mainGlobals "_law_gcd" = some (some (.ref f3))) (l3 : K.lookup f3 = some ⟨oc3, od3, .func (PySem.W.fnOf "_law_gcd" "_law_gcd" (defArgs s__law_gcd) (defBody s__law_gcd) (defScope s__law_gcd) .none kV3 dc3 pm3 an3 cd3 ct3), sl3⟩) (c3 : PySem.W.codeIn K cd3 "_law_gcd" = true) (k3 : PySem.W.keepIn K (.ref f3) = true)
    (a4 : PySem.W.nsIn K mainGlobals "_law_are_integers" = some (some (.ref f4))) (l4 : K.lookup f4 = some ⟨oc4, od4, .func (PySem.W.fnOf "_law_are_integers" "_law_are_integers" (defArgs s__law_are_integers) (defBody s__law_are_integers) (defScope s__law_are_integers) .none kV4 dc4 pm4 an4 cd4 ct4), sl4⟩) (c4 : PySem.W.codeIn K cd4 "_law_are_integers" = true) (k4 : PySem.W.keepIn K (.ref f4) = true)
    (a5 : PySem.W.nsIn K mainGlobals "_law_is_lowest" = some (some (.ref f5))) (l5 : K.lookup f5 = some ⟨oc5, od5, .func (PySem.W.fnOf "_law_is_lowest" "_law_is_lowest" (defArgs s__law_is_lowest) (defBody s__law_is_lowest) (defScope s__law_is_lowest) .none kV5 dc5 pm5 an5 cd5 ct5), sl5⟩) (c5 : PySem.W.codeIn K cd5 "_law_is_lowest" = true) (k5 : PySem.W.keepIn K (.ref f5) = true)
    (a6 : PySem.W.nsIn K mainGlobals "_law_stands" = some (some (.ref f6))) (l6 : K.lookup f6 = some ⟨oc6, od6, .func (PySem.W.fnOf "_law_stands" "_law_stands" (defArgs s__law_stands) (defBody s__law_stands) (defScope s__law_stands) .none kV6 dc6 pm6 an6 cd6 ct6), sl6⟩) (c6 : PySem.W.codeIn K cd6 "_law_stands" = true) (k6 : PySem.W.keepIn K (.ref f6) = true)
    (a7 : PySem.W.nsIn K mainGlobals "compare" = some (some (.ref f7))) (l7 : K.lookup f7 = some ⟨oc7, od7, .func (PySem.W.fnOf "compare" "compare" (defArgs s_compare) (defBody s_compare) (defScope s_compare) .none kV7 dc7 pm7 an7 cd7 ct7), sl7⟩) (c7 : PySem.W.codeIn K cd7 "compare" = true) (k7 : PySem.W.keepIn K (.ref f7) = true)
    (a8 : PySem.W.nsIn K mainGlobals "lowest" = some (some (.ref f8))) (l8 : K.lookup f8 = some ⟨oc8, od8, .func (PySem.W.fnOf "lowest" "lowest" (defArgs s_lowest) (defBody s_lowest) (defScope s_lowest) .none kV8 dc8 pm8 an8 cd8 ct8), sl8⟩) (c8 : PySem.W.codeIn K cd8 "lowest" = true) (k8 : PySem.W.keepIn K (.ref f8) = true)
    (a9 : PySem.W.nsIn K mainGlobals "point" = some (some (.ref f9))) (l9 : K.lookup f9 = some ⟨oc9, od9, .func (PySem.W.fnOf "point" "point" (defArgs s_point) (defBody s_point) (defScope s_point) .none kV9 dc9 pm9 an9 cd9 ct9), sl9⟩) (c9 : PySem.W.codeIn K cd9 "point" = true) (k9 : PySem.W.keepIn K (.ref f9) = true)
    (a10 : PySem.W.nsIn K mainGlobals "ratio" = some (some (.ref f10))) (l10 : K.lookup f10 = some ⟨oc10, od10, .func (PySem.W.fnOf "ratio" "ratio" (defArgs s_ratio) (defBody s_ratio) (defScope s_ratio) .none kV10 dc10 pm10 an10 cd10 ct10), sl10⟩) (c10 : PySem.W.codeIn K cd10 "ratio" = true) (k10 : PySem.W.keepIn K (.ref f10) = true)
    (a11 : PySem.W.nsIn K mainGlobals "add" = some (some (.ref f11))) (l11 : K.lookup f11 = some ⟨oc11, od11, .func (PySem.W.fnOf "add" "add" (defArgs s_add) (defBody s_add) (defScope s_add) .none kV11 dc11 pm11 an11 cd11 ct11), sl11⟩) (c11 : PySem.W.codeIn K cd11 "add" = true) (k11 : PySem.W.keepIn K (.ref f11) = true)
    (a12 : PySem.W.nsIn K mainGlobals "subtract" = some (some (.ref f12))) (l12 : K.lookup f12 = some ⟨oc12, od12, .func (PySem.W.fnOf "subtract" "subtract" (defArgs s_subtract) (defBody s_subtract) (defScope s_subtract) .none kV12 dc12 pm12 an12 cd12 ct12), sl12⟩) (c12 : PySem.W.codeIn K cd12 "subtract" = true) (k12 : PySem.W.keepIn K (.ref f12) = true)
    (a13 : PySem.W.nsIn K mainGlobals "multiply" = some (some (.ref f13))) (l13 : K.lookup f13 = some ⟨oc13, od13, .func (PySem.W.fnOf "multiply" "multiply" (defArgs s_multiply) (defBody s_multiply) (defScope s_multiply) .none kV13 dc13 pm13 an13 cd13 ct13), sl13⟩) (c13 : PySem.W.codeIn K cd13 "multiply" = true) (k13 : PySem.W.keepIn K (.ref f13) = true)
    (a14 : PySem.W.nsIn K mainGlobals "_law_arithmetic" = some (some (.ref f14))) (l14 : K.lookup f14 = some ⟨oc14, od14, .func (PySem.W.fnOf "_law_arithmetic" "_law_arithmetic" (defArgs s__law_arithmetic) (defBody s__law_arithmetic) (defScope s__law_arithmetic) .none kV14 dc14 pm14 an14 cd14 ct14), sl14⟩) (c14 : PySem.W.codeIn K cd14 "_law_arithmetic" = true) (k14 : PySem.W.keepIn K (.ref f14) = true)
    (a15 : PySem.W.nsIn K mainGlobals "between" = some (some (.ref f15))) (l15 : K.lookup f15 = some ⟨oc15, od15, .func (PySem.W.fnOf "between" "between" (defArgs s_between) (defBody s_between) (defScope s_between) .none kV15 dc15 pm15 an15 cd15 ct15), sl15⟩) (c15 : PySem.W.codeIn K cd15 "between" = true) (k15 : PySem.W.keepIn K (.ref f15) = true)
    (a16 : PySem.W.nsIn K mainGlobals "_law_between" = some (some (.ref f16))) (l16 : K.lookup f16 = some ⟨oc16, od16, .func (PySem.W.fnOf "_law_between" "_law_between" (defArgs s__law_between) (defBody s__law_between) (defScope s__law_between) .none kV16 dc16 pm16 an16 cd16 ct16), sl16⟩) (c16 : PySem.W.codeIn K cd16 "_law_between" = true) (k16 : PySem.W.keepIn K (.ref f16) = true)
    (a17 : PySem.W.nsIn K mainGlobals "dot" = some (some (.ref f17))) (l17 : K.lookup f17 = some ⟨oc17, od17, .func (PySem.W.fnOf "dot" "dot" (defArgs s_dot) (defBody s_dot) (defScope s_dot) .none kV17 dc17 pm17 an17 cd17 ct17), sl17⟩) (c17 : PySem.W.codeIn K cd17 "dot" = true) (k17 : PySem.W.keepIn K (.ref f17) = true)
    (a18 : PySem.W.nsIn K mainGlobals "slack" = some (some (.ref f18))) (l18 : K.lookup f18 = some ⟨oc18, od18, .func (PySem.W.fnOf "slack" "slack" (defArgs s_slack) (defBody s_slack) (defScope s_slack) .none kV18 dc18 pm18 an18 cd18 ct18), sl18⟩) (c18 : PySem.W.codeIn K cd18 "slack" = true) (k18 : PySem.W.keepIn K (.ref f18) = true)
    (a19 : PySem.W.nsIn K mainGlobals "_law_sums" = some (some (.ref f19))) (l19 : K.lookup f19 = some ⟨oc19, od19, .func (PySem.W.fnOf "_law_sums" "_law_sums" (defArgs s__law_sums) (defBody s__law_sums) (defScope s__law_sums) .none kV19 dc19 pm19 an19 cd19 ct19), sl19⟩) (c19 : PySem.W.codeIn K cd19 "_law_sums" = true) (k19 : PySem.W.keepIn K (.ref f19) = true)
    (a20 : PySem.W.nsIn K mainGlobals "law" = some (some (.ref f20))) (l20 : K.lookup f20 = some ⟨oc20, od20, .func (PySem.W.fnOf "law" "law" (defArgs s_law) (defBody s_law) (defScope s_law) .none kV20 dc20 pm20 an20 cd20 ct20), sl20⟩) (c20 : PySem.W.codeIn K cd20 "law" = true) (k20 : PySem.W.keepIn K (.ref f20) = true)
    (z_abs : PySem.W.nsIn K mainGlobals "abs" = some none)
    (z_bool : PySem.W.nsIn K mainGlobals "bool" = some none)
    (z_int : PySem.W.nsIn K mainGlobals "int" = some none)
    (z_isinstance : PySem.W.nsIn K mainGlobals "isinstance" = some none)
    (z_len : PySem.W.nsIn K mainGlobals "len" = some none)
    (z_list : PySem.W.nsIn K mainGlobals "list" = some none)
    (z_range : PySem.W.nsIn K mainGlobals "range" = some none)
    (z_tuple : PySem.W.nsIn K mainGlobals "tuple" = some none)
    (z_zip : PySem.W.nsIn K mainGlobals "zip" = some none)
    (x_gcd : PySem.W.nsIn K mainGlobals "gcd" = some (some (.builtin "math.gcd")))
    : ∃ fd : FuncData, (∀ (s : Shared) (v : Value), BindsTo s fd ⟨[v], []⟩ [("script", v)]) ∧ ∀ base : Heap, K.In base → base.Ns mainGlobals mg → FnOk l.prog w K mg base CX0 6 fa fd ["script"] (spLaw K) := by
  have e := hfa.symm.trans (PySem.W.mg_of X G a20)
  cases e
  have F0 := fun_mk (st := s__law_state) l0 c0 k0
  have b0 := F0.binds (ps := ["script", "at"]) fun _ _ _ _ _ _ us hl => match us, hl with | [_, _], _ => rfl
  have F1 := fun_mk (st := s__law_pick) l1 c1 k1
  have b1 := F1.binds (ps := ["state", "size"]) fun _ _ _ _ _ _ us hl => match us, hl with | [_, _], _ => rfl
  have F2 := fun_mk (st := s__law_draw) l2 c2 k2
  have b2 := F2.binds (ps := ["state", "count", "size", "factor"]) fun _ _ _ _ _ _ us hl => match us, hl with | [_, _, _, _], _ => rfl
  have F3 := fun_mk (st := s__law_gcd) l3 c3 k3
  have b3 := F3.binds (ps := ["numbers"]) fun _ _ _ _ _ _ us hl => match us, hl with | [_], _ => rfl
  have F4 := fun_mk (st := s__law_are_integers) l4 c4 k4
  have b4 := F4.binds (ps := ["told", "count"]) fun _ _ _ _ _ _ us hl => match us, hl with | [_, _], _ => rfl
  have F5 := fun_mk (st := s__law_is_lowest) l5 c5 k5
  have b5 := F5.binds (ps := ["told", "numbers"]) fun _ _ _ _ _ _ us hl => match us, hl with | [_, _], _ => rfl
  have F6 := fun_mk (st := s__law_stands) l6 c6 k6
  have b6 := F6.binds (ps := ["told", "numerators", "denominator"]) fun _ _ _ _ _ _ us hl => match us, hl with | [_, _, _], _ => rfl
  have F7 := fun_mk (st := s_compare) l7 c7 k7
  have b7 := F7.binds (ps := ["first", "second"]) fun _ _ _ _ _ _ us hl => match us, hl with | [_, _], _ => rfl
  have F8 := fun_mk (st := s_lowest) l8 c8 k8
  have b8 := F8.binds (ps := ["numbers"]) fun _ _ _ _ _ _ us hl => match us, hl with | [_], _ => rfl
  have F9 := fun_mk (st := s_point) l9 c9 k9
  have b9 := F9.binds (ps := ["numerators", "denominator"]) fun _ _ _ _ _ _ us hl => match us, hl with | [_, _], _ => rfl
  have F10 := fun_mk (st := s_ratio) l10 c10 k10
  have b10 := F10.binds (ps := ["numerator", "denominator"]) fun _ _ _ _ _ _ us hl => match us, hl with | [_, _], _ => rfl
  have F11 := fun_mk (st := s_add) l11 c11 k11
  have b11 := F11.binds (ps := ["first", "second"]) fun _ _ _ _ _ _ us hl => match us, hl with | [_, _], _ => rfl
  have F12 := fun_mk (st := s_subtract) l12 c12 k12
  have b12 := F12.binds (ps := ["first", "second"]) fun _ _ _ _ _ _ us hl => match us, hl with | [_, _], _ => rfl
  have F13 := fun_mk (st := s_multiply) l13 c13 k13
  have b13 := F13.binds (ps := ["first", "second"]) fun _ _ _ _ _ _ us hl => match us, hl with | [_, _], _ => rfl
  have F14 := fun_mk (st := s__law_arithmetic) l14 c14 k14
  have b14 := F14.binds (ps := ["state", "size"]) fun _ _ _ _ _ _ us hl => match us, hl with | [_, _], _ => rfl
  have F15 := fun_mk (st := s_between) l15 c15 k15
  have b15 := F15.binds (ps := ["first", "second", "share"]) fun _ _ _ _ _ _ us hl => match us, hl with | [_, _, _], _ => rfl
  have F16 := fun_mk (st := s__law_between) l16 c16 k16
  have b16 := F16.binds (ps := ["state", "size", "count"]) fun _ _ _ _ _ _ us hl => match us, hl with | [_, _, _], _ => rfl
  have F17 := fun_mk (st := s_dot) l17 c17 k17
  have b17 := F17.binds (ps := ["first", "second"]) fun _ _ _ _ _ _ us hl => match us, hl with | [_, _], _ => rfl
  have F18 := fun_mk (st := s_slack) l18 c18 k18
  have b18 := F18.binds (ps := ["row", "place"]) fun _ _ _ _ _ _ us hl => match us, hl with | [_, _], _ => rfl
  have F19 := fun_mk (st := s__law_sums) l19 c19 k19
  have b19 := F19.binds (ps := ["state", "size", "count"]) fun _ _ _ _ _ _ us hl => match us, hl with | [_, _, _], _ => rfl
  have F20 := fun_mk (st := s_law) l20 c20 k20
  have b20 := F20.binds (ps := ["script"]) fun _ _ _ _ _ _ us hl => match us, hl with | [_], _ => rfl
  let T : Tx K mg := ⟨f0, _, F0, PySem.W.mg_of X G a0, b0, f1, _, F1, PySem.W.mg_of X G a1, b1, f2, _, F2, PySem.W.mg_of X G a2, b2, f3, _, F3, PySem.W.mg_of X G a3, b3, f4, _, F4, PySem.W.mg_of X G a4, b4, f5, _, F5, PySem.W.mg_of X G a5, b5, f6, _, F6, PySem.W.mg_of X G a6, b6, f7, _, F7, PySem.W.mg_of X G a7, b7, f8, _, F8, PySem.W.mg_of X G a8, b8, f9, _, F9, PySem.W.mg_of X G a9, b9, f10, _, F10, PySem.W.mg_of X G a10, b10, f11, _, F11, PySem.W.mg_of X G a11, b11, f12, _, F12, PySem.W.mg_of X G a12, b12, f13, _, F13, PySem.W.mg_of X G a13, b13, f14, _, F14, PySem.W.mg_of X G a14, b14, f15, _, F15, PySem.W.mg_of X G a15, b15, f16, _, F16, PySem.W.mg_of X G a16, b16, f17, _, F17, PySem.W.mg_of X G a17, b17, f18, _, F18, PySem.W.mg_of X G a18, b18, f19, _, F19, PySem.W.mg_of X G a19, b19, fa, _, F20, PySem.W.mg_of X G a20, b20, PySem.W.mg_none_of X G z_abs, PySem.W.mg_none_of X G z_bool, PySem.W.mg_none_of X G z_int, PySem.W.mg_none_of X G z_isinstance, PySem.W.mg_none_of X G z_len, PySem.W.mg_none_of X G z_list, PySem.W.mg_none_of X G z_range, PySem.W.mg_none_of X G z_tuple, PySem.W.mg_none_of X G z_zip, PySem.W.mg_of X G x_gcd⟩
  exact ⟨_, fun s v => .of_eq rfl, fun base _ _ => (ok_law T).imp (law_sp hm)⟩
end Law

set_option exponentiation.threshold 20000
set_option maxHeartbeats 4000000
namespace Mir
open PySem L2
local macro_rules
  | `(tactic| walk_at "op") => `(tactic| first
      | exact opAdd_int _ _
      | exact opSub_int _ _
      | exact opMul_sz (by decide)
      | exact opNeg_int _
      | exact opCmp_int _ _ _
      | exact opEq_int _ _ _
      | exact opMod_pos (by first | assumption | decide | omega)
      | exact opDiv_sz (by first | assumption | decide | omega) (by decide)
      | exact opEq_lst _ _ _
      | exact opEq_tup _ _ _
      | exact ix_iL (by first | assumption | omega)
      | exact ix_iLT (by first | assumption | omega)
      | exact rfl)
local macro_rules
  | `(tactic| walk_at "len") => `(tactic| first | decide | (simp only [List.length_cons, List.length_nil, List.length_map, List.length_append]; first | decide | omega))
local macro_rules
  | `(tactic| walk_at "ev") => `(tactic| first
      | with_reducible exact e_rnil
      | focus
          with_reducible apply e_rcons
          walk_at "ev"
          walk_at "ev"
      | focus
          with_reducible apply e_r2p
          walk_at "ev"
          walk_at "ev"
          walk_at "op"
      | focus
          with_reducible apply e_r1p
          walk_at "ev"
          walk_at "op"
      | focus
          with_reducible apply e_rNp
          walk_at "ev"
          walk_at "op"
      | focus
          with_reducible apply e_rtup
          walk_at "ev"
          exact rfl
          walk_at "len"
      | focus
          with_reducible apply e_rlst
          walk_at "ev"
          exact rfl
          walk_at "len"
      | focus
          with_reducible apply e_rb
          walk_at "ev"
          exact rfl
      | focus
          with_reducible apply e_not
          walk_at "ev"
      | focus
          with_reducible apply e_and
          walk_at "ev"
          intro
          walk_at "ev"
      | focus
          with_reducible apply e_or
          walk_at "ev"
          intro
          walk_at "ev"
      | focus
          with_reducible apply e_seqS
          walk_at "ev"
          exact rfl
      | exact rfl)
example (x y : Int) [Sz x 100] [Sz y 100] : ∃ d, r2 opAdd (r2 opMul (rv 0) (rv 1)) (rc (.int 5)) [some (.pl (.int x)), some (.pl (.int y))] = some d ∧ d = .pl (.int (x * y + 5)) := by
  refine ⟨_, by walk_at "ev", rfl⟩
end Mir
namespace Law
open PySem PySem.Spec L2 Mir
local macro_rules
  | `(tactic| walk_at "op") => `(tactic| first
      | exact opAdd_int _ _
      | exact opSub_int _ _
      | exact opMul_sz (by decide)
      | exact opNeg_int _
      | exact opCmp_int _ _ _
      | exact opEq_int _ _ _
      | exact opMod_pos (by first | assumption | decide | omega)
      | exact opDiv_sz (by first | assumption | decide | omega) (by decide)
      | exact opEq_lst _ _ _
      | exact opEq_tup _ _ _
      | exact ix_iL (by first | assumption | omega)
      | exact ix_iLT (by first | assumption | omega)
      | exact rfl)
local macro_rules
  | `(tactic| walk_at "len") => `(tactic| first | decide | (simp only [List.length_cons, List.length_nil, List.length_map, List.length_append]; first | decide | omega))
local macro_rules
  | `(tactic| walk_at "ev") => `(tactic| first
      | with_reducible exact e_rnil
      | focus
          with_reducible apply e_rcons
          walk_at "ev"
          walk_at "ev"
      | focus
          with_reducible apply e_r2p
          walk_at "ev"
          walk_at "ev"
          walk_at "op"
      | focus
          with_reducible apply e_r1p
          walk_at "ev"
          walk_at "op"
      | focus
          with_reducible apply e_rNp
          walk_at "ev"
          walk_at "op"
      | focus
          with_reducible apply e_rtup
          walk_at "ev"
          exact rfl
          walk_at "len"
      | focus
          with_reducible apply e_rlst
          walk_at "ev"
          exact rfl
          walk_at "len"
      | focus
          with_reducible apply e_rb
          walk_at "ev"
          exact rfl
      | focus
          with_reducible apply e_not
          walk_at "ev"
      | focus
          with_reducible apply e_and
          walk_at "ev"
          intro
          walk_at "ev"
      | focus
          with_reducible apply e_or
          walk_at "ev"
          intro
          walk_at "ev"
      | focus
          with_reducible apply e_seqS
          walk_at "ev"
          exact rfl
      | exact rfl)
/-- a state of the drawing -/
def StT (t : T) : Prop := ∃ a b : Int, t = .ol [.int a, .int b] ∧ 0 ≤ b ∧ b < 2147483647
theorem pick_ok {a b n : Int} {N : Nat} [hs : Sz n N] (hN : N < 9000) (hn : 0 < n) (h0 : 0 ≤ b) (h1 : b < 2147483647) : WF (m__law_pick [.ol [.int a, .int b], .pl (.int n)]) fun t o => ∃ r a' b', t = .pl (.int r) ∧ 0 ≤ r ∧ r < n ∧ o = [.ol [.int a', .int b'], .pl (.int n)] ∧ 0 ≤ b' ∧ b' < 2147483647 := by
  have m0 := Int.emod_nonneg a (show n ≠ 0 by omega)
  have m1 := Int.emod_lt_of_pos a hn
  refine w_fn rfl (w_seq (w_ifr rfl (fun hc => ?_) fun hc => ?_))
  · refine w_seq (w_setR (e_r2p rfl rfl (opMod_pos hn)) rfl (w_nx (w_seq (w_setix ?_))))
    refine w_r (e_r2p rfl rfl (opDiv_sz hn hN)) ⟨_, _, 0, rfl, rfl, rfl, w_nx (w_retR rfl (w_rt (fn_rt rfl ⟨_, _, _, rfl, m0, m1, rfl, h0, h1⟩)))⟩
  · have sb : Sz b 31 := ⟨by omega⟩
    have q0 := Int.emod_nonneg (b * 48271 + 11) (show (2147483647 : Int) ≠ 0 by decide)
    have q1 := Int.emod_lt_of_pos (b * 48271 + 11) (show (0 : Int) < 2147483647 by decide)
    have sc : Sz ((b * 48271 + 11) % 2147483647) 31 := ⟨by omega⟩
    refine w_skip (w_nx (w_seq (w_setix (w_r (d := .int ((b * 48271 + 11) % 2147483647)) ?_ ⟨_, _, 1, rfl, rfl, rfl, w_nx ?_⟩))))
    · refine e_r2p (e_rNp (e_rcons (e_r2p (e_r2p rfl rfl (opMul_sz (by decide))) rfl (opAdd_int _ _)) e_rnil) rfl) rfl (opMod_pos (by decide))
    · refine w_retR (e_r2p (e_rNp (e_rcons (e_r2p (e_r2p rfl rfl (opMul_sz (by decide))) (e_r2p rfl rfl (opDiv_sz (by decide) (by decide))) (opAdd_int _ _)) e_rnil) rfl) rfl (opMod_pos hn)) ?_
      exact fn_rt rfl ⟨_, _, _, rfl, Int.emod_nonneg _ (by omega), Int.emod_lt_of_pos _ hn, rfl, q0, q1⟩
/-! gcd -/
def gcdL (xs : List Int) : Nat := xs.foldl (fun g x => Nat.gcd g x.natAbs) 0
theorem half_mod {f a : Nat} (ha : 0 < a) (h : a ≤ f) : 2 * (f % a) < f := by
  have h1 := Nat.mod_lt f ha
  have h2 := Nat.div_add_mod f a
  have h3 : 1 ≤ f / a := Nat.div_pos h ha
  have h4 : a ≤ a * (f / a) := Nat.le_mul_of_pos_right a h3
  omega
theorem gcd_step {f a n : Nat} (ha : 0 < a) (h : a ≤ f) (hp : f * a < 2 ^ (n + 1)) : a * (f % a) < 2 ^ n := by
  have h1 := half_mod ha h
  have h2 : a * (2 * (f % a)) ≤ a * f := Nat.mul_le_mul_left a (by omega)
  rw [Nat.pow_succ] at hp
  have h3 : a * (2 * (f % a)) = 2 * (a * (f % a)) := by rw [Nat.mul_left_comm]
  have h4 : a * f = f * a := Nat.mul_comm _ _
  by_cases h5 : a * (f % a) = 0
  · rw [h5]; exact Nat.pow_pos (by decide)
  · have : a * (2 * (f % a)) < a * f := Nat.mul_lt_mul_of_pos_left h1 ha
    omega
/-- what holds before an inner turn -/
def GI (g n f a : Nat) : Prop := Nat.gcd f a = g ∧ ((a ≤ f ∧ f * a < 2 ^ n) ∨ (f < a ∧ f * a < 2 ^ (n - 1) ∧ 0 < n))
theorem GI.step {g n f a : Nat} (ha : 0 < a) (h : GI g (n + 1) f a) : GI g n a (f % a) := by
  obtain ⟨h1, h2⟩ := h
  refine ⟨?_, .inl ?_⟩
  · rw [← h1, Nat.gcd_comm f a, Nat.gcd_rec a f, Nat.gcd_comm]
  · rcases h2 with ⟨h3, h4⟩ | ⟨h3, h4, _⟩
    · exact ⟨Nat.le_of_lt (Nat.mod_lt f ha), gcd_step ha h3 h4⟩
    · refine ⟨Nat.le_of_lt (Nat.mod_lt f ha), ?_⟩
      rw [Nat.mod_eq_of_lt h3, Nat.mul_comm]
      simpa using h4
theorem GI.zero {g f a : Nat} (h : GI g 0 f a) : a = 0 ∧ f = g := by
  obtain ⟨h1, ⟨h3, h4⟩ | ⟨_, _, h⟩⟩ := h
  · have h4 : f = 0 ∨ a = 0 := by
      have : f * a = 0 := by omega
      exact Nat.mul_eq_zero.mp this
    rcases h4 with h4 | h4
    · subst h4
      have : a = 0 := by omega
      subst this
      exact ⟨rfl, h1⟩
    · subst h4
      exact ⟨rfl, by simpa using h1⟩
  · omega
theorem gcdL_lt {xs : List Int} {n : Nat} (h : ∀ x ∈ xs, x.natAbs < 2 ^ n) : gcdL xs < 2 ^ n := by
  unfold gcdL
  suffices ∀ (g : Nat), g < 2 ^ n → xs.foldl (fun g x => Nat.gcd g x.natAbs) g < 2 ^ n from this 0 (Nat.pow_pos (by decide))
  induction xs with
  | nil => intro g hg; exact hg
  | cons x xs ih =>
    intro g hg
    refine ih (fun y hy => h y (List.mem_cons_of_mem _ hy)) _ ?_
    rcases Nat.eq_zero_or_pos g with h0 | h0
    · subst h0
      show Nat.gcd 0 x.natAbs < 2 ^ n
      rw [Nat.gcd_zero_left]; exact h x (by simp)
    · exact Nat.lt_of_le_of_lt (Nat.gcd_le_left _ h0) hg
theorem abs_if (x : Int) : (if x < 0 then -x else x) = (x.natAbs : Int) := by split <;> omega
theorem law_gcd_ok {xs : List Int} (h : ∀ x ∈ xs, x.natAbs < 2 ^ 399) : m__law_gcd [.pl (.lst (iL xs))] = .ok (.pl (.int (gcdL xs : Nat))) [.pl (.lst (iL xs))] := by
  refine WF.is (w_fn rfl (w_seq (w_setR rfl rfl (w_nx (w_seq (w_for (w_seqS (w_r rfl ⟨_, rfl, ?_⟩))))))))
  refine w_forL (fun r e => ∃ (g : Nat) (ys : List Int) (s2 s3 s4 s5 : Option T), r = iL ys ∧ (∀ y ∈ ys, y.natAbs < 2 ^ 399) ∧ g < 2 ^ 399 ∧ ys.foldl (fun g x => Nat.gcd g x.natAbs) g = gcdL xs ∧ e = [some (.pl (.lst (iL xs))), some (.pl (.int (g : Nat))), s2, s3, s4, s5]) ?_ ?_ ?_
  · exact ⟨0, xs, none, none, none, none, rfl, h, Nat.pow_pos (by decide), rfl, rfl⟩
  · rintro d r e ⟨g, ys, s2, s3, s4, s5, hr, hy, hg, hf, rfl⟩
    cases ys with
    | nil => cases hr
    | cons y ys =>
      injection hr with hd hr
      subst hd hr
      have hy0 := hy y (by simp)
      refine ⟨_, rfl, w_seq (w_setR (e_rNp (e_rcons rfl e_rnil) rfl) rfl (w_nx (w_seq (w_for ?_))))⟩
      rw [abs_if]
      refine w_src (w_mcons (w_r rfl (w_mnil ⟨_, rng1 (by decide : 800 < 1000000), ?_⟩)))
      refine W.mono (Q := fun fl e => fl = .nx ∧ ∃ (s4 s5 : Option T), e = [some (.pl (.lst (iL xs))), some (.pl (.int (Nat.gcd g y.natAbs : Nat))), some (.pl (.int y)), some (.pl (.int 0)), s4, s5]) (w_forL (fun r e => ∃ (f a : Nat) (s4 s5 : Option T), GI (Nat.gcd g y.natAbs) r.length f a ∧ e = [some (.pl (.lst (iL xs))), some (.pl (.int (f : Nat))), some (.pl (.int y)), some (.pl (.int (a : Nat))), s4, s5]) ?_ ?_ ?_) ?_
      · refine ⟨g, y.natAbs, s4, s5, ⟨rfl, ?_⟩, rfl⟩
        have hm : g * y.natAbs < 2 ^ (399 + 399) := by
          rw [Nat.pow_add]
          exact Nat.mul_lt_mul'' hg hy0
        have l : (iL ((List.range 800).map fun k : Nat => (k : Int))).length = 800 := by simp [iL]
        rw [l]
        by_cases hc : y.natAbs ≤ g
        · exact .inl ⟨hc, Nat.lt_of_lt_of_le hm (Nat.pow_le_pow_right (by decide) (by decide))⟩
        · exact .inr ⟨by omega, Nat.lt_of_lt_of_le hm (Nat.pow_le_pow_right (by decide) (by decide)), by decide⟩
      · rintro d r e ⟨f, a, s4, s5, hi, rfl⟩
        refine ⟨_, rfl, w_seq (w_ifr (e_rb (e_r2p rfl rfl (opEq_int _ _ _)) rfl) (fun hc => ?_) fun hc => ?_)⟩
        · have ha : a = 0 := by simpa using hc
          subst ha
          refine w_brk (w_bk (f_bk ⟨rfl, some (.pl d), s5, ?_⟩))
          have e := hi.1
          rw [Nat.gcd_zero_right] at e
          rw [← e]
          rfl
        · have ha : a ≠ 0 := by simpa using hc
          refine w_skip (w_nx (w_seq (w_setR (e_r2p (e_rNp (e_rcons rfl e_rnil) rfl) rfl (opMod_pos (by omega))) rfl (w_nx (w_seq (w_setR rfl rfl (w_nx (w_setR rfl rfl (f_nx ?_)))))))))
          exact ⟨a, f % a, _, _, GI.step (by omega) hi, rfl⟩
      · rintro e ⟨f, a, s4, s5, hi, rfl⟩
        obtain ⟨rfl, rfl⟩ := hi.zero
        exact ⟨rfl, _, _, rfl⟩
      · rintro fl e ⟨rfl, s4, s5, rfl⟩
        refine w_nx (w_ifr rfl (fun hc => by cases hc) fun hc => w_skip (f_nx ?_))
        refine ⟨_, ys, _, _, _, _, rfl, fun z hz => hy z (List.mem_cons_of_mem _ hz), ?_, hf, rfl⟩
        have := gcdL_lt (xs := [(g : Int), y]) (n := 399) (by
          intro x hx
          simp at hx
          rcases hx with rfl | rfl
          · exact hg
          · exact hy0)
        simpa [gcdL] using this
  · rintro e ⟨g, ys, s2, s3, s4, s5, hr, hy, hg, hf, rfl⟩
    cases ys with
    | cons y ys => cases hr
    | nil =>
      refine w_nx (w_retR rfl (fn_rt rfl ⟨?_, rfl⟩))
      rw [← hf]; rfl
/-! lowest terms -/
def lowestL (xs : List Int) : List Int := if gcdL xs < 2 then xs else xs.map (· / (gcdL xs : Int))
theorem gcdL_dvd_aux : ∀ (xs : List Int) (g : Nat), xs.foldl (fun g x => Nat.gcd g x.natAbs) g ∣ g ∧ ∀ x ∈ xs, xs.foldl (fun g x => Nat.gcd g x.natAbs) g ∣ x.natAbs
  | [], g => ⟨Nat.dvd_refl g, by simp⟩
  | x :: xs, g => by
    obtain ⟨h1, h2⟩ := gcdL_dvd_aux xs (Nat.gcd g x.natAbs)
    refine ⟨Nat.dvd_trans h1 (Nat.gcd_dvd_left _ _), fun y hy => ?_⟩
    rcases List.mem_cons.mp hy with rfl | hy
    · exact Nat.dvd_trans h1 (Nat.gcd_dvd_right _ _)
    · exact h2 y hy
theorem gcdL_dvd {xs : List Int} {x : Int} (h : x ∈ xs) : (gcdL xs : Int) ∣ x := Int.ofNat_dvd_left.mpr ((gcdL_dvd_aux xs 0).2 x h)
theorem gcdL_zero {xs : List Int} (h : gcdL xs = 0) : ∀ x ∈ xs, x = 0 := fun x hx => by
  have := gcdL_dvd hx
  rw [h] at this
  exact Int.zero_dvd.mp (by simpa using this)
/-- the law's divisor -/
def divL (xs : List Int) : Int := if gcdL xs = 0 then 1 else (gcdL xs : Int)
theorem lowestL_length (xs : List Int) : (lowestL xs).length = xs.length := by unfold lowestL; split <;> simp
theorem lowestL_mul {xs : List Int} {k : Nat} (h : k < xs.length) : (lowestL xs).getD k 0 * divL xs = xs.getD k 0 := by
  unfold lowestL divL
  by_cases h0 : gcdL xs = 0
  · rw [if_pos (by omega), if_pos h0, Int.mul_one]
  · rw [if_neg h0]
    by_cases h1 : gcdL xs < 2
    · rw [if_pos h1, show gcdL xs = 1 by omega]; simp
    · rw [if_neg h1, getD_map (fun x : Int => x / (gcdL xs : Int)) xs k 0 0 h]
      refine Int.ediv_mul_cancel (gcdL_dvd ?_)
      rw [List.getD_eq_getElem?_getD, List.getElem?_eq_getElem h]
      exact List.getElem_mem h
theorem lowestL_sz {xs : List Int} {n : Nat} (h : ∀ x ∈ xs, x.natAbs < 2 ^ n) : ∀ x ∈ lowestL xs, x.natAbs < 2 ^ n := by
  unfold lowestL
  split
  · exact h
  · intro y hy
    obtain ⟨x, hx, rfl⟩ := List.mem_map.mp hy
    exact Nat.lt_of_le_of_lt (Int.natAbs_ediv_le_natAbs _ _) (h x hx)
theorem lowest_go {xs : List Int} (h : ∀ x ∈ xs, x.natAbs < 2 ^ 8000) (hl : xs.length < 1000000) {d : D} (hd : seqD d = some (iL xs)) (ha : (T.pl d).asS = some (iL xs)) : m_lowest [.pl d] = .ok (.pl (.tup (iL (lowestL xs)))) [.pl d] := by
  have e1 : opTuple [.pl d] = some (.pl (.tup (iL xs))) := by
    show ((T.pl d).asS.map fun xs => _) = _
    rw [ha]; rfl
  refine WF.is (w_fn rfl (w_seq (w_setR rfl rfl (w_nx (w_seq (w_for (w_seqS (w_r rfl ⟨iL xs, hd, ?_⟩))))))))
  refine w_forL (fun r e => ∃ (g : Nat) (ys : List Int) (s2 : Option T), r = iL ys ∧ ys.foldl (fun g x => Nat.gcd g x.natAbs) g = gcdL xs ∧ e = [some (.pl d), some (.pl (.int (g : Nat))), s2]) ?_ ?_ ?_
  · exact ⟨0, xs, none, rfl, rfl, rfl⟩
  · rintro d r e ⟨g, ys, s2, hr, hf, rfl⟩
    cases ys with
    | nil => cases hr
    | cons y ys =>
      injection hr with hd hr
      subst hd hr
      refine ⟨_, rfl, w_setR (e_rNp (e_rcons rfl (e_rcons rfl e_rnil)) rfl) rfl (f_nx ?_)⟩
      exact ⟨_, ys, _, rfl, hf, rfl⟩
  · rintro e ⟨g, ys, s2, hr, hf, rfl⟩
    cases ys with
    | cons y ys => cases hr
    | nil =>
      have hg : g = gcdL xs := hf
      subst hg
      refine w_nx (w_seq (w_ifr (e_rb (e_r2p rfl rfl (opCmp_int _ _ _)) rfl) (fun hc => ?_) fun hc => ?_))
      · have hc : gcdL xs < 2 := by
          have := of_decide_eq_true hc
          omega
        refine w_retR (e_rNp (e_rcons rfl e_rnil) e1) (w_rt (fn_rt rfl ⟨?_, rfl⟩))
        unfold lowestL; rw [if_pos hc]
      · have hc : ¬ gcdL xs < 2 := by
          have := of_decide_eq_false hc
          omega
        have hp : (0 : Int) < (gcdL xs : Int) := by omega
        have : Sz (gcdL xs : Int) 8000 := ⟨by rw [Int.natAbs_natCast]; exact gcdL_lt h⟩
        refine w_skip (w_nx (w_retR (e_rNp (e_rcons (e_compI (xs := xs) (fun x => x / (gcdL xs : Int)) (e_seqS rfl hd) hl (fun x hx => ⟨_, rfl, e_r2p rfl rfl (opDiv_sz hp (by decide))⟩)) e_rnil) rfl) (fn_rt rfl ⟨?_, rfl⟩)))
        unfold lowestL; rw [if_neg hc]
theorem lowest_lst {xs : List Int} (h : ∀ x ∈ xs, x.natAbs < 2 ^ 8000) (hl : xs.length < 1000000) : m_lowest [.pl (.lst (iL xs))] = .ok (.pl (.tup (iL (lowestL xs)))) [.pl (.lst (iL xs))] := lowest_go h hl rfl rfl
theorem lowest_tup {xs : List Int} (h : ∀ x ∈ xs, x.natAbs < 2 ^ 8000) (hl : xs.length < 1000000) : m_lowest [.pl (.tup (iL xs))] = .ok (.pl (.tup (iL (lowestL xs)))) [.pl (.tup (iL xs))] := lowest_go h hl rfl rfl
/-! checks of the law -/
theorem are_ints_ok {xs : List Int} : m__law_are_integers [.pl (.tup (iL xs)), .pl (.int (xs.length : Nat))] = .ok (.pl (.bl true)) [.pl (.tup (iL xs)), .pl (.int (xs.length : Nat))] := by
  refine WF.is (w_fn rfl (w_seq (w_ifr (c := false) ?_ (fun hc => by cases hc) fun _ => w_skip (w_nx (w_seq (w_for (w_seqS (w_r rfl ⟨_, rfl, ?_⟩))))))))
  · refine (e_or (x := false) rfl fun _ => e_rb (e_r2p (e_rNp (e_rcons rfl e_rnil) rfl) rfl (opEq_int _ _ _)) rfl).trans ?_
    simp [iL]
  · refine w_forL (fun r e => ∃ (ys : List Int) (s2 : Option T), r = iL ys ∧ e = [some (.pl (.tup (iL xs))), some (.pl (.int (xs.length : Nat))), s2]) ?_ ?_ ?_
    · exact ⟨xs, none, rfl, rfl⟩
    · rintro d r e ⟨ys, s2, hr, rfl⟩
      cases ys with
      | nil => cases hr
      | cons y ys =>
        injection hr with hd hr
        subst hd hr
        exact ⟨_, rfl, w_ifr (c := false) rfl (fun hc => by cases hc) fun _ => w_skip (f_nx ⟨ys, _, rfl, rfl⟩)⟩
    · rintro e ⟨ys, s2, hr, rfl⟩
      exact w_nx (w_retR rfl (fn_rt rfl ⟨rfl, rfl⟩))
theorem divL_sz {xs : List Int} {n : Nat} (h : ∀ x ∈ xs, x.natAbs < 2 ^ n) : Sz (divL xs) (n + 1) := ⟨by
  unfold divL
  split
  · exact Nat.one_lt_two_pow (by omega)
  · rw [Int.natAbs_natCast]; exact Nat.lt_of_lt_of_le (gcdL_lt h) (Nat.pow_le_pow_right (by decide) (by omega))⟩
theorem is_lowest_loop {xs : List Int} {F : Fl → Slots → Prop} (hb : ∀ x ∈ xs, x.natAbs < 2 ^ 399) (hl : xs.length < 1000000)
    (hF : F (.rt (.pl (.bl true))) [some (.pl (.tup (iL (lowestL xs)))), some (.pl (.lst (iL xs))), some (.pl (.int (divL xs))), none] ∨ True)
    (hR : ∀ s3, F (.rt (.pl (.bl true))) [some (.pl (.tup (iL (lowestL xs)))), some (.pl (.lst (iL xs))), some (.pl (.int (divL xs))), s3]) :
    W (mSeq (mFor (stN 3) (mSrc rngD1 (mcons (ofR (rN opLen (rcons (rv 1) rnil))) mnil)) (mIfS (ofRB (rb asB (r2 (opEq true) (r2 opMul (r2 opIx (rv 0) (rv 3)) (rv 2)) (r2 opIx (rv 1) (rv 3))))) (mRet (ofR (rc (.bl false)))) mSkip)) (mRet (ofR (rc (.bl true)))) [some (.pl (.tup (iL (lowestL xs)))), some (.pl (.lst (iL xs))), some (.pl (.int (divL xs))), none]) F := by
  have el : opLen [.pl (.lst (iL xs))] = some (.pl (.int (xs.length : Nat))) := by
    show some (T.pl (D.int ((iL xs).length : Nat))) = _
    rw [List.length_map]
  have sd := divL_sz hb
  refine w_seq (w_for (w_src (w_mcons (w_r (d := .int (xs.length : Nat)) (e_rNp (e_rcons rfl e_rnil) el) (w_mnil ⟨_, rng1 hl, ?_⟩)))))
  refine w_forN (fun k e => ∃ s3, e = [some (.pl (.tup (iL (lowestL xs)))), some (.pl (.lst (iL xs))), some (.pl (.int (divL xs))), s3]) ⟨none, rfl⟩ ?_ ?_
  · rintro k d e hk0 ⟨s3, rfl⟩
    obtain ⟨hk, hd⟩ := rng_at hk0
    subst hd
    have s1 : Sz ((lowestL xs).getD k 0) 399 := ⟨by
      have hk' : k < (lowestL xs).length := by rw [lowestL_length]; exact hk
      rw [List.getD_eq_getElem?_getD, List.getElem?_eq_getElem hk']
      exact lowestL_sz hb _ (List.getElem_mem hk')⟩
    refine ⟨_, rfl, w_ifr (c := false) ?_ (fun hc => by cases hc) fun _ => w_skip (f_nx ⟨_, rfl⟩)⟩
    refine (e_rb (e_r2p (e_r2p (e_r2p rfl rfl (ix_iLT (by rw [lowestL_length]; exact hk))) rfl (opMul_sz (by omega))) (e_r2p rfl rfl (ix_iL hk)) (opEq_int _ _ _)) rfl).trans ?_
    rw [lowestL_mul hk]; simp
  · rintro e ⟨s3, rfl⟩
    exact w_nx (w_retR rfl (hR _))
theorem is_lowest_ok {xs : List Int} (hb : ∀ x ∈ xs, x.natAbs < 2 ^ 399) (hl : xs.length < 1000000) : m__law_is_lowest [.pl (.tup (iL (lowestL xs))), .pl (.lst (iL xs))] = .ok (.pl (.bl true)) [.pl (.tup (iL (lowestL xs))), .pl (.lst (iL xs))] := by
  have ek : m__law_are_integers [.pl (.tup (iL (lowestL xs))), .pl (.int (xs.length : Nat))] = .ok (.pl (.bl true)) [.pl (.tup (iL (lowestL xs))), .pl (.int (xs.length : Nat))] := by
    have := are_ints_ok (xs := lowestL xs)
    rw [lowestL_length] at this
    exact this
  have el : opLen [.pl (.lst (iL xs))] = some (.pl (.int (xs.length : Nat))) := by
    show some (T.pl (D.int ((iL xs).length : Nat))) = _
    rw [List.length_map]
  refine WF.is (w_fn rfl (w_seq (w_ifr (c := false) (e_not (x := true) (e_rb (e_call (e_rcons rfl (e_rcons (e_rNp (e_rcons rfl e_rnil) el) e_rnil)) ek rfl) rfl)) (fun hc => by cases hc) fun _ => w_skip (w_nx (w_seq (w_setR (e_call (e_rcons rfl e_rnil) (law_gcd_ok hb) rfl) rfl (w_nx ?_)))))))
  refine w_seq (W.mono (Q := fun fl e => fl = .nx ∧ e = [some (.pl (.tup (iL (lowestL xs)))), some (.pl (.lst (iL xs))), some (.pl (.int (divL xs))), none]) (w_ifr (e_rb (e_r2p rfl rfl (opEq_int _ _ _)) rfl) (fun hc => ?_) fun hc => ?_) ?_)
  · have hc : gcdL xs = 0 := by simpa using hc
    refine w_setR rfl rfl ⟨rfl, ?_⟩
    unfold divL; rw [if_pos hc]; rfl
  · have hc : gcdL xs ≠ 0 := by simpa using hc
    refine w_skip ⟨rfl, ?_⟩
    unfold divL; rw [if_neg hc]; rfl
  · rintro fl e ⟨rfl, rfl⟩
    exact w_nx (is_lowest_loop hb hl (.inr trivial) fun s3 => fn_rt rfl ⟨rfl, rfl⟩)
/-! drawing -/
def OkB (b : Int) : Prop := 0 ≤ b ∧ b < 2147483647
theorem w_pick {μ : Rd T} {env : Slots} {i : Nat} {a b n : Int} {N : Nat} {R : T → Slots → Prop} (hs : Sz n N) (hN : N < 9000) (hn : 0 < n) (h0 : env[i]? = some (some (.ol [.int a, .int b]))) (hb : OkB b) (hρ : μ env = some (.pl (.int n)))
    (h : ∀ r a' b', 0 ≤ r → r < n → OkB b' → R (.pl (.int r)) (env.set i (some (.ol [.int a', .int b'])))) : W (mCall m__law_pick (pslot i (pval (ofR μ) pnil)) env) R := by
  have hi : i < env.length := (List.getElem?_eq_some_iff.mp h0).1
  refine w_call (w_pslot h0 (w_pval (w_r hρ (w_pnil ⟨[.ol [.int a, .int b], .pl (.int n)], env.set i none, ?_, ?_⟩))))
  · unfold takeAll
    rw [h0]
    rfl
  · refine (pick_ok hN hn hb.1 hb.2).mono fun t o h1 => ?_
    obtain ⟨r, a', b', rfl, q0, q1, rfl, q2, q3⟩ := h1
    have := h r a' b' q0 q1 ⟨q2, q3⟩
    unfold backAll backAll backAll
    rw [List.set_set]
    exact this
theorem w_drawn {j n : Nat} {src : M (List D)} {el : M T} {E : Int → Int → Slots} {E1 : D → Int → Int → Slots} {P : Int → Prop} {R : T → Slots → Prop} {a b : Int} (hn : n < 1000000)
    (hsrc : ∀ {L : List D → Slots → Prop}, L (iL ((List.range n).map fun k : Nat => (k : Int))) (E a b) → W (src (E a b)) L) (hb : OkB b) (hw : wipeS (E a b) [j] = E a b) (hr : ∀ a' b', restS (E a b) (E a' b') [j] = E a' b')
    (hp : ∀ d a b, stN j d (E a b) = some (E1 d a b)) (hel : ∀ d a b, OkB b → W (el (E1 d a b)) fun t e => ∃ x a' b', t = .pl (.int x) ∧ P x ∧ OkB b' ∧ wipeS e [j] = E a' b')
    (h : ∀ xs a' b', xs.length = n → (∀ x ∈ xs, P x) → OkB b' → R (.ol (iL xs)) (E a' b')) : W (mComp [j] (stN j) src mYes el (E a b)) R := by
  refine w_comp (hsrc ?_)
  rw [hw]
  refine w_compL (fun r acc e => ∃ xs a b, acc = iL xs ∧ (∀ x ∈ xs, P x) ∧ xs.length + r.length = n ∧ OkB b ∧ e = E a b) ?_ ?_ ?_
  · exact ⟨[], a, b, rfl, by simp, by simp [iL], hb, rfl⟩
  · rintro d r acc e ⟨xs, a, b, rfl, hx, hl, hb, rfl⟩
    refine ⟨_, hp d a b, w_yes ⟨fun _ => ?_, fun h => by cases h⟩⟩
    refine (hel d a b hb).mono ?_
    rintro t e ⟨x, a', b', rfl, hpx, hb', hw'⟩
    refine ⟨xs ++ [x], a', b', by simp [iL, T.frz], ?_, by simp at hl ⊢; omega, hb', hw'⟩
    intro y hy
    rcases List.mem_append.mp hy with hy | hy
    · exact hx y hy
    · simp at hy; subst hy; exact hpx
  · rintro acc e ⟨xs, a, b, rfl, hx, hl, hb, rfl⟩
    simp at hl
    refine ⟨by simp [iL]; show xs.length < 1000000; omega, ?_⟩
    rw [hr]
    exact h xs a b hl hx hb
/-- a value of a drawn part -/
theorem szN {n : Nat} {x : Int} (h : x.natAbs < 2 ^ n) : Sz x n := ⟨h⟩
theorem draw_ok {a b size factor : Int} {count : Nat} (hs : Sz size 101) (hp : 0 < size) (hf : Sz factor 10) (hfp : 0 < factor) (hc : count < 1000000) (hb : OkB b) :
    WF (m__law_draw [.ol [.int a, .int b], .pl (.int (count : Nat)), .pl (.int size), .pl (.int factor)]) fun t o => ∃ (row : List Int) (last a' b' : Int), t = .ol [.lst (iL row), .int last] ∧ row.length = count ∧ (∀ x ∈ row, x.natAbs < 2 ^ 120) ∧ last ≠ 0 ∧ last.natAbs < 2 ^ 120 ∧ OkB b' ∧
      o = [.ol [.int a', .int b'], .pl (.int (count : Nat)), .pl (.int size), .pl (.int factor)] := by
  have s1 : Sz (2 * size + 1) 104 := ⟨Nat.lt_of_lt_of_le (inferInstance : Sz (2 * size + 1) _).lt (Nat.pow_le_pow_right (by decide) (by decide))⟩
  have hz := hs.lt
  refine w_fn rfl (w_seq (w_set (w_mfz ?_)))
  refine w_drawn (j := 6) (n := count) (E := fun a b => [some (.ol [.int a, .int b]), some (.pl (.int (count : Nat))), some (.pl (.int size)), some (.pl (.int factor)), none, none, none]) (E1 := fun d a b => [some (.ol [.int a, .int b]), some (.pl (.int (count : Nat))), some (.pl (.int size)), some (.pl (.int factor)), none, none, some (.pl d)]) (P := fun x => x.natAbs < 2 ^ 120) hc (fun {L} hL => w_src (w_mcons (w_r rfl (w_mnil ⟨_, rng1 hc, hL⟩)))) hb rfl (fun _ _ => rfl) (fun _ _ _ => rfl) ?_ ?_
  · intro d a b hb
    refine w_m2 (w_m2 (w_pick s1 (by decide) (by omega) rfl hb (e_r2p (e_r2p rfl rfl (opMul_sz (by decide))) rfl (opAdd_int _ _)) fun r a' b' h0 h1 hb' => w_r rfl ⟨_, opSub_int _ _, w_r rfl ?_⟩))
    have sr : Sz (r - size) 102 := ⟨by
      rw [Nat.pow_succ]; omega⟩
    exact ⟨_, opMul_sz (by decide), _, a', b', rfl, Nat.lt_of_lt_of_le (inferInstance : Sz ((r - size) * factor) _).lt (Nat.pow_le_pow_right (by decide) (by decide)), hb', rfl⟩
  · intro row a b hl hP hb
    refine w_put rfl (w_nx (w_seq (w_set (w_mfz (w_m2 (w_m2 (w_pick hs (by decide) hp rfl hb rfl fun r a' b' h0 h1 hb' => w_r rfl ⟨_, opAdd_int _ _, w_r rfl ?_⟩)))))))
    have sr : Sz (r + 1) 102 := ⟨by
      rw [Nat.pow_succ]; omega⟩
    have sl : Sz ((r + 1) * factor) 120 := ⟨Nat.lt_of_lt_of_le (inferInstance : Sz ((r + 1) * factor) _).lt (Nat.pow_le_pow_right (by decide) (by decide))⟩
    have hn0 : (r + 1) * factor ≠ 0 := by
      intro h
      rcases Int.mul_eq_zero.mp h with h | h <;> omega
    refine ⟨_, opMul_sz (by decide), w_put rfl (w_nx (w_seq (w_ifS ?_)))⟩
    refine w_mb (w_m2 (w_pick (n := 2) inferInstance (by decide) (by decide) rfl hb' rfl fun r2 a2 b2 h2 h3 hb2 => w_r rfl ⟨_, opEq_int _ _ _, _, rfl, fun hc => ?_, fun hc => ?_⟩))
    · refine w_setR (e_r1p rfl (opNeg_int _)) rfl (w_nx (w_ret (w_mlst (w_mcons (w_r rfl (w_mcons (w_r rfl (w_mnil ⟨(show (2 : Nat) ≤ 1000000 by decide), fn_rt rfl ⟨row, _, a2, b2, rfl, hl, hP, ?_, szNeg.lt, hb2, rfl⟩⟩))))))))
      omega
    · refine w_skip (w_nx (w_ret (w_mlst (w_mcons (w_r rfl (w_mcons (w_r rfl (w_mnil ⟨(show (2 : Nat) ≤ 1000000 by decide), fn_rt rfl ⟨row, _, a2, b2, rfl, hl, hP, hn0, sl.lt, hb2, rfl⟩⟩))))))))
/-! points, ratios -/
def pointL (nums : List Int) (den : Int) : List Int := if den < 0 then nums.map (fun x => -x) ++ [-den] else nums ++ [den]
theorem add_iL {a b : List Int} (h : a.length + b.length ≤ 1000000) : opAdd (.pl (.lst (iL a))) (.pl (.lst (iL b))) = some (.ol (iL (a ++ b))) := by
  show (if (iL a).length + (iL b).length ≤ big then some (T.ol (iL a ++ iL b)) else none) = _
  rw [List.length_map, List.length_map, if_pos h]
  unfold iL
  rw [List.map_append]
theorem e_r2l {env : Slots} {ρ ρ' : Rd T} {f : T → T → Option T} {t t' : T} {ds : List D} (h : ρ env = some t) (h' : ρ' env = some t') (hf : f t t' = some (.ol ds)) : r2 f ρ ρ' env = some (.pl (.lst ds)) := e_r2 h h' hf
theorem e_callp {env : Slots} {κ : Rd (List T)} {f : List T → FRes} {ts o : List T} {d : D} (h : κ env = some ts) (h2 : f (ts.map fz) = .ok (.pl d) o) (h3 : ((plains ts).isSome || d.noRef) = true) : rCall f κ env = some (.pl d) := e_call h h2 h3
theorem big1 : (1 : Nat) ≤ big := by decide
theorem big2 : (2 : Nat) ≤ big := by decide
theorem pointL_sz {nums : List Int} {den : Int} {n : Nat} (h : ∀ x ∈ nums, x.natAbs < 2 ^ n) (hd : den.natAbs < 2 ^ n) : ∀ x ∈ pointL nums den, x.natAbs < 2 ^ n := by
  unfold pointL
  intro x hx
  split at hx <;> simp at hx
  · rcases hx with ⟨y, hy, rfl⟩ | rfl
    · rw [Int.natAbs_neg]; exact h y hy
    · rw [Int.natAbs_neg]; exact hd
  · rcases hx with hx | rfl
    · exact h x hx
    · exact hd
theorem pointL_length {nums : List Int} {den : Int} : (pointL nums den).length = nums.length + 1 := by
  unfold pointL; split <;> simp
theorem sz399 {x : Int} (h : x.natAbs < 2 ^ 399) : x.natAbs < 2 ^ 8000 := Nat.lt_of_lt_of_le h (Nat.pow_le_pow_right (by decide) (by decide))
theorem point_go {nums : List Int} {den : Int} (h : ∀ x ∈ nums, x.natAbs < 2 ^ 399) (hd : den.natAbs < 2 ^ 399) (hl : nums.length < 900000) {d : D} (hs : seqD d = some (iL nums)) (ha : (T.pl d).asS = some (iL nums)) :
    m_point [.pl d, .pl (.int den)] = .ok (.pl (.tup (iL (lowestL (pointL nums den))))) [.pl d, .pl (.int den)] := by
  have low := lowest_lst (xs := pointL nums den) (fun x hx => sz399 (pointL_sz h hd x hx)) (by rw [pointL_length]; omega)
  refine WF.is (w_fn rfl (w_seq (w_ifr (e_rb (e_r2p rfl rfl (opCmp_int _ _ _)) rfl) (fun hc => ?_) fun hc => ?_)))
  · have hc : den < 0 := of_decide_eq_true hc
    have e : pointL nums den = nums.map (fun x => -x) ++ [-den] := by unfold pointL; rw [if_pos hc]
    rw [e] at low ⊢
    refine w_retR (e_callp (e_rcons (e_r2l (e_compI (xs := nums) (fun x => -x) (e_seqS rfl hs) (by omega) (fun x hx => ⟨_, rfl, e_r1p rfl (opNeg_int _)⟩)) (e_rlst (e_rcons (e_r1p rfl (opNeg_int _)) e_rnil) rfl big1) (add_iL (b := [-den]) ?_)) e_rnil) low rfl) (w_rt (fn_rt rfl ⟨rfl, rfl⟩))
    simp; omega
  · have hc : ¬ den < 0 := of_decide_eq_false hc
    have e : pointL nums den = nums ++ [den] := by unfold pointL; rw [if_neg hc]
    rw [e] at low ⊢
    have e1 : opList [.pl d] = some (.ol (iL nums)) := by
      show ((T.pl d).asS.map T.ol) = _
      rw [ha]; rfl
    refine w_skip (w_nx (w_retR (e_callp (e_rcons (e_r2l (e_rN (e_rcons rfl e_rnil) e1) (e_rlst (e_rcons rfl e_rnil) rfl big1) (add_iL (b := [den]) ?_)) e_rnil) low rfl) (fn_rt rfl ⟨rfl, rfl⟩)))
    simp; omega
theorem stands_ok {nums : List Int} {den : Int} (h : ∀ x ∈ nums, x.natAbs < 2 ^ 399) (hd : den.natAbs < 2 ^ 399) (hl : nums.length < 900000) :
    m__law_stands [.pl (.tup (iL (lowestL (pointL nums den)))), .pl (.lst (iL nums)), .pl (.int den)] = .ok (.pl (.bl true)) [.pl (.tup (iL (lowestL (pointL nums den)))), .pl (.lst (iL nums)), .pl (.int den)] := by
  have low := is_lowest_ok (xs := pointL nums den) (pointL_sz h hd) (by rw [pointL_length]; omega)
  refine WF.is (w_fn rfl (w_seq (w_ifr (e_rb (e_r2p rfl rfl (opCmp_int _ _ _)) rfl) (fun hc => ?_) fun hc => ?_)))
  · have hc : den < 0 := of_decide_eq_true hc
    have e : pointL nums den = nums.map (fun x => -x) ++ [-den] := by unfold pointL; rw [if_pos hc]
    rw [e] at low ⊢
    refine w_seq (w_setR (e_compI (xs := nums) (fun x => -x) (e_seqS rfl rfl) (by omega) (fun x hx => ⟨_, rfl, e_r1p rfl (opNeg_int _)⟩)) rfl (w_nx (w_setR (e_r1p rfl (opNeg_int _)) rfl (w_nx ?_))))
    refine w_retR (e_callp (e_rcons rfl (e_rcons (e_r2l rfl (e_rlst (e_rcons rfl e_rnil) rfl big1) (add_iL (b := [-den]) ?_)) e_rnil)) low rfl) (fn_rt rfl ⟨rfl, rfl⟩)
    simp; omega
  · have hc : ¬ den < 0 := of_decide_eq_false hc
    have e : pointL nums den = nums ++ [den] := by unfold pointL; rw [if_neg hc]
    rw [e] at low ⊢
    refine w_skip (w_nx ?_)
    refine w_retR (e_callp (e_rcons rfl (e_rcons (e_r2l rfl (e_rlst (e_rcons rfl e_rnil) rfl big1) (add_iL (b := [den]) ?_)) e_rnil)) low rfl) (fn_rt rfl ⟨rfl, rfl⟩)
    simp; omega
/-- a ratio's pair -/
abbrev rat (n d : Int) : List Int := lowestL (pointL [n] d)
theorem ratio_ok {n d : Int} (h : n.natAbs < 2 ^ 399) (hd : d.natAbs < 2 ^ 399) : m_ratio [.pl (.int n), .pl (.int d)] = .ok (.pl (.tup (iL (rat n d)))) [.pl (.int n), .pl (.int d)] := by
  have p := point_go (nums := [n]) (den := d) (d := .lst (iL [n])) (by simpa using h) hd (by simp) rfl rfl
  exact WF.is (w_fn rfl (w_retR (e_callp (e_rcons (e_rlst (e_rcons rfl e_rnil) rfl big1) (e_rcons rfl e_rnil)) p rfl) (fn_rt rfl ⟨rfl, rfl⟩)))
section
variable {a0 a1 b0 b1 : Int} [Sz a0 110] [Sz a1 110] [Sz b0 110] [Sz b1 110]
theorem szl {i : Int} {n m : Nat} (h : Sz i n) (l : n ≤ m) : i.natAbs < 2 ^ m := (h.mono l).lt
theorem add_ok : m_add [.pl (.tup (iL [a0, a1])), .pl (.tup (iL [b0, b1]))] = .ok (.pl (.tup (iL (rat (a0 * b1 + b0 * a1) (a1 * b1))))) [.pl (.tup (iL [a0, a1])), .pl (.tup (iL [b0, b1]))] := by
  have p := ratio_ok (n := a0 * b1 + b0 * a1) (d := a1 * b1) (szl inferInstance (by decide)) (szl inferInstance (by decide))
  refine WF.is (w_fn rfl (w_retR (e_callp (e_rcons (t := .pl (.int (a0 * b1 + b0 * a1))) ?_ (e_rcons (t := .pl (.int (a1 * b1))) ?_ e_rnil)) p rfl) (fn_rt rfl ⟨rfl, rfl⟩)))
  · walk_at "ev"
  · walk_at "ev"
theorem subtract_ok : m_subtract [.pl (.tup (iL [a0, a1])), .pl (.tup (iL [b0, b1]))] = .ok (.pl (.tup (iL (rat (a0 * b1 - b0 * a1) (a1 * b1))))) [.pl (.tup (iL [a0, a1])), .pl (.tup (iL [b0, b1]))] := by
  have p := ratio_ok (n := a0 * b1 - b0 * a1) (d := a1 * b1) (szl inferInstance (by decide)) (szl inferInstance (by decide))
  refine WF.is (w_fn rfl (w_retR (e_callp (e_rcons (t := .pl (.int (a0 * b1 - b0 * a1))) ?_ (e_rcons (t := .pl (.int (a1 * b1))) ?_ e_rnil)) p rfl) (fn_rt rfl ⟨rfl, rfl⟩)))
  · walk_at "ev"
  · walk_at "ev"
theorem multiply_ok : m_multiply [.pl (.tup (iL [a0, a1])), .pl (.tup (iL [b0, b1]))] = .ok (.pl (.tup (iL (rat (a0 * b0) (a1 * b1))))) [.pl (.tup (iL [a0, a1])), .pl (.tup (iL [b0, b1]))] := by
  have p := ratio_ok (n := a0 * b0) (d := a1 * b1) (szl inferInstance (by decide)) (szl inferInstance (by decide))
  refine WF.is (w_fn rfl (w_retR (e_callp (e_rcons (t := .pl (.int (a0 * b0))) ?_ (e_rcons (t := .pl (.int (a1 * b1))) ?_ e_rnil)) p rfl) (fn_rt rfl ⟨rfl, rfl⟩)))
  · walk_at "ev"
  · walk_at "ev"
def cmpI (a0 a1 b0 b1 : Int) : Int := if a0 * b1 - b0 * a1 > 0 then 1 else if a0 * b1 - b0 * a1 < 0 then -1 else 0
theorem compare_ok : m_compare [.pl (.tup (iL [a0, a1])), .pl (.tup (iL [b0, b1]))] = .ok (.pl (.int (cmpI a0 a1 b0 b1))) [.pl (.tup (iL [a0, a1])), .pl (.tup (iL [b0, b1]))] := by
  refine WF.is (w_fn rfl (w_seq (w_setR (d := .int (a0 * b1 - b0 * a1)) ?_ rfl (w_nx (w_seq (w_ifr (e_rb (e_r2p rfl rfl (opCmp_int _ _ _)) rfl) (fun hc => ?_) fun hc => ?_))))))
  · walk_at "ev"
  · have hc := of_decide_eq_true hc
    refine w_retR rfl (w_rt (fn_rt rfl ⟨?_, rfl⟩))
    unfold cmpI; rw [if_pos hc]
  · have hc := of_decide_eq_false hc
    refine w_skip (w_nx (w_seq (w_ifr (e_rb (e_r2p rfl rfl (opCmp_int _ _ _)) rfl) (fun hd => ?_) fun hd => ?_)))
    · have hd := of_decide_eq_true hd
      refine w_retR rfl (w_rt (fn_rt rfl ⟨?_, rfl⟩))
      unfold cmpI; rw [if_neg hc, if_pos hd]; rfl
    · have hd := of_decide_eq_false hd
      refine w_skip (w_nx (w_retR rfl (fn_rt rfl ⟨?_, rfl⟩)))
      unfold cmpI; rw [if_neg hc, if_neg hd]
end
/-! the law's parts -/
theorem cmpI_neg (a0 a1 b0 b1 : Int) : cmpI b0 b1 a0 a1 = -cmpI a0 a1 b0 b1 := by
  unfold cmpI
  split <;> split <;> (try split) <;> (try split) <;> omega
theorem e_stands {env : Slots} {ρt ρn ρd : Rd T} {nums : List Int} {den : Int} (h0 : ρt env = some (.pl (.tup (iL (lowestL (pointL nums den)))))) (h1 : ρn env = some (.pl (.lst (iL nums)))) (h2 : ρd env = some (.pl (.int den)))
    (h : ∀ x ∈ nums, x.natAbs < 2 ^ 399) (hd : den.natAbs < 2 ^ 399) (hl : nums.length < 900000) : rCall m__law_stands (rcons ρt (rcons ρn (rcons ρd rnil))) env = some (.pl (.bl true)) :=
  e_callp (e_rcons h0 (e_rcons h1 (e_rcons h2 e_rnil))) (stands_ok h hd hl) (by rfl)
theorem one9 : (1 : Nat) < 900000 := by decide
theorem bnd1 {x : Int} {n m : Nat} [h : Sz x n] (l : n ≤ m) : ∀ y ∈ [x], y.natAbs < 2 ^ m := by
  intro y hy
  simp at hy
  subst hy
  exact szl h l
theorem law_arith_ok {a b size : Int} (hs : Sz size 101) (hp : 0 < size) (hb : OkB b) : WF (m__law_arithmetic [.ol [.int a, .int b], .pl (.int size)]) fun t o => t = .pl (.bl true) ∧ ∃ a' b', OkB b' ∧ o = [.ol [.int a', .int b'], .pl (.int size)] := by
  have s1 : Sz (2 * size + 1) 104 := ⟨szl inferInstance (by decide)⟩
  have hz := hs.lt
  refine w_fn rfl (w_seq (w_set (w_mfz (w_mlst (w_mcons (w_m2 (w_pick s1 (by decide) (by omega) rfl hb (by walk_at "ev") fun r1 a b p1 q1 hb => w_r rfl ⟨_, opSub_int _ _, ?_⟩)))))))
  have sa0 : Sz (r1 - size) 102 := ⟨by rw [Nat.pow_succ]; omega⟩
  generalize r1 - size = a0 at sa0 ⊢
  refine w_mcons (w_m2 (w_pick hs (by decide) hp rfl hb rfl fun r2 a b p2 q2 hb => w_r rfl ⟨_, opAdd_int _ _, w_mnil ⟨big2, w_put rfl (w_nx ?_)⟩⟩))
  have sa1 : Sz (r2 + 1) 102 := ⟨by rw [Nat.pow_succ]; omega⟩
  generalize r2 + 1 = a1 at sa1 ⊢
  refine w_seq (w_set (w_mfz (w_mlst (w_mcons (w_m2 (w_pick s1 (by decide) (by omega) rfl hb (by walk_at "ev") fun r1 a b p1 q1 hb => w_r rfl ⟨_, opSub_int _ _, ?_⟩))))))
  have sb0 : Sz (r1 - size) 102 := ⟨by rw [Nat.pow_succ]; omega⟩
  generalize r1 - size = b0 at sb0 ⊢
  refine w_mcons (w_m2 (w_pick hs (by decide) hp rfl hb rfl fun r2 a b p2 q2 hb => w_r rfl ⟨_, opAdd_int _ _, w_mnil ⟨big2, w_put rfl (w_nx ?_)⟩⟩))
  have sb1 : Sz (r2 + 1) 102 := ⟨by rw [Nat.pow_succ]; omega⟩
  generalize r2 + 1 = b1 at sb1 ⊢
  refine w_seq (W.mono (Q := fun fl e => fl = .nx ∧ ∃ (a' b' c0 c1 : Int), OkB b' ∧ Sz c0 106 ∧ Sz c1 106 ∧ e = [some (.ol [.int a', .int b']), some (.pl (.int size)), some (.pl (.lst (iL [a0, a1]))), some (.pl (.lst (iL [c0, c1]))), none, none, none, none, none]) (w_ifS ?_) ?_)
  · refine w_mb (w_m2 (w_pick (n := 4) inferInstance (by decide) (by decide) rfl hb rfl fun r3 a b p3 q3 hb => w_r rfl ⟨_, opEq_int _ _ _, _, rfl, fun hc => ?_, fun hc => ?_⟩))
    · refine w_setR (d := .lst (iL [a0 * 3, a1 * 3])) (by walk_at "ev") rfl ⟨rfl, a, b, a0 * 3, a1 * 3, hb, ⟨szl inferInstance (by decide)⟩, ⟨szl inferInstance (by decide)⟩, rfl⟩
    · exact w_skip ⟨rfl, a, b, b0, b1, hb, sb0.mono (by decide), sb1.mono (by decide), rfl⟩
  rintro fl e ⟨rfl, a', b', c0, c1, hb', sc0, sc1, rfl⟩
  have sa0 : Sz a0 110 := sa0.mono (by decide)
  have sa1 : Sz a1 110 := sa1.mono (by decide)
  have sc0 : Sz c0 110 := sc0.mono (by decide)
  have sc1 : Sz c1 110 := sc1.mono (by decide)
  refine w_nx (w_seq (w_setR (d := .tup (iL [a0, a1])) rfl rfl (w_nx (w_seq (w_setR (d := .tup (iL [c0, c1])) rfl rfl (w_nx ?_))))))
  have den : (a1 * c1).natAbs < 2 ^ 399 := szl inferInstance (by decide)
  refine w_seq (w_ifr (c := false) (e_not (x := true) (e_rb (e_stands (nums := [a0 * c1 + c0 * a1]) (den := a1 * c1) (e_callp (e_rcons rfl (e_rcons rfl e_rnil)) add_ok rfl) ?_ ?_ (bnd1 (by decide)) den one9) rfl)) (fun h => by cases h) fun _ => w_skip (w_nx ?_))
  · walk_at "ev"
  · walk_at "ev"
  refine w_seq (w_ifr (c := false) (e_not (x := true) (e_rb (e_stands (nums := [a0 * c1 - c0 * a1]) (den := a1 * c1) (e_callp (e_rcons rfl (e_rcons rfl e_rnil)) subtract_ok rfl) ?_ ?_ (bnd1 (by decide)) den one9) rfl)) (fun h => by cases h) fun _ => w_skip (w_nx ?_))
  · walk_at "ev"
  · walk_at "ev"
  refine w_seq (w_ifr (c := false) (e_not (x := true) (e_rb (e_stands (nums := [a0 * c0]) (den := a1 * c1) (e_callp (e_rcons rfl (e_rcons rfl e_rnil)) multiply_ok rfl) ?_ ?_ (bnd1 (by decide)) den one9) rfl)) (fun h => by cases h) fun _ => w_skip (w_nx ?_))
  · walk_at "ev"
  · walk_at "ev"
  refine w_seq (w_setR rfl rfl (w_nx ?_))
  refine w_seq (W.mono (Q := fun fl e => fl = .nx ∧ e = [some (.ol [.int a', .int b']), some (.pl (.int size)), some (.pl (.lst (iL [a0, a1]))), some (.pl (.lst (iL [c0, c1]))), some (.pl (.tup (iL [a0, a1]))), some (.pl (.tup (iL [c0, c1]))), some (.pl (.int (if a0 * c1 > c0 * a1 then 1 else 0))), none, none]) (w_ifr (c := decide (a0 * c1 > c0 * a1)) (by walk_at "ev") (fun hc => ?_) fun hc => ?_) ?_)
  · exact w_setR rfl rfl ⟨rfl, by rw [if_pos (of_decide_eq_true hc)]; rfl⟩
  · exact w_skip ⟨rfl, by rw [if_neg (of_decide_eq_false hc)]; rfl⟩
  rintro fl e ⟨rfl, rfl⟩
  refine w_nx (w_seq (W.mono (Q := fun fl e => fl = .nx ∧ e = [some (.ol [.int a', .int b']), some (.pl (.int size)), some (.pl (.lst (iL [a0, a1]))), some (.pl (.lst (iL [c0, c1]))), some (.pl (.tup (iL [a0, a1]))), some (.pl (.tup (iL [c0, c1]))), some (.pl (.int (cmpI a0 a1 c0 c1))), none, none]) (w_ifr (c := decide (a0 * c1 < c0 * a1)) (by walk_at "ev") (fun hc => ?_) fun hc => ?_) ?_))
  · have hc := of_decide_eq_true hc
    refine w_setR rfl rfl ⟨rfl, ?_⟩
    rw [show cmpI a0 a1 c0 c1 = -1 from by unfold cmpI; rw [if_neg (by omega), if_pos (by omega)]]; rfl
  · have hc := of_decide_eq_false hc
    refine w_skip ⟨rfl, ?_⟩
    rw [show cmpI a0 a1 c0 c1 = (if a0 * c1 > c0 * a1 then 1 else 0) from by
      unfold cmpI
      by_cases h : a0 * c1 > c0 * a1
      · rw [if_pos (by omega), if_pos h]
      · rw [if_neg (by omega), if_neg (by omega), if_neg h]]
  rintro fl e ⟨rfl, rfl⟩
  refine w_nx (w_seq (w_setR (e_callp (e_rcons rfl (e_rcons rfl e_rnil)) compare_ok rfl) rfl (w_nx (w_seq (w_setR (e_callp (e_rcons rfl (e_rcons rfl e_rnil)) compare_ok rfl) rfl (w_nx ?_))))))
  refine w_retR ((e_andV (x := true) (y := true) (e_callp (e_rcons (e_rtup (ds := iL [cmpI a0 a1 c0 c1, cmpI c0 c1 a0 a1]) (e_rcons rfl (e_rcons rfl e_rnil)) rfl big2) (e_rcons rfl e_rnil)) (are_ints_ok (xs := [cmpI a0 a1 c0 c1, cmpI c0 c1 a0 a1])) rfl) fun _ => (e_andV (x := true) (y := true) ?_ fun _ => ?_).trans rfl).trans rfl) (fn_rt rfl ⟨rfl, a', b', hb', rfl⟩)
  · refine (e_r2p rfl rfl (opEq_int _ _ _)).trans ?_
    simp
  · refine (e_r2p rfl (e_r1p rfl (opNeg_int _)) (opEq_int _ _ _)).trans ?_
    rw [cmpI_neg]; simp
/-! sums -/
def sumTo (n : Nat) (f : Nat → Int) : Int := (List.range n).foldl (fun t k => t + f k) 0
theorem sumTo_zero (f : Nat → Int) : sumTo 0 f = 0 := rfl
theorem sumTo_succ (n : Nat) (f : Nat → Int) : sumTo (n + 1) f = sumTo n f + f n := by
  unfold sumTo
  rw [List.range_succ, List.foldl_append]; rfl
theorem sumTo_congr {n : Nat} {f g : Nat → Int} (h : ∀ k, k < n → f k = g k) : sumTo n f = sumTo n g := by
  induction n with
  | zero => rfl
  | succ n ih => rw [sumTo_succ, sumTo_succ, ih fun k hk => h k (Nat.lt_succ_of_lt hk), h n (Nat.lt_succ_self n)]
theorem zip_at {xs ys : List Int} {k : Nat} {d : D} (h : (List.zipWith pairD (iL xs) (iL ys))[k]? = some d) : k < xs.length ∧ k < ys.length ∧ d = .tup [.int (xs.getD k 0), .int (ys.getD k 0)] := by
  rw [List.getElem?_zipWith] at h
  unfold iL at h
  rw [List.getElem?_map, List.getElem?_map] at h
  cases hx : xs[k]? with
  | none => rw [hx] at h; simp at h
  | some x =>
    cases hy : ys[k]? with
    | none => rw [hx, hy] at h; simp at h
    | some y =>
      rw [hx, hy] at h
      simp at h
      refine ⟨(List.getElem?_eq_some_iff.mp hx).1, (List.getElem?_eq_some_iff.mp hy).1, ?_⟩
      rw [List.getD_eq_getElem?_getD, List.getD_eq_getElem?_getD, hx, hy, ← h]
      rfl
theorem getD_sz {xs : List Int} {n : Nat} (h : ∀ x ∈ xs, x.natAbs < 2 ^ n) (k : Nat) : Sz (xs.getD k 0) n := ⟨by
  rw [List.getD_eq_getElem?_getD]
  cases hx : xs[k]? with
  | none => exact Nat.pow_pos (by decide)
  | some x => exact h x (List.mem_of_getElem? hx)⟩
def dotL (xs ys : List Int) : Int := sumTo (min xs.length ys.length) fun k => xs.getD k 0 * ys.getD k 0
theorem dot_go {xs ys : List Int} (hx : ∀ x ∈ xs, x.natAbs < 2 ^ 200) (hy : ∀ x ∈ ys, x.natAbs < 2 ^ 200) {dx dy : D} (h : zipD [.pl dx, .pl dy] = some (List.zipWith pairD (iL xs) (iL ys))) :
    m_dot [.pl dx, .pl dy] = .ok (.pl (.int (dotL xs ys))) [.pl dx, .pl dy] := by
  refine WF.is (w_fn rfl (w_seq (w_setR rfl rfl (w_nx (w_seq (w_for (w_src (w_mcons (w_r rfl (w_mcons (w_r rfl (w_mnil ⟨_, h, ?_⟩))))))))))))
  refine w_forN (fun k e => ∃ s3 s4, e = [some (.pl dx), some (.pl dy), some (.pl (.int (sumTo k fun k => xs.getD k 0 * ys.getD k 0))), s3, s4]) ⟨none, none, rfl⟩ ?_ ?_
  · rintro k d e hk ⟨s3, s4, rfl⟩
    obtain ⟨h1, h2, rfl⟩ := zip_at hk
    have s1 := getD_sz hx k
    have s2 := getD_sz hy k
    refine ⟨_, rfl, w_setR (e_r2p rfl (e_r2p rfl rfl (opMul_sz (by decide))) (opAdd_int _ _)) rfl (f_nx ⟨some (.pl (.int (xs.getD k 0))), some (.pl (.int (ys.getD k 0))), ?_⟩)⟩
    rw [sumTo_succ]; rfl
  · rintro e ⟨s3, s4, rfl⟩
    refine w_nx (w_retR rfl (fn_rt rfl ⟨?_, rfl⟩))
    unfold dotL iL
    rw [List.length_zipWith, List.length_map, List.length_map]
theorem dot_lst {xs ys : List Int} (hx : ∀ x ∈ xs, x.natAbs < 2 ^ 200) (hy : ∀ x ∈ ys, x.natAbs < 2 ^ 200) : m_dot [.pl (.lst (iL xs)), .pl (.lst (iL ys))] = .ok (.pl (.int (dotL xs ys))) [.pl (.lst (iL xs)), .pl (.lst (iL ys))] := dot_go hx hy rfl
theorem dot_tup {xs ys : List Int} (hx : ∀ x ∈ xs, x.natAbs < 2 ^ 200) (hy : ∀ x ∈ ys, x.natAbs < 2 ^ 200) : m_dot [.pl (.tup (iL xs)), .pl (.tup (iL ys))] = .ok (.pl (.int (dotL xs ys))) [.pl (.tup (iL xs)), .pl (.tup (iL ys))] := dot_go hx hy rfl
theorem cut_init {xs : List Int} : cutD (iL xs) none (some (-1)) = iL xs.dropLast := by
  unfold cutD iL
  rw [List.length_map]
  have e : HT.sIx xs.length xs.length (some (-1)) = xs.length - 1 := by
    simp [HT.sIx]; omega
  rw [e]
  show List.take (xs.length - 1 - 0) (List.drop 0 (xs.map D.int)) = _
  rw [List.drop_zero, Nat.sub_zero, ← List.map_take, List.dropLast_eq_take]
theorem sl_lst {xs : List Int} : opSl (.pl (.lst (iL xs))) none (some (-1)) = some (.ol (iL xs.dropLast)) := by
  show some (T.ol (cutD (iL xs) none (some (-1)))) = _
  rw [cut_init]
theorem sl_tup {xs : List Int} : opSl (.pl (.tup (iL xs))) none (some (-1)) = some (.pl (.tup (iL xs.dropLast))) := by
  show some (T.pl (.tup (cutD (iL xs) none (some (-1))))) = _
  rw [cut_init]
theorem ix_last {xs : List Int} (h : xs ≠ []) : atI (iL xs) (-1) = some (.int (xs.getD (xs.length - 1) 0)) := by
  have hp : 0 < xs.length := List.length_pos_iff.mpr h
  unfold atI ixN iL
  rw [List.length_map, if_neg (by decide), if_pos (by omega), Option.bind_some, List.getElem?_map]
  rw [show ((-1 : Int) + (xs.length : Int)).toNat = xs.length - 1 by omega]
  rw [List.getD_eq_getElem?_getD, List.getElem?_eq_getElem (by omega)]; rfl
theorem ix_lastL {xs : List Int} (h : xs ≠ []) : opIx (.pl (.lst (iL xs))) (.pl (.int (-1))) = some (.pl (.int (xs.getD (xs.length - 1) 0))) := by
  show (atI (iL xs) (-1)).map T.pl = _
  rw [ix_last h]; rfl
theorem ix_lastT {xs : List Int} (h : xs ≠ []) : opIx (.pl (.tup (iL xs))) (.pl (.int (-1))) = some (.pl (.int (xs.getD (xs.length - 1) 0))) := by
  show (atI (iL xs) (-1)).map T.pl = _
  rw [ix_last h]; rfl
def slackL (xs ys : List Int) : Int := xs.getD (xs.length - 1) 0 * ys.getD (ys.length - 1) 0 - dotL xs.dropLast ys
theorem slack_lst {xs ys : List Int} (hx : ∀ x ∈ xs, x.natAbs < 2 ^ 200) (hy : ∀ x ∈ ys, x.natAbs < 2 ^ 200) (nx : xs ≠ []) (ny : ys ≠ []) : m_slack [.pl (.lst (iL xs)), .pl (.lst (iL ys))] = .ok (.pl (.int (slackL xs ys))) [.pl (.lst (iL xs)), .pl (.lst (iL ys))] := by
  have d := dot_lst (xs := xs.dropLast) (ys := ys) (fun x h => hx x (List.dropLast_subset _ h)) hy
  have s1 := getD_sz hx (xs.length - 1)
  have s2 := getD_sz hy (ys.length - 1)
  exact WF.is (w_fn rfl (w_retR (e_r2p (e_r2p (e_r2p rfl (e_r1p rfl (opNeg_int _)) (ix_lastL nx)) (e_r2p rfl (e_r1p rfl (opNeg_int _)) (ix_lastL ny)) (opMul_sz (by decide))) (e_callp (e_rcons (e_r3 (o' := some (-1)) rfl rfl rfl sl_lst) (e_rcons rfl e_rnil)) d rfl) (opSub_int _ _)) (fn_rt rfl ⟨rfl, rfl⟩)))
theorem slack_tup {xs ys : List Int} (hx : ∀ x ∈ xs, x.natAbs < 2 ^ 200) (hy : ∀ x ∈ ys, x.natAbs < 2 ^ 200) (nx : xs ≠ []) (ny : ys ≠ []) : m_slack [.pl (.tup (iL xs)), .pl (.tup (iL ys))] = .ok (.pl (.int (slackL xs ys))) [.pl (.tup (iL xs)), .pl (.tup (iL ys))] := by
  have d := dot_tup (xs := xs.dropLast) (ys := ys) (fun x h => hx x (List.dropLast_subset _ h)) hy
  have s1 := getD_sz hx (xs.length - 1)
  have s2 := getD_sz hy (ys.length - 1)
  exact WF.is (w_fn rfl (w_retR (e_r2p (e_r2p (e_r2p rfl (e_r1p rfl (opNeg_int _)) (ix_lastT nx)) (e_r2p rfl (e_r1p rfl (opNeg_int _)) (ix_lastT ny)) (opMul_sz (by decide))) (e_callp (e_rcons (e_r3 (o' := some (-1)) rfl rfl rfl sl_tup) (e_rcons rfl e_rnil)) d rfl) (opSub_int _ _)) (fn_rt rfl ⟨rfl, rfl⟩)))
/-! between -/
def betwL (as bs : List Int) (near far : Int) (n : Nat) : List Int := (List.range n).map fun k => near * as.getD k 0 + far * bs.getD k 0
theorem zipWith_range (f : D → D → D) : ∀ (as bs : List Int), as.length = bs.length → List.zipWith pairD (iL as) (iL bs) = (List.range as.length).map fun k => pairD (.int (as.getD k 0)) (.int (bs.getD k 0)) := by
  intro as bs h
  apply List.ext_getElem?
  intro k
  by_cases hk : k < as.length
  · rw [List.getElem?_zipWith, List.getElem?_map (f := fun k => pairD (.int (as.getD k 0)) (.int (bs.getD k 0))), List.getElem?_range hk]
    unfold iL
    rw [List.getElem?_map, List.getElem?_map, List.getElem?_eq_getElem hk, List.getElem?_eq_getElem (by omega : k < bs.length), show as[k] = as.getD k 0 by simp [hk], show bs[k] = bs.getD k 0 by simp [show k < bs.length by omega]]
    rfl
  · rw [List.getElem?_eq_none (by simp [iL]; omega), List.getElem?_eq_none (by simp; omega)]
theorem getD_append_last {as : List Int} {d : Int} : (as ++ [d]).getD ((as ++ [d]).length - 1) 0 = d := by
  simp [List.getD_eq_getElem?_getD]
theorem between_ok {as bs : List Int} {d e s0 s1 : Int} {n : Nat} (ha : ∀ x ∈ as, x.natAbs < 2 ^ 120) (hb : ∀ x ∈ bs, x.natAbs < 2 ^ 120) (hd : Sz d 120) (he : Sz e 120) (h0 : Sz s0 10) (h1 : Sz s1 10) (la : as.length = n) (lb : bs.length = n) (hn : n < 900000) :
    m_between [.pl (.tup (iL (as ++ [d]))), .pl (.tup (iL (bs ++ [e]))), .pl (.tup (iL [s0, s1]))] = .ok (.pl (.tup (iL (lowestL (pointL (betwL as bs ((s1 - s0) * e) (s0 * d) n) (s1 * d * e)))))) [.pl (.tup (iL (as ++ [d]))), .pl (.tup (iL (bs ++ [e]))), .pl (.tup (iL [s0, s1]))] := by
  have hz : (List.zipWith pairD (iL as) (iL bs)).length < big := by
    simp [iL]
    show min as.length bs.length < 1000000
    omega
  have sz : ∀ x ∈ betwL as bs ((s1 - s0) * e) (s0 * d) n, x.natAbs < 2 ^ 399 := by
    intro x hx
    obtain ⟨k, hk, rfl⟩ := List.mem_map.mp hx
    have q1 := getD_sz ha k
    have q2 := getD_sz hb k
    exact szl inferInstance (by decide)
  have p := point_go (nums := betwL as bs ((s1 - s0) * e) (s0 * d) n) (den := s1 * d * e) (d := .lst (iL (betwL as bs ((s1 - s0) * e) (s0 * d) n))) sz (szl inferInstance (by decide)) (by simp [betwL]; exact hn) rfl rfl
  refine WF.is (w_fn rfl ?_)
  have xd : opIx (.pl (.tup (iL (as ++ [d])))) (.pl (.int (-1))) = some (.pl (.int d)) := by
    rw [ix_lastT (by simp), getD_append_last]
  have xe : opIx (.pl (.tup (iL (bs ++ [e])))) (.pl (.int (-1))) = some (.pl (.int e)) := by
    rw [ix_lastT (by simp), getD_append_last]
  refine w_seq (w_setR (e_r2p (e_r2p (t := .pl (.int s1)) (t' := .pl (.int s0)) rfl rfl (opSub_int _ _)) (e_r2p rfl (e_r1p rfl (opNeg_int _)) xe) (opMul_sz (by decide))) rfl (w_nx ?_))
  refine w_seq (w_setR (e_r2p (t := .pl (.int s0)) rfl (e_r2p rfl (e_r1p rfl (opNeg_int _)) xd) (opMul_sz (by decide))) rfl (w_nx ?_))
  have ca : opSl (.pl (.tup (iL (as ++ [d])))) none (some (-1)) = some (.pl (.tup (iL as))) := by
    rw [sl_tup]; simp
  have cb : opSl (.pl (.tup (iL (bs ++ [e])))) none (some (-1)) = some (.pl (.tup (iL bs))) := by
    rw [sl_tup]; simp
  refine w_seq (w_setR (d := .lst (iL (betwL as bs ((s1 - s0) * e) (s0 * d) n))) ?_ rfl (w_nx ?_))
  · refine (e_comp (g := fun p => match p with | .tup [.int a, .int b] => .int ((s1 - s0) * e * a + s0 * d * b) | p => p) (e_src (e_rcons (e_r3 (o' := some (-1)) rfl rfl rfl ca) (e_rcons (e_r3 (o' := some (-1)) rfl rfl rfl cb) e_rnil)) rfl) hz ?_).trans ?_
    · intro q hq
      obtain ⟨k, hk, rfl⟩ := List.mem_iff_getElem.mp hq
      have h2 := List.getElem?_eq_getElem hk
      obtain ⟨_, _, h3⟩ := zip_at h2
      rw [h3]
      have q1 := getD_sz ha k
      have q2 := getD_sz hb k
      exact ⟨_, rfl, e_r2p (e_r2p rfl rfl (opMul_sz (by decide))) (e_r2p rfl rfl (opMul_sz (by decide))) (opAdd_int _ _)⟩
    · rw [zipWith_range (fun d _ => d) as bs (by omega), List.map_map, la]
      unfold betwL iL
      rw [List.map_map]
      rfl
  · refine w_retR (e_callp (e_rcons rfl (e_rcons (t := .pl (.int (s1 * d * e))) (e_r2p (e_r2p (t := .pl (.int s1)) rfl (e_r2p rfl (e_r1p rfl (opNeg_int _)) xd) (opMul_sz (by decide))) (e_r2p rfl (e_r1p rfl (opNeg_int _)) xe) (opMul_sz (by decide))) e_rnil)) p rfl) (fn_rt rfl ⟨rfl, rfl⟩)
theorem e_abs {env : Slots} {ρ : Rd T} {x : Int} (h : ρ env = some (.pl (.int x))) : rN opAbs (rcons ρ rnil) env = some (.pl (.int (x.natAbs : Int))) := by
  refine (e_rNp (e_rcons h e_rnil) rfl).trans ?_
  rw [abs_if]
theorem w_draw {j : Nat} {env : Slots} {μ1 μ2 μ3 : Rd T} {a b size factor : Int} {count : Nat} {R : T → Slots → Prop} (hs : Sz size 101) (hp : 0 < size) (hf : Sz factor 10) (hfp : 0 < factor) (hc : count < 1000000) (hb : OkB b) (h0 : env[j]? = some (some (.ol [.int a, .int b])))
    (h1 : μ1 env = some (.pl (.int (count : Nat)))) (h2 : μ2 env = some (.pl (.int size))) (h3 : μ3 env = some (.pl (.int factor)))
    (h : ∀ (row : List Int) (last a' b' : Int), row.length = count → (∀ x ∈ row, x.natAbs < 2 ^ 120) → last ≠ 0 → Sz last 120 → OkB b' → R (.pl (.lst [.lst (iL row), .int last])) (env.set j (some (.ol [.int a', .int b'])))) :
    W (mfz (mCall m__law_draw (pslot j (pval (ofR μ1) (pval (ofR μ2) (pval (ofR μ3) pnil))))) env) R := by
  refine w_mfz (w_call (w_pslot h0 (w_pval (w_r h1 (w_pval (w_r h2 (w_pval (w_r h3 (w_pnil ⟨[.ol [.int a, .int b], .pl (.int (count : Nat)), .pl (.int size), .pl (.int factor)], env.set j none, ?_, ?_⟩)))))))))
  · unfold takeAll
    rw [h0]
    rfl
  · refine (draw_ok hs hp hf hfp hc hb).mono fun t o hh => ?_
    obtain ⟨row, last, a', b', rfl, q1, q2, q3, q4, q5, rfl⟩ := hh
    have := h row last a' b' q1 q2 q3 ⟨q4⟩ q5
    unfold backAll backAll backAll backAll backAll
    rw [List.set_set]
    exact this
theorem betw_sz {as bs : List Int} {near far : Int} {n : Nat} (ha : ∀ x ∈ as, x.natAbs < 2 ^ 120) (hb : ∀ x ∈ bs, x.natAbs < 2 ^ 120) (h1 : Sz near 140) (h2 : Sz far 140) : ∀ x ∈ betwL as bs near far n, x.natAbs < 2 ^ 399 := by
  intro x hx
  obtain ⟨k, hk, rfl⟩ := List.mem_map.mp hx
  have q1 := getD_sz ha k
  have q2 := getD_sz hb k
  exact szl inferInstance (by decide)
theorem law_between_ok {a b size : Int} {count : Nat} (hs : Sz size 101) (hp : 0 < size) (hc : count < 900000) (hb : OkB b) : WF (m__law_between [.ol [.int a, .int b], .pl (.int size), .pl (.int (count : Nat))]) fun t o => t = .pl (.bl true) ∧ ∃ a' b', OkB b' ∧ o = [.ol [.int a', .int b'], .pl (.int size), .pl (.int (count : Nat))] := by
  refine w_fn rfl (w_seq (w_set (w_draw hs hp (factor := 1) ⟨by decide⟩ (by decide) (by omega) hb rfl rfl rfl rfl fun as d0 a b la ha hd0 hsd hb => w_put rfl (w_nx ?_))))
  refine w_seq (w_set (w_draw hs hp (factor := 1) ⟨by decide⟩ (by decide) (by omega) hb rfl rfl rfl rfl fun bs e0 a b lb hbs he0 hse hb => w_put rfl (w_nx ?_)))
  refine w_seq (w_set (w_mfz (w_mlst (w_mcons (w_m2 (w_pick (n := 15) inferInstance (by decide) (by decide) rfl hb rfl fun r1 a b p1 q1 hb => w_r rfl ⟨_, opSub_int _ _, ?_⟩))))))
  have ss0 : Sz (r1 - 5) 10 := ⟨by omega⟩
  generalize r1 - 5 = s0 at ss0 ⊢
  refine w_mcons (w_m2 (w_pick (n := 4) inferInstance (by decide) (by decide) rfl hb rfl fun r2 a b p2 q2 hb => w_r rfl ⟨_, opAdd_int _ _, w_mnil ⟨big2, w_put rfl (w_nx ?_)⟩⟩))
  have ss1 : Sz (r2 + 1) 10 := ⟨by omega⟩
  have hs1 : 0 < r2 + 1 := by omega
  generalize r2 + 1 = s1 at ss1 hs1 ⊢
  refine w_seq (w_setR (e_abs (x := d0) rfl) rfl (w_nx (w_seq (w_setR (e_abs (x := e0) rfl) rfl (w_nx ?_)))))
  have sd : Sz (d0.natAbs : Int) 120 := ⟨by rw [Int.natAbs_natCast]; exact hsd.lt⟩
  have se : Sz (e0.natAbs : Int) 120 := ⟨by rw [Int.natAbs_natCast]; exact hse.lt⟩
  generalize (d0.natAbs : Int) = d at sd ⊢
  generalize (e0.natAbs : Int) = e at se ⊢
  refine w_seq (w_setR (e_r2p (e_r2p (t := .pl (.int s1)) (t' := .pl (.int s0)) rfl rfl (opSub_int _ _)) rfl (opMul_sz (by decide))) rfl (w_nx ?_))
  refine w_seq (w_setR (d := .lst (iL (betwL as bs ((s1 - s0) * e) (s0 * d) count))) ?_ rfl (w_nx ?_))
  · refine e_compR (n := count) (fun k => (s1 - s0) * e * as.getD k 0 + s0 * d * bs.getD k 0) (e_src (e_rcons rfl e_rnil) (rng1 (by omega))) (by omega) fun k hk => ?_
    have q1 := getD_sz ha k
    have q2 := getD_sz hbs k
    refine ⟨_, rfl, e_r2p (t := .pl (.int ((s1 - s0) * e * as.getD k 0))) (t' := .pl (.int (s0 * d * bs.getD k 0))) ?_ ?_ (opAdd_int _ _)⟩
    · refine e_r2p (t := .pl (.int ((s1 - s0) * e))) (t' := .pl (.int (as.getD k 0))) ?_ ?_ (opMul_sz (by decide))
      · rfl
      · exact e_r2p (t := .pl (.lst (iL as))) (t' := .pl (.int (k : Nat))) rfl rfl (ix_iL (by omega))
    · refine e_r2p (t := .pl (.int (s0 * d))) (t' := .pl (.int (bs.getD k 0))) ?_ ?_ (opMul_sz (by decide))
      · exact e_r2p (t := .pl (.int s0)) (t' := .pl (.int d)) rfl rfl (opMul_sz (by decide))
      · exact e_r2p (t := .pl (.lst (iL bs))) (t' := .pl (.int (k : Nat))) rfl rfl (ix_iL (by omega))
  have lst1 : opAdd (.pl (.lst (iL as))) (.pl (.lst [.int d])) = some (.ol (iL (as ++ [d]))) := add_iL (b := [d]) (by simp; omega)
  have lst2 : opAdd (.pl (.lst (iL bs))) (.pl (.lst [.int e])) = some (.ol (iL (bs ++ [e]))) := add_iL (b := [e]) (by simp; omega)
  refine w_seq (w_setR (e_callp (e_rcons (t := .pl (.tup (iL (as ++ [d])))) (e_rNp (e_rcons (e_r2l (t := .pl (.lst (iL as))) rfl (e_rlst (e_rcons rfl e_rnil) rfl big1) lst1) e_rnil) rfl) (e_rcons (t := .pl (.tup (iL (bs ++ [e])))) (e_rNp (e_rcons (e_r2l (t := .pl (.lst (iL bs))) rfl (e_rlst (e_rcons rfl e_rnil) rfl big1) lst2) e_rnil) rfl) (e_rcons (t := .pl (.tup (iL [s0, s1]))) rfl e_rnil))) (between_ok ha hbs sd se ss0 ss1 la lb hc) rfl) rfl (w_nx ?_))
  refine w_retR (e_stands (nums := betwL as bs ((s1 - s0) * e) (s0 * d) count) (den := s1 * d * e) rfl rfl (e_r2p (e_r2p (t := .pl (.int s1)) rfl rfl (opMul_sz (by decide))) rfl (opMul_sz (by decide))) (betw_sz ha hbs ⟨szl inferInstance (by decide)⟩ ⟨szl inferInstance (by decide)⟩) (szl inferInstance (by decide)) (by simp [betwL]; exact hc)) (fn_rt rfl ⟨rfl, a, b, hb, rfl⟩)
end Law

set_option exponentiation.threshold 20000
set_option maxHeartbeats 4000000
namespace Law
open PySem PySem.Spec L2 Mir
theorem e_rNl {env : Slots} {κ : Rd (List T)} {ts : List T} {f : List T → Option T} {ds : List D} (h : κ env = some ts) (hf : f ts = some (.ol ds)) : rN f κ env = some (.pl (.lst ds)) := e_rN h hf
theorem add_ol {a b : List Int} (h : a.length + b.length ≤ 1000000) : opAdd (.ol (iL a)) (.ol (iL b)) = some (.ol (iL (a ++ b))) := by
  show (if (iL a).length + (iL b).length ≤ big then some (T.ol (iL a ++ iL b)) else none) = _
  rw [List.length_map, List.length_map, if_pos h]
  unfold iL
  rw [List.map_append]
theorem ix_ol {xs : List Int} {k : Nat} (h : k < xs.length) : opIx (.ol (iL xs)) (.pl (.int (k : Int))) = some (.pl (.int (xs.getD k 0))) := by
  show (atI (iL xs) (k : Int)).map T.pl = _
  have := ix_iL h
  exact this
theorem sumTo_comm {n : Nat} {f g : Nat → Int} : sumTo n (fun k => f k * g k) = sumTo n fun k => g k * f k := sumTo_congr fun k _ => Int.mul_comm _ _
theorem dot_short {row ps : List Int} {n : Nat} (h : n ≤ row.length) : dotL row ((List.range n).map fun k => ps.getD k 0) = sumTo n fun k => row.getD k 0 * ps.getD k 0 := by
  unfold dotL
  rw [List.length_map, List.length_range, Nat.min_eq_right h]
  exact sumTo_congr fun k hk => by simp [hk]
theorem dot_short' {row ps : List Int} {n : Nat} (h : n ≤ row.length) : dotL ((List.range n).map fun k => ps.getD k 0) row = sumTo n fun k => row.getD k 0 * ps.getD k 0 := by
  unfold dotL
  rw [List.length_map, List.length_range, Nat.min_eq_left h]
  exact sumTo_congr fun k hk => by simp [hk, Int.mul_comm]
theorem slack_eq {row ps : List Int} {n : Nat} (h : row.length = n + 1) (h2 : ps.length = n + 1) : slackL row ps = row.getD n 0 * ps.getD n 0 - sumTo n fun k => row.getD k 0 * ps.getD k 0 := by
  unfold slackL dotL
  rw [h, h2, List.length_dropLast, h]
  simp only [Nat.add_sub_cancel]
  rw [Nat.min_eq_left (by omega)]
  congr 1
  exact sumTo_congr fun k hk => by
    rw [List.getD_eq_getElem?_getD, List.getElem?_dropLast, if_pos (by omega), ← List.getD_eq_getElem?_getD]
theorem law_sums_ok {a b size : Int} {count : Nat} (hs : Sz size 101) (hp : 0 < size) (hc : count < 900000) (hc0 : 0 < count) (hb : OkB b) : WF (m__law_sums [.ol [.int a, .int b], .pl (.int size), .pl (.int (count : Nat))]) fun t o => t = .pl (.bl true) ∧ ∃ a' b', OkB b' ∧ o = [.ol [.int a', .int b'], .pl (.int size), .pl (.int (count : Nat))] := by
  have s1 : Sz (2 * size + 1) 104 := ⟨szl inferInstance (by decide)⟩
  have hz := hs.lt
  have hc1 : count + 1 < 1000000 := by omega
  refine w_fn rfl (w_seq (w_set (w_mfz ?_)))
  refine w_drawn (j := 6) (n := count + 1) (E := fun a b => [some (.ol [.int a, .int b]), some (.pl (.int size)), some (.pl (.int (count : Nat))), none, none, none, none, none, none]) (E1 := fun d a b => [some (.ol [.int a, .int b]), some (.pl (.int size)), some (.pl (.int (count : Nat))), none, none, none, some (.pl d), none, none]) (P := fun x => x.natAbs < 2 ^ 120) hc1 (fun {L} hL => w_src (w_mcons (w_r (d := .int ((count + 1 : Nat) : Int)) rfl (w_mnil ⟨_, rng1 hc1, hL⟩)))) hb rfl (fun _ _ => rfl) (fun _ _ _ => rfl) ?_ ?_
  · intro d a b hb
    refine w_m2 (w_pick s1 (by decide) (by omega) rfl hb (e_r2p (e_r2p rfl rfl (opMul_sz (by decide))) rfl (opAdd_int _ _)) fun r a' b' h0 h1 hb' => w_r rfl ⟨_, opSub_int _ _, _, a', b', rfl, ?_, hb', rfl⟩)
    have sr : Sz (r - size) 102 := ⟨by
      rw [Nat.pow_succ]; omega⟩
    exact szl sr (by decide)
  intro row a b rl hrow hb
  refine w_put rfl (w_nx (w_seq (w_set (w_m2 ?_))))
  refine w_drawn (j := 6) (n := count) (E := fun a b => [some (.ol [.int a, .int b]), some (.pl (.int size)), some (.pl (.int (count : Nat))), some (.pl (.lst (iL row))), none, none, none, none, none]) (E1 := fun d a b => [some (.ol [.int a, .int b]), some (.pl (.int size)), some (.pl (.int (count : Nat))), some (.pl (.lst (iL row))), none, none, some (.pl d), none, none]) (P := fun x => x.natAbs < 2 ^ 120) (by omega) (fun {L} hL => w_src (w_mcons (w_r rfl (w_mnil ⟨_, rng1 (by omega), hL⟩)))) hb rfl (fun _ _ => rfl) (fun _ _ _ => rfl) ?_ ?_
  · intro d a b hb
    refine w_m2 (w_pick s1 (by decide) (by omega) rfl hb (e_r2p (e_r2p rfl rfl (opMul_sz (by decide))) rfl (opAdd_int _ _)) fun r a' b' h0 h1 hb' => w_r rfl ⟨_, opSub_int _ _, _, a', b', rfl, ?_, hb', rfl⟩)
    have sr : Sz (r - size) 102 := ⟨by
      rw [Nat.pow_succ]; omega⟩
    exact szl sr (by decide)
  intro ps0 a b pl hps hb
  refine w_mlst (w_mcons (w_pick (n := 3) inferInstance (by decide) (by decide) rfl hb rfl fun r a b h0 h1 hb => w_mnil ⟨big1, _, add_ol (b := [r]) (by simp; omega), w_put rfl (w_nx ?_)⟩))
  have hps : ∀ x ∈ ps0 ++ [r], x.natAbs < 2 ^ 120 := by
    intro x hx
    rcases List.mem_append.mp hx with hx | hx
    · exact hps x hx
    · simp at hx; subst hx; omega
  have pl : (ps0 ++ [r]).length = count + 1 := by simp [pl]
  generalize ps0 ++ [r] = ps at hps pl ⊢
  refine w_seq (W.mono (Q := fun fl e => fl = .nx ∧ ∃ qs : List Int, qs.length = count + 1 ∧ (∀ x ∈ qs, x.natAbs < 2 ^ 120) ∧ e = [some (.ol [.int a, .int b]), some (.pl (.int size)), some (.pl (.int (count : Nat))), some (.pl (.lst (iL row))), some (.ol (iL qs)), none, none, none, none]) (w_ifr (e_and (e_rb (e_r2p (e_r2p rfl rfl (ix_ol (k := count) (by omega))) rfl (opEq_int _ _ _)) rfl) fun _ => e_rb (e_r2p (e_r2p rfl rfl (ix_ol (k := 0) (by omega))) rfl (opEq_int _ _ _)) rfl) (fun _ => ?_) fun _ => ?_) ?_)
  · refine w_setix (w_r rfl ⟨iL ps, 0, 0, rfl, rfl, ?_, rfl, ps.set 0 1, by simp [pl], ?_, ?_⟩)
    · unfold L2.ixN iL
      rw [List.length_map, if_pos (by decide), if_pos (by omega)]; rfl
    · intro x hx
      rcases List.mem_or_eq_of_mem_set hx with hx | rfl
      · exact hps x hx
      · exact Nat.one_lt_two_pow (by omega)
    · show _ = [_, _, _, _, some (T.ol (List.map D.int (ps.set 0 1))), _, _, _, _]
      rw [List.map_set]; rfl
  · exact w_skip ⟨rfl, ps, pl, hps, rfl⟩
  clear hps pl
  rintro fl e ⟨rfl, ps, pl, hps, rfl⟩
  refine w_nx (w_seq (w_setR rfl rfl (w_nx (w_seq (w_for (w_src (w_mcons (w_r rfl (w_mnil ⟨_, rng1 (n := count) (by omega), ?_⟩)))))))))
  refine w_forN (fun k e => ∃ s6, e = [some (.ol [.int a, .int b]), some (.pl (.int size)), some (.pl (.int (count : Nat))), some (.pl (.lst (iL row))), some (.ol (iL ps)), some (.pl (.int (sumTo k fun k => row.getD k 0 * ps.getD k 0))), s6, none, none]) ⟨none, rfl⟩ ?_ ?_
  · rintro k d e hk0 ⟨s6, rfl⟩
    obtain ⟨hk, hd⟩ := rng_at hk0
    subst hd
    have q1 := getD_sz hrow k
    have q2 := getD_sz hps k
    refine ⟨_, rfl, w_setR (e_r2p rfl (e_r2p (e_r2p rfl rfl (ix_iL (by omega))) (e_r2p rfl rfl (ix_ol (by omega))) (opMul_sz (by decide))) (opAdd_int _ _)) rfl (f_nx ⟨some (.pl (.int (k : Nat))), ?_⟩)⟩
    rw [sumTo_succ]; rfl
  rintro e ⟨s6, rfl⟩
  have ll : (iL ((List.range count).map fun k : Nat => (k : Int))).length = count := by simp [iL]
  rw [ll]
  generalize hT : (sumTo count fun k => row.getD k 0 * ps.getD k 0) = total
  have r200 : ∀ x ∈ row, x.natAbs < 2 ^ 200 := fun x hx => Nat.lt_of_lt_of_le (hrow x hx) (Nat.pow_le_pow_right (by decide) (by decide))
  have p200 : ∀ x ∈ ps, x.natAbs < 2 ^ 200 := fun x hx => Nat.lt_of_lt_of_le (hps x hx) (Nat.pow_le_pow_right (by decide) (by decide))
  have q1 := getD_sz hrow count
  have q2 := getD_sz hps count
  have nr : row ≠ [] := by intro h; rw [h] at rl; simp at rl
  have np : ps ≠ [] := by intro h; rw [h] at pl; simp at pl
  have sl : slackL row ps = row.getD count 0 * ps.getD count 0 - total := by rw [slack_eq rl pl, hT]
  have st := slack_tup r200 p200 nr np
  have sL := slack_lst r200 p200 nr np
  rw [sl] at st sL
  refine w_nx (w_seq (w_setR (e_r2p (e_r2p (e_r2p rfl rfl (ix_iL (k := count) (by omega))) (e_r2p rfl rfl (ix_ol (k := count) (by omega))) (opMul_sz (by decide))) rfl (opSub_int _ _)) rfl (w_nx ?_)))
  generalize row.getD count 0 * ps.getD count 0 - total = due at st sL ⊢
  have dL := dot_lst r200 p200
  refine w_seq (w_setR (d := .lst (iL ((List.range count).map fun k => ps.getD k 0))) (e_compR (n := count) (fun k => ps.getD k 0) (e_src (e_rcons rfl e_rnil) (rng1 (by omega))) (by omega) fun k hk => ⟨_, rfl, e_r2p (t := .ol (iL ps)) rfl rfl (ix_ol (by omega))⟩) rfl (w_nx ?_))
  have sh200 : ∀ x ∈ (List.range count).map (fun k => ps.getD k 0), x.natAbs < 2 ^ 200 := by
    intro x hx
    obtain ⟨k, hk, rfl⟩ := List.mem_map.mp hx
    exact (getD_sz p200 k).lt
  have ds := dot_lst r200 sh200
  have dt := dot_tup sh200 r200
  rw [dot_short (by omega), hT] at ds
  rw [dot_short' (by omega), hT] at dt
  have d0 := dot_lst (xs := []) (by simp) r200
  have z0 : dotL [] row = 0 := by unfold dotL; simp [sumTo]
  rw [z0] at d0
  generalize (List.range count).map (fun k => ps.getD k 0) = short at ds dt ⊢
  generalize dotL row ps = dd at dL
  have et : ∀ {env : Slots}, env[3]? = some (some (.pl (.lst (iL row)))) → env[4]? = some (some (.ol (iL ps))) → rCall m_slack (rcons (rN opTuple (rcons (rv 3) rnil)) (rcons (rN opTuple (rcons (rv 4) rnil)) rnil)) env = some (.pl (.int due)) := fun {env} h3 h4 =>
    e_callp (e_rcons (t := .pl (.tup (iL row))) (e_rNp (e_rcons (t := .pl (.lst (iL row))) (by unfold rv; rw [h3]; rfl) e_rnil) rfl) (e_rcons (t := .pl (.tup (iL ps))) (e_rNp (e_rcons (t := .ol (iL ps)) (by unfold rv; rw [h4]; rfl) e_rnil) rfl) e_rnil)) st rfl
  refine w_seq (w_ifr (c := false) (e_not (x := true) (e_rb (e_callp (e_rcons (e_rtup (ds := iL [due, dd]) (e_rcons (et rfl rfl) (e_rcons (e_callp (e_rcons (t := .pl (.lst (iL row))) (e_rNl (e_rcons (t := .pl (.lst (iL row))) rfl e_rnil) rfl) (e_rcons (t := .pl (.lst (iL ps))) (e_rNl (e_rcons (t := .ol (iL ps)) rfl e_rnil) rfl) e_rnil)) dL rfl) e_rnil)) rfl big2) (e_rcons rfl e_rnil)) (are_ints_ok (xs := [due, dd])) rfl) rfl)) (fun h => by cases h) fun _ => w_skip (w_nx ?_))
  refine w_seq (w_ifr (c := false) ((e_or (x := false) (y := false) (e_rb (e_r2p (et rfl rfl) rfl (opEq_int _ _ _)) (by simp [asB])) fun _ => e_rb (e_r2p (e_callp (e_rcons (t := .pl (.lst (iL row))) (e_rNl (e_rcons (t := .pl (.lst (iL row))) rfl e_rnil) rfl) (e_rcons (t := .pl (.lst (iL ps))) (e_rNl (e_rcons (t := .ol (iL ps)) rfl e_rnil) rfl) e_rnil)) sL rfl) rfl (opEq_int _ _ _)) (by simp [asB])).trans rfl) (fun h => by cases h) fun _ => w_skip (w_nx ?_))
  refine w_retR ((e_andV (x := true) (y := true) ?_ fun _ => (e_andV (x := true) (y := true) ?_ fun _ => ?_).trans rfl).trans rfl) (fn_rt rfl ⟨rfl, a, b, hb, rfl⟩)
  · refine (e_r2p (e_callp (e_rcons (t := .pl (.lst (iL row))) (e_rNl (e_rcons (t := .pl (.lst (iL row))) rfl e_rnil) rfl) (e_rcons (t := .pl (.lst (iL short))) (e_rNl (e_rcons (t := .pl (.lst (iL short))) rfl e_rnil) rfl) e_rnil)) ds rfl) rfl (opEq_int _ _ _)).trans ?_
    simp
  · refine (e_r2p (e_callp (e_rcons (t := .pl (.tup (iL short))) (e_rNp (e_rcons (t := .pl (.lst (iL short))) rfl e_rnil) rfl) (e_rcons (t := .pl (.tup (iL row))) (e_rNp (e_rcons (t := .pl (.lst (iL row))) rfl e_rnil) rfl) e_rnil)) dt rfl) rfl (opEq_int _ _ _)).trans ?_
    simp
  · refine (e_r2p (e_callp (e_rcons (t := .pl (.lst (iL []))) (e_rlst e_rnil rfl (Nat.zero_le _)) (e_rcons (t := .pl (.lst (iL row))) (e_rNl (e_rcons (t := .pl (.lst (iL row))) rfl e_rnil) rfl) e_rnil)) d0 rfl) rfl (opEq_int _ _ _)).trans ?_
    simp
end Law

set_option exponentiation.threshold 20000
set_option maxHeartbeats 4000000
namespace Law
open PySem PySem.Spec L2 Mir
/-! the law -/
theorem sz_bits {z : Int} (h : Builtin.Int.intBits z ≤ 1048576) : Sz z 1048576 := ⟨by
  unfold Builtin.Int.intBits at h
  by_cases h0 : z.natAbs = 0
  · rw [h0]; exact Nat.pow_pos (by decide)
  · refine (Nat.log2_lt h0).mp ?_
    split at h
    · rename_i hz
      have : z = 0 := by simpa using hz
      omega
    · omega⟩
theorem state_ok {ns : List Int} {k : Nat} (hl : ns.length ≤ 63) (hb : ∀ z ∈ ns, Builtin.Int.intBits z ≤ 1048576) (hk : k < 1000) : WF (m__law_state [.pl (.scr (iL ns)), .pl (.int (k : Nat))]) fun t o => ∃ a b, t = .ol [.int a, .int b] ∧ OkB b ∧ o = [.pl (.scr (iL ns)), .pl (.int (k : Nat))] := by
  have sk : Sz (k : Int) 11 := ⟨by omega⟩
  have el : opLen [.pl (.scr (iL ns))] = some (.pl (.int (ns.length : Nat))) := by
    show some (T.pl (D.int ((iL ns).length : Nat))) = _
    rw [List.length_map]
  refine w_fn rfl (w_seq (w_setR rfl rfl (w_nx ?_)))
  refine w_seq (W.mono (Q := fun fl e => fl = .nx ∧ ∃ c : Int, Sz c 1048576 ∧ e = [some (.pl (.scr (iL ns))), some (.pl (.int (k : Nat))), some (.pl (.int c)), none]) (w_ifr (e_and (e_rb (e_r2p rfl (e_rNp (e_rcons rfl e_rnil) el) (opCmp_int _ _ _)) rfl) fun _ => e_rb (e_r2p rfl rfl (opCmp_int _ _ _)) rfl) (fun hc => ?_) fun _ => ?_) ?_)
  · rw [Bool.and_eq_true] at hc
    have h1 : k < ns.length := by
      have := of_decide_eq_true hc.1
      omega
    have ix : opIx (.pl (.scr (iL ns))) (.pl (.int (k : Nat))) = some (.pl (.int (ns.getD k 0))) := ix_iL h1
    refine w_setR (e_r2p rfl rfl ix) rfl ⟨rfl, _, ?_, rfl⟩
    rw [List.getD_eq_getElem?_getD, List.getElem?_eq_getElem h1]
    exact sz_bits (hb _ (List.getElem_mem h1))
  · exact w_skip ⟨rfl, 0, ⟨Nat.pow_pos (by decide)⟩, rfl⟩
  rintro fl e ⟨rfl, c, sc, rfl⟩
  refine w_nx (w_seq (w_setR rfl rfl (w_nx ?_)))
  refine w_seq (W.mono (Q := fun fl e => fl = .nx ∧ ∃ l : Int, e = [some (.pl (.scr (iL ns))), some (.pl (.int (k : Nat))), some (.pl (.int c)), some (.pl (.int l))]) (w_ifr (e_rb (e_r2p rfl (e_r2p rfl rfl rfl) (opCmp_int _ _ _)) rfl) (fun hc => w_setR rfl rfl ⟨rfl, _, rfl⟩) fun _ => w_skip ⟨rfl, _, rfl⟩) ?_)
  rintro fl e ⟨rfl, l, rfl⟩
  refine w_nx (w_ret (w_mlst (w_mcons (w_r rfl (w_mcons (w_r (e_r2p (e_rNp (e_rcons (e_r2p (e_r2p (e_r2p rfl rfl (opMul_sz (by decide))) (e_r2p rfl rfl (opMul_sz (by decide))) (opAdd_int _ _)) rfl (opAdd_int _ _)) e_rnil) rfl) rfl (opMod_pos (by decide))) (w_mnil ⟨big2, fn_rt rfl ⟨_, _, rfl, ⟨Int.emod_nonneg _ (by decide), Int.emod_lt_of_pos _ (by decide)⟩, rfl⟩⟩)))))))
theorem w_state {env : Slots} {ns : List Int} {k : Nat} {μ1 μ2 : Rd T} {R : T → Slots → Prop} (hl : ns.length ≤ 63) (hb : ∀ z ∈ ns, Builtin.Int.intBits z ≤ 1048576) (hk : k < 1000) (h1 : μ1 env = some (.pl (.scr (iL ns)))) (h2 : μ2 env = some (.pl (.int (k : Nat))))
    (h : ∀ a b, OkB b → R (.ol [.int a, .int b]) env) : W (mCall m__law_state (pval (ofR μ1) (pval (ofR μ2) pnil)) env) R := by
  refine w_call (w_pval (w_r h1 (w_pval (w_r h2 (w_pnil ⟨_, _, rfl, ?_⟩)))))
  refine (state_ok hl hb hk).mono fun t o hh => ?_
  obtain ⟨a, b, rfl, q, rfl⟩ := hh
  exact h a b q
theorem w_st1 {f : List T → FRes} {env : Slots} {i : Nat} {a b : Int} {μ : Rd T} {d : D} {R : T → Slots → Prop} (h0 : env[i]? = some (some (.ol [.int a, .int b]))) (h1 : μ env = some (.pl d))
    (h : WF (f [.ol [.int a, .int b], .pl d]) fun t o => t = .pl (.bl true) ∧ ∃ a' b', OkB b' ∧ o = [.ol [.int a', .int b'], .pl d]) (hr : ∀ a' b', OkB b' → R (.pl (.bl true)) (env.set i (some (.ol [.int a', .int b'])))) :
    W (mCall f (pslot i (pval (ofR μ) pnil)) env) R := by
  refine w_call (w_pslot h0 (w_pval (w_r h1 (w_pnil ⟨[.ol [.int a, .int b], .pl d], env.set i none, ?_, h.mono ?_⟩))))
  · unfold takeAll
    rw [h0]; rfl
  · rintro t o ⟨rfl, a', b', q, rfl⟩
    unfold backAll backAll backAll
    rw [List.set_set]
    exact hr a' b' q
theorem w_st2 {f : List T → FRes} {env : Slots} {i : Nat} {a b : Int} {μ μ' : Rd T} {d d' : D} {R : T → Slots → Prop} (h0 : env[i]? = some (some (.ol [.int a, .int b]))) (h1 : μ env = some (.pl d)) (h2 : μ' env = some (.pl d'))
    (h : WF (f [.ol [.int a, .int b], .pl d, .pl d']) fun t o => t = .pl (.bl true) ∧ ∃ a' b', OkB b' ∧ o = [.ol [.int a', .int b'], .pl d, .pl d']) (hr : ∀ a' b', OkB b' → R (.pl (.bl true)) (env.set i (some (.ol [.int a', .int b'])))) :
    W (mCall f (pslot i (pval (ofR μ) (pval (ofR μ') pnil))) env) R := by
  refine w_call (w_pslot h0 (w_pval (w_r h1 (w_pval (w_r h2 (w_pnil ⟨[.ol [.int a, .int b], .pl d, .pl d'], env.set i none, ?_, h.mono ?_⟩))))))
  · unfold takeAll
    rw [h0]; rfl
  · rintro t o ⟨rfl, a', b', q, rfl⟩
    unfold backAll backAll backAll backAll
    rw [List.set_set]
    exact hr a' b' q
theorem main (ns : List Int) (hl : ns.length ≤ 63) (hbits : ∀ z ∈ ns, Builtin.Int.intBits z ≤ 1048576) : ∃ outs, m_law [.pl (.scr (ns.map D.int))] = .ok (.pl (.bl true)) outs := by
  suffices h : WF (m_law [.pl (.scr (iL ns))]) fun t o => t = .pl (.bl true) by
    obtain ⟨t, o, h1, rfl⟩ := h.eq
    exact ⟨o, h1⟩
  refine w_fn rfl (w_seq (w_set (w_state (k := 0) hl hbits (by decide) rfl rfl fun a b hb => w_put rfl (w_nx ?_))))
  refine w_seq (w_set (w_mfz (w_m2 (w_r (d := .lst (iL [9, 1000, 10 ^ 30])) (e_rlst (e_rcons rfl (e_rcons rfl (e_rcons rfl e_rnil))) rfl (show (3 : Nat) ≤ 1000000 by decide)) (w_pick (n := 3) inferInstance (by decide) (by decide) rfl hb rfl fun r a b h0 h1 hb => ?_)))))
  have hsz : ∃ size : Int, opIx (.pl (.lst (iL [9, 1000, 10 ^ 30]))) (.pl (.int r)) = some (.pl (.int size)) ∧ 0 < size ∧ size ≤ 10 ^ 30 := by
    have : r = 0 ∨ r = 1 ∨ r = 2 := by omega
    rcases this with rfl | rfl | rfl
    · exact ⟨9, rfl, by decide, by decide⟩
    · exact ⟨1000, rfl, by decide, by decide⟩
    · exact ⟨10 ^ 30, rfl, by decide, by decide⟩
  obtain ⟨size, e1, hp, hle⟩ := hsz
  have hs : Sz size 101 := ⟨by
    have : (10 : Int) ^ 30 < 2 ^ 101 := by decide
    omega⟩
  refine ⟨_, e1, w_put rfl (w_nx ?_)⟩
  refine w_seq (w_set (w_mfz (w_m2 (w_pick (n := 5) inferInstance (by decide) (by decide) rfl hb rfl fun r1 a b p1 q1 hb => w_r rfl ⟨_, opAdd_int _ _, w_put rfl (w_nx ?_)⟩))))
  obtain ⟨count, hcount⟩ : ∃ n : Nat, r1 + 1 = (n : Int) := ⟨(r1 + 1).toNat, by omega⟩
  rw [hcount]
  have hc0 : 0 < count := by omega
  have hc : count < 900000 := by omega
  refine w_seq (w_set (w_mfz (w_m2 (w_r rfl (w_m2 (w_pick (n := 2) inferInstance (by decide) (by decide) rfl hb rfl fun r2 a b p2 q2 hb => w_pick (n := 60) inferInstance (by decide) (by decide) rfl hb rfl fun r3 a b p3 q3 hb => ?_))))))
  have sr2 : Sz r2 2 := ⟨by omega⟩
  have sr3 : Sz r3 6 := ⟨by omega⟩
  refine ⟨_, opMul_sz (by decide), _, opAdd_int _ _, w_put rfl (w_nx ?_)⟩
  have hf0 : 0 ≤ r2 * r3 := Int.mul_nonneg p2 p3
  have sf : Sz (1 + r2 * r3) 10 := ⟨szl inferInstance (by decide)⟩
  have hfp : 0 < 1 + r2 * r3 := by omega
  generalize 1 + r2 * r3 = factor at sf hfp ⊢
  refine w_seq (w_set (w_draw hs hp sf hfp (by omega) hb rfl rfl rfl rfl fun row last a b rl hrow hl0 hls hb => w_put rfl (w_nx ?_)))
  refine w_seq (w_setR (d := .lst (iL row)) rfl rfl (w_nx ?_))
  refine w_seq (W.mono (Q := fun fl e => fl = .nx ∧ ∃ (nums : List Int) (a b : Int), nums.length = count ∧ (∀ x ∈ nums, x.natAbs < 2 ^ 120) ∧ OkB b ∧ e = [some (.pl (.scr (iL ns))), some (.ol [.int a, .int b]), some (.pl (.int size)), some (.pl (.int (count : Nat))), some (.pl (.int factor)), some (.pl (.lst [.lst (iL row), .int last])), some (.pl (.lst (iL nums))), none, none]) (w_ifS (w_mb (w_m2 (w_pick (n := 5) inferInstance (by decide) (by decide) rfl hb rfl fun r4 a b p4 q4 hb => w_r rfl ⟨_, opEq_int _ _ _, _, rfl, fun hc => ?_, fun hc => ?_⟩)))) ?_)
  · refine w_setR (e_compR (n := count) (fun _ => 0) (e_src (e_rcons rfl e_rnil) (rng1 (by omega))) (by omega) fun k hk => ⟨_, rfl, rfl⟩) rfl ⟨rfl, (List.range count).map fun _ => 0, a, b, by simp, ?_, hb, rfl⟩
    intro x hx
    obtain ⟨k, hk, rfl⟩ := List.mem_map.mp hx
    exact Nat.pow_pos (by decide)
  · exact w_skip ⟨rfl, row, a, b, rl, hrow, hb, rfl⟩
  clear rl hrow
  rintro fl e ⟨rfl, nums, a, b, rl, hrow, hb, rfl⟩
  have n399 : ∀ x ∈ nums, x.natAbs < 2 ^ 399 := fun x hx => Nat.lt_of_lt_of_le (hrow x hx) (Nat.pow_le_pow_right (by decide) (by decide))
  have l399 : last.natAbs < 2 ^ 399 := szl hls (by decide)
  have low1 := lowest_lst (xs := nums) (fun x hx => sz399 (n399 x hx)) (by omega)
  have low2 := lowest_tup (xs := nums) (fun x hx => sz399 (n399 x hx)) (by omega)
  have low0 := lowest_lst (xs := []) (by simp) (by decide)
  have isl := is_lowest_ok (xs := nums) n399 (by omega)
  have hnil : lowestL [] = [] := by unfold lowestL; simp
  rw [hnil] at low0
  have p1 := point_go (nums := nums) (den := last) n399 l399 (by omega) (d := .lst (iL nums)) rfl rfl
  have p2 := point_go (nums := nums) (den := last) n399 l399 (by omega) (d := .tup (iL nums)) rfl rfl
  refine w_nx (w_seq (w_setR (e_rNl (e_rcons rfl e_rnil) rfl) rfl (w_nx ?_)))
  have eqself : ∀ xs : List Int, opEq true (.pl (.lst (iL xs))) (.pl (.lst (iL xs))) = some (.pl (.bl false)) := fun xs => by rw [opEq_lst]; simp
  have eqselfT : ∀ xs : List Int, opEq true (.pl (.tup (iL xs))) (.pl (.tup (iL xs))) = some (.pl (.bl false)) := fun xs => by rw [opEq_tup]; simp
  refine w_seq (w_ifr (c := false) ((e_or (x := false) (y := false) (e_not (x := true) (e_rb (e_callp (e_rcons (t := .pl (.tup (iL (lowestL nums)))) (e_callp (e_rcons (t := .pl (.lst (iL nums))) rfl e_rnil) low1 rfl) (e_rcons (t := .pl (.lst (iL nums))) rfl e_rnil)) isl rfl) rfl)) fun _ => e_rb (e_r2p (t := .pl (.lst (iL nums))) (t' := .pl (.lst (iL nums))) rfl rfl (eqself _)) rfl).trans rfl) (fun h => by cases h) fun _ => w_skip (w_nx ?_))
  refine w_seq (w_ifr (c := false) ((e_or (x := false) (y := false) (e_not (x := true) (e_rb (e_callp (e_rcons (t := .pl (.tup (iL (lowestL nums)))) (e_callp (e_rcons (t := .pl (.tup (iL nums))) (e_rNp (e_rcons (t := .pl (.lst (iL nums))) rfl e_rnil) rfl) e_rnil) low2 rfl) (e_rcons (t := .pl (.lst (iL nums))) rfl e_rnil)) isl rfl) rfl)) fun _ => e_rb (e_r2p (t := .pl (.tup (iL []))) (t' := .pl (.tup (iL []))) (e_callp (e_rcons (t := .pl (.lst (iL []))) (e_rlst e_rnil rfl (Nat.zero_le _)) e_rnil) low0 rfl) (e_rtup e_rnil rfl (Nat.zero_le _)) (eqselfT [])) rfl).trans rfl) (fun h => by cases h) fun _ => w_skip (w_nx ?_))
  refine w_seq (w_setR (e_rNl (e_rcons rfl e_rnil) rfl) rfl (w_nx ?_))
  refine w_seq (w_ifr (c := false) ((e_or (x := false) (y := false) (e_not (x := true) (e_rb (e_stands (nums := nums) (den := last) (e_callp (e_rcons (t := .pl (.lst (iL nums))) rfl (e_rcons (t := .pl (.int last)) rfl e_rnil)) p1 rfl) rfl rfl n399 l399 (by omega)) rfl)) fun _ => e_rb (e_r2p (t := .pl (.lst (iL nums))) (t' := .pl (.lst (iL nums))) rfl rfl (eqself _)) rfl).trans rfl) (fun h => by cases h) fun _ => w_skip (w_nx ?_))
  refine w_seq (w_ifr (c := false) (e_not (x := true) (e_rb (e_stands (nums := nums) (den := last) (e_callp (e_rcons (t := .pl (.tup (iL nums))) (e_rNp (e_rcons (t := .pl (.lst (iL nums))) rfl e_rnil) rfl) (e_rcons (t := .pl (.int last)) rfl e_rnil)) p2 rfl) rfl rfl n399 l399 (by omega)) rfl)) (fun h => by cases h) fun _ => w_skip (w_nx ?_))
  have h0n : Sz (nums.getD 0 0) 120 := getD_sz hrow 0
  have rr := ratio_ok (n := nums.getD 0 0) (d := last) (szl h0n (by decide)) l399
  refine w_seq (w_ifr (c := false) (e_not (x := true) (e_rb (e_stands (nums := [nums.getD 0 0]) (den := last) (e_callp (e_rcons (t := .pl (.int (nums.getD 0 0))) (e_r2p rfl rfl (ix_iL (k := 0) (by omega))) (e_rcons (t := .pl (.int last)) rfl e_rnil)) rr rfl) (e_rlst (e_rcons (e_r2p rfl rfl (ix_iL (k := 0) (by omega))) e_rnil) rfl big1) rfl (bnd1 (by decide)) l399 one9) rfl)) (fun h => by cases h) fun _ => w_skip (w_nx ?_))
  refine w_seq (w_set (w_state (k := 1) hl hbits (by decide) rfl rfl fun a b hb => w_put rfl (w_nx ?_)))
  refine w_seq (w_ifS (w_mNotB (w_mb (w_st1 rfl rfl (law_arith_ok hs hp hb) fun a b hb => ⟨true, rfl, (fun h => by simp at h), fun _ => w_skip (w_nx ?_)⟩))))
  refine w_seq (w_set (w_state (k := 2) hl hbits (by decide) rfl rfl fun a b hb => w_put rfl (w_nx ?_)))
  refine w_ret (w_mAndV (w_st2 rfl rfl rfl (law_between_ok hs hp hc hb) fun a b hb => ⟨true, rfl, fun _ => ?_, fun h => by cases h⟩))
  refine w_st2 rfl rfl rfl (law_sums_ok hs hp hc hc0 hb) fun a b hb => ?_
  exact fn_rt rfl rfl
end Law

open PySem PySem.W PyProof.Rows
set_option maxHeartbeats 0 in
theorem PySem.Challenge.cw_whateverthenumbers_k00_points_in_lowest_holds : PySem.Challenge.rw_whateverthenumbers_k00_points_in_lowest.Holds := by
  w_on; o_law; k_head; (case hw => w_witness2)
  k_fill
  refine L2.walk_ofB (l := PySem.Challenge.rw_whateverthenumbers_k00_points_in_lowest) (n := 63) (k := 6) (x := "script") (CX := fun _ => L2.CX0) (sp := fun w => Mir.spLaw _) rfl (by decide) rfl ⟨rfl, by decide, by decide⟩ (fun w h Y => PySem.W.kIn_of Y) ?F (fun w H a ns h1 h2 _ h3 => ⟨a, ns, rfl, h3, h1, h2, fun _ => rfl⟩) (fun _ _ _ _ _ h => h)
  case F =>
    intro w mg fa h KX G hmg
    refine' Law.all_mk Law.main KX G hmg ?a0 ?l0 ?c0 ?k0 ?a1 ?l1 ?c1 ?k1 ?a2 ?l2 ?c2 ?k2 ?a3 ?l3 ?c3 ?k3 ?a4 ?l4 ?c4 ?k4 ?a5 ?l5 ?c5 ?k5 ?a6 ?l6 ?c6 ?k6 ?a7 ?l7 ?c7 ?k7 ?a8 ?l8 ?c8 ?k8 ?a9 ?l9 ?c9 ?k9 ?a10 ?l10 ?c10 ?k10 ?a11 ?l11 ?c11 ?k11 ?a12 ?l12 ?c12 ?k12 ?a13 ?l13 ?c13 ?k13 ?a14 ?l14 ?c14 ?k14 ?a15 ?l15 ?c15 ?k15 ?a16 ?l16 ?c16 ?k16 ?a17 ?l17 ?c17 ?k17 ?a18 ?l18 ?c18 ?k18 ?a19 ?l19 ?c19 ?k19 ?a20 ?l20 ?c20 ?k20 ?z_abs ?z_bool ?z_int ?z_isinstance ?z_len ?z_list ?z_range ?z_tuple ?z_zip ?x_gcd
    (case a0 => k_is); (case l0 => k_is); (case c0 => k_is); (case k0 => k_is); (case a1 => k_is); (case l1 => k_is); (case c1 => k_is); (case k1 => k_is); (case a2 => k_is); (case l2 => k_is); (case c2 => k_is); (case k2 => k_is); (case a3 => k_is); (case l3 => k_is); (case c3 => k_is); (case k3 => k_is); (case a4 => k_is); (case l4 => k_is); (case c4 => k_is); (case k4 => k_is); (case a5 => k_is); (case l5 => k_is); (case c5 => k_is); (case k5 => k_is); (case a6 => k_is); (case l6 => k_is); (case c6 => k_is); (case k6 => k_is); (case a7 => k_is); (case l7 => k_is); (case c7 => k_is); (case k7 => k_is); (case a8 => k_is); (case l8 => k_is); (case c8 => k_is); (case k8 => k_is); (case a9 => k_is); (case l9 => k_is); (case c9 => k_is); (case k9 => k_is); (case a10 => k_is); (case l10 => k_is); (case c10 => k_is); (case k10 => k_is); (case a11 => k_is); (case l11 => k_is); (case c11 => k_is); (case k11 => k_is); (case a12 => k_is); (case l12 => k_is); (case c12 => k_is); (case k12 => k_is); (case a13 => k_is); (case l13 => k_is); (case c13 => k_is); (case k13 => k_is); (case a14 => k_is); (case l14 => k_is); (case c14 => k_is); (case k14 => k_is); (case a15 => k_is); (case l15 => k_is); (case c15 => k_is); (case k15 => k_is); (case a16 => k_is); (case l16 => k_is); (case c16 => k_is); (case k16 => k_is); (case a17 => k_is); (case l17 => k_is); (case c17 => k_is); (case k17 => k_is); (case a18 => k_is); (case l18 => k_is); (case c18 => k_is); (case k18 => k_is); (case a19 => k_is); (case l19 => k_is); (case c19 => k_is); (case k19 => k_is); (case a20 => k_is); (case l20 => k_is); (case c20 => k_is); (case k20 => k_is); (case z_abs => k_is); (case z_bool => k_is); (case z_int => k_is); (case z_isinstance => k_is); (case z_len => k_is); (case z_list => k_is); (case z_range => k_is); (case z_tuple => k_is); (case z_zip => k_is); (case x_gcd => k_is)
