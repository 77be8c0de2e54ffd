import PyProof.Rows.All
import Wide.All
import OpenK.AllK
import Wide.FinOn
import HandS.ForMost
import HandS.Wide
import HandS.Gcd
import HandS.IsInst
import HandS.TupAny
import HandS.Zip
import HandS.Conv
import HandS.EndBits
import HandS.ForExc
import HandS.CallSlots
import HandS.Flow
import HandS.TupLe
import PyProof.StrOps2
import HandS.Deep
import HandS.TryOnly
import KE.DataMinMax
import HandS.SortInts
import HandS.More
import KE.GoesMore
import PySem.Challenge.RW_whateverthenumbers_k04_shapes_of_certifi
set_option Elab.async false
set_option linter.all false
set_option maxRecDepth 100000
set_option exponentiation.threshold 20000
/-! Mir1: deep values, worlds, what a value stands for. -/
namespace Mir
open PySem L2

/-- deep values -/
inductive D where
  | non | bl (b : Bool) | int (i : Int) | str (x : Str) | ty (n : String) | cls (x : Str)
  | tup (xs : List D) | lst (xs : List D) | obj (c : Str) (fs : List (Str × D)) | scr (xs : List D)
/-- values with parts that are owned (changed in place) -/
inductive T where
  | pl (d : D) | ol (xs : List D) | oo (c : Str) (fs : List (Str × T))

mutual
def T.frz : T → D
  | .pl d => d
  | .ol xs => .lst xs
  | .oo c fs => .obj c (T.frzF fs)
def T.frzF : List (Str × T) → List (Str × D)
  | [] => []
  | (x, t) :: r => (x, T.frz t) :: T.frzF r
end

abbrev Slots := List (Option T)
/-- an exception: its class's name, its fields -/
structure Exn where
  c : Str
  fs : List (Str × D)
inductive Out (α : Type) where
  | ok (a : α) (env : Slots) | ex (x : Exn) (env : Slots) | no
abbrev M (α : Type) := Slots → Out α
/-- flows of a statement -/
inductive Fl where
  | nx | bk | ct | rt (t : T)
abbrev MS := M Fl
/-- pure reading -/
abbrev Rd (α : Type) := Slots → Option α

/-! ### worlds -/
structure Wd where
  F : Addr → Prop
  H : Hp
  own : List Addr
structure Wd.Ok (w : Wd) : Prop where
  nd : w.own.Nodup
  nf : ∀ b ∈ w.own, ¬ w.F b
  so : ∀ b ∈ w.own, w.H b ≠ none
  fs : ∀ b, w.F b → w.H b ≠ none
structure Go (w w' : Wd) : Prop where
  keep : ∀ b o, w.H b = some o → b ∉ w.own → w'.H b = some o
  grow : ∀ b, w.F b → w'.F b
  newF : ∀ b, w'.F b → w.F b ∨ b ∈ w.own ∨ w.H b = none
  newO : ∀ b ∈ w'.own, b ∈ w.own ∨ w.H b = none
  ok : w'.Ok
/-- .. and what is owned stands as it stood -/
structure GoR (w w' : Wd) : Prop extends Go w w' where
  all : ∀ b o, w.H b = some o → w'.H b = some o
structure Le (F : Addr → Prop) (H : Hp) (F' : Addr → Prop) (H' : Hp) : Prop where
  grow : ∀ b, F b → F' b
  keep : ∀ b o, F b → H b = some o → H' b = some o

theorem some_of_ne {H : Hp} {b : Addr} (h : H b ≠ none) : ∃ o, H b = some o := by
  cases e : H b with
  | none => exact absurd e h
  | some o => exact ⟨o, rfl⟩

theorem Le.refl (F : Addr → Prop) (H : Hp) : Le F H F H := ⟨fun _ h => h, fun _ _ _ h => h⟩
theorem Le.trans {F H F1 H1 F2 H2} (a : Le F H F1 H1) (b : Le F1 H1 F2 H2) : Le F H F2 H2 :=
  ⟨fun x h => b.grow x (a.grow x h), fun x o h e => b.keep x o (a.grow x h) (a.keep x o h e)⟩
theorem Go.le {w w' : Wd} (ok : w.Ok) (g : Go w w') : Le w.F w.H w'.F w'.H :=
  ⟨g.grow, fun b o hf e => g.keep b o e fun hb => ok.nf b hb hf⟩
theorem Go.refl {w : Wd} (ok : w.Ok) : Go w w := ⟨fun _ _ e _ => e, fun _ h => h, fun _ h => .inl h, fun _ h => .inl h, ok⟩
theorem GoR.refl {w : Wd} (ok : w.Ok) : GoR w w := ⟨Go.refl ok, fun _ _ e => e⟩
theorem Go.trans {w w1 w2 : Wd} (a : Go w w1) (b : Go w1 w2) : Go w w2 := by
  have key : ∀ c, w1.H c = none → c ∈ w.own ∨ w.H c = none := fun c hc => by
    cases e : w.H c with
    | none => exact .inr rfl
    | some o =>
      by_cases hm : c ∈ w.own
      · exact .inl hm
      · have := a.keep c o e hm
        rw [hc] at this; cases this
  refine ⟨fun c o e hc => ?_, fun c h => b.grow c (a.grow c h), fun c h => ?_, fun c h => ?_, b.ok⟩
  · refine b.keep c o (a.keep c o e hc) fun hm => ?_
    rcases a.newO c hm with z | z
    · exact hc z
    · rw [e] at z; cases z
  · rcases b.newF c h with z | z | z
    · exact a.newF c z
    · exact .inr (a.newO c z)
    · exact .inr (key c z)
  · rcases b.newO c h with z | z
    · exact a.newO c z
    · exact key c z
theorem GoR.trans {w w1 w2 : Wd} (a : GoR w w1) (b : GoR w1 w2) : GoR w w2 := ⟨a.toGo.trans b.toGo, fun c o e => b.all c o (a.all c o e)⟩
/-- owned things that the step does not know stay owned -/
theorem Go.ctx {F H as F' H' as'} {c : List Addr} (g : Go ⟨F, H, as⟩ ⟨F', H', as'⟩) (ok : Wd.Ok ⟨F, H, as ++ c⟩) : Go ⟨F, H, as ++ c⟩ ⟨F', H', as' ++ c⟩ := by
  obtain ⟨nd, nf, so, fs⟩ := ok
  have nd' := List.nodup_append.mp nd
  have hc : ∀ b ∈ c, b ∉ as := fun b hb ha => nd'.2.2 b ha b hb rfl
  have hcF : ∀ b ∈ c, ¬ F' b := fun b hb hF => by
    rcases g.newF b hF with z | z | z
    · exact nf b (List.mem_append_right _ hb) z
    · exact hc b hb z
    · exact so b (List.mem_append_right _ hb) z
  have hcO : ∀ b ∈ c, b ∉ as' := fun b hb ho => by
    rcases g.newO b ho with z | z
    · exact hc b hb z
    · exact so b (List.mem_append_right _ hb) z
  refine ⟨fun b o e hb => g.keep b o e fun z => hb (List.mem_append_left _ z), g.grow, fun b h => ?_, fun b h => ?_, ?_, ?_, ?_, g.ok.fs⟩
  · rcases g.newF b h with z | z | z
    · exact .inl z
    · exact .inr (.inl (List.mem_append_left _ z))
    · exact .inr (.inr z)
  · rcases List.mem_append.mp h with z | z
    · rcases g.newO b z with y | y
      · exact .inl (List.mem_append_left _ y)
      · exact .inr y
    · exact .inl (List.mem_append_right _ z)
  · exact List.nodup_append.mpr ⟨g.ok.nd, nd'.2.1, fun a ha b hb e => hcO b hb (e ▸ ha)⟩
  · intro b hb
    rcases List.mem_append.mp hb with z | z
    · exact g.ok.nf b z
    · exact hcF b z
  · intro b hb
    rcases List.mem_append.mp hb with z | z
    · exact g.ok.so b z
    · obtain ⟨o, e⟩ := some_of_ne (so b (List.mem_append_right _ z))
      rw [g.keep b o e (hc b z)]
      exact fun q => nomatch q
/-- fewer owned things -/
theorem Wd.Ok.sub {F H l l'} (ok : Wd.Ok ⟨F, H, l⟩) (nd : l'.Nodup) (h : ∀ b ∈ l', b ∈ l) : Wd.Ok ⟨F, H, l'⟩ :=
  ⟨nd, fun b hb => ok.nf b (h b hb), fun b hb => ok.so b (h b hb), ok.fs⟩
theorem Go.sub {w : Wd} {F H l l'} (g : Go w ⟨F, H, l⟩) (nd : l'.Nodup) (h : ∀ b ∈ l', b ∈ l) : Go w ⟨F, H, l'⟩ :=
  ⟨g.keep, g.grow, g.newF, fun b hb => g.newO b (h b hb), g.ok.sub nd h⟩
/-- the same owned things in another order at the start, or more of them -/
theorem Go.src {F H l l'} {w' : Wd} (g : Go ⟨F, H, l⟩ w') (h : ∀ b ∈ l, b ∈ l') : Go ⟨F, H, l'⟩ w' :=
  ⟨fun b o e hb => g.keep b o e fun z => hb (h b z), g.grow, fun b hb => (g.newF b hb).imp id (Or.imp (h b) id), fun b hb => (g.newO b hb).imp (h b) id, g.ok⟩

/-- a new thing laid, to be read only -/
theorem Wd.Ok.lay {F H l} {p : Addr} {o : HO} (ok : Wd.Ok ⟨F, H, l⟩) (hp : H p = none) : GoR ⟨F, H, l⟩ ⟨fun b => F b ∨ b = p, upd H p o, l⟩ := by
  have ne : ∀ b u, H b = some u → b ≠ p := fun b u e => ne_of_none e hp
  have all : ∀ b u, H b = some u → upd H p o b = some u := fun b u e => by rw [upd_ne (ne b u e)]; exact e
  have so' : ∀ b, H b ≠ none → upd H p o b ≠ none := fun b h => by
    obtain ⟨u, e⟩ := some_of_ne h
    rw [all b u e]; exact fun q => nomatch q
  refine ⟨⟨fun b u e _ => all b u e, fun b h => .inl h, fun b h => ?_, fun b h => .inl h, ok.nd, fun b hb h => ?_, fun b hb => so' b (ok.so b hb), fun b h => ?_⟩, all⟩
  · rcases h with h | rfl
    · exact .inl h
    · exact .inr (.inr hp)
  · rcases h with h | rfl
    · exact ok.nf b hb h
    · exact ok.so b hb hp
  · rcases h with h | rfl
    · exact so' b (ok.fs b h)
    · show upd H b o b ≠ none
      rw [upd_same]; exact fun q => nomatch q
/-- a new thing laid, owned -/
theorem Wd.Ok.layO {F H l} {p : Addr} {o : HO} (ok : Wd.Ok ⟨F, H, l⟩) (hp : H p = none) : Go ⟨F, H, l⟩ ⟨F, upd H p o, l ++ [p]⟩ := by
  have ne : ∀ b u, H b = some u → b ≠ p := fun b u e => ne_of_none e hp
  have all : ∀ b u, H b = some u → upd H p o b = some u := fun b u e => by rw [upd_ne (ne b u e)]; exact e
  have so' : ∀ b, H b ≠ none → upd H p o b ≠ none := fun b h => by
    obtain ⟨u, e⟩ := some_of_ne h
    rw [all b u e]; exact fun q => nomatch q
  have hpl : p ∉ l := fun h => ok.so p h hp
  refine ⟨fun b u e _ => all b u e, fun b h => h, fun b h => .inl h, fun b h => ?_, ?_, fun b hb h => ?_, fun b hb => ?_, fun b h => so' b (ok.fs b h)⟩
  · rcases List.mem_append.mp h with z | z
    · exact .inl z
    · rw [List.mem_singleton.mp z]; exact .inr hp
  · exact List.nodup_append.mpr ⟨ok.nd, by simp, fun a ha b hb e => hpl (by rw [List.mem_singleton.mp hb] at e; exact e ▸ ha)⟩
  · rcases List.mem_append.mp hb with z | z
    · exact ok.nf b z h
    · rw [List.mem_singleton.mp z] at h; exact ok.fs p h hp
  · rcases List.mem_append.mp hb with z | z
    · exact so' b (ok.so b z)
    · rw [List.mem_singleton.mp z]
      show upd H p o p ≠ none
      rw [upd_same]; exact fun q => nomatch q
/-- an owned thing is changed -/
theorem Wd.Ok.mut {F H l} {a : Addr} {o : HO} (ok : Wd.Ok ⟨F, H, l⟩) (ha : a ∈ l) : Go ⟨F, H, l⟩ ⟨F, upd H a o, l⟩ := by
  have so' : ∀ b, H b ≠ none → upd H a o b ≠ none := fun b h => by
    by_cases e : b = a
    · rw [e, upd_same]; exact fun q => nomatch q
    · rw [upd_ne e]; exact h
  refine ⟨fun b u e hb => ?_, fun b h => h, fun b h => .inl h, fun b h => .inl h, ok.nd, ok.nf, fun b hb => so' b (ok.so b hb), fun b h => so' b (ok.fs b h)⟩
  show upd H a o b = some u
  rw [upd_ne (fun z => hb (by rw [z]; exact ha))]
  exact e
/-- owned things are not changed any more -/
theorem Wd.Ok.freeze {F H l c} (ok : Wd.Ok ⟨F, H, l ++ c⟩) : Go ⟨F, H, l ++ c⟩ ⟨fun b => F b ∨ b ∈ c, H, l⟩ := by
  have nd' := List.nodup_append.mp ok.nd
  refine ⟨fun b u e hb => e, fun b h => .inl h, fun b h => ?_, fun b h => .inl (List.mem_append_left _ h), nd'.1, fun b hb h => ?_, fun b hb => ok.so b (List.mem_append_left _ hb), fun b h => ?_⟩
  · rcases h with h | h
    · exact .inl h
    · exact .inr (.inl (List.mem_append_right _ h))
  · rcases h with h | h
    · exact ok.nf b (List.mem_append_left _ hb) h
    · exact nd'.2.2 b hb b h rfl
  · rcases h with h | h
    · exact ok.fs b h
    · exact ok.so b (List.mem_append_right _ h)

/-! ### what stands for what -/
def FT (K : PySem.W.Frag) (F : Addr → Prop) (H : Hp) (a : Addr) (vs : List V) : Prop := SqT K H a vs ∧ (F a ∨ SqT K (fun _ => none) a vs)
def FL (F : Addr → Prop) (H : Hp) (a : Addr) (vs : List V) : Prop := F a ∧ L2.Rd H a (.lst vs)
theorem rd_none {a : Addr} {u : HO} (h : L2.Rd (fun _ => none) a u) : False := by
  rcases h with h | ⟨o, h⟩ <;> exact nomatch h
theorem rd_keep {H H' : Hp} {a : Addr} {u : HO} (k : ∀ o, H a = some o → H' a = some o) (h : L2.Rd H a u) : L2.Rd H' a u := by
  rcases h with h | ⟨o, h⟩
  · exact .inl (k _ h)
  · exact .inr ⟨o, k _ h⟩
theorem FT.mono {K F H F' H' a vs} (l : Le F H F' H') (h : FT K F H a vs) : FT K F' H' a vs := by
  obtain ⟨s, f⟩ := h
  rcases f with f | f
  · refine ⟨?_, .inl (l.grow a f)⟩
    rcases s with s | s
    · exact .inl (rd_keep (fun o => l.keep a o f) s)
    · exact .inr s
  · refine ⟨?_, .inr f⟩
    rcases f with f | f
    · exact (rd_none f).elim
    · exact .inr f
theorem scr_mono {K F H F' H' a vs} (l : Le F H F' H') (h : SqL K H a vs ∧ (F a ∨ SqL K (fun _ => none) a vs)) : SqL K H' a vs ∧ (F' a ∨ SqL K (fun _ => none) a vs) := by
  obtain ⟨s, f⟩ := h
  rcases f with f | f
  · refine ⟨?_, .inl (l.grow a f)⟩
    rcases s with s | s
    · exact .inl (rd_keep (fun o => l.keep a o f) s)
    · exact .inr s
  · refine ⟨?_, .inr f⟩
    rcases f with f | f
    · exact (rd_none f).elim
    · exact .inr f
theorem FL.mono {F H F' H' a vs} (l : Le F H F' H') (h : FL F H a vs) : FL F' H' a vs := ⟨l.grow a h.1, rd_keep (fun o => l.keep a o h.1) h.2⟩

section
variable (K : PySem.W.Frag) (mg : Str → Option Value) (F : Addr → Prop) (H : Hp)
mutual
def Rep : D → V → Prop
  | .non, v => v = .non
  | .bl b, v => v = .bl b
  | .int i, v => v = .int i
  | .str x, v => v = .str x
  | .ty n, v => v = .ty n
  | .cls x, v => ∃ a, v = .ref a ∧ mg x = some (.ref a)
  | .tup ds, v => ∃ a vs, v = .ref a ∧ FT K F H a vs ∧ Reps ds vs
  | .lst ds, v => ∃ a vs, v = .ref a ∧ FL F H a vs ∧ Reps ds vs
  | .scr ds, v => ∃ a vs, v = .ref a ∧ (SqL K H a vs ∧ (F a ∨ SqL K (fun _ => none) a vs)) ∧ Reps ds vs
  | .obj c fs, v => ∃ a C dx vs, v = .ref a ∧ F a ∧ H a = some (.ins C dx vs) ∧ mg c = some (.ref C) ∧ RepF fs vs
def Reps : List D → List V → Prop
  | [], vs => vs = []
  | d :: ds, vs => ∃ v r, vs = v :: r ∧ Rep d v ∧ Reps ds r
def RepF : List (Str × D) → List (Str × V) → Prop
  | [], vs => vs = []
  | (x, d) :: ds, vs => ∃ v r, vs = (x, v) :: r ∧ Rep d v ∧ RepF ds r
end
mutual
def RepT : T → V → List Addr → Prop
  | .pl d, v, as => as = [] ∧ Rep K mg F H d v
  | .ol ds, v, as => ∃ a vs, v = .ref a ∧ as = [a] ∧ H a = some (.lst vs) ∧ Reps K mg F H ds vs
  | .oo c fs, v, as => ∃ a C dx vs r, v = .ref a ∧ as = a :: r ∧ H a = some (.ins C dx vs) ∧ mg c = some (.ref C) ∧ RepTF fs vs r
def RepTF : List (Str × T) → List (Str × V) → List Addr → Prop
  | [], vs, as => vs = [] ∧ as = []
  | (x, t) :: ts, vs, as => ∃ v r a1 a2, vs = (x, v) :: r ∧ as = a1 ++ a2 ∧ RepT t v a1 ∧ RepTF ts r a2
end
def RepE : Slots → St → List Addr → Prop
  | [], σ, as => σ = [] ∧ as = []
  | none :: e, σ, as => ∃ o r, σ = o :: r ∧ RepE e r as
  | some t :: e, σ, as => ∃ v r a1 a2, σ = some v :: r ∧ as = a1 ++ a2 ∧ RepT K mg F H t v a1 ∧ RepE e r a2
/-- a list of values with owned parts -/
def RepTs : List T → List V → List Addr → Prop
  | [], vs, as => vs = [] ∧ as = []
  | t :: ts, vs, as => ∃ v r a1 a2, vs = v :: r ∧ as = a1 ++ a2 ∧ RepT K mg F H t v a1 ∧ RepTs ts r a2
end

section
variable {K : PySem.W.Frag} {mg : Str → Option Value} {F F' : Addr → Prop} {H H' : Hp}
mutual
theorem Rep.mono (l : Le F H F' H') : ∀ {d : D} {v : V}, Rep K mg F H d v → Rep K mg F' H' d v
  | .non, v, h => by unfold Rep at h ⊢; exact h
  | .bl b, v, h => by unfold Rep at h ⊢; exact h
  | .int i, v, h => by unfold Rep at h ⊢; exact h
  | .str x, v, h => by unfold Rep at h ⊢; exact h
  | .ty n, v, h => by unfold Rep at h ⊢; exact h
  | .cls x, v, h => by unfold Rep at h ⊢; exact h
  | .tup ds, v, h => by
    unfold Rep at h ⊢
    obtain ⟨a, vs, e, f, r⟩ := h
    exact ⟨a, vs, e, f.mono l, Reps.mono l r⟩
  | .lst ds, v, h => by
    unfold Rep at h ⊢
    obtain ⟨a, vs, e, f, r⟩ := h
    exact ⟨a, vs, e, f.mono l, Reps.mono l r⟩
  | .scr ds, v, h => by
    unfold Rep at h ⊢
    obtain ⟨a, vs, e, f, r⟩ := h
    exact ⟨a, vs, e, scr_mono l f, Reps.mono l r⟩
  | .obj c fs, v, h => by
    unfold Rep at h ⊢
    obtain ⟨a, C, dx, vs, e, f, hh, hm, r⟩ := h
    exact ⟨a, C, dx, vs, e, l.grow a f, l.keep a _ f hh, hm, RepF.mono l r⟩
theorem Reps.mono (l : Le F H F' H') : ∀ {ds : List D} {vs : List V}, Reps K mg F H ds vs → Reps K mg F' H' ds vs
  | [], vs, h => by unfold Reps at h ⊢; exact h
  | d :: ds, vs, h => by
    unfold Reps at h ⊢
    obtain ⟨v, r, e, h1, h2⟩ := h
    exact ⟨v, r, e, Rep.mono l h1, Reps.mono l h2⟩
theorem RepF.mono (l : Le F H F' H') : ∀ {ds : List (Str × D)} {vs : List (Str × V)}, RepF K mg F H ds vs → RepF K mg F' H' ds vs
  | [], vs, h => by unfold RepF at h ⊢; exact h
  | (x, d) :: ds, vs, h => by
    unfold RepF at h ⊢
    obtain ⟨v, r, e, h1, h2⟩ := h
    exact ⟨v, r, e, Rep.mono l h1, RepF.mono l h2⟩
end
mutual
theorem RepT.mono (l : Le F H F' H') : ∀ {t : T} {v : V} {as : List Addr}, (∀ b ∈ as, ∀ o, H b = some o → H' b = some o) → RepT K mg F H t v as → RepT K mg F' H' t v as
  | .pl d, v, as, k, h => by unfold RepT at h ⊢; exact ⟨h.1, h.2.mono l⟩
  | .ol ds, v, as, k, h => by
    unfold RepT at h ⊢
    obtain ⟨a, vs, e, ea, hh, r⟩ := h
    exact ⟨a, vs, e, ea, k a (by rw [ea]; simp) _ hh, r.mono l⟩
  | .oo c fs, v, as, k, h => by
    unfold RepT at h ⊢
    obtain ⟨a, C, dx, vs, r, e, ea, hh, hm, q⟩ := h
    exact ⟨a, C, dx, vs, r, e, ea, k a (by rw [ea]; simp) _ hh, hm, RepTF.mono l (fun b hb => k b (by rw [ea]; exact List.mem_cons_of_mem _ hb)) q⟩
theorem RepTF.mono (l : Le F H F' H') : ∀ {ts : List (Str × T)} {vs : List (Str × V)} {as : List Addr}, (∀ b ∈ as, ∀ o, H b = some o → H' b = some o) → RepTF K mg F H ts vs as → RepTF K mg F' H' ts vs as
  | [], vs, as, k, h => by unfold RepTF at h ⊢; exact h
  | (x, t) :: ts, vs, as, k, h => by
    unfold RepTF at h ⊢
    obtain ⟨v, r, a1, a2, e, ea, h1, h2⟩ := h
    exact ⟨v, r, a1, a2, e, ea, RepT.mono l (fun b hb => k b (by rw [ea]; exact List.mem_append_left _ hb)) h1, RepTF.mono l (fun b hb => k b (by rw [ea]; exact List.mem_append_right _ hb)) h2⟩
end
theorem RepE.mono (l : Le F H F' H') : ∀ {e : Slots} {σ : St} {as : List Addr}, (∀ b ∈ as, ∀ o, H b = some o → H' b = some o) → RepE K mg F H e σ as → RepE K mg F' H' e σ as
  | [], σ, as, k, h => by unfold RepE at h ⊢; exact h
  | none :: e, σ, as, k, h => by
    unfold RepE at h ⊢
    obtain ⟨o, r, eσ, h2⟩ := h
    exact ⟨o, r, eσ, RepE.mono l k h2⟩
  | some t :: e, σ, as, k, h => by
    unfold RepE at h ⊢
    obtain ⟨v, r, a1, a2, eσ, ea, h1, h2⟩ := h
    exact ⟨v, r, a1, a2, eσ, ea, RepT.mono l (fun b hb => k b (by rw [ea]; exact List.mem_append_left _ hb)) h1, RepE.mono l (fun b hb => k b (by rw [ea]; exact List.mem_append_right _ hb)) h2⟩
theorem RepTs.mono (l : Le F H F' H') : ∀ {ts : List T} {vs : List V} {as : List Addr}, (∀ b ∈ as, ∀ o, H b = some o → H' b = some o) → RepTs K mg F H ts vs as → RepTs K mg F' H' ts vs as
  | [], σ, as, k, h => by unfold RepTs at h ⊢; exact h
  | t :: e, σ, as, k, h => by
    unfold RepTs at h ⊢
    obtain ⟨v, r, a1, a2, eσ, ea, h1, h2⟩ := h
    exact ⟨v, r, a1, a2, eσ, ea, RepT.mono l (fun b hb => k b (by rw [ea]; exact List.mem_append_left _ hb)) h1, RepTs.mono l (fun b hb => k b (by rw [ea]; exact List.mem_append_right _ hb)) h2⟩
/-! ### freezing -/
mutual
theorem RepT.frz : ∀ {t : T} {v : V} {as : List Addr}, RepT K mg F H t v as → (∀ b ∈ as, F b) → Rep K mg F H t.frz v
  | .pl d, v, as, h, k => by unfold RepT at h; unfold T.frz; exact h.2
  | .ol ds, v, as, h, k => by
    unfold RepT at h; unfold T.frz Rep
    obtain ⟨a, vs, e, ea, hh, r⟩ := h
    exact ⟨a, vs, e, ⟨k a (by rw [ea]; simp), .inl hh⟩, r⟩
  | .oo c fs, v, as, h, k => by
    unfold RepT at h; unfold T.frz Rep
    obtain ⟨a, C, dx, vs, r, e, ea, hh, hm, q⟩ := h
    exact ⟨a, C, dx, vs, e, k a (by rw [ea]; simp), hh, hm, RepTF.frz q fun b hb => k b (by rw [ea]; exact List.mem_cons_of_mem _ hb)⟩
theorem RepTF.frz : ∀ {ts : List (Str × T)} {vs : List (Str × V)} {as : List Addr}, RepTF K mg F H ts vs as → (∀ b ∈ as, F b) → RepF K mg F H (T.frzF ts) vs
  | [], vs, as, h, k => by unfold RepTF at h; unfold T.frzF RepF; exact h.1
  | (x, t) :: ts, vs, as, h, k => by
    unfold RepTF at h; unfold T.frzF RepF
    obtain ⟨v, r, a1, a2, e, ea, h1, h2⟩ := h
    exact ⟨v, r, e, RepT.frz h1 fun b hb => k b (by rw [ea]; exact List.mem_append_left _ hb), RepTF.frz h2 fun b hb => k b (by rw [ea]; exact List.mem_append_right _ hb)⟩
end
end
end Mir

/-! Mir2: judgements. -/
namespace Mir
open PySem L2

section
variable {K : PySem.W.Frag} {mg : Str → Option Value} {F F' : Addr → Prop} {H H' : Hp}
theorem nodup3 {l1 a l2 c : List Addr} (h : ((l1 ++ (a ++ l2)) ++ c).Nodup) : (l1 ++ (c ++ l2)).Nodup := by
  have h1 : ((l1 ++ l2) ++ c).Nodup := by
    refine List.Sublist.nodup ?_ h
    exact List.Sublist.append (List.Sublist.append (List.Sublist.refl _) (List.sublist_append_right _ _)) (List.Sublist.refl _)
  refine (List.Perm.nodup_iff ?_).mp h1
  rw [List.append_assoc]
  exact List.Perm.append_left _ List.perm_append_comm
theorem mem3 {l1 a l2 c : List Addr} {b : Addr} (h : b ∈ l1 ++ (c ++ l2)) : b ∈ (l1 ++ (a ++ l2)) ++ c := by
  simp only [List.mem_append] at h ⊢
  rcases h with h | h | h
  · exact .inl (.inl h)
  · exact .inr h
  · exact .inl (.inr (.inr h))
theorem RepE.length : ∀ {e : Slots} {σ : St} {as : List Addr}, RepE K mg F H e σ as → e.length = σ.length
  | [], σ, as, h => by unfold RepE at h; rw [h.1]; rfl
  | none :: e, σ, as, h => by
    unfold RepE at h
    obtain ⟨o, r, eσ, h2⟩ := h
    rw [eσ, List.length_cons, List.length_cons, RepE.length h2]
  | some t :: e, σ, as, h => by
    unfold RepE at h
    obtain ⟨v, r, a1, a2, eσ, ea, h1, h2⟩ := h
    rw [eσ, List.length_cons, List.length_cons, RepE.length h2]
/-- one slot seen apart -/
theorem RepE.at : ∀ {e : Slots} {σ : St} {as : List Addr} (i : Nat), RepE K mg F H e σ as → i < e.length → ∃ l1 a l2, as = l1 ++ (a ++ l2) ∧
    (∀ t, e[i]? = some (some t) → ∃ v, σ[i]? = some (some v) ∧ RepT K mg F H t v a) ∧ (e[i]? = some none → a = []) ∧
    ∀ (F' : Addr → Prop) (H' : Hp), Le F H F' H' → (∀ b ∈ l1 ++ l2, ∀ o, H b = some o → H' b = some o) →
      (∀ t' v' a', RepT K mg F' H' t' v' a' → RepE K mg F' H' (e.set i (some t')) (σ.set i (some v')) (l1 ++ (a' ++ l2))) ∧
      (∀ ov, RepE K mg F' H' (e.set i none) (σ.set i ov) (l1 ++ l2))
  | [], σ, as, i, h, hi => by simp at hi
  | none :: e, σ, as, 0, h, hi => by
    unfold RepE at h
    obtain ⟨o, r, eσ, h2⟩ := h
    subst eσ
    refine ⟨[], [], as, rfl, fun t q => by simp at q, fun _ => rfl, fun F' H' l k => ⟨fun t' v' a' q => ?_, fun ov => ?_⟩⟩
    · simp only [List.set_cons_zero]
      unfold RepE
      exact ⟨v', r, a', as, rfl, rfl, q, h2.mono l k⟩
    · simp only [List.set_cons_zero]
      unfold RepE
      exact ⟨ov, r, rfl, h2.mono l k⟩
  | some t :: e, σ, as, 0, h, hi => by
    unfold RepE at h
    obtain ⟨v, r, a1, a2, eσ, ea, h1, h2⟩ := h
    subst eσ
    refine ⟨[], a1, a2, ea, fun t q => ?_, fun q => by simp at q, fun F' H' l k => ⟨fun t' v' a' q => ?_, fun ov => ?_⟩⟩
    · simp at q; subst q; exact ⟨v, rfl, h1⟩
    · simp only [List.set_cons_zero]
      unfold RepE
      exact ⟨v', r, a', a2, rfl, rfl, q, h2.mono l k⟩
    · simp only [List.set_cons_zero]
      unfold RepE
      exact ⟨ov, r, rfl, h2.mono l k⟩
  | none :: e, σ, as, i + 1, h, hi => by
    unfold RepE at h
    obtain ⟨o, r, eσ, h2⟩ := h
    subst eσ
    obtain ⟨l1, a, l2, ea, g1, g2, g3⟩ := RepE.at i h2 (by simpa using hi)
    refine ⟨l1, a, l2, ea, fun t q => ?_, fun q => g2 (by simpa using q), fun F' H' l k => ⟨fun t' v' a' q => ?_, fun ov => ?_⟩⟩
    · obtain ⟨v, e1, e2⟩ := g1 t (by simpa using q)
      exact ⟨v, by simpa using e1, e2⟩
    · simp only [List.set_cons_succ]
      unfold RepE
      exact ⟨o, _, rfl, (g3 F' H' l k).1 t' v' a' q⟩
    · simp only [List.set_cons_succ]
      unfold RepE
      exact ⟨o, _, rfl, (g3 F' H' l k).2 ov⟩
  | some t :: e, σ, as, i + 1, h, hi => by
    unfold RepE at h
    obtain ⟨v, r, a1, a2, eσ, ea, h1, h2⟩ := h
    subst eσ
    obtain ⟨l1, a, l2, ea2, g1, g2, g3⟩ := RepE.at i h2 (by simpa using hi)
    subst ea2
    refine ⟨a1 ++ l1, a, l2, by rw [ea, List.append_assoc], fun t q => ?_, fun q => g2 (by simpa using q), fun F' H' l k => ?_⟩
    · obtain ⟨v, e1, e2⟩ := g1 t (by simpa using q)
      exact ⟨v, by simpa using e1, e2⟩
    · have k1 : ∀ b ∈ a1, ∀ o, H b = some o → H' b = some o := fun b hb => k b (by simp [hb])
      have k2 : ∀ b ∈ l1 ++ l2, ∀ o, H b = some o → H' b = some o := fun b hb => k b (by
        rcases List.mem_append.mp hb with z | z <;> simp [z])
      obtain ⟨q1, q2⟩ := g3 F' H' l k2
      refine ⟨fun t' v' a' q => ?_, fun ov => ?_⟩
      · simp only [List.set_cons_succ]
        unfold RepE
        exact ⟨v, _, a1, _, rfl, by rw [List.append_assoc], h1.mono l k1, q1 t' v' a' q⟩
      · simp only [List.set_cons_succ]
        unfold RepE
        exact ⟨v, _, a1, _, rfl, by rw [List.append_assoc], h1.mono l k1, q2 ov⟩
end

/-! ### what is wanted -/
section
variable (X : Cx) (W : WX)
def RepX (K : PySem.W.Frag) (mg : Str → Option Value) (F : Addr → Prop) (H : Hp) (x : Exn) (cls : Value) (d : Option Addr) : Prop :=
  (∃ C, mg x.c = some (.ref C) ∧ cls = .ref C) ∧ ((x.fs = [] ∧ d = none) ∨ ∃ dx fvs, d = some dx ∧ F dx ∧ H dx = some (.xd fvs) ∧ RepF K mg F H x.fs fvs)
/-- at the end of an expression -/
def PoE (F : Addr → Prop) (H : Hp) (as : List Addr) (σ : St) (Q : VK) : Out T → Prop
  | .ok t env' => ∀ F' H' v as' at', Go ⟨F, H, as⟩ ⟨F', H', as' ++ at'⟩ → RepE X.K X.mg F' H' env' σ as' → RepT X.K X.mg F' H' t v at' → Q v H'
  | .ex x env' => ∀ F' H' as' cls d, Go ⟨F, H, as⟩ ⟨F', H', as'⟩ → RepE X.K X.mg F' H' env' σ as' → RepX X.K X.mg F' H' x cls d → W cls d σ H'
  | .no => False
def tE (m : M T) : TE := fun σ H Q => ∃ F env as, Wd.Ok ⟨F, H, as⟩ ∧ RepE X.K X.mg F H env σ as ∧ PoE X W F H as σ Q (m env)
/-- a test -/
def PoB (F : Addr → Prop) (H : Hp) (as : List Addr) (σ : St) (Q : Bool → Hp → Prop) : Out Bool → Prop
  | .ok b env' => ∀ F' H' as', Go ⟨F, H, as⟩ ⟨F', H', as'⟩ → RepE X.K X.mg F' H' env' σ as' → Q b H'
  | .ex x env' => ∀ F' H' as' cls d, Go ⟨F, H, as⟩ ⟨F', H', as'⟩ → RepE X.K X.mg F' H' env' σ as' → RepX X.K X.mg F' H' x cls d → W cls d σ H'
  | .no => False
def tB (m : M Bool) : TT := fun σ H Q => ∃ F env as, Wd.Ok ⟨F, H, as⟩ ∧ RepE X.K X.mg F H env σ as ∧ PoB X W F H as σ Q (m env)
/-- arguments -/
def PoA (F : Addr → Prop) (H : Hp) (as : List Addr) (σ : St) (Q : List V → Hp → Prop) : Out (List T) → Prop
  | .ok ts env' => ∀ F' H' vs as' at', Go ⟨F, H, as⟩ ⟨F', H', as' ++ at'⟩ → RepE X.K X.mg F' H' env' σ as' → RepTs X.K X.mg F' H' ts vs at' → Q vs H'
  | .ex x env' => ∀ F' H' as' cls d, Go ⟨F, H, as⟩ ⟨F', H', as'⟩ → RepE X.K X.mg F' H' env' σ as' → RepX X.K X.mg F' H' x cls d → W cls d σ H'
  | .no => False
def tA (m : M (List T)) : TA := fun σ H Q => ∃ F env as, Wd.Ok ⟨F, H, as⟩ ∧ RepE X.K X.mg F H env σ as ∧ PoA X W F H as σ Q (m env)
/-- reading: nothing of the slots changes; the value may be (a part of) what a slot owns -/
def tR (m : Rd T) : TE := fun σ H Q => ∃ F env as, Wd.Ok ⟨F, H, as⟩ ∧ RepE X.K X.mg F H env σ as ∧ ∃ t, m env = some t ∧
  ∀ F' H' v at', GoR ⟨F, H, as⟩ ⟨F', H', as⟩ → RepT X.K X.mg F' H' t v at' → (∀ b ∈ at', b ∈ as) → Q v H'
def tRB (m : Rd Bool) : TT := fun σ H Q => ∃ F env as, Wd.Ok ⟨F, H, as⟩ ∧ RepE X.K X.mg F H env σ as ∧ ∃ b, m env = some b ∧
  ∀ F' H', GoR ⟨F, H, as⟩ ⟨F', H', as⟩ → Q b H'
def tRA (m : Rd (List T)) : TA := fun σ H Q => ∃ F env as, Wd.Ok ⟨F, H, as⟩ ∧ RepE X.K X.mg F H env σ as ∧ ∃ ts, m env = some ts ∧
  ∀ F' H' vs at', GoR ⟨F, H, as⟩ ⟨F', H', as⟩ → RepTs X.K X.mg F' H' ts vs at' → (∀ b ∈ at', b ∈ as) → Q vs H'
/-- a statement; fx: slots that stay -/
def PoS (fx : List Nat) (F : Addr → Prop) (H : Hp) (as : List Addr) (σ : St) (D : Ends) : Out Fl → Prop
  | .ok .nx env' => ∀ F' H' σ' as', (∀ i ∈ fx, σ'[i]? = σ[i]?) → Go ⟨F, H, as⟩ ⟨F', H', as'⟩ → RepE X.K X.mg F' H' env' σ' as' → D.nx σ' H'
  | .ok .bk env' => ∀ F' H' σ' as', (∀ i ∈ fx, σ'[i]? = σ[i]?) → Go ⟨F, H, as⟩ ⟨F', H', as'⟩ → RepE X.K X.mg F' H' env' σ' as' → D.bk σ' H'
  | .ok .ct env' => ∀ F' H' σ' as', (∀ i ∈ fx, σ'[i]? = σ[i]?) → Go ⟨F, H, as⟩ ⟨F', H', as'⟩ → RepE X.K X.mg F' H' env' σ' as' → D.ct σ' H'
  | .ok (.rt t) env' => ∀ F' H' σ' v as' at', (∀ i ∈ fx, σ'[i]? = σ[i]?) → Go ⟨F, H, as⟩ ⟨F', H', as' ++ at'⟩ → RepE X.K X.mg F' H' env' σ' as' → RepT X.K X.mg F' H' t v at' → D.rt v H'
  | .ex x env' => ∀ F' H' σ' as' cls d, (∀ i ∈ fx, σ'[i]? = σ[i]?) → Go ⟨F, H, as⟩ ⟨F', H', as'⟩ → RepE X.K X.mg F' H' env' σ' as' → RepX X.K X.mg F' H' x cls d → W cls d σ' H'
  | .no => False
def tS (fx : List Nat) (m : MS) : TS := fun D σ H => ∃ F env as, Wd.Ok ⟨F, H, as⟩ ∧ RepE X.K X.mg F H env σ as ∧ PoS X W fx F H as σ D (m env)
end

/-- consequence -/
theorem pe_imp {X : Cx} {e : Expr} {t u : TE} (h : PE X e t) (i : ∀ σ H Q, u σ H Q → t σ H Q) : PE X e u := ⟨fun pins s σ H Q I hu => h.run pins s σ H Q I (i σ H Q hu)⟩
theorem pt_imp {X : Cx} {e : Expr} {t u : TT} (h : PT X e t) (i : ∀ σ H Q, u σ H Q → t σ H Q) : PT X e u := ⟨fun pins s σ H Q I hu => h.run pins s σ H Q I (i σ H Q hu)⟩
theorem pw_imp {X : Cx} {e : Expr} {t u : TT} (h : PW X e t) (i : ∀ σ H Q, u σ H Q → t σ H Q) : PW X e u := ⟨fun wh pins s σ H Q I hu => h.run wh pins s σ H Q I (i σ H Q hu)⟩
theorem pa_imp {X : Cx} {e : List Expr} {t u : TA} (h : PA X e t) (i : ∀ σ H Q, u σ H Q → t σ H Q) : PA X e u := ⟨fun pos pins s σ H Q I hu => h.run pos pins s σ H Q I (i σ H Q hu)⟩
theorem ps_imp {X : Cx} {e : Stmt} {t u : TS} (h : PS X e t) (i : ∀ D σ H, u D σ H → t D σ H) : PS X e u := ⟨fun pins s σ H D I hu => h.run pins s σ H D I (i D σ H hu)⟩
theorem pss_imp {X : Cx} {e : List Stmt} {t u : TS} (h : PSs X e t) (i : ∀ D σ H, u D σ H → t D σ H) : PSs X e u := ⟨fun pins s σ H D I hu => h.run pins s σ H D I (i D σ H hu)⟩
end Mir

/-! Mir3: operations on values, their rules as reading and as doing. -/
namespace Mir
open PySem L2

def M.bind {α β : Type} (m : M α) (k : α → M β) : M β := fun env => match m env with
  | .ok a e => k a e
  | .ex x e => .ex x e
  | .no => .no
def M.ofO {α : Type} (o : Option α) : M α := fun env => match o with
  | some a => .ok a env
  | none => .no
/-- frozen at once -/
def fz (t : T) : T := .pl t.frz

theorem Go.next {w : Wd} {F1 H1 as1 at1 F2 H2 own2} (g1 : Go w ⟨F1, H1, as1 ++ at1⟩) (g2 : Go ⟨F1, H1, as1⟩ ⟨F2, H2, own2⟩) : Go w ⟨F2, H2, own2 ++ at1⟩ := g1.trans (g2.ctx g1.ok)
theorem Wd.Ok.left {F H as c} (ok : Wd.Ok ⟨F, H, as ++ c⟩) : Wd.Ok ⟨F, H, as⟩ := ok.sub (List.nodup_append.mp ok.nd).1 fun b hb => List.mem_append_left _ hb
theorem Go.left {w : Wd} {F H as c} (g : Go w ⟨F, H, as ++ c⟩) : Go w ⟨F, H, as⟩ := g.sub (List.nodup_append.mp g.ok.nd).1 fun b hb => List.mem_append_left _ hb
theorem GoR.left {F H as c F' H'} (g : GoR ⟨F, H, as⟩ ⟨F', H', as ++ c⟩) : GoR ⟨F, H, as⟩ ⟨F', H', as⟩ := ⟨g.toGo.left, g.all⟩
theorem Go.nil {w : Wd} {F H as} (g : Go w ⟨F, H, as⟩) : Go w ⟨F, H, as ++ []⟩ := by rw [List.append_nil]; exact g
theorem Go.nil' {w : Wd} {F H as} (g : Go w ⟨F, H, as ++ []⟩) : Go w ⟨F, H, as⟩ := by rw [List.append_nil] at g; exact g
section
variable {K : PySem.W.Frag} {mg : Str → Option Value} {F F1 F2 : Addr → Prop} {H H1 H2 : Hp} {as as1 at1 own2 : List Addr}
theorem RepT.next {w : Wd} {t : T} {v : V} (g1 : Go w ⟨F1, H1, as1 ++ at1⟩) (g2 : Go ⟨F1, H1, as1⟩ ⟨F2, H2, own2⟩) (r : RepT K mg F1 H1 t v at1) : RepT K mg F2 H2 t v at1 :=
  r.mono (g2.le g1.ok.left) fun b hb o e => g2.keep b o e fun ha => (List.nodup_append.mp g1.ok.nd).2.2 b ha b hb rfl
theorem RepTs.next {w : Wd} {t : List T} {v : List V} (g1 : Go w ⟨F1, H1, as1 ++ at1⟩) (g2 : Go ⟨F1, H1, as1⟩ ⟨F2, H2, own2⟩) (r : RepTs K mg F1 H1 t v at1) : RepTs K mg F2 H2 t v at1 :=
  r.mono (g2.le g1.ok.left) fun b hb o e => g2.keep b o e fun ha => (List.nodup_append.mp g1.ok.nd).2.2 b ha b hb rfl
theorem RepT.readG {w : Wd} {t : T} {v : V} {a : List Addr} {F H own} (ok : Wd.Ok ⟨F, H, own⟩) (g : GoR ⟨F, H, own⟩ w) (r : RepT K mg F H t v a) : RepT K mg w.F w.H t v a := r.mono (g.toGo.le ok) fun b _ o e => g.all b o e
theorem RepTs.readG {w : Wd} {t : List T} {v : List V} {a : List Addr} {F H own} (ok : Wd.Ok ⟨F, H, own⟩) (g : GoR ⟨F, H, own⟩ w) (r : RepTs K mg F H t v a) : RepTs K mg w.F w.H t v a := r.mono (g.toGo.le ok) fun b _ o e => g.all b o e
theorem RepE.readG {w : Wd} {t : Slots} {v : St} {a : List Addr} {F H own} (ok : Wd.Ok ⟨F, H, own⟩) (g : GoR ⟨F, H, own⟩ w) (r : RepE K mg F H t v a) : RepE K mg w.F w.H t v a := r.mono (g.toGo.le ok) fun b _ o e => g.all b o e
end

/-- what an operation's answer is wanted for -/
def Res (X : Cx) (F : Addr → Prop) (H : Hp) (own : List Addr) (t : T) (Q : VK) : Prop :=
  ∀ F' H' v at', Go ⟨F, H, own⟩ ⟨F', H', own ++ at'⟩ → (∀ b o, H b = some o → H' b = some o) → RepT X.K X.mg F' H' t v at' → Q v H'
section
variable {X : Cx} {F : Addr → Prop} {H : Hp} {own : List Addr} {Q : VK}
/-- an answer without a new thing -/
theorem Res.val {d : D} {v : V} (ok : Wd.Ok ⟨F, H, own⟩) (h : Res X F H own (.pl d) Q) (r : Rep X.K X.mg F H d v) : Q v H :=
  h F H v [] (Go.refl ok).nil (fun _ _ e => e) (by unfold RepT; exact ⟨rfl, r⟩)
theorem Res.newL {ds : List D} {vs : List V} {p : Addr} (ok : Wd.Ok ⟨F, H, own⟩) (h : Res X F H own (.ol ds) Q) (hp : H p = none) (r : Reps X.K X.mg F H ds vs) : Q (.ref p) (upd H p (.lst vs)) := by
  have g := ok.layO (o := .lst vs) hp
  have all : ∀ b o, H b = some o → upd H p (.lst vs) b = some o := fun b o e => by rw [upd_ne (ne_of_none e hp)]; exact e
  refine h _ _ (.ref p) [p] g all ?_
  unfold RepT
  exact ⟨p, vs, rfl, rfl, upd_same, r.mono ⟨fun _ h => h, fun b o _ e => all b o e⟩⟩
theorem Res.newT {ds : List D} {vs : List V} {p : Addr} (ok : Wd.Ok ⟨F, H, own⟩) (h : Res X F H own (.pl (.tup ds)) Q) (hp : H p = none) (r : Reps X.K X.mg F H ds vs) : Q (.ref p) (upd H p (.tup vs)) := by
  have g := ok.lay (o := .tup vs) hp
  refine h _ _ (.ref p) [] g.toGo.nil g.all ?_
  unfold RepT Rep
  exact ⟨rfl, p, vs, rfl, ⟨.inl (.inl upd_same), .inl (.inr rfl)⟩, r.mono (g.toGo.le ok)⟩
/-- frozen at once -/
theorem Res.of_fz {t : T} (ok : Wd.Ok ⟨F, H, own⟩) (h : ∀ F' H' v, GoR ⟨F, H, own⟩ ⟨F', H', own⟩ → Rep X.K X.mg F' H' t.frz v → Q v H') : Res X F H own t Q := fun F' H' v at' g all r => by
  have g2 := g.ok.freeze
  refine h _ H' v ⟨g.trans g2, all⟩ (RepT.frz (r.mono ⟨fun _ h => .inl h, fun _ _ _ e => e⟩ fun _ _ _ e => e) fun b hb => .inr hb)
end
def Un (X : Cx) (f : T → Option T) (r : V → Hp → VK → Prop) : Prop := ∀ {F H own t v a u Q}, Wd.Ok ⟨F, H, own⟩ → RepT X.K X.mg F H t v a → (∀ b ∈ a, b ∈ own) → f t = some u → Res X F H own u Q → r v H Q
def Bin (X : Cx) (f : T → T → Option T) (r : R2) : Prop := ∀ {F H own t v a t' v' a' u Q}, Wd.Ok ⟨F, H, own⟩ → RepT X.K X.mg F H t v a → RepT X.K X.mg F H t' v' a' → (∀ b ∈ a, b ∈ own) → (∀ b ∈ a', b ∈ own) → f t t' = some u → Res X F H own u Q → r v v' H Q
def Nary (X : Cx) (f : List T → Option T) (r : List V → Hp → VK → Prop) : Prop := ∀ {F H own ts vs a u Q}, Wd.Ok ⟨F, H, own⟩ → RepTs X.K X.mg F H ts vs a → (∀ b ∈ a, b ∈ own) → f ts = some u → Res X F H own u Q → r vs H Q

/-! ### reading -/
def r1 (f : T → Option T) (a : Rd T) : Rd T := fun env => (a env).bind fun x => (f x).map fz
def r2 (f : T → T → Option T) (a b : Rd T) : Rd T := fun env => (a env).bind fun x => (b env).bind fun y => (f x y).map fz
def rN (f : List T → Option T) (a : Rd (List T)) : Rd T := fun env => (a env).bind fun x => (f x).map fz
def rnil : Rd (List T) := fun _ => some []
def rcons (a : Rd T) (b : Rd (List T)) : Rd (List T) := fun env => (a env).bind fun x => (b env).map fun y => x :: y
section
variable {X : Cx} {e a b : Expr} {es : List Expr} {ρ ρa ρb : Rd T} {ρs : Rd (List T)}
theorem RepT.plI {K mg F H d v} (h : Rep K mg F H d v) : RepT K mg F H (.pl d) v [] := by unfold RepT; exact ⟨rfl, h⟩
theorem ri1 {f r} (hf : Un X f r) {σ H Q} : tR X (r1 f ρ) σ H Q → tUn r (tR X ρ) σ H Q := fun ⟨F, env, as, ok, rep, t, hm, post⟩ => by
  unfold r1 at hm
  simp only [Option.bind_eq_some_iff, Option.map_eq_some_iff] at hm
  obtain ⟨x, hx, u, hu, rfl⟩ := hm
  refine ⟨F, env, as, ok, rep, x, hx, fun F1 H1 v1 at1 g1 rt1 s1 => hf g1.ok rt1 s1 hu (Res.of_fz g1.ok fun F3 H3 v g3 q3 => post F3 H3 v [] (g1.trans g3) (RepT.plI q3) (by simp))⟩
theorem ri2 {f r} (hf : Bin X f r) {σ H Q} : tR X (r2 f ρa ρb) σ H Q → tOp r (tR X ρa) (tR X ρb) σ H Q := fun ⟨F, env, as, ok, rep, t, hm, post⟩ => by
  unfold r2 at hm
  simp only [Option.bind_eq_some_iff, Option.map_eq_some_iff] at hm
  obtain ⟨x, hx, y, hy, u, hu, rfl⟩ := hm
  refine ⟨F, env, as, ok, rep, x, hx, fun F1 H1 v1 at1 g1 rt1 s1 => ⟨F1, env, as, g1.ok, rep.readG ok g1, y, hy, fun F2 H2 v2 at2 g2 rt2 s2 => ?_⟩⟩
  exact hf g2.ok (rt1.readG g1.ok g2) rt2 s1 s2 hu (Res.of_fz g2.ok fun F3 H3 v g3 q3 => post F3 H3 v [] (g1.trans (g2.trans g3)) (RepT.plI q3) (by simp))
theorem riN {f r} (hf : Nary X f r) {σ H Q} : tR X (rN f ρs) σ H Q → tCB r (tRA X ρs) σ H Q := fun ⟨F, env, as, ok, rep, t, hm, post⟩ => by
  unfold rN at hm
  simp only [Option.bind_eq_some_iff, Option.map_eq_some_iff] at hm
  obtain ⟨x, hx, u, hu, rfl⟩ := hm
  exact ⟨F, env, as, ok, rep, x, hx, fun F1 H1 v1 at1 g1 rt1 s1 => hf g1.ok rt1 s1 hu (Res.of_fz g1.ok fun F3 H3 v g3 q3 => post F3 H3 v [] (g1.trans g3) (RepT.plI q3) (by simp))⟩
theorem re1 {f r} (hf : Un X f r) (h : PE X e (tUn r (tR X ρ))) : PE X e (tR X (r1 f ρ)) := pe_imp h fun σ H Q q => ri1 hf q
theorem re2 {f r} (hf : Bin X f r) (h : PE X e (tOp r (tR X ρa) (tR X ρb))) : PE X e (tR X (r2 f ρa ρb)) := pe_imp h fun σ H Q q => ri2 hf q
theorem reN {f r} (hf : Nary X f r) (h : PE X e (tCB r (tRA X ρs))) : PE X e (tR X (rN f ρs)) := pe_imp h fun σ H Q q => riN hf q
theorem ra_nil : PA X [] (tRA X rnil) := pa_imp pa_nil fun σ H Q ⟨F, env, as, ok, rep, t, hm, post⟩ => by
  cases hm
  exact post F H [] [] (GoR.refl ok) (by unfold RepTs; exact ⟨rfl, rfl⟩) (by simp)
theorem ra_cons (ha : PE X e (tR X ρ)) (hr : PA X es (tRA X ρs)) (hs : starEach (e :: es) X.env = (false, eval e X.env) :: starEach es X.env := by rfl) : PA X (e :: es) (tRA X (rcons ρ ρs)) :=
  pa_imp (pa_cons ha hr hs) fun σ H Q ⟨F, env, as, ok, rep, t, hm, post⟩ => by
  unfold rcons at hm
  simp only [Option.bind_eq_some_iff, Option.map_eq_some_iff] at hm
  obtain ⟨x, hx, y, hy, rfl⟩ := hm
  refine ⟨F, env, as, ok, rep, x, hx, fun F1 H1 v1 at1 g1 rt1 s1 => ⟨F1, env, as, g1.ok, rep.readG ok g1, y, hy, fun F2 H2 v2 at2 g2 rt2 s2 => ?_⟩⟩
  refine post F2 H2 (v1 :: v2) (at1 ++ at2) (g1.trans g2) ?_ fun b hb => (List.mem_append.mp hb).elim (s1 b) (s2 b)
  unfold RepTs
  exact ⟨v1, v2, at1, at2, rfl, rfl, rt1.readG g1.ok g2, rt2⟩
end

/-! ### doing -/
def m1 (f : T → Option T) (a : M T) : M T := a.bind fun x => .ofO (f x)
def m2 (f : T → T → Option T) (a b : M T) : M T := a.bind fun x => b.bind fun y => .ofO (f x y)
def mN (f : List T → Option T) (a : M (List T)) : M T := a.bind fun x => .ofO (f x)
def mnil : M (List T) := fun env => .ok [] env
def mcons (a : M T) (b : M (List T)) : M (List T) := a.bind fun x => b.bind fun y => fun env => .ok (x :: y) env
section
variable {X : Cx} {W : WX} {e a b : Expr} {es : List Expr} {m ma mb : M T} {ms : M (List T)}
theorem mi1 {f r} (hf : Un X f r) {σ H Q} : tE X W (m1 f m) σ H Q → tUn r (tE X W m) σ H Q := fun ⟨F, env, as, ok, rep, post⟩ => by
  refine ⟨F, env, as, ok, rep, ?_⟩
  unfold m1 M.bind at post
  cases h1 : m env with
  | no => rw [h1] at post; exact post
  | ex x e1 => rw [h1] at post; exact post
  | ok x e1 =>
    rw [h1] at post
    intro F1 H1 v1 as1 at1 g1 rep1 rt1
    dsimp only at post
    cases hu : f x with
    | none => rw [hu] at post; exact post.elim
    | some u =>
      rw [hu] at post
      refine hf g1.ok rt1 (fun b hb => List.mem_append_right _ hb) hu fun F3 H3 v at3 g3 all r3 => ?_
      refine post F3 H3 v as1 at3 ((g1.trans g3).sub ?_ ?_) (rep1.mono (g1.left.ok |> fun o => ⟨g3.grow, fun b o e h => all b o h⟩) fun b _ o e => all b o e) r3
      · have nd := g3.ok.nd
        exact List.Sublist.nodup (List.Sublist.append (List.sublist_append_left _ _) (List.Sublist.refl _)) nd
      · intro b hb
        rcases List.mem_append.mp hb with z | z
        · exact List.mem_append_left _ (List.mem_append_left _ z)
        · exact List.mem_append_right _ z
theorem nd_drop {l1 a c : List Addr} (h : ((l1 ++ a) ++ c).Nodup) : (l1 ++ c).Nodup := List.Sublist.nodup (List.Sublist.append (List.sublist_append_left _ _) (List.Sublist.refl _)) h
theorem mem_drop {l1 a c : List Addr} : ∀ b ∈ l1 ++ c, b ∈ (l1 ++ a) ++ c := fun b hb => by
  rcases List.mem_append.mp hb with z | z
  · exact List.mem_append_left _ (List.mem_append_left _ z)
  · exact List.mem_append_right _ z
/-- an answer of an operation after operands -/
theorem PoE.of_op {F H as σ Q} {F1 H1 as1 c} {u : T} {env1 : Slots} (g1 : Go ⟨F, H, as⟩ ⟨F1, H1, as1 ++ c⟩) (rep1 : RepE X.K X.mg F1 H1 env1 σ as1) (post : PoE X W F H as σ Q (.ok u env1)) : Res X F1 H1 (as1 ++ c) u Q := fun F3 H3 v at3 g3 all r3 =>
  post F3 H3 v as1 at3 ((g1.trans g3).sub (nd_drop g3.ok.nd) mem_drop) (rep1.mono ⟨g3.grow, fun b o _ h => all b o h⟩ fun b _ o e => all b o e) r3
theorem mi2 {f r} (hf : Bin X f r) {σ H Q} : tE X W (m2 f ma mb) σ H Q → tOp r (tE X W ma) (tE X W mb) σ H Q := fun ⟨F, env, as, ok, rep, post⟩ => by
  refine ⟨F, env, as, ok, rep, ?_⟩
  unfold m2 M.bind at post
  cases h1 : ma env with
  | no => rw [h1] at post; exact post
  | ex x e1 => rw [h1] at post; exact post
  | ok x e1 =>
    rw [h1] at post
    intro F1 H1 v1 as1 at1 g1 rep1 rt1
    refine ⟨F1, e1, as1, g1.ok.left, rep1, ?_⟩
    dsimp only at post
    cases h2 : mb e1 with
    | no => rw [h2] at post; exact post
    | ex x e2 =>
      rw [h2] at post
      intro F2 H2 as2 cls d g2 rep2 rx
      exact post F2 H2 as2 cls d (g1.next g2).left rep2 rx
    | ok y e2 =>
      rw [h2] at post
      intro F2 H2 v2 as2 at2 g2 rep2 rt2
      dsimp only at post
      cases hu : f x y with
      | none => rw [hu] at post; exact post.elim
      | some u =>
        rw [hu] at post
        have g12 := g1.next g2
        rw [List.append_assoc] at g12
        exact hf g12.ok (rt1.next g1 g2) rt2 (fun b hb => by simp [hb]) (fun b hb => by simp [hb]) hu (PoE.of_op g12 rep2 post)
theorem miN {f r} (hf : Nary X f r) {σ H Q} : tE X W (mN f ms) σ H Q → tCB r (tA X W ms) σ H Q := fun ⟨F, env, as, ok, rep, post⟩ => by
  refine ⟨F, env, as, ok, rep, ?_⟩
  unfold mN M.bind at post
  cases h1 : ms env with
  | no => rw [h1] at post; exact post
  | ex x e1 => rw [h1] at post; exact post
  | ok x e1 =>
    rw [h1] at post
    intro F1 H1 v1 as1 at1 g1 rep1 rt1
    dsimp only at post
    cases hu : f x with
    | none => rw [hu] at post; exact post.elim
    | some u =>
      rw [hu] at post
      exact hf g1.ok rt1 (fun b hb => by simp [hb]) hu (PoE.of_op g1 rep1 post)
theorem me1 {f r} (hf : Un X f r) (h : PE X e (tUn r (tE X W m))) : PE X e (tE X W (m1 f m)) := pe_imp h fun σ H Q q => mi1 hf q
theorem me2 {f r} (hf : Bin X f r) (h : PE X e (tOp r (tE X W ma) (tE X W mb))) : PE X e (tE X W (m2 f ma mb)) := pe_imp h fun σ H Q q => mi2 hf q
theorem meN {f r} (hf : Nary X f r) (h : PE X e (tCB r (tA X W ms))) : PE X e (tE X W (mN f ms)) := pe_imp h fun σ H Q q => miN hf q
theorem ma_nil : PA X [] (tA X W mnil) := pa_imp pa_nil fun σ H Q ⟨F, env, as, ok, rep, post⟩ => by
  exact post F H [] as [] (Go.refl ok).nil rep (by unfold RepTs; exact ⟨rfl, rfl⟩)
theorem ma_cons (ha : PE X e (tE X W m)) (hr : PA X es (tA X W ms)) (hs : starEach (e :: es) X.env = (false, eval e X.env) :: starEach es X.env := by rfl) : PA X (e :: es) (tA X W (mcons m ms)) :=
  pa_imp (pa_cons ha hr hs) fun σ H Q ⟨F, env, as, ok, rep, post⟩ => by
  refine ⟨F, env, as, ok, rep, ?_⟩
  unfold mcons M.bind at post
  cases h1 : m env with
  | no => rw [h1] at post; exact post
  | ex x e1 => rw [h1] at post; exact post
  | ok x e1 =>
    rw [h1] at post
    intro F1 H1 v1 as1 at1 g1 rep1 rt1
    refine ⟨F1, e1, as1, g1.ok.left, rep1, ?_⟩
    dsimp only at post
    cases h2 : ms e1 with
    | no => rw [h2] at post; exact post
    | ex x e2 =>
      rw [h2] at post
      intro F2 H2 as2 cls d g2 rep2 rx
      exact post F2 H2 as2 cls d (g1.next g2).left rep2 rx
    | ok y e2 =>
      rw [h2] at post
      intro F2 H2 v2 as2 at2 g2 rep2 rt2
      have g12 := g1.next g2
      rw [List.append_assoc] at g12
      have nd2 : (as2 ++ (at1 ++ at2)).Nodup := (List.Perm.nodup_iff (List.Perm.append_left _ List.perm_append_comm)).mp g12.ok.nd
      refine post F2 H2 (v1 :: v2) as2 (at1 ++ at2) (g12.sub nd2 fun b hb => ?_) rep2 ?_
      · simp only [List.mem_append] at hb ⊢
        rcases hb with z | z | z
        · exact .inl z
        · exact .inr (.inr z)
        · exact .inr (.inl z)
      · unfold RepTs
        exact ⟨v1, v2, at1, at2, rfl, rfl, rt1.next g1 g2, rt2⟩
/-- reading a plain value, as doing -/
def ofR (ρ : Rd T) : M T := fun env => match ρ env with
  | some (.pl d) => .ok (.pl d) env
  | _ => .no
theorem tE_ofR {ρ : Rd T} {σ H Q} : tE X W (ofR ρ) σ H Q → tR X ρ σ H Q := fun ⟨F, env, as, ok, rep, post⟩ => by
  unfold ofR at post
  cases h1 : ρ env with
  | none => rw [h1] at post; exact post.elim
  | some t =>
    rw [h1] at post
    cases t with
    | ol xs => exact post.elim
    | oo c fs => exact post.elim
    | pl d =>
      refine ⟨F, env, as, ok, rep, .pl d, h1, fun F1 H1 v1 at1 g1 rt1 s1 => ?_⟩
      have ea : at1 = [] := by unfold RepT at rt1; exact rt1.1
      subst ea
      exact post F1 H1 v1 as [] g1.toGo.nil (rep.readG ok g1) rt1
theorem me_r {ρ : Rd T} (h : PE X e (tR X ρ)) : PE X e (tE X W (ofR ρ)) := pe_imp h fun σ H Q q => tE_ofR q
end
end Mir

set_option maxHeartbeats 1000000
/-! Mir4: the operations. -/
namespace Mir
open PySem L2 PyProof.Rows

/-- the most that a list or text holds here -/
abbrev big : Nat := 1000000
theorem big_line {n : Nat} (h : n ≤ big) : n ≤ sizeLine := Nat.le_trans h (by rw [sizeLine_eq]; decide)
theorem big_line' {n : Nat} (h : n < big) : n < sizeLine := Nat.lt_of_lt_of_le h (by rw [sizeLine_eq]; decide)
def T.asL : T → Option (List D)
  | .pl (.lst xs) => some xs
  | .ol xs => some xs
  | _ => none
/-- the items of a list or tuple -/
def T.asS : T → Option (List D)
  | .pl (.lst xs) => some xs
  | .ol xs => some xs
  | .pl (.tup xs) => some xs
  | .pl (.scr xs) => some xs
  | _ => none
section
variable {K : PySem.W.Frag} {mg : Str → Option Value} {F : Addr → Prop} {H : Hp} {as : List Addr}
theorem Reps.length : ∀ {ds : List D} {vs : List V}, Reps K mg F H ds vs → vs.length = ds.length
  | [], vs, h => by unfold Reps at h; rw [h]; rfl
  | d :: ds, vs, h => by
    unfold Reps at h
    obtain ⟨v, r, e, _, h2⟩ := h
    rw [e, List.length_cons, List.length_cons, Reps.length h2]
theorem Reps.get : ∀ {ds : List D} {vs : List V} {i : Nat} {d : D}, Reps K mg F H ds vs → ds[i]? = some d → ∃ v, vs[i]? = some v ∧ Rep K mg F H d v
  | [], vs, i, d, h, e => by simp at e
  | d' :: ds, vs, 0, d, h, e => by
    unfold Reps at h
    obtain ⟨v, r, ev, h1, _⟩ := h
    simp at e; subst e
    exact ⟨v, by rw [ev]; rfl, h1⟩
  | d' :: ds, vs, i + 1, d, h, e => by
    unfold Reps at h
    obtain ⟨v, r, ev, _, h2⟩ := h
    obtain ⟨w, e1, e2⟩ := Reps.get (i := i) h2 (by simpa using e)
    exact ⟨w, by rw [ev]; simpa using e1, e2⟩
theorem Reps.append : ∀ {ds es : List D} {vs ws : List V}, Reps K mg F H ds vs → Reps K mg F H es ws → Reps K mg F H (ds ++ es) (vs ++ ws)
  | [], es, vs, ws, h, h' => by unfold Reps at h; rw [h]; exact h'
  | d :: ds, es, vs, ws, h, h' => by
    unfold Reps at h
    obtain ⟨v, r, e, h1, h2⟩ := h
    rw [e, List.cons_append, List.cons_append]
    unfold Reps
    exact ⟨v, r ++ ws, rfl, h1, Reps.append h2 h'⟩
theorem Reps.cons {d : D} {v : V} {ds vs} (h : Rep K mg F H d v) (t : Reps K mg F H ds vs) : Reps K mg F H (d :: ds) (v :: vs) := by unfold Reps; exact ⟨v, vs, rfl, h, t⟩
theorem Reps.nil : Reps K mg F H [] [] := by unfold Reps; rfl
theorem Reps.one {d : D} {v : V} (h : Rep K mg F H d v) : Reps K mg F H [d] [v] := .cons h .nil
theorem Reps.take : ∀ {ds : List D} {vs : List V} (n : Nat), Reps K mg F H ds vs → Reps K mg F H (ds.take n) (vs.take n)
  | ds, vs, 0, h => by simp only [List.take_zero]; exact .nil
  | [], vs, n + 1, h => by unfold Reps at h; rw [h]; exact .nil
  | d :: ds, vs, n + 1, h => by
    unfold Reps at h
    obtain ⟨v, r, e, h1, h2⟩ := h
    rw [e, List.take_succ_cons, List.take_succ_cons]
    exact .cons h1 (Reps.take n h2)
theorem Reps.drop : ∀ {ds : List D} {vs : List V} (n : Nat), Reps K mg F H ds vs → Reps K mg F H (ds.drop n) (vs.drop n)
  | ds, vs, 0, h => by simpa using h
  | [], vs, n + 1, h => by unfold Reps at h; rw [h]; exact .nil
  | d :: ds, vs, n + 1, h => by
    unfold Reps at h
    obtain ⟨v, r, e, h1, h2⟩ := h
    rw [e, List.drop_succ_cons, List.drop_succ_cons]
    exact Reps.drop n h2
theorem Reps.set : ∀ {ds : List D} {vs : List V} (i : Nat) {d : D} {v : V}, Reps K mg F H ds vs → Rep K mg F H d v → Reps K mg F H (ds.set i d) (vs.set i v)
  | [], vs, i, d, v, h, q => by unfold Reps at h; rw [h]; exact .nil
  | d' :: ds, vs, 0, d, v, h, q => by
    unfold Reps at h
    obtain ⟨w, r, e, h1, h2⟩ := h
    rw [e]; exact .cons q h2
  | d' :: ds, vs, i + 1, d, v, h, q => by
    unfold Reps at h
    obtain ⟨w, r, e, h1, h2⟩ := h
    rw [e]; exact .cons h1 (Reps.set i h2 q)
theorem Reps.rep {d : D} {v : V} (h : Rep K mg F H d v) : ∀ n : Nat, Reps K mg F H (List.replicate n d) (List.replicate n v)
  | 0 => .nil
  | n + 1 => .cons h (Reps.rep h n)
theorem Reps.reps {ds vs} (h : Reps K mg F H ds vs) : ∀ n : Nat, Reps K mg F H (List.replicate n ds).flatten (List.replicate n vs).flatten
  | 0 => .nil
  | n + 1 => by
    rw [List.replicate_succ, List.replicate_succ, List.flatten_cons, List.flatten_cons]
    exact h.append (Reps.reps h n)
theorem Reps.reverse : ∀ {ds : List D} {vs : List V}, Reps K mg F H ds vs → Reps K mg F H ds.reverse vs.reverse
  | [], vs, h => by unfold Reps at h; rw [h]; exact .nil
  | d :: ds, vs, h => by
    unfold Reps at h
    obtain ⟨v, r, e, h1, h2⟩ := h
    rw [e, List.reverse_cons, List.reverse_cons]
    exact (Reps.reverse h2).append (.one h1)
theorem Reps.eraseIdx : ∀ {ds : List D} {vs : List V} (i : Nat), Reps K mg F H ds vs → Reps K mg F H (ds.eraseIdx i) (vs.eraseIdx i)
  | [], vs, i, h => by unfold Reps at h; rw [h]; exact .nil
  | d :: ds, vs, 0, h => by
    unfold Reps at h
    obtain ⟨v, r, e, h1, h2⟩ := h
    rw [e]; exact h2
  | d :: ds, vs, i + 1, h => by
    unfold Reps at h
    obtain ⟨v, r, e, h1, h2⟩ := h
    rw [e]; exact .cons h1 (Reps.eraseIdx i h2)
theorem Reps.ints : ∀ {ns : List Int} {vs : List V}, Reps K mg F H (ns.map D.int) vs → vs = ns.map V.int
  | [], vs, h => by unfold Reps at h; exact h
  | n :: ns, vs, h => by
    rw [List.map_cons] at h
    unfold Reps at h
    obtain ⟨v, r, e, h1, h2⟩ := h
    unfold Rep at h1
    rw [e, h1, List.map_cons, Reps.ints h2]
theorem Reps.of_ints : ∀ (ns : List Int), Reps K mg F H (ns.map D.int) (ns.map V.int)
  | [] => .nil
  | n :: ns => .cons (by unfold Rep; rfl) (Reps.of_ints ns)
theorem RepT.int {i : Int} {v : V} (h : RepT K mg F H (.pl (.int i)) v as) : v = .int i := by unfold RepT Rep at h; exact h.2
theorem RepT.bl {i : Bool} {v : V} (h : RepT K mg F H (.pl (.bl i)) v as) : v = .bl i := by unfold RepT Rep at h; exact h.2
theorem RepT.str {i : Str} {v : V} (h : RepT K mg F H (.pl (.str i)) v as) : v = .str i := by unfold RepT Rep at h; exact h.2
theorem RepT.ty {i : String} {v : V} (h : RepT K mg F H (.pl (.ty i)) v as) : v = .ty i := by unfold RepT Rep at h; exact h.2
theorem RepT.tup {ds : List D} {v : V} (h : RepT K mg F H (.pl (.tup ds)) v as) : ∃ a vs, v = .ref a ∧ SqT K H a vs ∧ FT K F H a vs ∧ Reps K mg F H ds vs := by
  unfold RepT Rep at h
  obtain ⟨_, a, vs, e, f, r⟩ := h
  exact ⟨a, vs, e, f.1, f, r⟩
theorem RepT.asL {t : T} {ds : List D} {v : V} (h : RepT K mg F H t v as) (e : t.asL = some ds) : ∃ a vs, v = .ref a ∧ L2.Rd H a (.lst vs) ∧ Reps K mg F H ds vs := by
  cases t with
  | ol xs =>
    unfold T.asL at e; cases e
    unfold RepT at h
    obtain ⟨a, vs, e, _, hh, r⟩ := h
    exact ⟨a, vs, e, .inl hh, r⟩
  | oo c fs => unfold T.asL at e; cases e
  | pl d =>
    cases d <;> unfold T.asL at e <;> cases e
    unfold RepT Rep at h
    obtain ⟨_, a, vs, e, f, r⟩ := h
    exact ⟨a, vs, e, f.2, r⟩
theorem RepT.asS {t : T} {ds : List D} {v : V} (h : RepT K mg F H t v as) (e : t.asS = some ds) : ∃ a vs, v = .ref a ∧ (SqL K H a vs ∨ SqT K H a vs) ∧ Reps K mg F H ds vs := by
  cases t with
  | ol xs =>
    unfold T.asS at e; cases e
    unfold RepT at h
    obtain ⟨a, vs, e, _, hh, r⟩ := h
    exact ⟨a, vs, e, .inl (.inl (.inl hh)), r⟩
  | oo c fs => unfold T.asS at e; cases e
  | pl d =>
    cases d <;> unfold T.asS at e <;> cases e
    · unfold RepT Rep at h
      obtain ⟨_, a, vs, e, f, r⟩ := h
      exact ⟨a, vs, e, .inr f.1, r⟩
    · unfold RepT Rep at h
      obtain ⟨_, a, vs, e, f, r⟩ := h
      exact ⟨a, vs, e, .inl (.inl f.2), r⟩
    · unfold RepT Rep at h
      obtain ⟨_, a, vs, e, f, r⟩ := h
      exact ⟨a, vs, e, .inl f.1, r⟩
end

/-! ### arithmetic -/
def opAdd : T → T → Option T
  | .pl (.int i), .pl (.int j) => some (.pl (.int (i + j)))
  | .pl (.str x), .pl (.str y) => if x.length + y.length ≤ big then some (.pl (.str (x ++ y))) else none
  | .pl (.tup a), .pl (.tup b) => if a.length + b.length ≤ big then some (.pl (.tup (a ++ b))) else none
  | x, y => x.asL.bind fun a => y.asL.bind fun b => if a.length + b.length ≤ big then some (.ol (a ++ b)) else none
def opSub : T → T → Option T
  | .pl (.int i), .pl (.int j) => some (.pl (.int (i - j)))
  | _, _ => none
/-- a text n times -/
def repS (z : Str) (n : Nat) : Str := ⟨(List.replicate n z.cps).foldl (· ++ ·) #[]⟩
theorem repS_size (z : Str) (n : Nat) : (repS z n).cps.size = n * z.length := by
  have f : ∀ (m : Nat) (a : Array Nat), ((List.replicate m z.cps).foldl (· ++ ·) a).size = a.size + m * z.cps.size := fun m => by
    induction m with
    | zero => intro a; simp
    | succ m ih => intro a; rw [List.replicate_succ, List.foldl_cons, ih, Array.size_append, Nat.succ_mul]; omega
  show ((List.replicate n z.cps).foldl (· ++ ·) #[]).size = _
  rw [f]; simp; rfl
def opMul : T → T → Option T
  | .pl (.int i), .pl (.int j) => if i.natAbs.log2 + j.natAbs.log2 < 100000000 then some (.pl (.int (i * j))) else none
  | .pl (.str z), .pl (.int k) => if 1 < k ∧ k < 1000000 ∧ 0 < z.length ∧ z.length * k.toNat ≤ big then some (.pl (.str (repS z k.toNat))) else none
  | x, .pl (.int k) => x.asL.bind fun a => if -(2 ^ 63) ≤ k ∧ k < 2 ^ 63 ∧ a.length * k.toNat ≤ big then some (.ol (List.replicate k.toNat a).flatten) else none
  | _, _ => none
def opDiv : T → T → Option T
  | .pl (.int i), .pl (.int j) => if j ≠ 0 ∧ j.natAbs.log2 < 9000 then some (.pl (.int (i.fdiv j))) else none
  | _, _ => none
def opMod : T → T → Option T
  | .pl (.int i), .pl (.int j) => if j ≠ 0 then some (.pl (.int (i.fmod j))) else none
  | _, _ => none
def opPow : T → T → Option T
  | .pl (.int i), .pl (.int j) => if 0 ≤ j ∧ j ≤ 1000000 ∧ i.natAbs < 2 ^ 64 then some (.pl (.int (i ^ j.toNat))) else none
  | _, _ => none
def opNeg : T → Option T
  | .pl (.int i) => some (.pl (.int (-i)))
  | _ => none
section
variable {X : Cx}
/-- list + list, tracked or frozen -/
def rCatG : R2 := fun x y H Q => ∃ l b xs zs, x = .ref l ∧ y = .ref b ∧ L2.Rd H l (.lst xs) ∧ L2.Rd H b (.lst zs) ∧ xs.length + zs.length ≤ sizeLine ∧ ∀ p, H p = none → Q (.ref p) (upd H p (.lst (xs ++ zs)))
theorem op_catG : OpR X (binaryOp .Add) rCatG := by
  intro pins s σ H x y v u Q I rx ry h
  obtain ⟨l, b, xs, zs, rfl, rfl, hH, hB, hz, q⟩ := h
  cases rx
  cases ry
  obtain ⟨z, its, n, r, e⟩ := hH.ok I.hok
  obtain ⟨z2, its2, n2, r2, e2⟩ := hB.ok I.hok
  have hl := r.length
  have hl2 := r2.length
  refine PySem.P.add_list e e2 ?_ (by rw [List.size_toArray, List.size_toArray]; omega)
  have ea : its.toArray ++ its2.toArray = (its ++ its2).toArray := by simp
  rw [ea]
  exact ⟨.ref _, _, I.lnew (t' := s.toks) (r.append r2) (by rw [List.length_append]; omega), rfl, q _ I.fresh⟩
def rRepG : R2 := fun x y H Q => ∃ l k xs, x = .ref l ∧ y = .int k ∧ H l = some (.lst xs) ∧ -(2 ^ 63) ≤ k ∧ k < 2 ^ 63 ∧ xs.length * k.toNat ≤ sizeLine ∧
  ∀ p, H p = none → Q (.ref p) (upd H p (.lst (List.replicate k.toNat xs).flatten))
def rAdd : R2 := fun x y H Q => rI0 (fun i j => .int (i + j)) x y H Q ∨ (∃ i j, x = .str i ∧ y = .str j ∧ i.length + j.length ≤ sizeLine ∧ Q (.str (i ++ j)) H) ∨ rCatA X.K x y H Q ∨ rCatG x y H Q
theorem op_addM : OpR X (binaryOp .Add) (rAdd (X := X)) := op_add.or (op_add_str.or (op_catA.or op_catG))
theorem bin_add : Bin X opAdd (rAdd (X := X)) := by
  intro F H own t v a t' v' a' u Q ok r r' s s' e q
  have lists : ∀ xs ys, t.asL = some xs → t'.asL = some ys → xs.length + ys.length ≤ big → u = .ol (xs ++ ys) → rAdd (X := X) v v' H Q := fun xs ys e1 e2 hz eu => by
    obtain ⟨p, vs, rfl, h1, k1⟩ := r.asL e1
    obtain ⟨p', vs', rfl, h2, k2⟩ := r'.asL e2
    subst eu
    refine .inr (.inr (.inr ⟨p, p', vs, vs', rfl, rfl, h1, h2, by rw [k1.length, k2.length]; exact big_line hz, fun p hp => q.newL ok hp (k1.append k2)⟩))
  unfold opAdd at e
  split at e
  · cases e
    rw [r.int, r'.int]
    exact .inl ⟨_, _, rfl, rfl, q.val ok (by unfold Rep; rfl)⟩
  · split at e
    · rename_i hz
      cases e
      rw [r.str, r'.str]
      exact .inr (.inl ⟨_, _, rfl, rfl, big_line hz, q.val ok (by unfold Rep; rfl)⟩)
    · cases e
  · split at e
    · rename_i xs ys hz
      cases e
      obtain ⟨p, vs, rfl, h1, f1, k1⟩ := r.tup
      obtain ⟨p', vs', rfl, h2, f2, k2⟩ := r'.tup
      refine .inr (.inr (.inl ⟨p, p', vs, vs', rfl, rfl, h1, h2, by rw [k1.length, k2.length]; exact big_line hz, fun z => ?_, fun z z' => ?_, fun z z' p hp => q.newT ok hp (k1.append k2)⟩))
      · have e0 : xs = [] := List.length_eq_zero_iff.mp (by rw [← k1.length, z]; rfl)
        subst e0
        exact q.val ok (by unfold Rep; exact ⟨p', vs', rfl, f2, k2⟩)
      · have e0 : ys = [] := List.length_eq_zero_iff.mp (by rw [← k2.length, z']; rfl)
        subst e0
        rw [List.append_nil] at q
        exact q.val ok (by unfold Rep; exact ⟨p, vs, rfl, f1, k1⟩)
    · cases e
  · simp only [Option.bind_eq_some_iff] at e
    obtain ⟨xs, e1, ys, e2, e3⟩ := e
    split at e3
    · rename_i hz
      exact lists xs ys e1 e2 hz (Option.some.inj e3).symm
    · cases e3
theorem bin_int {f : T → T → Option T} {C : Int → Int → Prop} {g : Int → Int → D} {gv : Int → Int → V} (hg : ∀ i j F H, Rep X.K X.mg F H (g i j) (gv i j))
    (hf : ∀ t t' u, f t t' = some u → ∃ i j, t = .pl (.int i) ∧ t' = .pl (.int j) ∧ C i j ∧ u = .pl (g i j)) : Bin X f (rI C gv) := by
  intro F H own t v a t' v' a' u Q ok r r' s s' e q
  obtain ⟨i, j, rfl, rfl, c, rfl⟩ := hf t t' u e
  rw [r.int, r'.int]
  exact ⟨i, j, rfl, rfl, c, q.val ok (hg i j F H)⟩
theorem bin_int0 {f : T → T → Option T} {g : Int → Int → D} {gv : Int → Int → V} (hg : ∀ i j F H, Rep X.K X.mg F H (g i j) (gv i j))
    (hf : ∀ t t' u, f t t' = some u → ∃ i j, t = .pl (.int i) ∧ t' = .pl (.int j) ∧ u = .pl (g i j)) : Bin X f (rI0 gv) := by
  intro F H own t v a t' v' a' u Q ok r r' s s' e q
  obtain ⟨i, j, rfl, rfl, rfl⟩ := hf t t' u e
  rw [r.int, r'.int]
  exact ⟨i, j, rfl, rfl, q.val ok (hg i j F H)⟩
theorem bin_sub : Bin X opSub (rI0 fun i j => .int (i - j)) := bin_int0 (g := fun i j => .int (i - j)) (fun i j F H => by unfold Rep; rfl) fun t t' u e => by
  unfold opSub at e
  split at e <;> cases e
  exact ⟨_, _, rfl, rfl, rfl⟩
/-- * of two factors of together less than a hundred million bits -/
def CMulG (i j : Int) : Prop := i.natAbs.log2 + j.natAbs.log2 < 100000000
theorem CMulG.ok {i j : Int} (h : CMulG i j) : IntMulOk i j := by
  have b : ∀ x : Int, Builtin.Int.intBits x ≤ x.natAbs.log2 + 1 := fun x => by
    unfold Builtin.Int.intBits
    split <;> omega
  have h1 := b i
  have h2 := b j
  have h3 : i.natAbs.log2 + j.natAbs.log2 < 100000000 := h
  have e : bitsLine = 134217728 := by decide
  unfold IntMulOk
  intro z
  rw [Bool.and_eq_true] at z
  have z2 := z.2
  unfold Builtin.Int.intTooBig at z2
  have z3 := of_decide_eq_true z2
  rw [e] at z3
  omega
theorem op_mulG : OpR X (binaryOp .Mult) (rI CMulG fun i j => .int (i * j)) := opI fun _ _ _ _ _ _ _ hc q => mul_int q hc.ok
def rMul : R2 := fun x y H Q => rI CMulG (fun i j => .int (i * j)) x y H Q ∨ ∃ l k xs, x = .ref l ∧ y = .int k ∧ L2.Rd H l (.lst xs) ∧ -(2 ^ 63) ≤ k ∧ k < 2 ^ 63 ∧ xs.length * k.toNat ≤ sizeLine ∧
  ∀ p, H p = none → Q (.ref p) (upd H p (.lst (List.replicate k.toNat xs).flatten))
theorem op_repG : OpR X (binaryOp .Mult) (fun x y H Q => ∃ l k xs, x = .ref l ∧ y = .int k ∧ L2.Rd H l (.lst xs) ∧ -(2 ^ 63) ≤ k ∧ k < 2 ^ 63 ∧ xs.length * k.toNat ≤ sizeLine ∧
  ∀ p, H p = none → Q (.ref p) (upd H p (.lst (List.replicate k.toNat xs).flatten))) := by
  intro pins s σ H x y v u Q I rx ry h
  obtain ⟨l, k, xs, rfl, rfl, hH, h1, h2, hz, q⟩ := h
  cases rx
  obtain ⟨t, rfl⟩ := ry
  obtain ⟨z, its, n, r, e⟩ := hH.ok I.hok
  have hl := r.length
  have hlen : its.toArray.size * k.toNat ≤ sizeLine := by rw [List.size_toArray, ← hl]; exact hz
  have hcap : ¬ its.toArray.size * k.toNat > (2 ^ 63 - 1) / 8 := by
    have : (sizeLine : Nat) ≤ (2 ^ 63 - 1) / 8 := by decide
    omega
  have hfit : ¬ (!Builtin.List.listFitsIndex k) = true := by
    rw [fitsIndex_both h1 h2]
    exact Bool.false_ne_true
  have hlong : ¬ Builtin.List.listTooLong (its.toArray.size * k.toNat) = true := by
    rw [notLongL hlen]
    exact Bool.false_ne_true
  have hnew : List.foldl (fun x1 x2 => x1 ++ x2) #[] (List.replicate (if its.toArray.isEmpty = true then 0 else k.toNat) its.toArray) = (List.replicate k.toNat its).flatten.toArray := by
    have f0 : ∀ m : Nat, List.foldl (fun x1 x2 => x1 ++ x2) #[] (List.replicate m its.toArray) = (List.replicate m its).flatten.toArray := fun m => by
      have := foldl_rep its m []
      rw [List.nil_append] at this
      exact this
    rw [f0]
    cases its with
    | nil => simp
    | cons a r' => rw [if_neg (by simp)]
  refine wpAny_binaryOp_repeat_ref (T := "list") (U := "int") (by decide) ⟨_, e, rfl⟩ (fun s' => typeIs_int s' k t) noFill_list_mul F.fills_int_mul F.slot_int_rmul repeat_list F.slot_int_index.lookup
    (call_meets F.slot_int_rmul (typeIs_int s k t) F.entry_int_rmul (F.args_int_rmul_2 _ _) (int___rmul___int_list k t l its.toArray n)
      ⟨e, rfl, ⟨_, e, rfl⟩, call_meets F.slot_list_mul ⟨_, e, rfl⟩ F.entry_list_mul (F.args_list_mul_2 _ _) (AutoListH.list___mul___list_int_3 l its.toArray n k t hfit hcap hlong) ⟨e, ?_⟩⟩)
  rw [hnew]
  exact ⟨.ref _, _, I.lnew (t' := s.toks) (r.rep k.toNat) (by rw [PyProof.Rows.lm_len_rep_flat, Nat.mul_comm]; exact hz), rfl, q _ I.fresh⟩
def rRepS : R2 := fun x y H Q => ∃ z k, x = .str z ∧ y = .int k ∧ 1 < k ∧ k < 1000000 ∧ 0 < z.length ∧ z.length * k.toNat ≤ 1000000 ∧ Q (.str (repS z k.toNat)) H
theorem op_repS : OpR X (binaryOp .Mult) rRepS := by
  intro pins s σ H x y v u Q I rx ry h
  obtain ⟨z, k, rfl, rfl, h1, h2, h3, h4, q⟩ := h
  obtain ⟨t, rfl⟩ := rx
  obtain ⟨t', rfl⟩ := ry
  have hk : 1 ≤ k.toNat := by omega
  have hz : z.length ≤ 1000000 := Nat.le_trans (Nat.le_mul_of_pos_right _ hk) h4
  have e2 : (k == 1 || z.length == 0) = false := by
    rw [Bool.or_eq_false_iff]
    exact ⟨by simp; omega, by simp; omega⟩
  refine PySem.P.mul_str ?_ (fun _ _ => ?_) (fun _ _ => ?_) ?_
  · rw [Bool.or_eq_false_iff]
    exact ⟨decide_eq_false (by omega), decide_eq_false (by omega)⟩
  · have : (1000001 : Int) ≤ (2 ^ 63 - 1) / k := (Int.le_ediv_iff_mul_le (by omega)).mpr (by omega)
    omega
  · have : ¬ z.length * k.toNat > 2 ^ 24 := by omega
    simpa [Builtin.Str.tooLong, PySem.sizeLine] using this
  · rw [if_neg (by omega), e2]
    refine ⟨?_, .str _, H, I.tok _, ⟨_, rfl⟩, q⟩
    show (repS z k.toNat).cps.size ≤ _
    rw [repS_size]
    have : (1000000 : Nat) ≤ sizeLine := by decide
    rw [Nat.mul_comm]
    exact Nat.le_trans h4 this
def rMulS : R2 := fun x y H Q => rRepS x y H Q ∨ rMul x y H Q
theorem op_mulM : OpR X (binaryOp .Mult) rMulS := op_repS.or (op_mulG.or op_repG)
theorem bin_mul : Bin X opMul rMulS := by
  intro F H own t v a t' v' a' u Q ok r r' s s' e q
  unfold opMul at e
  split at e
  · split at e
    · rename_i hz
      cases e
      rw [r.int, r'.int]
      exact .inr (.inl ⟨_, _, rfl, rfl, hz, q.val ok (by unfold Rep; rfl)⟩)
    · cases e
  · split at e
    · rename_i hz
      cases e
      rw [r.str, r'.int]
      exact .inl ⟨_, _, rfl, rfl, hz.1, hz.2.1, hz.2.2.1, hz.2.2.2, q.val ok (by unfold Rep; rfl)⟩
    · cases e
  · simp only [Option.bind_eq_some_iff] at e
    obtain ⟨xs, e1, e3⟩ := e
    split at e3
    · rename_i hz
      cases e3
      obtain ⟨p, vs, rfl, h1, k1⟩ := r.asL e1
      rw [r'.int]
      exact .inr (.inr ⟨p, _, vs, rfl, rfl, h1, hz.1, hz.2.1, by rw [k1.length]; exact big_line hz.2.2, fun p hp => q.newL ok hp (k1.reps _)⟩)
    · cases e3
  · cases e
def CDivG (_ j : Int) : Prop := j ≠ 0 ∧ j.natAbs.log2 < 9000
theorem op_divM : OpR X (binaryOp .FloorDiv) (rI CDivG fun i j => .int (i.fdiv j)) := opI fun _ _ _ _ _ _ _ hc q => floordiv_int hc.1 q (.inl (PyProof.noPylong_of_log2 hc.2))
theorem bin_div : Bin X opDiv (rI CDivG fun i j => .int (i.fdiv j)) := bin_int (g := fun i j => .int (i.fdiv j)) (fun i j F H => by unfold Rep; rfl) fun t t' u e => by
  unfold opDiv at e
  split at e
  · split at e <;> cases e
    rename_i h
    exact ⟨_, _, rfl, rfl, h, rfl⟩
  · cases e
theorem bin_mod : Bin X opMod (rI (fun _ j => j ≠ 0) fun i j => .int (i.fmod j)) := bin_int (g := fun i j => .int (i.fmod j)) (fun i j F H => by unfold Rep; rfl) fun t t' u e => by
  unfold opMod at e
  split at e
  · split at e <;> cases e
    rename_i h
    exact ⟨_, _, rfl, rfl, h, rfl⟩
  · cases e
theorem bin_pow : Bin X opPow (rI CPow fun i j => .int (i ^ j.toNat)) := bin_int (g := fun i j => .int (i ^ j.toNat)) (fun i j F H => by unfold Rep; rfl) fun t t' u e => by
  unfold opPow at e
  split at e
  · split at e <;> cases e
    rename_i h
    exact ⟨_, _, rfl, rfl, h, rfl⟩
  · cases e
theorem un_negM : Un X opNeg (rU fun i => .int (-i)) := by
  intro F H own t v a u Q ok r s e q
  unfold opNeg at e
  split at e <;> cases e
  rw [r.int]
  exact ⟨_, rfl, q.val ok (by unfold Rep; rfl)⟩

/-! ### comparisons -/
end
def opCmp (p : Int → Int → Bool) : T → T → Option T
  | .pl (.int i), .pl (.int j) => some (.pl (.bl (p i j)))
  | _, _ => none
abbrev opLt : T → T → Option T := opCmp fun i j => decide (i < j)
abbrev opLe : T → T → Option T := opCmp fun i j => decide (i ≤ j)
abbrev opGt : T → T → Option T := opCmp fun i j => decide (j < i)
abbrev opGe : T → T → Option T := opCmp fun i j => decide (j ≤ i)
section
variable {X : Cx}
theorem bin_cmp {p : Int → Int → Bool} : Bin X (opCmp p) (rI0 fun i j => .bl (p i j)) := bin_int0 (g := fun i j => .bl (p i j)) (fun i j F H => by unfold Rep; rfl) fun t t' u e => by
  unfold opCmp at e
  split at e <;> cases e
  exact ⟨_, _, rfl, rfl, rfl⟩
end

/-! ### == -/
mutual
def D.eqv : D → D → Bool
  | .non, .non => true
  | .bl a, .bl b => a == b
  | .bl a, .int j => (if a then 1 else 0) == j
  | .int i, .bl b => i == (if b then 1 else 0)
  | .int i, .int j => i == j
  | .str x, .str y => x == y
  | .lst xs, .lst ys => D.eqvs xs ys
  | .tup xs, .tup ys => D.eqvs xs ys
  | .ty a, .ty b => false
  | _, _ => false
def D.eqvs : List D → List D → Bool
  | [], [] => true
  | x :: xs, y :: ys => D.eqv x y && D.eqvs xs ys
  | [], _ :: _ => false
  | _ :: _, [] => false
end
mutual
/-- data that == looks at: nested at most n deep -/
def D.flat : Nat → D → Bool
  | _, .non => true
  | _, .bl _ => true
  | _, .int _ => true
  | _, .str x => PyData.strOk x
  | n + 1, .lst xs => D.flats n xs
  | n + 1, .tup xs => D.flats n xs
  | _, _ => false
def D.flats : Nat → List D → Bool
  | _, [] => true
  | n, x :: xs => D.flat n x && D.flats n xs
end
mutual
def D.py : D → PyData
  | .non => .none
  | .bl b => .bool b
  | .int i => .int i
  | .str x => .str x
  | .lst xs => .list (D.pys xs)
  | .tup xs => .tuple (D.pys xs)
  | .ty _ => .none
  | .cls _ => .none
  | .obj _ _ => .none
  | .scr _ => .none
def D.pys : List D → List PyData
  | [] => []
  | x :: xs => D.py x :: D.pys xs
end
mutual
theorem eqv_py : ∀ {n m : Nat} {a b : D}, D.flat n a = true → D.flat m b = true → PyData.eqv (D.py a) (D.py b) = D.eqv a b := by
  intro n m a b ha hb
  match a, n, ha with
  | .non, n, ha =>
    match b, m, hb with
    | .non, _, _ | .bl _, _, _ | .int _, _, _ | .str _, _, _ | .lst _, _, _ | .tup _, _, _ => simp [D.py, PyData.eqv, D.eqv]
  | .bl _, n, ha =>
    match b, m, hb with
    | .non, _, _ | .bl _, _, _ | .int _, _, _ | .str _, _, _ | .lst _, _, _ | .tup _, _, _ => simp [D.py, PyData.eqv, D.eqv]
  | .int _, n, ha =>
    match b, m, hb with
    | .non, _, _ | .bl _, _, _ | .int _, _, _ | .str _, _, _ | .lst _, _, _ | .tup _, _, _ => simp [D.py, PyData.eqv, D.eqv]
  | .str _, n, ha =>
    match b, m, hb with
    | .non, _, _ | .bl _, _, _ | .int _, _, _ | .str _, _, _ | .lst _, _, _ | .tup _, _, _ => simp [D.py, PyData.eqv, D.eqv]
  | .lst xs, n + 1, ha =>
    match b, m, hb with
    | .non, _, _ | .bl _, _, _ | .int _, _, _ | .str _, _, _ | .tup _, _, _ => simp [D.py, PyData.eqv, D.eqv]
    | .lst ys, m + 1, hb =>
      simp only [D.flat] at ha hb
      simp only [D.py, PyData.eqv, D.eqv]
      exact eqvs_py ha hb
  | .tup xs, n + 1, ha =>
    match b, m, hb with
    | .non, _, _ | .bl _, _, _ | .int _, _, _ | .str _, _, _ | .lst _, _, _ => simp [D.py, PyData.eqv, D.eqv]
    | .tup ys, m + 1, hb =>
      simp only [D.flat] at ha hb
      simp only [D.py, PyData.eqv, D.eqv]
      exact eqvs_py ha hb
theorem eqvs_py : ∀ {n m : Nat} {a b : List D}, D.flats n a = true → D.flats m b = true → PyData.eqvAll (D.pys a) (D.pys b) = D.eqvs a b := by
  intro n m a b ha hb
  match a, b with
  | [], [] => simp [D.pys, PyData.eqvAll, D.eqvs]
  | [], _ :: _ => simp [D.pys, PyData.eqvAll, D.eqvs]
  | _ :: _, [] => simp [D.pys, PyData.eqvAll, D.eqvs]
  | x :: xs, y :: ys =>
    simp only [D.flats, Bool.and_eq_true] at ha hb
    simp only [D.pys, PyData.eqvAll, D.eqvs]
    rw [eqv_py ha.1 hb.1, eqvs_py ha.2 hb.2]
end
mutual
theorem flat_lay : ∀ {n : Nat} {a : D}, D.flat n a = true → PyData.canLay0 (D.py a) = true ∧ (D.py a).depth ≤ n
  | _, .non, _ => ⟨by simp [D.py, PyData.canLay0], by simp [D.py, PyData.depth]⟩
  | _, .bl _, _ => ⟨by simp [D.py, PyData.canLay0], by simp [D.py, PyData.depth]⟩
  | _, .int _, _ => ⟨by simp [D.py, PyData.canLay0], by simp [D.py, PyData.depth]⟩
  | _, .str _, h => ⟨by simpa [D.py, PyData.canLay0, D.flat] using h, by simp [D.py, PyData.depth]⟩
  | n + 1, .lst xs, h => by
    obtain ⟨h1, h2⟩ := flats_lay (n := n) (a := xs) (by simpa [D.flat] using h)
    exact ⟨by simpa [D.py, PyData.canLay0] using h1, by simpa [D.py, PyData.depth] using h2⟩
  | n + 1, .tup xs, h => by
    obtain ⟨h1, h2⟩ := flats_lay (n := n) (a := xs) (by simpa [D.flat] using h)
    exact ⟨by simpa [D.py, PyData.canLay0] using h1, by simpa [D.py, PyData.depth] using h2⟩
theorem flats_lay : ∀ {n : Nat} {a : List D}, D.flats n a = true → PyData.canLayAll0 (D.pys a) = true ∧ PyData.depthAll (D.pys a) ≤ n
  | _, [], _ => ⟨by simp [D.pys, PyData.canLayAll0], by simp [D.pys, PyData.depthAll]⟩
  | n, x :: xs, h => by
    simp only [D.flats, Bool.and_eq_true] at h
    obtain ⟨h1, h2⟩ := flat_lay h.1
    obtain ⟨h3, h4⟩ := flats_lay h.2
    exact ⟨by simp [D.pys, PyData.canLayAll0, h1, h3], by simp only [D.pys, PyData.depthAll]; omega⟩
end
theorem flat_shaped {a : D} {n : Nat} (hn : n ≤ 64) (h : D.flat n a = true) : SeqAt.shaped (D.py a) = true := by
  obtain ⟨h1, h2⟩ := flat_lay h
  unfold SeqAt.shaped
  rw [h1, decide_eq_true (Nat.le_trans h2 hn)]; rfl
section
variable {K : PySem.W.Frag} {mg : Str → Option Value} {F : Addr → Prop} {H : Hp}
mutual
theorem Rep.dp : ∀ {n : Nat} {a : D} {v : V}, D.flat n a = true → Rep K mg F H a v → Dp K H v (D.py a)
  | _, .non, v, _, h => by unfold Rep at h; rw [h]; exact .non
  | _, .bl _, v, _, h => by unfold Rep at h; rw [h]; exact .bl _
  | _, .int _, v, _, h => by unfold Rep at h; rw [h]; exact .int _
  | _, .str _, v, _, h => by unfold Rep at h; rw [h]; exact .str _
  | n + 1, .lst xs, v, f, h => by
    unfold Rep at h
    obtain ⟨a, vs, rfl, fl, r⟩ := h
    exact .lst (.inl fl.2) (Reps.dp (n := n) (by simpa [D.flat] using f) r)
  | n + 1, .tup xs, v, f, h => by
    unfold Rep at h
    obtain ⟨a, vs, rfl, fl, r⟩ := h
    exact .tup fl.1 (Reps.dp (n := n) (by simpa [D.flat] using f) r)
theorem Reps.dp : ∀ {n : Nat} {a : List D} {vs : List V}, D.flats n a = true → Reps K mg F H a vs → DpAll K H vs (D.pys a)
  | _, [], vs, _, h => by unfold Reps at h; rw [h]; exact .nil
  | n, x :: xs, vs, f, h => by
    simp only [D.flats, Bool.and_eq_true] at f
    unfold Reps at h
    obtain ⟨v, r, rfl, h1, h2⟩ := h
    exact .cons (Rep.dp f.1 h1) (Reps.dp f.2 h2)
end
theorem RepT.dp {t : T} {v : V} {as : List Addr} {n : Nat} (h : RepT K mg F H t v as) (f : D.flat n t.frz = true) : Dp K H v (D.py t.frz) := by
  cases t with
  | pl d => unfold RepT at h; unfold T.frz at f ⊢; exact h.2.dp f
  | oo c fs => unfold T.frz D.flat at f; cases f
  | ol xs =>
    unfold RepT at h
    unfold T.frz at f ⊢
    obtain ⟨a, vs, rfl, _, hh, r⟩ := h
    cases n with
    | zero => unfold D.flat at f; cases f
    | succ n => exact .lst (.inl (.inl hh)) (Reps.dp (n := n) (by simpa [D.flat] using f) r)
end
def opEq (neg : Bool) (t t' : T) : Option T := if D.flat 40 t.frz = true ∧ D.flat 40 t'.frz = true then some (.pl (.bl (if neg then !D.eqv t.frz t'.frz else D.eqv t.frz t'.frz))) else none
section
variable {X : Cx}
theorem bin_eq : Bin X (opEq false) (rEqD X.K) := by
  intro F H own t v a t' v' a' u Q ok r r' s s' e q
  unfold opEq at e
  split at e
  · rename_i h
    cases e
    refine ⟨_, _, r.dp h.1, r'.dp h.2, flat_shaped (by decide) h.1, flat_shaped (by decide) h.2, ?_⟩
    rw [eqv_py h.1 h.2]
    exact q.val ok (by unfold Rep; rfl)
  · cases e
theorem bin_ne : Bin X (opEq true) (rNeD X.K) := by
  intro F H own t v a t' v' a' u Q ok r r' s s' e q
  unfold opEq at e
  split at e
  · rename_i h
    cases e
    refine ⟨_, _, r.dp h.1, r'.dp h.2, flat_shaped (by decide) h.1, flat_shaped (by decide) h.2, ?_⟩
    rw [eqv_py h.1 h.2]
    exact q.val ok (by unfold Rep; rfl)
  · cases e
end
end Mir

set_option maxHeartbeats 1000000
/-! Mir5: names, items, built-ins, displays, tests. -/
namespace Mir
open PySem L2 PyProof.Rows

/-! ### names, constants -/
def rv (i : Nat) : Rd T := fun env => (env[i]?).bind id
def rc (d : D) : Rd T := fun _ => some (.pl d)
def mv (i : Nat) : M T := fun env => match env[i]? with
  | some (some t) => .ok (fz t) (env.set i (some (fz t)))
  | _ => .no
def mmove (i : Nat) : M T := fun env => match env[i]? with
  | some (some t) => .ok t (env.set i none)
  | _ => .no
theorem set_self {α : Type} : ∀ {l : List α} {i : Nat} {v : α}, l[i]? = some v → l.set i v = l
  | [], i, v, h => by simp at h
  | x :: l, 0, v, h => by simp at h; simp [h]
  | x :: l, i + 1, v, h => by
    rw [List.set_cons_succ, set_self (by simpa using h)]
section
variable {X : Cx} {W : WX} {e a b : Expr} {pos : Pos}
theorem re_var {i : Nat} (h : PE X e (tVar i)) : PE X e (tR X (rv i)) := pe_imp h fun σ H Q ⟨F, env, as, ok, rep, t, hm, post⟩ => by
  unfold rv at hm
  have hi : env[i]? = some (some t) := by
    cases q : env[i]? with
    | none => rw [q] at hm; cases hm
    | some o => rw [q] at hm; exact congrArg some hm
  have hl : i < env.length := (List.getElem?_eq_some_iff.mp hi).1
  obtain ⟨l1, a, l2, ea, g1, _, _⟩ := rep.at i hl
  obtain ⟨v, e1, r⟩ := g1 t hi
  exact ⟨v, e1, post F H v a (GoR.refl ok) r fun b hb => by rw [ea]; simp [hb]⟩
theorem me_var {i : Nat} (h : PE X e (tVar i)) : PE X e (tE X W (mv i)) := pe_imp h fun σ H Q ⟨F, env, as, ok, rep, post⟩ => by
  unfold mv at post
  split at post
  · rename_i t hi
    have hl : i < env.length := (List.getElem?_eq_some_iff.mp hi).1
    obtain ⟨l1, a, l2, ea, g1, _, g3⟩ := rep.at i hl
    obtain ⟨v, e1, r⟩ := g1 t hi
    subst ea
    have ok2 : Wd.Ok ⟨F, H, (l1 ++ l2) ++ a⟩ := ok.sub ((List.Perm.nodup_iff (by rw [List.append_assoc]; exact List.Perm.append_left _ List.perm_append_comm)).mp ok.nd) fun b hb => by
      simp only [List.mem_append] at hb ⊢
      rcases hb with (z | z) | z
      · exact .inl z
      · exact .inr (.inr z)
      · exact .inr (.inl z)
    have g := ok2.freeze.src (l' := l1 ++ (a ++ l2)) fun b hb => by
      simp only [List.mem_append] at hb ⊢
      rcases hb with (z | z) | z
      · exact .inl z
      · exact .inr (.inr z)
      · exact .inr (.inl z)
    have le := g.le ok
    have rf : Rep X.K X.mg (fun b => F b ∨ b ∈ a) H t.frz v := RepT.frz (r.mono le fun _ _ _ e => e) fun b hb => .inr hb
    have re := (g3 (fun b => F b ∨ b ∈ a) H le fun _ _ _ e => e).1 (fz t) v [] (RepT.plI rf)
    rw [set_self e1, List.nil_append] at re
    exact ⟨v, e1, post _ H v (l1 ++ l2) [] g.nil re (RepT.plI rf)⟩
  · exact post.elim
theorem me_move {i : Nat} (h : PE X e (tVar i)) : PE X e (tE X W (mmove i)) := pe_imp h fun σ H Q ⟨F, env, as, ok, rep, post⟩ => by
  unfold mmove at post
  split at post
  · rename_i t hi
    have hl : i < env.length := (List.getElem?_eq_some_iff.mp hi).1
    obtain ⟨l1, a, l2, ea, g1, _, g3⟩ := rep.at i hl
    obtain ⟨v, e1, r⟩ := g1 t hi
    subst ea
    have re := (g3 F H (Le.refl F H) fun _ _ _ e => e).2 (some v)
    rw [set_self e1] at re
    refine ⟨v, e1, post F H v (l1 ++ l2) a ((Go.refl ok).sub ?_ fun b hb => ?_) re r⟩
    · exact (List.Perm.nodup_iff (by rw [List.append_assoc]; exact List.Perm.append_left _ List.perm_append_comm)).mp ok.nd
    · simp only [List.mem_append] at hb ⊢
      rcases hb with (z | z) | z
      · exact .inl z
      · exact .inr (.inr z)
      · exact .inr (.inl z)
  · exact post.elim
theorem re_c {d : D} {v : V} (h : PE X e (tC v)) (r : ∀ F H, Rep X.K X.mg F H d v) : PE X e (tR X (rc d)) := pe_imp h fun σ H Q ⟨F, env, as, ok, rep, t, hm, post⟩ => by
  cases hm
  exact post F H v [] (GoR.refl ok) (RepT.plI (r F H)) (by simp)
theorem re_int {i j pos} : PE X (.Constant (.int i) j pos) (tR X (rc (.int i))) := re_c pe_int fun _ _ => by unfold Rep; rfl
theorem re_bl {i j pos} : PE X (.Constant (.bool i) j pos) (tR X (rc (.bl i))) := re_c pe_bl fun _ _ => by unfold Rep; rfl
theorem re_str {i j pos} : PE X (.Constant (.str i) j pos) (tR X (rc (.str i))) := re_c pe_str fun _ _ => by unfold Rep; rfl
theorem re_non {j pos} : PE X (.Constant .none j pos) (tR X (rc .non)) := re_c pe_non fun _ _ => by unfold Rep; rfl

/-! ### items, slices -/
end
def opIx : T → T → Option T
  | .pl (.str z), .pl (.int i) => if z.length ≤ big then (atI z.cps.toList i).map fun c => .pl (.str ⟨#[c]⟩) else none
  | x, .pl (.int i) => x.asS.bind fun xs => (atI xs i).map .pl
  | _, _ => none
def cutD (xs : List D) (lo hi : Option Int) : List D := (xs.drop (HT.sIx xs.length 0 lo)).take (HT.sIx xs.length xs.length hi - HT.sIx xs.length 0 lo)
section
variable {X : Cx} {W : WX} {e a b : Expr} {pos : Pos}
theorem atI_rep {K mg F H} {ds : List D} {vs : List V} {i : Int} {d : D} (r : Reps K mg F H ds vs) (e : atI ds i = some d) : ∃ v, atI vs i = some v ∧ Rep K mg F H d v := by
  unfold atI at e ⊢
  rw [r.length]
  cases q : ixN ds.length i with
  | none => rw [q] at e; cases e
  | some j =>
    rw [q] at e
    exact r.get e
theorem bin_ix : Bin X opIx (rIx X.K) := by
  intro F H own t v a t' v' a' u Q ok r r' s s' e q
  unfold opIx at e
  split at e
  · split at e
    · rename_i hz
      simp only [Option.map_eq_some_iff] at e
      obtain ⟨c, hc, rfl⟩ := e
      rw [r.str, r'.int]
      exact .inr (.inr ⟨_, _, c, rfl, rfl, big_line hz, hc, q.val ok (by unfold Rep; rfl)⟩)
    · cases e
  · simp only [Option.bind_eq_some_iff, Option.map_eq_some_iff] at e
    obtain ⟨xs, e1, d, e2, rfl⟩ := e
    obtain ⟨p, vs, rfl, h1, k1⟩ := r.asS e1
    obtain ⟨w, h2, k2⟩ := atI_rep k1 e2
    rw [r'.int]
    rcases h1 with h1 | h1
    · exact .inl ⟨p, vs, _, w, rfl, rfl, h1, h2, q.val ok k2⟩
    · exact .inr (.inl ⟨p, vs, _, w, rfl, rfl, h1, h2, q.val ok k2⟩)
  · cases e
/-- an optional part of a slice, read -/
def tRO (X : Cx) (m : Rd (Option Int)) : TO := fun σ H Q => ∃ F env as, Wd.Ok ⟨F, H, as⟩ ∧ RepE X.K X.mg F H env σ as ∧ ∃ o, m env = some o ∧
  ∀ F' H', GoR ⟨F, H, as⟩ ⟨F', H', as⟩ → Q o H'
theorem po_imp {X : Cx} {e : Option Expr} {t u : TO} (h : PO X e t) (i : ∀ σ H Q, u σ H Q → t σ H Q) : PO X e u := ⟨fun pins s σ H Q I hu => h.run pins s σ H Q I (i σ H Q hu)⟩
def rnone : Rd (Option Int) := fun _ => some none
def asI : T → Option Int
  | .pl (.int i) => some i
  | _ => none
def rsome (ρ : Rd T) : Rd (Option Int) := fun env => (ρ env).bind fun t => (asI t).map some
theorem ro_none : PO X none (tRO X rnone) := po_imp po_none fun σ H Q ⟨F, env, as, ok, rep, o, hm, post⟩ => by
  cases hm
  exact post F H (GoR.refl ok)
theorem asI_int {t : T} {i : Int} (h : asI t = some i) : t = .pl (.int i) := by
  unfold asI at h
  split at h <;> cases h
  rfl
theorem ro_some {ρ : Rd T} (h : PE X e (tR X ρ)) : PO X (some e) (tRO X (rsome ρ)) := po_imp (po_some h) fun σ H Q ⟨F, env, as, ok, rep, o, hm, post⟩ => by
  unfold rsome at hm
  simp only [Option.bind_eq_some_iff, Option.map_eq_some_iff] at hm
  obtain ⟨t, ht, i, hi, rfl⟩ := hm
  have et := asI_int hi
  subst et
  exact ⟨F, env, as, ok, rep, _, ht, fun F1 H1 v1 at1 g1 rt1 s1 => ⟨i, rt1.int, post F1 H1 g1⟩⟩
/-- slices of texts -/
def opSl (t : T) (lo hi : Option Int) : Option T := match t with
  | .pl (.tup xs) => some (.pl (.tup (cutD xs lo hi)))
  | .pl (.str z) => if z.length ≤ big then some (.pl (.str (cutS z lo hi))) else none
  | x => x.asL.map fun xs => .ol (cutD xs lo hi)
def rSl (K : PySem.W.Frag) : V → Option Int → Option Int → Hp → VK → Prop := fun x lo hi H Q => rSlS x lo hi H Q ∨ rSlL K x lo hi H Q ∨ rSlA K x lo hi H Q
theorem cutD_rep {K mg F H} {ds : List D} {vs : List V} {lo hi} (r : Reps K mg F H ds vs) : Reps K mg F H (cutD ds lo hi) (cutV vs lo hi) := by
  unfold cutD cutV
  rw [r.length]
  exact (r.drop _).take _
def r3 (f : T → Option Int → Option Int → Option T) (a : Rd T) (l h : Rd (Option Int)) : Rd T := fun env => (a env).bind fun x => (l env).bind fun lo => (h env).bind fun hi => (f x lo hi).map fz
theorem re_sl {lo hi : Option Expr} {p2 pos} {ρ : Rd T} {l h : Rd (Option Int)} (he : PE X e (tR X ρ)) (hl : PO X lo (tRO X l)) (hu : PO X hi (tRO X h)) : PE X (.Subscript e (.Slice lo hi none p2) pos) (tR X (r3 opSl ρ l h)) :=
  pe_imp (pe_slice (sl_str.or (sl_list.or sl_tupA)) he hl hu) fun σ H Q ⟨F, env, as, ok, rep, t, hm, post⟩ => by
  unfold r3 at hm
  simp only [Option.bind_eq_some_iff, Option.map_eq_some_iff] at hm
  obtain ⟨x, hx, lo', hlo, hi', hhi, u, hu', rfl⟩ := hm
  refine ⟨F, env, as, ok, rep, x, hx, fun F1 H1 v1 at1 g1 rt1 s1 => ⟨F1, env, as, g1.ok, rep.readG ok g1, lo', hlo, fun F2 H2 g2 => ⟨F2, env, as, g2.ok, (rep.readG ok g1).readG g1.ok g2, hi', hhi, fun F3 H3 g3 => ?_⟩⟩⟩
  have rt3 := (rt1.readG g1.ok g2).readG g2.ok g3
  have fin : Res X F3 H3 as u Q := Res.of_fz g3.ok fun F4 H4 v g4 q4 => post F4 H4 v [] (g1.trans (g2.trans (g3.trans g4))) (RepT.plI q4) (by simp)
  unfold opSl at hu'
  split at hu'
  · cases hu'
    rename_i xs
    obtain ⟨p, vs, rfl, h1, f1, k1⟩ := rt3.tup
    have kc := cutD_rep (lo := lo') (hi := hi') k1
    refine .inr (.inr ⟨p, vs, rfl, h1, fun z => ?_, fun z p' hp' => fin.newT g3.ok hp' kc⟩)
    refine fin.val g3.ok ?_
    unfold Rep
    refine ⟨p, vs, rfl, f1, ?_⟩
    have ec : cutV vs lo' hi' = vs := by
      unfold cutV
      rw [z.1, z.2, List.drop_zero, Nat.sub_zero, List.take_length]
    rw [ec] at kc
    exact kc
  · split at hu'
    · rename_i hz
      cases hu'
      rw [rt3.str]
      exact .inl ⟨_, rfl, big_line hz, fin.val g3.ok (by unfold Rep; rfl)⟩
    · cases hu'
  · simp only [Option.map_eq_some_iff] at hu'
    obtain ⟨xs, e1, rfl⟩ := hu'
    obtain ⟨p, vs, rfl, h1, k1⟩ := rt3.asL e1
    exact .inr (.inl ⟨p, vs, rfl, .inl h1, fun p' hp' => fin.newL g3.ok hp' (cutD_rep k1)⟩)

/-! ### built-ins -/
end
def opLen : List T → Option T
  | [.pl (.str z)] => if z.length ≤ big then some (.pl (.int z.length)) else none
  | [x] => x.asS.map fun xs => .pl (.int xs.length)
  | _ => none
def opTuple : List T → Option T
  | [x] => x.asS.map fun xs => .pl (.tup xs)
  | _ => none
def opList : List T → Option T
  | [x] => x.asS.map .ol
  | _ => none
def opAbs : List T → Option T
  | [.pl (.int i)] => some (.pl (.int (if i < 0 then -i else i)))
  | _ => none
def opMax2 : List T → Option T
  | [.pl (.int i), .pl (.int j)] => some (.pl (.int (if j > i then j else i)))
  | _ => none
def opMin2 : List T → Option T
  | [.pl (.int i), .pl (.int j)] => some (.pl (.int (if j < i then j else i)))
  | _ => none
def opInt : List T → Option T
  | [.pl (.int i)] => some (.pl (.int i))
  | [.pl (.bl k)] => some (.pl (.int (if k then 1 else 0)))
  | _ => none
def opGcd : List T → Option T
  | [.pl (.int i), .pl (.int j)] => some (.pl (.int ((Nat.gcd i.natAbs j.natAbs : Nat) : Int)))
  | _ => none
def tyName : T → Option String
  | .pl .non => some "NoneType"
  | .pl (.bl _) => some "bool"
  | .pl (.int _) => some "int"
  | .pl (.str _) => some "str"
  | .pl (.tup _) => some "tuple"
  | .pl (.lst _) => some "list"
  | .ol _ => some "list"
  | _ => none
def opIsi : List T → Option T
  | [x, .pl (.ty n)] => (tyName x).bind fun m => (kitB m n).map fun b => .pl (.bl b)
  | _ => none
section
variable {X : Cx} {K : PySem.W.Frag} {mg : Str → Option Value} {F : Addr → Prop} {H : Hp} {as : List Addr}
theorem RepTs.one {t : T} {vs : List V} (h : RepTs K mg F H [t] vs as) : ∃ v, vs = [v] ∧ RepT K mg F H t v as := by
  unfold RepTs RepTs at h
  obtain ⟨v, r, a1, a2, e, ea, h1, e2, ea2⟩ := h
  subst e2 ea2
  rw [List.append_nil] at ea
  exact ⟨v, e, ea ▸ h1⟩
theorem RepTs.two {t t' : T} {vs : List V} (h : RepTs K mg F H [t, t'] vs as) : ∃ v v' a1 a2, vs = [v, v'] ∧ as = a1 ++ a2 ∧ RepT K mg F H t v a1 ∧ RepT K mg F H t' v' a2 := by
  unfold RepTs at h
  obtain ⟨v, r, a1, a2, e, ea, h1, h2⟩ := h
  obtain ⟨v', e', r'⟩ := h2.one
  subst e'
  exact ⟨v, v', a1, a2, e, ea, h1, r'⟩
theorem na_len : Nary X opLen (fun xs H Q => ∃ x n, xs = [x] ∧ LenV X.K x H n ∧ Q (.int n) H) := by
  intro F H own ts vs a u Q ok r s e q
  unfold opLen at e
  split at e
  · split at e <;> cases e
    rename_i hz
    obtain ⟨v, rfl, r1⟩ := r.one
    rw [r1.str]
    exact ⟨_, _, rfl, ⟨big_line hz, rfl⟩, q.val ok (by unfold Rep; rfl)⟩
  · simp only [Option.map_eq_some_iff] at e
    obtain ⟨xs, e1, rfl⟩ := e
    obtain ⟨v, rfl, r1⟩ := r.one
    obtain ⟨p, ws, rfl, h1, k1⟩ := r1.asS e1
    refine ⟨_, ws.length, rfl, ?_, by rw [k1.length]; exact q.val ok (by unfold Rep; rfl)⟩
    rcases h1 with h1 | h1
    · exact .inl ⟨ws, h1, rfl⟩
    · exact .inr ⟨ws, h1, rfl⟩
  · cases e
theorem na_tuple : Nary X opTuple (fun xs H Q => ∃ p ys, xs = [.ref p] ∧ ((SqL X.K H p ys ∧ ∀ l, H l = none → Q (.ref l) (upd H l (.tup ys))) ∨ (SqT X.K H p ys ∧ Q (.ref p) H))) := by
  intro F H own ts vs a u Q ok r s e q
  unfold opTuple at e
  split at e
  · simp only [Option.map_eq_some_iff] at e
    obtain ⟨xs, e1, rfl⟩ := e
    obtain ⟨v, rfl, r1⟩ := r.one
    rename_i x
    cases x with
    | oo c fs => cases e1
    | ol ys =>
      obtain ⟨p, ws, rfl, h1, k1⟩ := r1.asL (ds := ys) rfl
      cases e1
      exact ⟨p, ws, rfl, .inl ⟨.inl h1, fun l hl => q.newT ok hl k1⟩⟩
    | pl d =>
      cases d <;> cases e1
      · obtain ⟨p, ws, rfl, h1, f1, k1⟩ := r1.tup
        exact ⟨p, ws, rfl, .inr ⟨h1, q.val ok (by unfold Rep; exact ⟨p, ws, rfl, f1, k1⟩)⟩⟩
      · obtain ⟨p, ws, rfl, h1, k1⟩ := r1.asL rfl
        exact ⟨p, ws, rfl, .inl ⟨.inl h1, fun l hl => q.newT ok hl k1⟩⟩
      · unfold RepT Rep at r1
        obtain ⟨_, p, ws, rfl, f, k1⟩ := r1
        exact ⟨p, ws, rfl, .inl ⟨f.1, fun l hl => q.newT ok hl k1⟩⟩
  · cases e
theorem na_list : Nary X opList (fun xs H Q => ∃ p ys, xs = [.ref p] ∧ (SqL X.K H p ys ∨ SqT X.K H p ys) ∧ ∀ l, H l = none → Q (.ref l) (upd H l (.lst ys))) := by
  intro F H own ts vs a u Q ok r s e q
  unfold opList at e
  split at e
  · simp only [Option.map_eq_some_iff] at e
    obtain ⟨xs, e1, rfl⟩ := e
    obtain ⟨v, rfl, r1⟩ := r.one
    obtain ⟨p, ws, rfl, h1, k1⟩ := r1.asS e1
    exact ⟨p, ws, rfl, h1, fun l hl => q.newL ok hl k1⟩
  · cases e
theorem na_abs : Nary X opAbs (fun xs H Q => ∃ i, xs = [.int i] ∧ Q (.int (if i < 0 then -i else i)) H) := by
  intro F H own ts vs a u Q ok r s e q
  unfold opAbs at e
  split at e <;> cases e
  obtain ⟨v, rfl, r1⟩ := r.one
  rw [r1.int]
  exact ⟨_, rfl, q.val ok (by unfold Rep; rfl)⟩
theorem na_int2 {f : List T → Option T} {g : Int → Int → Int} {r : List V → Hp → VK → Prop} (hf : ∀ ts u, f ts = some u → ∃ i j, ts = [.pl (.int i), .pl (.int j)] ∧ u = .pl (.int (g i j)))
    (hr : ∀ i j H Q, Q (.int (g i j)) H → r [.int i, .int j] H Q) : Nary X f r := by
  intro F H own ts vs a u Q ok rr s e q
  obtain ⟨i, j, rfl, rfl⟩ := hf ts u e
  obtain ⟨v, v', a1, a2, rfl, rfl, r1, r2⟩ := rr.two
  rw [r1.int, r2.int]
  exact hr _ _ _ _ (q.val ok (by unfold Rep; rfl))
def rMax2 : List V → Hp → VK → Prop := fun xs H Q => ∃ i j, xs = [.int i, .int j] ∧ Q (.int (if j > i then j else i)) H
def rMin2 : List V → Hp → VK → Prop := fun xs H Q => ∃ i j, xs = [.int i, .int j] ∧ Q (.int (if j < i then j else i)) H
theorem na_max2 : Nary X opMax2 rMax2 := na_int2 (g := fun i j => if j > i then j else i) (fun ts u e => by
  unfold opMax2 at e
  split at e <;> cases e
  exact ⟨_, _, rfl, rfl⟩) fun i j H Q q => ⟨i, j, rfl, q⟩
theorem na_min2 : Nary X opMin2 rMin2 := na_int2 (g := fun i j => if j < i then j else i) (fun ts u e => by
  unfold opMin2 at e
  split at e <;> cases e
  exact ⟨_, _, rfl, rfl⟩) fun i j H Q q => ⟨i, j, rfl, q⟩
theorem na_gcd : Nary X opGcd rGcd := na_int2 (f := opGcd) (g := fun i j => ((Nat.gcd i.natAbs j.natAbs : Nat) : Int)) (fun ts u e => by
  unfold opGcd at e
  split at e <;> cases e
  exact ⟨_, _, rfl, rfl⟩) fun i j H Q q => ⟨i, j, rfl, q⟩
theorem na_intC : Nary X opInt (fun xs H Q => (∃ i, xs = [.int i] ∧ Q (.int i) H) ∨ ∃ k, xs = [.bl k] ∧ Q (.int (if k then 1 else 0)) H) := by
  intro F H own ts vs a u Q ok r s e q
  unfold opInt at e
  split at e <;> cases e
  · obtain ⟨v, rfl, r1⟩ := r.one
    rw [r1.int]
    exact .inl ⟨_, rfl, q.val ok (by unfold Rep; rfl)⟩
  · obtain ⟨v, rfl, r1⟩ := r.one
    rw [r1.bl]
    exact .inr ⟨_, rfl, q.val ok (by unfold Rep; rfl)⟩
theorem tyX_of {t : T} {v : V} {n : String} (r : RepT K mg F H t v as) (e : tyName t = some n) : TyX K H v (.type n) := by
  cases t with
  | oo c fs => cases e
  | ol xs =>
    cases e
    unfold RepT at r
    obtain ⟨a, vs, rfl, _, hh, _⟩ := r
    exact .base (.lst hh)
  | pl d =>
    unfold RepT at r
    obtain ⟨_, r⟩ := r
    cases d <;> cases e <;> unfold Rep at r
    · rw [r]; exact .base .non
    · rw [r]; exact .base (.bl _)
    · rw [r]; exact .base (.int _)
    · rw [r]; exact .base (.str _)
    · obtain ⟨a, vs, rfl, f, _⟩ := r
      rcases f.1 with (h | ⟨o, h⟩) | ⟨o, its, n, h1, h2, _⟩
      · exact .base (.tup h)
      · exact .fTuple h
      · exact .kTuple h1 h2
    · obtain ⟨a, vs, rfl, f, _⟩ := r
      rcases f.2 with h | ⟨o, h⟩
      · exact .base (.lst h)
      · exact .base (.frz h)
theorem na_isi : Nary X opIsi (rIsi X.K) := by
  intro F H own ts vs a u Q ok r s e q
  unfold opIsi at e
  split at e
  · simp only [Option.bind_eq_some_iff, Option.map_eq_some_iff] at e
    obtain ⟨m, e1, b, e2, rfl⟩ := e
    obtain ⟨v, v', a1, a2, rfl, rfl, r1, r2⟩ := r.two
    rw [r2.ty]
    exact ⟨v, _, _, _, b, rfl, .ty _, tyX_of r1 e1, kit_ty e2, q.val ok (by unfold Rep; rfl)⟩
  · cases e
end
end Mir

set_option maxHeartbeats 1000000
/-! Mir6: tests, and | or | not, if-expressions, displays, in, is. -/
namespace Mir
open PySem L2 PyProof.Rows

def asB : T → Option Bool
  | .pl (.bl b) => some b
  | _ => none
/-- truth -/
def asTru : T → Option Bool
  | .pl .non => some false
  | .pl (.bl b) => some b
  | .pl (.int i) => some (i != 0)
  | .pl (.str z) => if z.length ≤ big then some ((z.length : Int) != 0) else none
  | x => x.asS.map fun xs => !xs.isEmpty
def rb (f : T → Option Bool) (ρ : Rd T) : Rd Bool := fun env => (ρ env).bind f
def mb (f : T → Option Bool) (m : M T) : M Bool := m.bind fun t => .ofO (f t)
theorem asB_bl {t : T} {b : Bool} (h : asB t = some b) : t = .pl (.bl b) := by
  unfold asB at h
  split at h <;> cases h
  rfl
section
variable {X : Cx} {W : WX} {e a b c : Expr} {pos : Pos} {ρ ρa ρb : Rd T} {m ma mb' : M T}
theorem rt_of (h : PT X e (L2.tB (tR X ρ))) : PT X e (tRB X (rb asB ρ)) := pt_imp h fun σ H Q ⟨F, env, as, ok, rep, t, hm, post⟩ => by
  unfold rb at hm
  simp only [Option.bind_eq_some_iff] at hm
  obtain ⟨x, hx, hb⟩ := hm
  have et := asB_bl hb
  subst et
  exact ⟨F, env, as, ok, rep, _, hx, fun F1 H1 v1 at1 g1 rt1 s1 => ⟨t, rt1.bl, post F1 H1 g1⟩⟩
theorem truV_of {K mg F H t v a b} (r : RepT K mg F H t v a) (e : asTru t = some b) : TruV K v H b := by
  unfold asTru at e
  split at e
  · cases e; unfold RepT Rep at r; rw [r.2]; rfl
  · cases e; rw [r.bl]; rfl
  · cases e; rw [r.int]; rfl
  · split at e <;> cases e
    rename_i hz
    rw [r.str]; exact ⟨big_line hz, rfl⟩
  · simp only [Option.map_eq_some_iff] at e
    obtain ⟨xs, e1, rfl⟩ := e
    obtain ⟨p, vs, rfl, h1, k1⟩ := r.asS e1
    have el : (!xs.isEmpty) = !vs.isEmpty := by
      have := k1.length
      cases xs <;> cases vs <;> simp at this ⊢
    rcases h1 with h1 | h1
    · exact .inl ⟨vs, h1, el⟩
    · exact .inr (.inl ⟨vs, h1, el⟩)
theorem rt_tru (ha : PE X a (tR X ρ)) (he : ∀ whole, isTrue a X.env whole = (do let v ← whole; standAt a.pos; holding [v] (truthy v)) := by intro _; rfl) : PT X a (tRB X (rb asTru ρ)) :=
  pt_imp (pt_truth ha he) fun σ H Q ⟨F, env, as, ok, rep, t, hm, post⟩ => by
  unfold rb at hm
  simp only [Option.bind_eq_some_iff] at hm
  obtain ⟨x, hx, hb⟩ := hm
  exact ⟨F, env, as, ok, rep, _, hx, fun F1 H1 v1 at1 g1 rt1 s1 => ⟨t, truV_of rt1 hb, post F1 H1 g1⟩⟩
theorem mt_of (h : PT X e (L2.tB (tE X W m))) : PT X e (Mir.tB X W (mb asB m)) := pt_imp h fun σ H Q ⟨F, env, as, ok, rep, post⟩ => by
  refine ⟨F, env, as, ok, rep, ?_⟩
  unfold mb M.bind at post
  cases h1 : m env with
  | no => rw [h1] at post; exact post
  | ex x e1 => rw [h1] at post; exact post
  | ok x e1 =>
    rw [h1] at post
    intro F1 H1 v1 as1 at1 g1 rep1 rt1
    dsimp only at post
    cases hu : asB x with
    | none => rw [hu] at post; exact post.elim
    | some b =>
      rw [hu] at post
      have et := asB_bl hu
      subst et
      exact ⟨b, rt1.bl, post F1 H1 as1 g1.left rep1⟩
theorem mt_tru (ha : PE X a (tE X W m)) (he : ∀ whole, isTrue a X.env whole = (do let v ← whole; standAt a.pos; holding [v] (truthy v)) := by intro _; rfl) : PT X a (Mir.tB X W (mb asTru m)) :=
  pt_imp (pt_truth ha he) fun σ H Q ⟨F, env, as, ok, rep, post⟩ => by
  refine ⟨F, env, as, ok, rep, ?_⟩
  unfold mb M.bind at post
  cases h1 : m env with
  | no => rw [h1] at post; exact post
  | ex x e1 => rw [h1] at post; exact post
  | ok x e1 =>
    rw [h1] at post
    intro F1 H1 v1 as1 at1 g1 rep1 rt1
    dsimp only at post
    cases hu : asTru x with
    | none => rw [hu] at post; exact post.elim
    | some b =>
      rw [hu] at post
      exact ⟨b, truV_of rt1 hu, post F1 H1 as1 g1.left rep1⟩
/-- a reading test as a doing one -/
def ofRB (ρ : Rd Bool) : M Bool := fun env => match ρ env with
  | some b => .ok b env
  | none => .no
theorem mt_r {ρ : Rd Bool} (h : PT X e (tRB X ρ)) : PT X e (Mir.tB X W (ofRB ρ)) := pt_imp h fun σ H Q ⟨F, env, as, ok, rep, post⟩ => by
  unfold ofRB at post
  cases h1 : ρ env with
  | none => rw [h1] at post; exact post.elim
  | some b =>
    rw [h1] at post
    exact ⟨F, env, as, ok, rep, b, h1, fun F1 H1 g1 => post F1 H1 as g1.toGo (rep.readG ok g1)⟩

/-! ### and, or, not as tests -/
def rAndB (a b : Rd Bool) : Rd Bool := fun env => (a env).bind fun x => if x = true then b env else some false
def rOrB (a b : Rd Bool) : Rd Bool := fun env => (a env).bind fun x => if x = true then some true else b env
def rNotB (a : Rd Bool) : Rd Bool := fun env => (a env).map (!·)
def mAndB (a b : M Bool) : M Bool := a.bind fun x => if x = true then b else fun env => .ok false env
def mOrB (a b : M Bool) : M Bool := a.bind fun x => if x = true then fun env => .ok true env else b
def mNotB (a : M Bool) : M Bool := a.bind fun x => fun env => .ok (!x) env
variable {rest : List Expr} {β β' : Rd Bool} {μ μ' : M Bool}
theorem rw_and1 (ha : PT X a (tRB X β)) : PW X (.BoolOp .And [a] pos) (tRB X β) := pw_and1 ha
theorem rw_or1 (ha : PT X a (tRB X β)) : PW X (.BoolOp .Or [a] pos) (tRB X β) := pw_or1 ha
theorem rw_and (ha : PT X a (tRB X β)) (hb : PW X (.BoolOp .And (b :: rest) pos) (tRB X β')) : PW X (.BoolOp .And (a :: b :: rest) pos) (tRB X (rAndB β β')) :=
  pw_imp (pw_and ha hb) fun σ H Q ⟨F, env, as, ok, rep, t, hm, post⟩ => by
  unfold rAndB at hm
  simp only [Option.bind_eq_some_iff] at hm
  obtain ⟨x, hx, hy⟩ := hm
  refine ⟨F, env, as, ok, rep, x, hx, fun F1 H1 g1 => ?_⟩
  cases x with
  | true => exact iteT ⟨F1, env, as, g1.ok, rep.readG ok g1, t, by simpa using hy, fun F2 H2 g2 => post F2 H2 (g1.trans g2)⟩
  | false => simp at hy; subst hy; exact iteF (post F1 H1 g1)
theorem rw_or (ha : PT X a (tRB X β)) (hb : PW X (.BoolOp .Or (b :: rest) pos) (tRB X β')) : PW X (.BoolOp .Or (a :: b :: rest) pos) (tRB X (rOrB β β')) :=
  pw_imp (pw_or ha hb) fun σ H Q ⟨F, env, as, ok, rep, t, hm, post⟩ => by
  unfold rOrB at hm
  simp only [Option.bind_eq_some_iff] at hm
  obtain ⟨x, hx, hy⟩ := hm
  refine ⟨F, env, as, ok, rep, x, hx, fun F1 H1 g1 => ?_⟩
  cases x with
  | false => exact iteF ⟨F1, env, as, g1.ok, rep.readG ok g1, t, by simpa using hy, fun F2 H2 g2 => post F2 H2 (g1.trans g2)⟩
  | true => simp at hy; subst hy; exact iteT (post F1 H1 g1)
theorem rt_not (ha : PT X a (tRB X β)) : PT X (.UnaryOp .Not a pos) (tRB X (rNotB β)) := pt_imp (pt_not ha) fun σ H Q ⟨F, env, as, ok, rep, t, hm, post⟩ => by
  unfold rNotB at hm
  simp only [Option.map_eq_some_iff] at hm
  obtain ⟨x, hx, rfl⟩ := hm
  exact ⟨F, env, as, ok, rep, x, hx, fun F1 H1 g1 => post F1 H1 g1⟩
/-- a test of doing: cases -/
theorem PoB.bind {F H as σ Q} {Q' : Bool → Hp → Prop} {μ : M Bool} {k : Bool → M Bool} {env : Slots} (post : PoB X W F H as σ Q ((μ.bind k) env))
    (h : ∀ x e1, μ env = .ok x e1 → ∀ F1 H1 as1, Go ⟨F, H, as⟩ ⟨F1, H1, as1⟩ → RepE X.K X.mg F1 H1 e1 σ as1 → PoB X W F H as σ Q (k x e1) → Q' x H1) : PoB X W F H as σ Q' (μ env) := by
  unfold M.bind at post
  cases h1 : μ env with
  | no => rw [h1] at post; exact post
  | ex x e1 => rw [h1] at post; exact post
  | ok x e1 => rw [h1] at post; exact fun F1 H1 as1 g1 rep1 => h x e1 h1 F1 H1 as1 g1 rep1 post
/-- from a point of the way on -/
theorem PoB.from {F H as σ Q} {F1 H1 as1 o} (g1 : Go ⟨F, H, as⟩ ⟨F1, H1, as1⟩) (post : PoB X W F H as σ Q o) : PoB X W F1 H1 as1 σ Q o := by
  cases o with
  | no => exact post
  | ex x e => exact fun F2 H2 as2 cls d g2 rep2 rx => post F2 H2 as2 cls d (g1.trans g2) rep2 rx
  | ok x e => exact fun F2 H2 as2 g2 rep2 => post F2 H2 as2 (g1.trans g2) rep2
theorem PoE.from {F H as σ Q} {F1 H1 as1 o} (g1 : Go ⟨F, H, as⟩ ⟨F1, H1, as1⟩) (post : PoE X W F H as σ Q o) : PoE X W F1 H1 as1 σ Q o := by
  cases o with
  | no => exact post
  | ex x e => exact fun F2 H2 as2 cls d g2 rep2 rx => post F2 H2 as2 cls d (g1.trans g2) rep2 rx
  | ok x e => exact fun F2 H2 v as2 at2 g2 rep2 r => post F2 H2 v as2 at2 (g1.trans g2) rep2 r
theorem mw_and1 (ha : PT X a (Mir.tB X W μ)) : PW X (.BoolOp .And [a] pos) (Mir.tB X W μ) := pw_and1 ha
theorem mw_or1 (ha : PT X a (Mir.tB X W μ)) : PW X (.BoolOp .Or [a] pos) (Mir.tB X W μ) := pw_or1 ha
theorem mw_and (ha : PT X a (Mir.tB X W μ)) (hb : PW X (.BoolOp .And (b :: rest) pos) (Mir.tB X W μ')) : PW X (.BoolOp .And (a :: b :: rest) pos) (Mir.tB X W (mAndB μ μ')) :=
  pw_imp (pw_and ha hb) fun σ H Q ⟨F, env, as, ok, rep, post⟩ => ⟨F, env, as, ok, rep, PoB.bind post fun x e1 h1 F1 H1 as1 g1 rep1 p => by
    cases x with
    | true => exact iteT ⟨F1, e1, as1, g1.ok, rep1, PoB.from g1 p⟩
    | false => exact iteF (p F1 H1 as1 g1 rep1)⟩
theorem mw_or (ha : PT X a (Mir.tB X W μ)) (hb : PW X (.BoolOp .Or (b :: rest) pos) (Mir.tB X W μ')) : PW X (.BoolOp .Or (a :: b :: rest) pos) (Mir.tB X W (mOrB μ μ')) :=
  pw_imp (pw_or ha hb) fun σ H Q ⟨F, env, as, ok, rep, post⟩ => ⟨F, env, as, ok, rep, PoB.bind post fun x e1 h1 F1 H1 as1 g1 rep1 p => by
    cases x with
    | false => exact iteF ⟨F1, e1, as1, g1.ok, rep1, PoB.from g1 p⟩
    | true => exact iteT (p F1 H1 as1 g1 rep1)⟩
theorem mt_not (ha : PT X a (Mir.tB X W μ)) : PT X (.UnaryOp .Not a pos) (Mir.tB X W (mNotB μ)) := pt_imp (pt_not ha) fun σ H Q ⟨F, env, as, ok, rep, post⟩ =>
  ⟨F, env, as, ok, rep, PoB.bind post fun x e1 h1 F1 H1 as1 g1 rep1 p => p F1 H1 as1 g1 rep1⟩

/-! ### as values -/
def rAndV (a b : Rd T) : Rd T := fun env => (a env).bind fun x => (asB x).bind fun c => if c = true then b env else some (.pl (.bl false))
def rOrV (a b : Rd T) : Rd T := fun env => (a env).bind fun x => (asB x).bind fun c => if c = true then some (.pl (.bl true)) else b env
def rNotV (a : Rd T) : Rd T := fun env => (a env).bind fun x => (asB x).map fun c => .pl (.bl (!c))
theorem re_one {op} (h : PE X a (tR X ρ)) : PE X (.BoolOp op [a] pos) (tR X ρ) := pe_one h
theorem me_one {op} (h : PE X a (tE X W m)) : PE X (.BoolOp op [a] pos) (tE X W m) := pe_one h
theorem re_and (ha : PE X a (tR X ρa)) (hb : PE X (.BoolOp .And (b :: rest) pos) (tR X ρb)) : PE X (.BoolOp .And (a :: b :: rest) pos) (tR X (rAndV ρa ρb)) :=
  pe_imp (pe_and ha hb) fun σ H Q ⟨F, env, as, ok, rep, t, hm, post⟩ => by
  unfold rAndV at hm
  simp only [Option.bind_eq_some_iff] at hm
  obtain ⟨x, hx, c, hc, hy⟩ := hm
  have et := asB_bl hc
  subst et
  refine ⟨F, env, as, ok, rep, _, hx, fun F1 H1 v1 at1 g1 rt1 s1 => ⟨c, rt1.bl, ?_⟩⟩
  cases c with
  | true => exact iteT ⟨F1, env, as, g1.ok, rep.readG ok g1, t, by simpa using hy, fun F2 H2 v2 at2 g2 r2 s2 => post F2 H2 v2 at2 (g1.trans g2) r2 s2⟩
  | false => simp at hy; subst hy; exact iteF (post F1 H1 _ [] g1 (RepT.plI (by unfold Rep; rfl)) (by simp))
theorem re_or (ha : PE X a (tR X ρa)) (hb : PE X (.BoolOp .Or (b :: rest) pos) (tR X ρb)) : PE X (.BoolOp .Or (a :: b :: rest) pos) (tR X (rOrV ρa ρb)) :=
  pe_imp (pe_or ha hb) fun σ H Q ⟨F, env, as, ok, rep, t, hm, post⟩ => by
  unfold rOrV at hm
  simp only [Option.bind_eq_some_iff] at hm
  obtain ⟨x, hx, c, hc, hy⟩ := hm
  have et := asB_bl hc
  subst et
  refine ⟨F, env, as, ok, rep, _, hx, fun F1 H1 v1 at1 g1 rt1 s1 => ⟨c, rt1.bl, ?_⟩⟩
  cases c with
  | false => exact iteF ⟨F1, env, as, g1.ok, rep.readG ok g1, t, by simpa using hy, fun F2 H2 v2 at2 g2 r2 s2 => post F2 H2 v2 at2 (g1.trans g2) r2 s2⟩
  | true => simp at hy; subst hy; exact iteT (post F1 H1 _ [] g1 (RepT.plI (by unfold Rep; rfl)) (by simp))
theorem re_not (ha : PE X a (tR X ρ)) : PE X (.UnaryOp .Not a pos) (tR X (rNotV ρ)) := pe_imp (pe_not ha) fun σ H Q ⟨F, env, as, ok, rep, t, hm, post⟩ => by
  unfold rNotV at hm
  simp only [Option.bind_eq_some_iff, Option.map_eq_some_iff] at hm
  obtain ⟨x, hx, c, hc, rfl⟩ := hm
  have et := asB_bl hc
  subst et
  exact ⟨F, env, as, ok, rep, _, hx, fun F1 H1 v1 at1 g1 rt1 s1 => ⟨c, rt1.bl, post F1 H1 _ [] g1 (RepT.plI (by unfold Rep; rfl)) (by simp)⟩⟩
def rIf (c : Rd Bool) (a b : Rd T) : Rd T := fun env => (c env).bind fun x => if x = true then a env else b env
theorem re_if (hc : PT X c (tRB X β)) (ha : PE X a (tR X ρa)) (hb : PE X b (tR X ρb)) : PE X (.IfExp c a b pos) (tR X (rIf β ρa ρb)) := pe_imp (pe_ifExp hc ha hb) fun σ H Q ⟨F, env, as, ok, rep, t, hm, post⟩ => by
  unfold rIf at hm
  simp only [Option.bind_eq_some_iff] at hm
  obtain ⟨x, hx, hy⟩ := hm
  refine ⟨F, env, as, ok, rep, x, hx, fun F1 H1 g1 => ?_⟩
  cases x with
  | true => exact iteT ⟨F1, env, as, g1.ok, rep.readG ok g1, t, by simpa using hy, fun F2 H2 v2 at2 g2 r2 s2 => post F2 H2 v2 at2 (g1.trans g2) r2 s2⟩
  | false => exact iteF ⟨F1, env, as, g1.ok, rep.readG ok g1, t, by simpa using hy, fun F2 H2 v2 at2 g2 r2 s2 => post F2 H2 v2 at2 (g1.trans g2) r2 s2⟩
def mIf {α : Type} (c : M Bool) (a b : M α) : M α := c.bind fun x => if x = true then a else b
theorem me_if (hc : PT X c (Mir.tB X W μ)) (ha : PE X a (tE X W ma)) (hb : PE X b (tE X W mb')) : PE X (.IfExp c a b pos) (tE X W (mIf μ ma mb')) := pe_imp (pe_ifExp hc ha hb) fun σ H Q ⟨F, env, as, ok, rep, post⟩ => by
  refine ⟨F, env, as, ok, rep, ?_⟩
  unfold mIf M.bind at post
  cases h1 : μ env with
  | no => rw [h1] at post; exact post
  | ex x e1 => rw [h1] at post; exact post
  | ok x e1 =>
    rw [h1] at post
    intro F1 H1 as1 g1 rep1
    cases x with
    | true => exact iteT ⟨F1, e1, as1, g1.ok, rep1, PoE.from g1 post⟩
    | false => exact iteF ⟨F1, e1, as1, g1.ok, rep1, PoE.from g1 post⟩
def mAndV (a b : M T) : M T := a.bind fun x => fun env => match asB x with
  | some true => b env
  | some false => .ok (.pl (.bl false)) env
  | none => .no
def mOrV (a b : M T) : M T := a.bind fun x => fun env => match asB x with
  | some false => b env
  | some true => .ok (.pl (.bl true)) env
  | none => .no
theorem me_and (ha : PE X a (tE X W ma)) (hb : PE X (.BoolOp .And (b :: rest) pos) (tE X W mb')) : PE X (.BoolOp .And (a :: b :: rest) pos) (tE X W (mAndV ma mb')) :=
  pe_imp (pe_and ha hb) fun σ H Q ⟨F, env, as, ok, rep, post⟩ => by
  refine ⟨F, env, as, ok, rep, ?_⟩
  unfold mAndV M.bind at post
  cases h1 : ma env with
  | no => rw [h1] at post; exact post
  | ex x e1 => rw [h1] at post; exact post
  | ok x e1 =>
    rw [h1] at post
    intro F1 H1 v1 as1 at1 g1 rep1 rt1
    dsimp only at post
    cases hc : asB x with
    | none => rw [hc] at post; exact post.elim
    | some c =>
      rw [hc] at post
      have et := asB_bl hc
      subst et
      refine ⟨c, rt1.bl, ?_⟩
      cases c with
      | true => exact iteT ⟨F1, e1, as1, g1.left.ok, rep1, PoE.from g1.left post⟩
      | false => exact iteF (post F1 H1 _ as1 [] g1.left.nil rep1 (RepT.plI (by unfold Rep; rfl)))
theorem me_or (ha : PE X a (tE X W ma)) (hb : PE X (.BoolOp .Or (b :: rest) pos) (tE X W mb')) : PE X (.BoolOp .Or (a :: b :: rest) pos) (tE X W (mOrV ma mb')) :=
  pe_imp (pe_or ha hb) fun σ H Q ⟨F, env, as, ok, rep, post⟩ => by
  refine ⟨F, env, as, ok, rep, ?_⟩
  unfold mOrV M.bind at post
  cases h1 : ma env with
  | no => rw [h1] at post; exact post
  | ex x e1 => rw [h1] at post; exact post
  | ok x e1 =>
    rw [h1] at post
    intro F1 H1 v1 as1 at1 g1 rep1 rt1
    dsimp only at post
    cases hc : asB x with
    | none => rw [hc] at post; exact post.elim
    | some c =>
      rw [hc] at post
      have et := asB_bl hc
      subst et
      refine ⟨c, rt1.bl, ?_⟩
      cases c with
      | false => exact iteF ⟨F1, e1, as1, g1.left.ok, rep1, PoE.from g1.left post⟩
      | true => exact iteT (post F1 H1 _ as1 [] g1.left.nil rep1 (RepT.plI (by unfold Rep; rfl)))
end
end Mir

set_option maxHeartbeats 1000000
/-! Mir7: displays, in, is, chains of comparisons. -/
namespace Mir
open PySem L2 PyProof.Rows

def T.pl? : T → Option D
  | .pl d => some d
  | _ => none
def plains : List T → Option (List D)
  | [] => some []
  | t :: ts => t.pl?.bind fun d => (plains ts).map (d :: ·)
def frzs (ts : List T) : List D := ts.map T.frz
def rtup (ρ : Rd (List T)) : Rd T := fun env => (ρ env).bind fun ts => (plains ts).bind fun ds => if ds.length ≤ big then some (.pl (.tup ds)) else none
def rlst (ρ : Rd (List T)) : Rd T := fun env => (ρ env).bind fun ts => (plains ts).bind fun ds => if ds.length ≤ big then some (.pl (.lst ds)) else none
def mtup (μ : M (List T)) : M T := μ.bind fun ts => .ofO (if ts.length ≤ big then some (.pl (.tup (frzs ts))) else none)
def mlst (μ : M (List T)) : M T := μ.bind fun ts => .ofO (if ts.length ≤ big then some (.ol (frzs ts)) else none)
def mfz (m : M T) : M T := m.bind fun t => fun env => .ok (fz t) env
section
variable {K : PySem.W.Frag} {mg : Str → Option Value} {F : Addr → Prop} {H : Hp}
theorem RepTs.plains : ∀ {ts : List T} {ds : List D} {vs : List V} {as : List Addr}, RepTs K mg F H ts vs as → Mir.plains ts = some ds → as = [] ∧ Reps K mg F H ds vs
  | [], ds, vs, as, h, e => by
    unfold RepTs at h
    cases e
    rw [h.1]; exact ⟨h.2, .nil⟩
  | t :: ts, ds, vs, as, h, e => by
    unfold RepTs at h
    obtain ⟨v, r, a1, a2, rfl, rfl, h1, h2⟩ := h
    unfold Mir.plains at e
    simp only [Option.bind_eq_some_iff, Option.map_eq_some_iff] at e
    obtain ⟨d, hd, es, hes, rfl⟩ := e
    obtain ⟨rfl, q⟩ := RepTs.plains h2 hes
    cases t with
    | pl d' =>
      cases hd
      unfold RepT at h1
      obtain ⟨rfl, h1⟩ := h1
      exact ⟨rfl, .cons h1 q⟩
    | ol xs => cases hd
    | oo c fs => cases hd
theorem RepTs.frz : ∀ {ts : List T} {vs : List V} {as : List Addr}, RepTs K mg F H ts vs as → (∀ b ∈ as, F b) → Reps K mg F H (frzs ts) vs
  | [], vs, as, h, k => by unfold RepTs at h; rw [h.1]; exact .nil
  | t :: ts, vs, as, h, k => by
    unfold RepTs at h
    obtain ⟨v, r, a1, a2, rfl, rfl, h1, h2⟩ := h
    exact .cons (RepT.frz h1 fun b hb => k b (List.mem_append_left _ hb)) (RepTs.frz h2 fun b hb => k b (List.mem_append_right _ hb))
theorem RepTs.length : ∀ {ts : List T} {vs : List V} {as : List Addr}, RepTs K mg F H ts vs as → vs.length = ts.length
  | [], vs, as, h => by unfold RepTs at h; rw [h.1]; rfl
  | t :: ts, vs, as, h => by
    unfold RepTs at h
    obtain ⟨v, r, a1, a2, rfl, rfl, h1, h2⟩ := h
    rw [List.length_cons, List.length_cons, RepTs.length h2]
end
section
variable {X : Cx} {W : WX} {e a b c : Expr} {es : List Expr} {pos : Pos} {ρ ρa ρb ρc : Rd T} {ρs : Rd (List T)} {m ma mb' : M T} {μ : M (List T)}
theorem re_tup {x1} (h : PA X es (tRA X ρs)) : PE X (.Tuple es x1 pos) (tR X (rtup ρs)) := pe_imp (pe_tup h) fun σ H Q ⟨F, env, as, ok, rep, t, hm, post⟩ => by
  unfold rtup at hm
  simp only [Option.bind_eq_some_iff] at hm
  obtain ⟨ts, hts, ds, hds, h2⟩ := hm
  split at h2
  · rename_i hz
    cases h2
    refine ⟨F, env, as, ok, rep, ts, hts, fun F1 H1 vs at1 g1 rt1 s1 => ?_⟩
    obtain ⟨rfl, q⟩ := rt1.plains hds
    refine ⟨by rw [q.length]; exact big_line hz, fun p hp => ?_⟩
    exact (Res.of_fz (t := .pl (.tup ds)) (Q := Q) g1.ok fun F4 H4 v g4 q4 => post F4 H4 v [] (g1.trans g4) (RepT.plI q4) (by simp)).newT g1.ok hp q
  · cases h2
theorem re_lst (h : PA X es (tRA X ρs)) : PE X (.List es pos) (tR X (rlst ρs)) := pe_imp (pe_lst h) fun σ H Q ⟨F, env, as, ok, rep, t, hm, post⟩ => by
  unfold rlst at hm
  simp only [Option.bind_eq_some_iff] at hm
  obtain ⟨ts, hts, ds, hds, h2⟩ := hm
  split at h2
  · rename_i hz
    cases h2
    refine ⟨F, env, as, ok, rep, ts, hts, fun F1 H1 vs at1 g1 rt1 s1 => ?_⟩
    obtain ⟨rfl, q⟩ := rt1.plains hds
    refine ⟨by rw [q.length]; exact big_line hz, fun p hp => ?_⟩
    exact (Res.of_fz (t := .ol ds) (Q := Q) g1.ok fun F4 H4 v g4 q4 => post F4 H4 v [] (g1.trans g4) (RepT.plI q4) (by simp)).newL g1.ok hp q
  · cases h2
/-- what is in hand is frozen -/
theorem Go.fzr {w : Wd} {F1 H1 as1 at1} (g : Go w ⟨F1, H1, as1 ++ at1⟩) : Go w ⟨fun b => F1 b ∨ b ∈ at1, H1, as1⟩ := g.trans g.ok.freeze
theorem RepE.fzr {F1 H1 env σ as1} {at1 : List Addr} (r : RepE X.K X.mg F1 H1 env σ as1) : RepE X.K X.mg (fun b => F1 b ∨ b ∈ at1) H1 env σ as1 := r.mono ⟨fun _ h => .inl h, fun _ _ _ e => e⟩ fun _ _ _ e => e
theorem RepT.fzr {F1 H1 t v at1} (r : RepT X.K X.mg F1 H1 t v at1) : Rep X.K X.mg (fun b => F1 b ∨ b ∈ at1) H1 t.frz v := RepT.frz (r.mono ⟨fun _ h => .inl h, fun _ _ _ e => e⟩ fun _ _ _ e => e) fun _ h => .inr h
theorem RepTs.fzr {F1 H1 ts vs at1} (r : RepTs X.K X.mg F1 H1 ts vs at1) : Reps X.K X.mg (fun b => F1 b ∨ b ∈ at1) H1 (frzs ts) vs := RepTs.frz (r.mono ⟨fun _ h => .inl h, fun _ _ _ e => e⟩ fun _ _ _ e => e) fun _ h => .inr h
theorem me_tup {x1} (h : PA X es (tA X W μ)) : PE X (.Tuple es x1 pos) (tE X W (mtup μ)) := pe_imp (pe_tup h) fun σ H Q ⟨F, env, as, ok, rep, post⟩ => by
  refine ⟨F, env, as, ok, rep, ?_⟩
  unfold mtup M.bind at post
  cases h1 : μ env with
  | no => rw [h1] at post; exact post
  | ex x e1 => rw [h1] at post; exact post
  | ok ts e1 =>
    rw [h1] at post
    intro F1 H1 vs as1 at1 g1 rep1 rt1
    dsimp only at post
    split at post
    · rename_i hz
      refine ⟨by rw [rt1.length]; exact big_line hz, fun p hp => ?_⟩
      have g2 := g1.fzr
      exact (PoE.of_op (c := []) g2.nil rep1.fzr post).newT g2.nil.ok hp rt1.fzr
    · exact post.elim
theorem me_lst (h : PA X es (tA X W μ)) : PE X (.List es pos) (tE X W (mlst μ)) := pe_imp (pe_lst h) fun σ H Q ⟨F, env, as, ok, rep, post⟩ => by
  refine ⟨F, env, as, ok, rep, ?_⟩
  unfold mlst M.bind at post
  cases h1 : μ env with
  | no => rw [h1] at post; exact post
  | ex x e1 => rw [h1] at post; exact post
  | ok ts e1 =>
    rw [h1] at post
    intro F1 H1 vs as1 at1 g1 rep1 rt1
    dsimp only at post
    split at post
    · rename_i hz
      refine ⟨by rw [rt1.length]; exact big_line hz, fun p hp => ?_⟩
      have g2 := g1.fzr
      exact (PoE.of_op (c := []) g2.nil rep1.fzr post).newL g2.nil.ok hp rt1.fzr
    · exact post.elim
theorem me_fz (h : PE X e (tE X W m)) : PE X e (tE X W (mfz m)) := pe_imp h fun σ H Q ⟨F, env, as, ok, rep, post⟩ => by
  refine ⟨F, env, as, ok, rep, ?_⟩
  unfold mfz M.bind at post
  cases h1 : m env with
  | no => rw [h1] at post; exact post
  | ex x e1 => rw [h1] at post; exact post
  | ok t e1 =>
    rw [h1] at post
    intro F1 H1 v as1 at1 g1 rep1 rt1
    exact post _ H1 v as1 [] g1.fzr.nil rep1.fzr (RepT.plI rt1.fzr)

/-! ### in, is -/
end
def D.scal : D → Bool
  | .non => true
  | .bl _ => true
  | .int _ => true
  | .str _ => true
  | _ => false
def inD (x : D) (xs : List D) : Bool := xs.any fun y => D.eqv y x
def T.isTup : T → Bool
  | .pl (.tup _) => true
  | .pl (.scr _) => true
  | _ => false
def opIn (neg : Bool) : T → T → Option T
  | .pl (.str x), .pl (.str z) => if x.cps.size = 1 then some (.pl (.bl (if neg then !decide (x.cps.getD 0 0 ∈ z.cps.toList) else decide (x.cps.getD 0 0 ∈ z.cps.toList)))) else none
  | x, y => y.asS.bind fun ys =>
    if x.frz.scal = true ∧ ys.all D.scal = true then some (.pl (.bl (if neg then !inD x.frz ys else inD x.frz ys)))
    else if y.isTup = false ∧ D.flat 40 x.frz = true ∧ D.flats 40 ys = true then some (.pl (.bl (if neg then !inD x.frz ys else inD x.frz ys)))
    else none
section
variable {K : PySem.W.Frag} {mg : Str → Option Value} {F : Addr → Prop} {H : Hp}
theorem Rep.flatV {d : D} {v : V} (h : Rep K mg F H d v) (s : d.scal = true) : flatV v = true := by
  cases d <;> first | (unfold Rep at h; rw [h]; rfl) | cases s
theorem Rep.eqV {d e : D} {v w : V} (h : Rep K mg F H d v) (s : d.scal = true) (h' : Rep K mg F H e w) (s' : e.scal = true) : eqV v w = D.eqv d e := by
  cases d <;> first | (unfold Rep at h; rw [h]; cases e <;> first | (unfold Rep at h'; rw [h']; simp [L2.eqV, D.eqv]; done) | cases s') | cases s
theorem Reps.flatV : ∀ {ds : List D} {vs : List V}, Reps K mg F H ds vs → ds.all D.scal = true → vs.all flatV = true
  | [], vs, h, _ => by unfold Reps at h; rw [h]; rfl
  | d :: ds, vs, h, s => by
    unfold Reps at h
    obtain ⟨v, r, rfl, h1, h2⟩ := h
    simp only [List.all_cons, Bool.and_eq_true] at s ⊢
    exact ⟨h1.flatV s.1, Reps.flatV h2 s.2⟩
theorem Reps.inV {x : D} {v : V} (hx : Rep K mg F H x v) (sx : x.scal = true) : ∀ {ds : List D} {vs : List V}, Reps K mg F H ds vs → ds.all D.scal = true → inV v vs = inD x ds
  | [], vs, h, _ => by unfold Reps at h; rw [h]; rfl
  | d :: ds, vs, h, s => by
    unfold Reps at h
    obtain ⟨w, r, rfl, h1, h2⟩ := h
    simp only [List.all_cons, Bool.and_eq_true] at s
    have ih := Reps.inV hx sx h2 s.2
    unfold L2.inV inD at ih ⊢
    simp only [List.any_cons]
    rw [ih, h1.eqV s.1 hx sx]
theorem any_eqv {x : D} {n : Nat} (hx : D.flat n x = true) : ∀ {ds : List D}, D.flats n ds = true → ((D.pys ds).any fun z => PyData.eqv z (D.py x)) = inD x ds
  | [], _ => rfl
  | d :: ds, h => by
    simp only [D.flats, Bool.and_eq_true] at h
    have ih := any_eqv hx h.2
    unfold inD at ih ⊢
    simp only [D.pys, List.any_cons]
    rw [ih, eqv_py h.1 hx]
theorem RepT.frzRep {t : T} {v : V} {as} (h : RepT K mg F H t v as) (s : t.frz.scal = true) : Rep K mg F H t.frz v := by
  cases t with
  | pl d => unfold RepT at h; exact h.2
  | ol xs => cases s
  | oo c fs => cases s
end
section
variable {X : Cx}
def rInM (K : PySem.W.Frag) (neg : Bool) : R2 := fun x y H Q => (∃ (c : Nat) (z : Str), x = .str ⟨#[c]⟩ ∧ y = .str z ∧ Q (.bl (if neg then !decide (c ∈ z.cps.toList) else decide (c ∈ z.cps.toList))) H) ∨ rIn K neg x y H Q ∨
  (∃ d ds, Dp K H x d ∧ Dp K H y (.list ds) ∧ SeqAt.shaped d = true ∧ SeqAt.shaped (.list ds) = true ∧ Q (.bl (if neg then !(ds.any fun z => PyData.eqv z d) else (ds.any fun z => PyData.eqv z d))) H)
theorem op_inM (hu : X.A.units + 65 < cLine) : OpR X (compareOp .In) (rInM X.K false) := by
  refine OpR.or ?_ (OpR.or op_in_seq ?_)
  · exact op_in_sign
  · exact op_inD hu
theorem op_ninM (hu : X.A.units + 65 < cLine) : OpR X (compareOp .NotIn) (rInM X.K true) := by
  refine OpR.or ?_ (OpR.or op_notIn_seq ?_)
  · exact op_notIn_sign
  · exact op_notInD hu
theorem bin_in {neg : Bool} : Bin X (opIn neg) (rInM X.K neg) := by
  intro F H own t v a t' v' a' u Q ok r r' s s' e q
  unfold opIn at e
  split at e
  · split at e <;> cases e
    rename_i x z hx
    rw [r.str, r'.str]
    obtain ⟨cps⟩ := x
    obtain ⟨l⟩ := cps
    match l, hx with
    | [c], _ => exact .inl ⟨c, z, rfl, rfl, q.val ok (by unfold Rep; rfl)⟩
  · simp only [Option.bind_eq_some_iff] at e
    obtain ⟨ys, e1, e2⟩ := e
    split at e2
    · rename_i hs
      cases e2
      obtain ⟨p, vs, rfl, h1, k1⟩ := r'.asS e1
      have rx := r.frzRep hs.1
      refine .inr (.inl ⟨p, vs, rfl, h1, rx.flatV hs.1, k1.flatV hs.2, ?_⟩)
      rw [Reps.inV rx hs.1 k1 hs.2]
      exact q.val ok (by unfold Rep; rfl)
    · split at e2
      · rename_i hs
        cases e2
        refine .inr (.inr ⟨_, D.pys ys, r.dp hs.2.1, ?_, flat_shaped (by decide) hs.2.1, flat_shaped (n := 41) (a := .lst ys) (by decide) (by unfold D.flat; exact hs.2.2), ?_⟩)
        · cases t' with
          | oo c fs => cases e1
          | ol xs =>
            cases e1
            exact r'.dp (n := 41) (by unfold T.frz D.flat; exact hs.2.2)
          | pl d =>
            cases d <;> cases e1
            · exact nomatch hs.1
            · exact r'.dp (n := 41) (by unfold T.frz D.flat; exact hs.2.2)
            · exact nomatch hs.1
        · rw [any_eqv hs.2.1 hs.2.2]
          exact q.val ok (by unfold Rep; rfl)
      · cases e2
end
def T.isNon : T → Bool
  | .pl .non => true
  | _ => false
def opIsN (neg : Bool) : T → T → Option T
  | x, .pl .non => some (.pl (.bl (if neg then !x.isNon else x.isNon)))
  | _, _ => none
/-- is, of two truth values or two types -/
def opIs (neg : Bool) : T → T → Option T
  | .pl (.bl a), .pl (.bl b) => some (.pl (.bl (if neg then !decide (a = b) else decide (a = b))))
  | x, .pl .non => some (.pl (.bl (if neg then !x.isNon else x.isNon)))
  | _, _ => none
section
variable {X : Cx}
theorem RepT.isNon {K mg F H} {t : T} {v : V} {as} (h : RepT K mg F H t v as) : decide (v = V.non) = t.isNon := by
  cases t with
  | ol xs => unfold RepT at h; obtain ⟨a, vs, rfl, _⟩ := h; simp [T.isNon]
  | oo c fs => unfold RepT at h; obtain ⟨a, C, dx, vs, r, rfl, _⟩ := h; simp [T.isNon]
  | pl d =>
    unfold RepT at h
    obtain ⟨_, h⟩ := h
    cases d <;> unfold Rep at h <;> first | (rw [h]; simp [T.isNon]) | (obtain ⟨a, h⟩ := h; first | (obtain ⟨rfl, _⟩ := h; simp [T.isNon]) | (obtain ⟨vs, rfl, _⟩ := h; simp [T.isNon]) | (obtain ⟨C, dx, vs, rfl, _⟩ := h; simp [T.isNon]))
def rIsM (neg : Bool) : R2 := fun x y H Q => (∃ a b, x = .bl a ∧ y = .bl b ∧ Q (.bl (if neg then !decide (a = b) else decide (a = b))) H) ∨ (y = .non ∧ Q (.bl (if neg then !decide (x = .non) else decide (x = .non))) H)
theorem op_isM : OpR X (compareOp .Is) (rIsM false) := OpR.or op_is_bl op_isN
theorem op_nisM : OpR X (compareOp .IsNot) (rIsM true) := OpR.or op_isnot_bl op_notN
theorem bin_is {neg : Bool} : Bin X (opIs neg) (rIsM neg) := by
  intro F H own t v a t' v' a' u Q ok r r' s s' e q
  unfold opIs at e
  split at e
  · cases e
    rw [r.bl, r'.bl]
    exact .inl ⟨_, _, rfl, rfl, q.val ok (by unfold Rep; rfl)⟩
  · cases e
    refine .inr ⟨by unfold RepT Rep at r'; exact r'.2, ?_⟩
    rw [r.isNon]
    exact q.val ok (by unfold Rep; rfl)
  · cases e
/-! ### chains -/
def rChain (f f' : T → T → Option T) (a b c : Rd T) : Rd T := fun env => (a env).bind fun x => (b env).bind fun y => (f x y).bind fun z => (asB z).bind fun k =>
  if k = true then (c env).bind fun w => (f' y w).map fz else some (.pl (.bl false))
theorem ri_chain {f f' : T → T → Option T} {r r' : R2} {ρa ρb ρc : Rd T} (hf : Bin X f r) (hf' : Bin X f' r') {σ H Q} : tR X (rChain f f' ρa ρb ρc) σ H Q → tChain r r' (tR X ρa) (tR X ρb) (tR X ρc) σ H Q :=
  fun ⟨F, env, as, ok, rep, t, hm, post⟩ => by
  unfold rChain at hm
  simp only [Option.bind_eq_some_iff] at hm
  obtain ⟨x, hx, y, hy, z, hz, k, hk, hr⟩ := hm
  have et := asB_bl hk
  subst et
  refine ⟨F, env, as, ok, rep, x, hx, fun F1 H1 v1 at1 g1 rt1 s1 => ⟨F1, env, as, g1.ok, rep.readG ok g1, y, hy, fun F2 H2 v2 at2 g2 rt2 s2 => ?_⟩⟩
  refine hf g2.ok (rt1.readG g1.ok g2) rt2 s1 s2 hz (Res.of_fz g2.ok fun F3 H3 v g3 q3 => ?_)
  have ev : v = .bl k := by unfold T.frz Rep at q3; exact q3
  refine ⟨k, ev, ?_⟩
  cases k with
  | true =>
    simp only [if_true] at hr
    simp only [Option.bind_eq_some_iff, Option.map_eq_some_iff] at hr
    obtain ⟨w, hw, u, hu, rfl⟩ := hr
    refine iteT ⟨F3, env, as, g3.ok, ((rep.readG ok g1).readG g1.ok g2).readG g2.ok g3, w, hw, fun F4 H4 v4 at4 g4 rt4 s4 => ?_⟩
    exact hf' g4.ok ((rt2.readG g2.ok g3).readG g3.ok g4) rt4 s2 s4 hu (Res.of_fz g4.ok fun F5 H5 v5 g5 q5 => post F5 H5 v5 [] (g1.trans (g2.trans (g3.trans (g4.trans g5)))) (RepT.plI q5) (by simp))
  | false =>
    simp at hr
    subst hr
    exact iteF (post F3 H3 _ [] (g1.trans (g2.trans g3)) (RepT.plI (by unfold Rep; rfl)) (by simp))
theorem re_chain {e : Expr} {f f' : T → T → Option T} {r r' : R2} {ρa ρb ρc : Rd T} (hf : Bin X f r) (hf' : Bin X f' r') (h : PE X e (tChain r r' (tR X ρa) (tR X ρb) (tR X ρc))) : PE X e (tR X (rChain f f' ρa ρb ρc)) := pe_imp h fun σ H Q q => ri_chain hf hf' q
/-- tests by what they compute -/
theorem rt_imp {e : Expr} {t : TE} {ρ : Rd T} (h : PT X e (L2.tB t)) (i : ∀ {σ H Q}, tR X ρ σ H Q → t σ H Q) : PT X e (tRB X (rb asB ρ)) := pt_imp h fun σ H Q ⟨F, env, as, ok, rep, t, hm, post⟩ => by
  unfold rb at hm
  simp only [Option.bind_eq_some_iff] at hm
  obtain ⟨x, hx, hb⟩ := hm
  have et := asB_bl hb
  subst et
  exact i ⟨F, env, as, ok, rep, _, hx, fun F1 H1 v1 at1 g1 rt1 s1 => ⟨t, rt1.bl, post F1 H1 g1⟩⟩
theorem mt_imp {W : WX} {e : Expr} {t : TE} {m : M T} (h : PT X e (L2.tB t)) (i : ∀ {σ H Q}, tE X W m σ H Q → t σ H Q) : PT X e (Mir.tB X W (mb asB m)) := pt_imp h fun σ H Q ⟨F, env, as, ok, rep, post⟩ => by
  refine i ⟨F, env, as, ok, rep, ?_⟩
  unfold mb M.bind at post
  cases h1 : m env with
  | no => rw [h1] at post; exact post
  | ex x e1 => rw [h1] at post; exact post
  | ok x e1 =>
    rw [h1] at post
    intro F1 H1 v1 as1 at1 g1 rep1 rt1
    dsimp only at post
    cases hu : asB x with
    | none => rw [hu] at post; exact post.elim
    | some b =>
      rw [hu] at post
      have et := asB_bl hu
      subst et
      exact ⟨b, rt1.bl, post F1 H1 as1 g1.left rep1⟩
theorem rt_2 {e : Expr} {f r} {ρa ρb : Rd T} (hf : Bin X f r) (h : PT X e (tTest (tOp r (tR X ρa) (tR X ρb)))) : PT X e (tRB X (rb asB (r2 f ρa ρb))) := rt_imp (t := tOp r (tR X ρa) (tR X ρb)) h fun q => ri2 hf q
theorem mt_2 {W : WX} {e : Expr} {f r} {ma mb' : M T} (hf : Bin X f r) (h : PT X e (tTest (tOp r (tE X W ma) (tE X W mb')))) : PT X e (Mir.tB X W (mb asB (m2 f ma mb'))) := mt_imp (t := tOp r (tE X W ma) (tE X W mb')) h fun q => mi2 hf q
theorem rt_chain {e : Expr} {f f' : T → T → Option T} {r r' : R2} {ρa ρb ρc : Rd T} (hf : Bin X f r) (hf' : Bin X f' r') (h : PT X e (tTest (tChain r r' (tR X ρa) (tR X ρb) (tR X ρc)))) : PT X e (tRB X (rb asB (rChain f f' ρa ρb ρc))) := rt_imp (t := tChain r r' (tR X ρa) (tR X ρb) (tR X ρc)) h fun q => ri_chain hf hf' q
end
end Mir

set_option maxHeartbeats 1000000
/-! Mir8: statements and loops. -/
namespace Mir
open PySem L2
open PyProof.Rows hiding St

theorem PoS.from {X : Cx} {W : WX} {fx F H as σ D} {F1 H1 as1 σ1 o} (hσ : ∀ i ∈ fx, σ1[i]? = σ[i]?) (g1 : Go ⟨F, H, as⟩ ⟨F1, H1, as1⟩) (post : PoS X W fx F H as σ D o) : PoS X W fx F1 H1 as1 σ1 D o := by
  cases o with
  | no => exact post
  | ex x e => exact fun F2 H2 σ2 as2 cls d h2 g2 rep2 rx => post F2 H2 σ2 as2 cls d (fun i hi => (h2 i hi).trans (hσ i hi)) (g1.trans g2) rep2 rx
  | ok fl e =>
    cases fl with
    | nx => exact fun F2 H2 σ2 as2 h2 g2 rep2 => post F2 H2 σ2 as2 (fun i hi => (h2 i hi).trans (hσ i hi)) (g1.trans g2) rep2
    | bk => exact fun F2 H2 σ2 as2 h2 g2 rep2 => post F2 H2 σ2 as2 (fun i hi => (h2 i hi).trans (hσ i hi)) (g1.trans g2) rep2
    | ct => exact fun F2 H2 σ2 as2 h2 g2 rep2 => post F2 H2 σ2 as2 (fun i hi => (h2 i hi).trans (hσ i hi)) (g1.trans g2) rep2
    | rt t => exact fun F2 H2 σ2 v as2 at2 h2 g2 rep2 r => post F2 H2 σ2 v as2 at2 (fun i hi => (h2 i hi).trans (hσ i hi)) (g1.trans g2) rep2 r

def mSkip : MS := fun env => .ok .nx env
def mSeq (a b : MS) : MS := fun env => match a env with
  | .ok .nx e => b e
  | .ok .bk e => .ok .bk e
  | .ok .ct e => .ok .ct e
  | .ok (.rt t) e => .ok (.rt t) e
  | .ex x e => .ex x e
  | .no => .no
def mRet (m : M T) : MS := m.bind fun t => fun env => .ok (.rt t) env
def mRetN : MS := fun env => .ok (.rt (.pl .non)) env
def mDrop (m : M T) : MS := m.bind fun _ => fun env => .ok .nx env
def mIfS (c : M Bool) (a b : MS) : MS := c.bind fun x => if x = true then a else b
def mBrk : MS := fun env => .ok .bk env
def mCnt : MS := fun env => .ok .ct env
/-- a name's slot is set -/
def put (i : Nat) (t : T) : Slots → Option Slots := fun env => match env[i]? with
  | some _ => some (env.set i (some t))
  | none => none
def mSet (i : Nat) (m : M T) : MS := m.bind fun t => fun env => match put i t env with
  | some e => .ok .nx e
  | none => .no
section
variable {X : Cx} {W : WX} {fx : List Nat} {e a b c : Expr} {st : Stmt} {rest sts : List Stmt} {pos : Pos} {m : M T} {μ : M Bool} {s s' : MS}
theorem fx_refl {σ : St} : ∀ i ∈ fx, σ[i]? = σ[i]? := fun _ _ => rfl
theorem mss_nil : PSs X [] (tS X W fx mSkip) := pss_imp pss_nil fun D σ H ⟨F, env, as, ok, rep, post⟩ => post F H σ as fx_refl (Go.refl ok) rep
theorem tSeq_imp {D : Ends} {σ : St} {H : Hp} (h : tS X W fx (mSeq s s') D σ H) : tSeq (tS X W fx s) (tS X W fx s') D σ H := by
  obtain ⟨F, env, as, ok, rep, post⟩ := h
  refine ⟨F, env, as, ok, rep, ?_⟩
  unfold mSeq at post
  cases h1 : s env with
  | no => rw [h1] at post; exact post
  | ex x e1 => rw [h1] at post; exact post
  | ok fl e1 =>
    rw [h1] at post
    cases fl with
    | nx => exact fun F1 H1 σ1 as1 h1 g1 rep1 => ⟨F1, e1, as1, g1.ok, rep1, PoS.from h1 g1 post⟩
    | bk => exact post
    | ct => exact post
    | rt t => exact post
theorem mss_cons (h1 : PS X st (tS X W fx s)) (h2 : PSs X rest (tS X W fx s')) : PSs X (st :: rest) (tS X W fx (mSeq s s')) := pss_imp (pss_cons h1 h2) fun D σ H h => tSeq_imp h
theorem mss_one (h1 : PS X st (tS X W fx s)) : PSs X [st] (tS X W fx s) := pss_one h1
theorem ms_pass : PS X (.Pass pos) (tS X W fx mSkip) := ps_imp ps_pass fun D σ H ⟨F, env, as, ok, rep, post⟩ => post F H σ as fx_refl (Go.refl ok) rep
theorem ms_break : PS X (.Break pos) (tS X W fx mBrk) := ps_imp ps_break fun D σ H ⟨F, env, as, ok, rep, post⟩ => post F H σ as fx_refl (Go.refl ok) rep
theorem ms_continue : PS X (.Continue pos) (tS X W fx mCnt) := ps_imp ps_continue fun D σ H ⟨F, env, as, ok, rep, post⟩ => post F H σ as fx_refl (Go.refl ok) rep
theorem ms_doc {x j pos pos'} : PS X (.Expr (.Constant (.str x) j pos) pos') (tS X W fx mSkip) := ps_imp ps_doc fun D σ H ⟨F, env, as, ok, rep, post⟩ => post F H σ as fx_refl (Go.refl ok) rep
/-- an expression within a statement -/
theorem tE_in {D : Ends} {σ : St} {H : Hp} {k : T → MS} {Q : VK} (h : tS X W fx (m.bind k) D σ H)
    (hq : ∀ F env as t e1, Wd.Ok ⟨F, H, as⟩ → m env = .ok t e1 → PoS X W fx F H as σ D (k t e1) → ∀ F1 H1 v as1 at1, Go ⟨F, H, as⟩ ⟨F1, H1, as1 ++ at1⟩ → RepE X.K X.mg F1 H1 e1 σ as1 → RepT X.K X.mg F1 H1 t v at1 → Q v H1) : tE X W m σ H Q := by
  obtain ⟨F, env, as, ok, rep, post⟩ := h
  refine ⟨F, env, as, ok, rep, ?_⟩
  unfold M.bind at post
  cases h1 : m env with
  | no => rw [h1] at post; exact post
  | ex x e1 => rw [h1] at post; exact fun F1 H1 as1 cls d g rep1 rx => post F1 H1 σ as1 cls d fx_refl g rep1 rx
  | ok t e1 => rw [h1] at post; exact hq F env as t e1 ok h1 post
theorem tB_in {D : Ends} {σ : St} {H : Hp} {k : Bool → MS} {Q : Bool → Hp → Prop} (h : tS X W fx (μ.bind k) D σ H)
    (hq : ∀ F env as t e1, Wd.Ok ⟨F, H, as⟩ → μ env = .ok t e1 → PoS X W fx F H as σ D (k t e1) → ∀ F1 H1 as1, Go ⟨F, H, as⟩ ⟨F1, H1, as1⟩ → RepE X.K X.mg F1 H1 e1 σ as1 → Q t H1) : Mir.tB X W μ σ H Q := by
  obtain ⟨F, env, as, ok, rep, post⟩ := h
  refine ⟨F, env, as, ok, rep, ?_⟩
  unfold M.bind at post
  cases h1 : μ env with
  | no => rw [h1] at post; exact post
  | ex x e1 => rw [h1] at post; exact fun F1 H1 as1 cls d g rep1 rx => post F1 H1 σ as1 cls d fx_refl g rep1 rx
  | ok t e1 => rw [h1] at post; exact hq F env as t e1 ok h1 post
theorem ms_ret (h : PE X e (tE X W m)) : PS X (.Return (some e) pos) (tS X W fx (mRet m)) := ps_imp (ps_ret h) fun D σ H hs =>
  tE_in hs fun F env as t e1 ok h1 post F1 H1 v as1 at1 g1 rep1 rt1 => post F1 H1 σ v as1 at1 fx_refl g1 rep1 rt1
theorem ms_retN : PS X (.Return none pos) (tS X W fx mRetN) := ps_imp ps_retN fun D σ H ⟨F, env, as, ok, rep, post⟩ => post F H σ .non as [] fx_refl (Go.refl ok).nil rep (RepT.plI (by unfold Rep; rfl))
theorem ms_expr (h : PE X e (tE X W m)) (hs : swapsWith e none pos.line X.env = pure false := by rfl) : PS X (.Expr e pos) (tS X W fx (mDrop m)) := ps_imp (ps_expr h hs) fun D σ H hs =>
  tE_in hs fun F env as t e1 ok h1 post F1 H1 v as1 at1 g1 rep1 rt1 => post F1 H1 σ as1 fx_refl g1.left rep1
theorem ms_if {A B : List Stmt} (hc : PT X c (Mir.tB X W μ)) (ha : PSs X A (tS X W fx s)) (hb : PSs X B (tS X W fx s')) : PS X (.If c A B pos) (tS X W fx (mIfS μ s s')) := ps_imp (ps_if hc ha hb) fun D σ H hs =>
  tB_in hs fun F env as x e1 ok h1 post F1 H1 as1 g1 rep1 => by
    cases x with
    | true => exact iteT ⟨F1, e1, as1, g1.ok, rep1, PoS.from fx_refl g1 post⟩
    | false => exact iteF ⟨F1, e1, as1, g1.ok, rep1, PoS.from fx_refl g1 post⟩
theorem put_some {i : Nat} {t : T} {env e : Slots} (h : put i t env = some e) : i < env.length ∧ e = env.set i (some t) := by
  unfold put at h
  split at h
  · rename_i o ho
    cases h
    exact ⟨(List.getElem?_eq_some_iff.mp ho).1, rfl⟩
  · cases h
theorem fx_set {σ : St} {i : Nat} {o : Option V} (hi : i ∉ fx) : ∀ j ∈ fx, (σ.set i o)[j]? = σ[j]? := fun j hj => List.getElem?_set_ne (by intro e; subst e; exact hi hj)
/-- a slot is set -/
theorem put_ok {i : Nat} {t : T} {v : V} {env e : Slots} {w : Wd} {F H as at1 σ} (g : Go w ⟨F, H, as ++ at1⟩) (rep : RepE X.K X.mg F H env σ as) (r : RepT X.K X.mg F H t v at1) (h : put i t env = some e) :
    ∃ as', Go w ⟨F, H, as'⟩ ∧ RepE X.K X.mg F H e (σ.set i (some v)) as' := by
  obtain ⟨hi, rfl⟩ := put_some h
  obtain ⟨l1, a, l2, rfl, _, _, g3⟩ := rep.at i hi
  exact ⟨l1 ++ (at1 ++ l2), g.sub (nodup3 g.ok.nd) fun b hb => mem3 hb, (g3 F H (Le.refl F H) fun _ _ _ e => e).1 t v at1 r⟩
theorem ms_set {i : Nat} (h : PS X st (tAsg (tE X W m) (gName i))) (hi : i ∉ fx := by decide) : PS X st (tS X W fx (mSet i m)) := ps_imp h fun D σ H hs =>
  tE_in hs fun F env as t e1 ok h1 post F1 H1 v as1 at1 g1 rep1 rt1 => by
    cases hp : put i t e1 with
    | none => simp only [hp] at post; exact post.elim
    | some e2 =>
      simp only [hp] at post
      obtain ⟨as', g2, rep2⟩ := put_ok g1 rep1 rt1 hp
      exact post F1 H1 _ as' (fx_set hi) g2 rep2
/-! ### targets -/
/-- how a target takes a value -/
def GOk (X : Cx) (fx : List Nat) (g : TG) (st : D → Slots → Option Slots) : Prop := ∀ {F H σ env as d x env'}, Wd.Ok ⟨F, H, as⟩ → RepE X.K X.mg F H env σ as → Rep X.K X.mg F H d x → st d env = some env' →
  ∀ {Q : St → Hp → Prop}, (∀ σ' as', σ'.length = σ.length → (∀ i ∈ fx, σ'[i]? = σ[i]?) → Go ⟨F, H, as⟩ ⟨F, H, as'⟩ → RepE X.K X.mg F H env' σ' as' → Q σ' H) → g x σ H Q
def GsOk (X : Cx) (fx : List Nat) (g : TGs) (st : List D → Slots → Option Slots) : Prop := ∀ {F H σ env as ds xs env'}, Wd.Ok ⟨F, H, as⟩ → RepE X.K X.mg F H env σ as → Reps X.K X.mg F H ds xs → st ds env = some env' →
  ∀ {Q : St → Hp → Prop}, (∀ σ' as', σ'.length = σ.length → (∀ i ∈ fx, σ'[i]? = σ[i]?) → Go ⟨F, H, as⟩ ⟨F, H, as'⟩ → RepE X.K X.mg F H env' σ' as' → Q σ' H) → g xs σ H Q
def stN (i : Nat) : D → Slots → Option Slots := fun d => put i (.pl d)
def stNil : List D → Slots → Option Slots := fun ds env => match ds with
  | [] => some env
  | _ => none
def stCons (a : D → Slots → Option Slots) (b : List D → Slots → Option Slots) : List D → Slots → Option Slots := fun ds env => match ds with
  | d :: r => (a d env).bind (b r)
  | [] => none
def stT (n : Nat) (st : List D → Slots → Option Slots) : D → Slots → Option Slots := fun d env => match d with
  | .tup ds => if ds.length = n then st ds env else none
  | .lst ds => if ds.length = n then st ds env else none
  | _ => none
/-- (a, b, ..) = a tuple or a list of that length -/
def gTL (K : PySem.W.Frag) (n : Nat) (t : TGs) : TG := fun v σ H Q => gTup K n t v σ H Q ∨ gLst K n t v σ H Q
theorem pg_tl {X : Cx} {pos : Pos} {es : List Expr} {k : Nat} {t : TGs} {n : Nat} (hc : X.calm = true) (h : PGs X es t)
    (hn : (assignEach es X.env).length = n := by rfl) (hst : (assignEach es X.env).findIdx? (·.1) = none := by rfl) : PG X (.Tuple es k pos) (gTL X.K n t) :=
  ⟨fun pins s σ H v u Q I r hw => hw.elim ((pg_tup hc h hn hst).run pins s σ H v u Q I r) ((pg_lst hc h hn hst).run pins s σ H v u Q I r)⟩
theorem gok_name {i : Nat} (hi : i ∉ fx := by decide) : GOk X fx (gName i) (stN i) := by
  intro F H σ env as d x env' ok rep r e Q q
  obtain ⟨as', g2, rep2⟩ := put_ok (Go.refl ok).nil rep (RepT.plI r) e
  exact q _ as' List.length_set (fx_set hi) g2 rep2
theorem gsok_nil : GsOk X fx gNil stNil := by
  intro F H σ env as ds xs env' ok rep r e Q q
  unfold stNil at e
  split at e
  · cases e
    unfold Reps at r
    exact ⟨r, q σ as rfl fx_refl (Go.refl ok) rep⟩
  · cases e
theorem gsok_cons {g gs s1 s2} (h1 : GOk X fx g s1) (h2 : GsOk X fx gs s2) : GsOk X fx (gCons g gs) (stCons s1 s2) := by
  intro F H σ env as ds xs env' ok rep r e Q q
  unfold stCons at e
  split at e
  · simp only [Option.bind_eq_some_iff] at e
    obtain ⟨e1, he1, he2⟩ := e
    unfold Reps at r
    obtain ⟨v, rs, rfl, r1, r2⟩ := r
    refine ⟨v, rs, rfl, h1 ok rep r1 he1 fun σ1 as1 n1 f1 g1 rep1 => ?_⟩
    exact h2 g1.ok rep1 r2 he2 fun σ2 as2 n2 f2 g2 rep2 => q σ2 as2 (n2.trans n1) (fun i hi => (f2 i hi).trans (f1 i hi)) (g1.trans g2) rep2
  · cases e
theorem gok_tup {n : Nat} {g st} (h : GsOk X fx g st) : GOk X fx (gTL X.K n g) (stT n st) := by
  intro F H σ env as d x env' ok rep r e Q q
  unfold stT at e
  split at e
  · split at e
    · rename_i hn
      unfold Rep at r
      obtain ⟨a, vs, rfl, f, k⟩ := r
      exact .inl ⟨a, vs, rfl, f.1, k.length.trans hn, h ok rep k e q⟩
    · cases e
  · split at e
    · rename_i hn
      unfold Rep at r
      obtain ⟨a, vs, rfl, f, k⟩ := r
      exact .inr ⟨a, vs, rfl, .inl f.2, k.length.trans hn, h ok rep k e q⟩
    · cases e
  · cases e
/-- a, b = e -/
def mAsg (st : D → Slots → Option Slots) (m : M T) : MS := m.bind fun t => fun env => match st t.frz env with
  | some e => .ok .nx e
  | none => .no
theorem ms_asg {g : TG} {sd : D → Slots → Option Slots} (h : PS X st (tAsg (tE X W m) g)) (hg : GOk X fx g sd) : PS X st (tS X W fx (mAsg sd m)) := ps_imp h fun D σ H hs =>
  tE_in hs fun F env as t e1 ok h1 post F1 H1 v as1 at1 g1 rep1 rt1 => by
    cases hp : sd t.frz e1 with
    | none => simp only [hp] at post; exact post.elim
    | some e2 =>
      simp only [hp] at post
      have g2 := g1.fzr
      exact hg g2.ok rep1.fzr rt1.fzr hp fun σ' as' _ f' g' rep' => post _ H1 σ' as' f' (g2.trans g') rep'

/-! ### what is walked -/
/-- J yields ds, as long as what is known at S stays -/
def WalkOk (X : Cx) (S : Addr → Prop) (F : Addr → Prop) (H : Hp) (J : It) (ds : List D) : Prop := ∀ F' H' own, (∀ b, F b → F' b) → (∀ b o, S b → H b = some o → H' b = some o) → Wd.Ok ⟨F', H', own⟩ →
  ∀ i : Nat, (i = ds.length → J.stop i H') ∧ ∀ d, ds[i]? = some d → J.go i H' ∧ ∀ x H'', J.yld i H' x H'' → ∃ F'', GoR ⟨F', H', own⟩ ⟨F'', H'', own⟩ ∧ Rep X.K X.mg F'' H'' d x
def tI (X : Cx) (W : WX) (m : M (List D)) : TI := fun σ H R => ∃ F env as, Wd.Ok ⟨F, H, as⟩ ∧ RepE X.K X.mg F H env σ as ∧ match m env with
  | .ok ds env' => ∀ F' H' as' J, Go ⟨F, H, as⟩ ⟨F', H', as'⟩ → RepE X.K X.mg F' H' env' σ as' → WalkOk X F' F' H' J ds → R J H'
  | .ex x env' => ∀ F' H' as' cls d, Go ⟨F, H, as⟩ ⟨F', H', as'⟩ → RepE X.K X.mg F' H' env' σ as' → RepX X.K X.mg F' H' x cls d → W cls d σ H'
  | .no => False
/-- .. reading: what is walked may be owned by a slot -/
def tRI (X : Cx) (m : Rd (List D)) : TI := fun σ H R => ∃ F env as, Wd.Ok ⟨F, H, as⟩ ∧ RepE X.K X.mg F H env σ as ∧ ∃ ds, m env = some ds ∧
  ∀ F' H' J, GoR ⟨F, H, as⟩ ⟨F', H', as⟩ → WalkOk X (fun _ => True) F' H' J ds → R J H'

def mForL (st : D → Slots → Option Slots) (body : MS) : List D → MS
  | [], env => .ok .nx env
  | d :: ds, env => match st d env with
    | none => .no
    | some e1 => match body e1 with
      | .ok .nx e2 => mForL st body ds e2
      | .ok .ct e2 => mForL st body ds e2
      | .ok .bk e2 => .ok .nx e2
      | .ok (.rt t) e2 => .ok (.rt t) e2
      | .ex x e2 => .ex x e2
      | .no => .no
def mFor (st : D → Slots → Option Slots) (src : M (List D)) (body : MS) : MS := src.bind fun ds => mForL st body ds
theorem ms_for {src : M (List D)} {sd : D → Slots → Option Slots} {g : TG} (h : PS X st (tFor (tI X W src) g (tS X W fx s))) (hg : GOk X fx g sd) : PS X st (tS X W fx (mFor sd src s)) := ps_imp h fun D σ H ⟨F, env, as, ok, rep, post⟩ => by
  refine ⟨F, env, as, ok, rep, ?_⟩
  unfold mFor M.bind at post
  cases h1 : src env with
  | no => rw [h1] at post; exact post
  | ex x e1 => rw [h1] at post; exact fun F1 H1 as1 cls d g rep1 rx => post F1 H1 σ as1 cls d fx_refl g rep1 rx
  | ok ds e1 =>
    rw [h1] at post
    intro F1 H1 as1 J g1 rep1 wk
    dsimp only at post
    refine ⟨fun i k σ' H' => i ≤ ds.length ∧ k = ds.length - i ∧ ∃ F' e' as', (∀ j ∈ fx, σ'[j]? = σ[j]?) ∧ Go ⟨F, H, as⟩ ⟨F', H', as'⟩ ∧ Le F1 H1 F' H' ∧ RepE X.K X.mg F' H' e' σ' as' ∧ PoS X W fx F H as σ D (mForL sd s (ds.drop i) e'),
      ⟨ds.length, Nat.zero_le _, by simp, F1, e1, as1, fx_refl, g1, Le.refl _ _, rep1, by simpa using post⟩, ?_⟩
    rintro i k σ' H' ⟨hi, rfl, F', e', as', f', g', le', rep', post'⟩
    obtain ⟨ws, wg⟩ := wk F' H' as' le'.grow le'.keep g'.ok i
    by_cases hlt : i < ds.length
    · have hd : ds.drop i = ds[i] :: ds.drop (i + 1) := List.drop_eq_getElem_cons hlt
      rw [hd] at post'
      unfold mForL at post'
      obtain ⟨go, yl⟩ := wg ds[i] (List.getElem?_eq_getElem hlt)
      refine .inr ⟨go, fun σ2 H2 => ∃ F2 e2 as2, (∀ j ∈ fx, σ2[j]? = σ[j]?) ∧ Go ⟨F, H, as⟩ ⟨F2, H2, as2⟩ ∧ Le F1 H1 F2 H2 ∧ RepE X.K X.mg F2 H2 e2 σ2 as2 ∧ PoS X W fx F H as σ D (mForL sd s (ds.drop (i + 1)) e2),
        fun σ2 H2 ⟨F2, e2, as2, q1, q2, q3, q4, q5⟩ => ⟨ds.length - (i + 1), by omega, hlt, rfl, F2, e2, as2, q1, q2, q3, q4, q5⟩, fun x H2 y => ?_⟩
      obtain ⟨F2, gr, rx⟩ := yl x H2 y
      have g2 := g'.trans gr.toGo
      have le2 := le'.trans (gr.toGo.le g'.ok)
      have rep2 := rep'.readG g'.ok gr
      cases hs : sd ds[i] e' with
      | none => simp only [hs] at post'; exact post'.elim
      | some e3 =>
        simp only [hs] at post'
        refine hg g2.ok rep2 rx hs fun σ3 as3 _ f3 g3 rep3 => ⟨F2, e3, as3, g3.ok, rep3, ?_⟩
        have f3' : ∀ j ∈ fx, σ3[j]? = σ[j]? := fun j hj => (f3 j hj).trans (f' j hj)
        have g13 := g2.trans g3
        have le3 := le2.trans (g3.le g2.ok)
        cases hb : s e3 with
        | no => rw [hb] at post'; exact post'
        | ex x e4 => rw [hb] at post'; exact PoS.from f3' g13 post'
        | ok fl e4 =>
          rw [hb] at post'
          cases fl with
          | nx => exact fun F4 H4 σ4 as4 f4 g4 rep4 => ⟨F4, e4, as4, fun j hj => (f4 j hj).trans (f3' j hj), g13.trans g4, le3.trans (g4.le g3.ok), rep4, post'⟩
          | ct => exact fun F4 H4 σ4 as4 f4 g4 rep4 => ⟨F4, e4, as4, fun j hj => (f4 j hj).trans (f3' j hj), g13.trans g4, le3.trans (g4.le g3.ok), rep4, post'⟩
          | bk => exact fun F4 H4 σ4 as4 f4 g4 rep4 => post' F4 H4 σ4 as4 (fun j hj => (f4 j hj).trans (f3' j hj)) (g13.trans g4) rep4
          | rt t => exact fun F4 H4 σ4 v as4 at4 f4 g4 rep4 r4 => post' F4 H4 σ4 v as4 at4 (fun j hj => (f4 j hj).trans (f3' j hj)) (g13.trans g4) rep4 r4
    · have ei : i = ds.length := by omega
      refine .inl ⟨ws ei, ?_⟩
      rw [ei, List.drop_length] at post'
      exact post' F' H' σ' as' f' g' rep'
/-! ### while -/
def mWhile (c : M Bool) (body : MS) : Nat → MS
  | 0, _ => .no
  | n + 1, env => match c env with
    | .no => .no
    | .ex x e => .ex x e
    | .ok false e => .ok .nx e
    | .ok true e => match body e with
      | .ok .nx e2 => mWhile c body n e2
      | .ok .ct e2 => mWhile c body n e2
      | .ok .bk e2 => .ok .nx e2
      | .ok (.rt t) e2 => .ok (.rt t) e2
      | .ex x e2 => .ex x e2
      | .no => .no
theorem ms_while (n : Nat) (h : PS X st (tWhile (Mir.tB X W μ) (tS X W fx s))) : PS X st (tS X W fx (mWhile μ s n)) := ps_imp h fun D σ H ⟨F, env, as, ok, rep, post⟩ => by
  refine ⟨fun k σ' H' => ∃ F' e' as', (∀ j ∈ fx, σ'[j]? = σ[j]?) ∧ Go ⟨F, H, as⟩ ⟨F', H', as'⟩ ∧ RepE X.K X.mg F' H' e' σ' as' ∧ PoS X W fx F H as σ D (mWhile μ s k e'),
    ⟨n, F, env, as, fx_refl, Go.refl ok, rep, post⟩, ?_⟩
  rintro k σ' H' ⟨F', e', as', f', g', rep', post'⟩
  cases k with
  | zero => exact post'.elim
  | succ k =>
    unfold mWhile at post'
    refine ⟨F', e', as', g'.ok, rep', ?_⟩
    cases hc : μ e' with
    | no => simp only [hc] at post'; exact post'
    | ex x e1 => simp only [hc] at post'; exact fun F1 H1 as1 cls d g rep1 rx => post' F1 H1 σ' as1 cls d f' (g'.trans g) rep1 rx
    | ok b e1 =>
      simp only [hc] at post'
      intro F1 H1 as1 g1 rep1
      have g01 := g'.trans g1
      cases b with
      | false => exact post' F1 H1 σ' as1 f' g01 rep1
      | true =>
        refine ⟨fun σ2 H2 => ∃ F2 e2 as2, (∀ j ∈ fx, σ2[j]? = σ[j]?) ∧ Go ⟨F, H, as⟩ ⟨F2, H2, as2⟩ ∧ RepE X.K X.mg F2 H2 e2 σ2 as2 ∧ PoS X W fx F H as σ D (mWhile μ s k e2), fun σ2 H2 q => ⟨k, Nat.lt_succ_self k, q⟩, ?_⟩
        refine ⟨F1, e1, as1, g1.ok, rep1, ?_⟩
        cases hb : s e1 with
        | no => simp only [hb] at post'; exact post'
        | ex x e4 => simp only [hb] at post'; exact PoS.from f' g01 post'
        | ok fl e4 =>
          simp only [hb] at post'
          cases fl with
          | nx => exact fun F4 H4 σ4 as4 f4 g4 rep4 => ⟨F4, e4, as4, fun j hj => (f4 j hj).trans (f' j hj), g01.trans g4, rep4, post'⟩
          | ct => exact fun F4 H4 σ4 as4 f4 g4 rep4 => ⟨F4, e4, as4, fun j hj => (f4 j hj).trans (f' j hj), g01.trans g4, rep4, post'⟩
          | bk => exact fun F4 H4 σ4 as4 f4 g4 rep4 => post' F4 H4 σ4 as4 (fun j hj => (f4 j hj).trans (f' j hj)) (g01.trans g4) rep4
          | rt t => exact fun F4 H4 σ4 v as4 at4 f4 g4 rep4 r4 => post' F4 H4 σ4 v as4 at4 (fun j hj => (f4 j hj).trans (f' j hj)) (g01.trans g4) rep4 r4
end
end Mir

set_option maxHeartbeats 1000000
/-! Mir9: what is walked; list comprehensions. -/
namespace Mir
open PySem L2
open PyProof.Rows hiding St

theorem SqL.of_rd {K H a xs} (h : L2.Rd H a (.lst xs)) : SqL K H a xs := .inl h
section
variable {X : Cx} {W : WX} {tg l e e2 : Expr} {pos p : Pos} {m : M T} {ρ : Rd T} {μ : M (List T)} {ρs : Rd (List T)}
/-! ### walks -/
theorem walk_list {S : Addr → Prop} {F H a vs ds} (h : L2.Rd H a (.lst vs)) (hs : S a) (r : Reps X.K X.mg F H ds vs) (le : ∀ b, F b → S b) : WalkOk X S F H (Itl X.K a) ds := fun F' H' own gr kp ok i => by
  have h' : SqL X.K H' a vs := .inl (rd_keep (fun o => kp a o hs) h)
  have lf : Le F H F' H' := ⟨gr, fun b o hf => kp b o (le b hf)⟩
  refine ⟨fun e => ⟨vs, h', by rw [r.length]; exact Nat.le_of_eq e.symm⟩, fun d hd => ?_⟩
  obtain ⟨v, hv, rv⟩ := r.get hd
  refine ⟨⟨vs, v, h', hv⟩, fun x H'' y => ?_⟩
  obtain ⟨rfl, y⟩ := y
  have e := y vs h'
  rw [hv] at e; cases e
  exact ⟨F', GoR.refl ok, rv.mono lf⟩
theorem walk_tup {S : Addr → Prop} {F H a vs ds} (h : FT X.K F H a vs) (r : Reps X.K X.mg F H ds vs) (le : ∀ b, F b → S b) : WalkOk X S F H (Itt X.K a) ds := fun F' H' own gr kp ok i => by
  have lf : Le F H F' H' := ⟨gr, fun b o hf => kp b o (le b hf)⟩
  have h' : SqT X.K H' a vs := (h.mono lf).1
  refine ⟨fun e => ⟨vs, h', by rw [r.length]; exact Nat.le_of_eq e.symm⟩, fun d hd => ?_⟩
  obtain ⟨v, hv, rv⟩ := r.get hd
  refine ⟨⟨vs, v, h', hv⟩, fun x H'' y => ?_⟩
  obtain ⟨rfl, y⟩ := y
  have e := y vs h'
  rw [hv] at e; cases e
  exact ⟨F', GoR.refl ok, rv.mono lf⟩
def rgD (lo : Int) (n : Nat) : List D := (List.range n).map fun k => .int (lo + (k : Nat))
theorem walk_rng {S : Addr → Prop} {F H lo n} : WalkOk X S F H (Itr lo n) (rgD lo n) := fun F' H' own gr kp ok i => by
  refine ⟨fun e => by rw [e]; show n ≤ (rgD lo n).length; simp [rgD], fun d hd => ?_⟩
  have hi : i < n := by
    have := (List.getElem?_eq_some_iff.mp hd).1
    simpa [rgD] using this
  refine ⟨hi, fun x H'' y => ?_⟩
  obtain ⟨rfl, rfl⟩ := y
  refine ⟨F', GoR.refl ok, ?_⟩
  have : d = .int (lo + (i : Nat)) := by
    have e := hd
    simp [rgD, hi] at e
    exact e.symm
  rw [this]; unfold Rep; rfl
def rgC (lo c : Int) (n : Nat) : List D := (List.range n).map fun k => .int (lo + (k : Nat) * c)
theorem walk_rngC {S : Addr → Prop} {F H lo c n} : WalkOk X S F H (Itc lo c n) (rgC lo c n) := fun F' H' own gr kp ok i => by
  refine ⟨fun e => by rw [e]; show n ≤ (rgC lo c n).length; simp [rgC], fun d hd => ?_⟩
  have hi : i < n := by
    have := (List.getElem?_eq_some_iff.mp hd).1
    simpa [rgC] using this
  refine ⟨hi, fun x H'' y => ?_⟩
  obtain ⟨rfl, rfl⟩ := y
  refine ⟨F', GoR.refl ok, ?_⟩
  have : d = .int (lo + (i : Nat) * c) := by
    have e := hd
    simp [rgC, hi] at e
    exact e.symm
  rw [this]; unfold Rep; rfl
theorem walk_str {S : Addr → Prop} {F H z} : WalkOk X S F H (Its z) (z.cps.toList.map fun c => .str ⟨#[c]⟩) := fun F' H' own gr kp ok i => by
  refine ⟨fun e => by rw [e]; show z.cps.size ≤ _; simp, fun d hd => ?_⟩
  have hi : i < z.cps.size := by
    have := (List.getElem?_eq_some_iff.mp hd).1
    simpa using this
  refine ⟨hi, fun x H'' y => ?_⟩
  obtain ⟨rfl, c, hc, rfl⟩ := y
  refine ⟨F', GoR.refl ok, ?_⟩
  have : d = .str ⟨#[c]⟩ := by
    have e := hd
    rw [List.getElem?_map, Array.getElem?_toList, hc] at e
    exact (Option.some.inj e).symm
  rw [this]; unfold Rep; rfl
theorem WalkOk.weak {S S' : Addr → Prop} {F H J ds} (h : WalkOk X S F H J ds) (i : ∀ b, S b → S' b) : WalkOk X S' F H J ds := fun F' H' own gr kp ok => h F' H' own gr (fun b o s => kp b o (i b s)) ok
/-! ### sources -/
theorem pi_imp {t u : TI} (h : PI X tg l t) (i : ∀ σ H R, u σ H R → t σ H R) : PI X tg l u := ⟨fun pins s σ H R I hu => h.run pins s σ H R I (i σ H R hu)⟩
theorem pi_or {t u : TI} (h : PI X tg l t) (h' : PI X tg l u) : PI X tg l (fun σ H R => t σ H R ∨ u σ H R) := ⟨fun pins s σ H R I hu => hu.elim (h.run pins s σ H R I) (h'.run pins s σ H R I)⟩
/-- .. a list, a tuple or a text -/
def kSeq (K : PySem.W.Frag) (R : It → Hp → Prop) : VK := fun x H1 => (∃ a, x = .ref a ∧ (∃ xs, SqL K H1 a xs) ∧ R (Itl K a) H1) ∨ (∃ a, x = .ref a ∧ (∃ xs, SqT K H1 a xs) ∧ R (Itt K a) H1) ∨ (∃ z, x = .str z ∧ R (Its z) H1)
def iSeq (K : PySem.W.Frag) (tl : TE) : TI := fun σ H R => tl σ H (kSeq K R)
theorem pi_seq {l : Expr} {tl : TE} (hl : PE X l tl) : PI X tg l (iSeq X.K tl) := by
  refine ⟨fun pins s σ H R I h => ?_⟩
  refine thn (hl.run pins s σ H _ I h) fun v s1 ⟨x, H1, I1, r1, q⟩ => ?_
  rcases q with ⟨a, e, ⟨xs, hq⟩, q⟩ | ⟨a, e, ⟨xs, hq⟩, q⟩ | ⟨z, e, q⟩
  · subst e
    cases r1
    obtain ⟨its, rv, p, hz⟩ := I1.list hq
    refine wpAny_pyIter_list p.isList ?_
    refine ⟨s1.heap.objs.size, [s1.heap.objs.size], _, _, H1, rfl, I1.kept (t' := s1.toks) fun b o e => Heap.get?_push_of_some _ e, turn_list a _, ⟨_, Heap.get?_push_size _ rfl, rfl, rfl⟩, fun b hb => ?_, q⟩
    have e : b = s1.heap.objs.size := by simpa using hb
    subst e
    exact I1.fpOk (Nat.le_refl _) (I1.hok.fresh (Nat.le_refl _))
  · subst e
    cases r1
    obtain ⟨its, rv, p, hz⟩ := I1.tuple hq
    refine wpAny_pyIter_tuple (show s1.heap.IsTuple a its.toArray from p) ?_
    refine ⟨s1.heap.objs.size, [s1.heap.objs.size], _, _, H1, rfl, I1.kept (t' := s1.toks) fun b o e => Heap.get?_push_of_some _ e, turn_tuple a _, ⟨_, Heap.get?_push_size _ rfl, rfl, rfl⟩, fun b hb => ?_, q⟩
    have e : b = s1.heap.objs.size := by simpa using hb
    subst e
    exact I1.fpOk (Nat.le_refl _) (I1.hok.fresh (Nat.le_refl _))
  · subst e
    obtain ⟨t, rfl⟩ := r1
    cases ha : z.cps.all (· < 128)
    · exact wpAny_pyIter_wide ha (pi_one (tk := s1.toks) I1 _ (turn_str _ z t "str_iterator" (.inr rfl)) ⟨_, Heap.get?_push_size _ rfl, rfl, rfl⟩ q)
    · exact wpAny_pyIter_ascii ha (pi_one (tk := s1.toks) I1 _ (turn_str _ z t "str_ascii_iterator" (.inl rfl)) ⟨_, Heap.get?_push_size _ rfl, rfl, rfl⟩ q)
def seqD : D → Option (List D)
  | .lst xs => some xs
  | .tup xs => some xs
  | .str z => some (z.cps.toList.map fun c => .str ⟨#[c]⟩)
  | _ => none
theorem kSeq_of {S : Addr → Prop} {F H t v as ds R} (r : RepT X.K X.mg F H t v as) (e : seqD t.frz = some ds) (hs : ∀ b, F b ∨ b ∈ as → S b) (h : ∀ J, WalkOk X S F H J ds → R J H) : kSeq X.K R v H := by
  cases t with
  | oo c fs => unfold T.frz seqD at e; cases e
  | ol xs =>
    unfold T.frz seqD at e
    cases e
    unfold RepT at r
    obtain ⟨a, vs, rfl, rfl, hh, r⟩ := r
    exact .inl ⟨a, rfl, ⟨vs, .inl (.inl hh)⟩, h _ (walk_list (.inl hh) (hs a (.inr (by simp))) r fun b hb => hs b (.inl hb))⟩
  | pl d =>
    unfold RepT at r
    obtain ⟨rfl, r⟩ := r
    unfold T.frz at e
    cases d <;> unfold seqD at e <;> first | cases e; done | skip
    · cases e
      unfold Rep at r
      exact .inr (.inr ⟨_, r, h _ (walk_str)⟩)
    · cases e
      unfold Rep at r
      obtain ⟨a, vs, rfl, f, r⟩ := r
      exact .inr (.inl ⟨a, rfl, ⟨vs, f.1⟩, h _ (walk_tup f r fun b hb => hs b (.inl hb))⟩)
    · cases e
      unfold Rep at r
      obtain ⟨a, vs, rfl, f, r⟩ := r
      exact .inl ⟨a, rfl, ⟨vs, .inl f.2⟩, h _ (walk_list f.2 (hs a (.inl f.1)) r fun b hb => hs b (.inl hb))⟩
def mSeqS (m : M T) : M (List D) := m.bind fun t => .ofO (seqD t.frz)
def rSeqS (ρ : Rd T) : Rd (List D) := fun env => (ρ env).bind fun t => seqD t.frz
theorem mi_seq (h : PE X l (tE X W m)) : PI X tg l (tI X W (mSeqS m)) := pi_imp (pi_seq h) fun σ H R ⟨F, env, as, ok, rep, post⟩ => by
  refine ⟨F, env, as, ok, rep, ?_⟩
  unfold mSeqS M.bind at post
  cases h1 : m env with
  | no => simp only [h1] at post
  | ex x e1 => simp only [h1] at post; exact post
  | ok t e1 =>
    simp only [h1] at post
    intro F1 H1 v as1 at1 g1 rep1 rt1
    cases hs : seqD t.frz with
    | none => rw [hs] at post; exact post.elim
    | some ds =>
      rw [hs] at post
      have g2 := g1.fzr
      exact kSeq_of (S := fun b => F1 b ∨ b ∈ at1) (t := t) (rt1.mono ⟨fun _ h => .inl h, fun _ _ _ e => e⟩ fun _ _ _ e => e) hs (fun b hb => hb.elim id .inr) fun J wk => post _ H1 as1 J g2 rep1.fzr wk
theorem ri_seq (h : PE X l (tR X ρ)) : PI X tg l (tRI X (rSeqS ρ)) := pi_imp (pi_seq h) fun σ H R ⟨F, env, as, ok, rep, ds, hm, post⟩ => by
  unfold rSeqS at hm
  simp only [Option.bind_eq_some_iff] at hm
  obtain ⟨t, ht, hd⟩ := hm
  exact ⟨F, env, as, ok, rep, t, ht, fun F1 H1 v at1 g1 rt1 s1 => kSeq_of rt1 hd (fun _ _ => trivial) fun J wk => post F1 H1 J g1 wk⟩
/-! range -/
def rngD1 : List T → Option (List D)
  | [.pl (.int j)] => if -(2 ^ 62) ≤ j ∧ j < 2 ^ 62 then some (rgD 0 j.toNat) else none
  | _ => none
def rngD2 : List T → Option (List D)
  | [.pl (.int i), .pl (.int j)] => if -(2 ^ 62) ≤ i ∧ i < 2 ^ 62 ∧ -(2 ^ 62) ≤ j ∧ j < 2 ^ 62 then some (rgD i (j - i).toNat) else none
  | _ => none
def rngD3 : List T → Option (List D)
  | [.pl (.int i), .pl (.int j), .pl (.int (-1))] => if -(2 ^ 62) ≤ i ∧ i < 2 ^ 62 ∧ -(2 ^ 62) ≤ j ∧ j < 2 ^ 62 then some (rgC i (-1) (i - j).toNat) else none
  | _ => none
theorem RepTs.three {K mg F H} {t t' t'' : T} {vs : List V} {as} (h : RepTs K mg F H [t, t', t''] vs as) : ∃ v v' v'' a1 a2 a3, vs = [v, v', v''] ∧ as = a1 ++ (a2 ++ a3) ∧ RepT K mg F H t v a1 ∧ RepT K mg F H t' v' a2 ∧ RepT K mg F H t'' v'' a3 := by
  unfold RepTs at h
  obtain ⟨v, r, a1, a2, e, ea, h1, h2⟩ := h
  obtain ⟨v', v'', b1, b2, e', ea', r', r''⟩ := h2.two
  subst e' ea'
  exact ⟨v, v', v'', a1, b1, b2, e, ea, h1, r', r''⟩
/-- what is walked of arguments -/
def Srcs (X : Cx) (f : List T → Option (List D)) (k : (It → Hp → Prop) → List V → Hp → Prop) : Prop := ∀ {S : Addr → Prop} {F H ts vs as ds R}, RepTs X.K X.mg F H ts vs as → f ts = some ds → (∀ b, F b ∨ b ∈ as → S b) → (∀ J, WalkOk X S F H J ds → R J H) → k R vs H
def mSrc (f : List T → Option (List D)) (μ : M (List T)) : M (List D) := μ.bind fun t => .ofO (f t)
def rSrc (f : List T → Option (List D)) (ρ : Rd (List T)) : Rd (List D) := fun env => (ρ env).bind f
theorem mi_src {f k} (hf : Srcs X f k) (h : PI X tg l (fun σ H R => tA X W μ σ H (k R))) : PI X tg l (tI X W (mSrc f μ)) := pi_imp h fun σ H R ⟨F, env, as, ok, rep, post⟩ => by
  refine ⟨F, env, as, ok, rep, ?_⟩
  unfold mSrc M.bind at post
  cases h1 : μ env with
  | no => simp only [h1] at post
  | ex x e1 => simp only [h1] at post; exact post
  | ok t e1 =>
    simp only [h1] at post
    intro F1 H1 vs as1 at1 g1 rep1 rt1
    cases hs : f t with
    | none => rw [hs] at post; exact post.elim
    | some ds =>
      rw [hs] at post
      have g2 := g1.fzr
      exact hf (S := fun b => F1 b ∨ b ∈ at1) (F := fun b => F1 b ∨ b ∈ at1) (ts := t) (rt1.mono ⟨fun _ h => .inl h, fun _ _ _ e => e⟩ fun _ _ _ e => e) hs (fun b hb => hb.elim id .inr) fun J wk => post _ H1 as1 J g2 rep1.fzr wk
theorem ri_src {f k} (hf : Srcs X f k) (h : PI X tg l (fun σ H R => tRA X ρs σ H (k R))) : PI X tg l (tRI X (rSrc f ρs)) := pi_imp h fun σ H R ⟨F, env, as, ok, rep, ds, hm, post⟩ => by
  unfold rSrc at hm
  simp only [Option.bind_eq_some_iff] at hm
  obtain ⟨t, ht, hd⟩ := hm
  exact ⟨F, env, as, ok, rep, t, ht, fun F1 H1 v at1 g1 rt1 s1 => hf rt1 hd (fun _ _ => trivial) fun J wk => post F1 H1 J g1 wk⟩
theorem src_rng1 : Srcs X rngD1 fun R vs H1 => ∃ j : Int, vs = [.int j] ∧ -(2 ^ 62) ≤ j ∧ j < 2 ^ 62 ∧ R (Itr 0 j.toNat) H1 := by
  intro S F H ts vs as ds R r e _ h
  unfold rngD1 at e
  split at e
  · split at e <;> cases e
    rename_i hz
    obtain ⟨v, rfl, r1⟩ := r.one
    rw [r1.int]
    exact ⟨_, rfl, hz.1, hz.2, h _ walk_rng⟩
  · cases e
theorem src_rng2 : Srcs X rngD2 fun R vs H1 => ∃ i j : Int, vs = [.int i, .int j] ∧ (-(2 ^ 62) ≤ i ∧ i < 2 ^ 62 ∧ -(2 ^ 62) ≤ j ∧ j < 2 ^ 62) ∧ R (Itr i (j - i).toNat) H1 := by
  intro S F H ts vs as ds R r e _ h
  unfold rngD2 at e
  split at e
  · split at e <;> cases e
    rename_i hz
    obtain ⟨v, v', a1, a2, rfl, _, r1, r2⟩ := r.two
    rw [r1.int, r2.int]
    exact ⟨_, _, rfl, hz, h _ walk_rng⟩
  · cases e
theorem src_rng3 : Srcs X rngD3 fun R vs H1 => ∃ (i j c : Int) (n : Nat), vs = [.int i, .int j, .int c] ∧ RgC i j c n ∧ R (Itc i c n) H1 := by
  intro S F H ts vs as ds R r e _ h
  unfold rngD3 at e
  split at e
  · split at e <;> cases e
    rename_i hz
    obtain ⟨v, v', v'', a1, a2, a3, rfl, _, r1, r2, r3⟩ := r.three
    rw [r1.int, r2.int, r3.int]
    exact ⟨_, _, _, _, rfl, RgC.neg hz.1 hz.2.1 hz.2.2.1 hz.2.2.2, h _ walk_rngC⟩
  · cases e
/-! zip of two lists or two tuples; reversed and enumerate of a list -/
def pairD (x y : D) : D := .tup [x, y]
def zipD : List T → Option (List D)
  | [.pl (.tup xs), .pl (.tup ys)] => some (List.zipWith pairD xs ys)
  | [x, y] => x.asL.bind fun xs => y.asL.map fun ys => List.zipWith pairD xs ys
  | _ => none
theorem rep_pair {F H own} {x y : D} {v w : V} {p : Addr} (ok : Wd.Ok ⟨F, H, own⟩) (hp : H p = none) (rx : Rep X.K X.mg F H x v) (ry : Rep X.K X.mg F H y w) :
    ∃ F'', GoR ⟨F, H, own⟩ ⟨F'', upd H p (.tup [v, w]), own⟩ ∧ Rep X.K X.mg F'' (upd H p (.tup [v, w])) (pairD x y) (.ref p) := by
  have g := ok.lay (o := .tup [v, w]) hp
  refine ⟨_, g, ?_⟩
  unfold pairD Rep
  exact ⟨p, [v, w], rfl, ⟨.inl (.inl upd_same), .inl (.inr rfl)⟩, .cons (rx.mono (g.toGo.le ok)) (.one (ry.mono (g.toGo.le ok)))⟩
theorem zip_get {α β γ : Type} {f : α → β → γ} : ∀ {xs : List α} {ys : List β} {i : Nat} {z : γ}, (List.zipWith f xs ys)[i]? = some z → ∃ x y, xs[i]? = some x ∧ ys[i]? = some y ∧ z = f x y := by
  intro xs ys i z h
  rw [List.getElem?_zipWith] at h
  split at h <;> cases h
  exact ⟨_, _, by assumption, by assumption, rfl⟩
theorem walk_zipL {S : Addr → Prop} {F H a b vs ws ds es} (h : L2.Rd H a (.lst vs)) (hs : S a) (r : Reps X.K X.mg F H ds vs) (h2 : L2.Rd H b (.lst ws)) (hs2 : S b) (r2 : Reps X.K X.mg F H es ws) (le : ∀ b, F b → S b) :
    WalkOk X S F H (Itz X.K a b) (List.zipWith pairD ds es) := fun F' H' own gr kp ok i => by
  have h' : SqL X.K H' a vs := .inl (rd_keep (fun o => kp a o hs) h)
  have h2' : SqL X.K H' b ws := .inl (rd_keep (fun o => kp b o hs2) h2)
  have lf : Le F H F' H' := ⟨gr, fun b o hf => kp b o (le b hf)⟩
  refine ⟨fun e => ⟨vs, ws, h', h2', by rw [r.length, r2.length]; rw [List.length_zipWith] at e; omega⟩, fun d hd => ?_⟩
  obtain ⟨x, y, hx, hy, rfl⟩ := zip_get hd
  obtain ⟨v, hv, rv⟩ := r.get hx
  obtain ⟨w, hw, rw'⟩ := r2.get hy
  refine ⟨⟨vs, ws, v, w, h', h2', hv, hw⟩, fun z H'' q => ?_⟩
  obtain ⟨p, x', y', rfl, hp, rfl, q1, q2⟩ := q
  have e1 := q1 vs h'
  have e2 := q2 ws h2'
  rw [hv] at e1; cases e1
  rw [hw] at e2; cases e2
  exact rep_pair ok hp (rv.mono lf) (rw'.mono lf)
theorem walk_zipT {S : Addr → Prop} {F H a b vs ws ds es} (h : FT X.K F H a vs) (r : Reps X.K X.mg F H ds vs) (h2 : FT X.K F H b ws) (r2 : Reps X.K X.mg F H es ws) (le : ∀ b, F b → S b) :
    WalkOk X S F H (RZ.ItzT X.K a b) (List.zipWith pairD ds es) := fun F' H' own gr kp ok i => by
  have lf : Le F H F' H' := ⟨gr, fun b o hf => kp b o (le b hf)⟩
  have h' := (h.mono lf).1
  have h2' := (h2.mono lf).1
  refine ⟨fun e => ⟨vs, ws, h', h2', by rw [r.length, r2.length]; rw [List.length_zipWith] at e; omega⟩, fun d hd => ?_⟩
  obtain ⟨x, y, hx, hy, rfl⟩ := zip_get hd
  obtain ⟨v, hv, rv⟩ := r.get hx
  obtain ⟨w, hw, rw'⟩ := r2.get hy
  refine ⟨⟨vs, ws, v, w, h', h2', hv, hw⟩, fun z H'' q => ?_⟩
  obtain ⟨p, x', y', rfl, hp, rfl, q1, q2⟩ := q
  have e1 := q1 vs h'
  have e2 := q2 ws h2'
  rw [hv] at e1; cases e1
  rw [hw] at e2; cases e2
  exact rep_pair ok hp (rv.mono lf) (rw'.mono lf)
/-- where a list that is read stands -/
theorem RepT.asLS {K mg F H} {S : Addr → Prop} {t : T} {ds : List D} {v : V} {as} (h : RepT K mg F H t v as) (e : t.asL = some ds) (hs : ∀ b, F b ∨ b ∈ as → S b) : ∃ a vs, v = .ref a ∧ L2.Rd H a (.lst vs) ∧ S a ∧ Reps K mg F H ds vs := by
  cases t with
  | ol xs =>
    unfold T.asL at e; cases e
    unfold RepT at h
    obtain ⟨a, vs, e, rfl, hh, r⟩ := h
    exact ⟨a, vs, e, .inl hh, hs a (.inr (by simp)), r⟩
  | oo c fs => unfold T.asL at e; cases e
  | pl d =>
    cases d <;> unfold T.asL at e <;> cases e
    unfold RepT Rep at h
    obtain ⟨_, a, vs, e, f, r⟩ := h
    exact ⟨a, vs, e, f.2, hs a (.inl f.1), r⟩
theorem src_zip : Srcs X zipD fun R vs H1 => ∃ a b xs ys, vs = [.ref a, .ref b] ∧ ((SqL X.K H1 a xs ∧ SqL X.K H1 b ys ∧ R (Itz X.K a b) H1) ∨ (SqT X.K H1 a xs ∧ SqT X.K H1 b ys ∧ R (RZ.ItzT X.K a b) H1)) := by
  intro S F H ts vs as ds R r e hs h
  unfold zipD at e
  split at e
  · cases e
    obtain ⟨v, v', a1, a2, rfl, rfl, r1, r2⟩ := r.two
    obtain ⟨a, xs, rfl, s1, f1, k1⟩ := r1.tup
    obtain ⟨b, ys, rfl, s2, f2, k2⟩ := r2.tup
    exact ⟨a, b, xs, ys, rfl, .inr ⟨s1, s2, h _ (walk_zipT f1 k1 f2 k2 fun b hb => hs b (.inl hb))⟩⟩
  · simp only [Option.bind_eq_some_iff, Option.map_eq_some_iff] at e
    obtain ⟨xs', e1, ys', e2, rfl⟩ := e
    obtain ⟨v, v', a1, a2, rfl, rfl, r1, r2⟩ := r.two
    obtain ⟨a, xs, rfl, q1, z1, k1⟩ := r1.asLS (S := S) e1 fun b hb => hs b (hb.imp id fun z => List.mem_append_left _ z)
    obtain ⟨b, ys, rfl, q2, z2, k2⟩ := r2.asLS (S := S) e2 fun b hb => hs b (hb.imp id fun z => List.mem_append_right _ z)
    exact ⟨a, b, xs, ys, rfl, .inl ⟨.inl q1, .inl q2, h _ (walk_zipL q1 z1 k1 q2 z2 k2 fun b hb => hs b (.inl hb))⟩⟩
  · cases e
def revD : List T → Option (List D)
  | [x] => x.asL.map List.reverse
  | _ => none
theorem walk_rev {S : Addr → Prop} {F H a vs ds} (h : L2.Rd H a (.lst vs)) (hs : S a) (r : Reps X.K X.mg F H ds vs) (le : ∀ b, F b → S b) : WalkOk X S F H (Itv X.K a vs.length) ds.reverse := fun F' H' own gr kp ok i => by
  have h' : SqL X.K H' a vs := .inl (rd_keep (fun o => kp a o hs) h)
  have lf : Le F H F' H' := ⟨gr, fun b o hf => kp b o (le b hf)⟩
  refine ⟨fun e => by rw [e, List.length_reverse]; exact Nat.le_of_eq r.length, fun d hd => ?_⟩
  have hi : i < ds.length := by
    have := (List.getElem?_eq_some_iff.mp hd).1
    simpa using this
  rw [List.getElem?_reverse hi] at hd
  obtain ⟨v, hv, rv⟩ := r.get hd
  rw [← r.length] at hv
  refine ⟨⟨by rw [r.length]; exact hi, vs, v, h', hv⟩, fun x H'' y => ?_⟩
  obtain ⟨rfl, y⟩ := y
  have e := y vs h'
  rw [hv] at e; cases e
  exact ⟨F', GoR.refl ok, rv.mono lf⟩
theorem src_rev : Srcs X revD fun R vs H1 => ∃ (a : Addr) (xs : List V), vs = [.ref a] ∧ SqL X.K H1 a xs ∧ R (Itv X.K a xs.length) H1 := by
  intro S F H ts vs as ds R r e hs h
  unfold revD at e
  split at e
  · simp only [Option.map_eq_some_iff] at e
    obtain ⟨xs', e1, rfl⟩ := e
    obtain ⟨v, rfl, r1⟩ := r.one
    obtain ⟨a, xs, rfl, q1, z1, k1⟩ := r1.asLS (S := S) e1 hs
    exact ⟨a, xs, rfl, .inl q1, h _ (walk_rev q1 z1 k1 fun b hb => hs b (.inl hb))⟩
  · cases e
end
end Mir

set_option maxHeartbeats 1000000
/-! Mir10: list comprehensions. -/
namespace Mir
open PySem L2
open PyProof.Rows hiding St

abbrev W0 : WX := fun _ _ _ _ => False
def wipeS (env : Slots) : List Nat → Slots
  | [] => env
  | v :: vs => (wipeS env vs).set v none
def restS (env env' : Slots) : List Nat → Slots
  | [] => env'
  | v :: vs => restS env (env'.set v (((wipeS env vs)[v]?).join)) vs
theorem wipeS_length (env : Slots) : ∀ vs, (wipeS env vs).length = env.length
  | [] => rfl
  | v :: vs => by unfold wipeS; rw [List.length_set, wipeS_length env vs]
theorem wipeS_none {env : Slots} : ∀ {vs : List Nat} {v : Nat}, v ∈ vs → v < env.length → (wipeS env vs)[v]? = some none
  | v :: vs, u, h, hl => by
    unfold wipeS
    by_cases e : v = u
    · subst e
      rw [List.getElem?_set_self (by rw [wipeS_length]; exact hl)]
    · rw [List.getElem?_set_ne e]
      exact wipeS_none ((List.mem_cons.mp h).resolve_left fun z => e z.symm) hl
theorem wipe_get {σ : St} : ∀ {vs : List Nat} {i : Nat}, (wipe σ vs)[i]? = if i ∈ vs then (σ[i]?).map fun _ => none else σ[i]?
  | [], i => by simp [wipe]
  | v :: vs, i => by
    unfold wipe
    by_cases e : v = i
    · subst e
      rw [if_pos (by simp)]
      by_cases hl : v < σ.length
      · rw [List.getElem?_set_self (by rw [wipe_length]; exact hl), List.getElem?_eq_getElem hl]; rfl
      · rw [List.getElem?_eq_none (by rw [List.length_set, wipe_length]; omega), List.getElem?_eq_none (by omega)]; rfl
    · rw [List.getElem?_set_ne e, wipe_get]
      by_cases hi : i ∈ vs
      · rw [if_pos hi, if_pos (by simp [hi])]
      · rw [if_neg hi, if_neg (by simp [hi, Ne.symm e])]
theorem wipe_eq {σ σ' : St} {vs : List Nat} (hl : σ'.length = σ.length) (h : ∀ i, i ∉ vs → σ'[i]? = σ[i]?) : wipe σ' vs = wipe σ vs := by
  refine List.ext_getElem? fun i => ?_
  rw [wipe_get, wipe_get]
  by_cases hi : i ∈ vs
  · rw [if_pos hi, if_pos hi]
    by_cases hlt : i < σ.length
    · rw [List.getElem?_eq_getElem hlt, List.getElem?_eq_getElem (by omega)]; rfl
    · rw [List.getElem?_eq_none (by omega), List.getElem?_eq_none (by omega)]
  · rw [if_neg hi, if_neg hi, h i hi]
theorem wipe_wipe {σ : St} {vs : List Nat} : wipe (wipe σ vs) vs = wipe σ vs := wipe_eq (wipe_length _ _) fun i hi => by rw [wipe_get, if_neg hi]
theorem join_some {α : Type} {l : List (Option α)} {i : Nat} (h : i < l.length) : l[i]? = some (l[i]?.join) := by
  rw [List.getElem?_eq_getElem h]; rfl
section
variable {K : PySem.W.Frag} {mg : Str → Option Value} {F : Addr → Prop} {H : Hp}
theorem RepE.wipe : ∀ {vs : List Nat} {env : Slots} {σ : St} {as : List Addr}, vs.Nodup → RepE K mg F H env σ as →
    ∃ as1 h, (as1 ++ h).Perm as ∧ RepE K mg F H (wipeS env vs) (L2.wipe σ vs) as1 ∧ ∀ (F' : Addr → Prop) (H' : Hp) (env' : Slots) (as' : List Addr), Le F H F' H' → (∀ b ∈ h, ∀ o, H b = some o → H' b = some o) →
      (∀ v ∈ vs, v < env.length → env'[v]? = some none) → RepE K mg F' H' env' (L2.wipe σ vs) as' → ∃ as2, as2.Perm (as' ++ h) ∧ RepE K mg F' H' (restS env env' vs) σ as2
  | [], env, σ, as, _, rep => ⟨as, [], by simp, rep, fun F' H' env' as' _ _ _ r => ⟨as', by simp, r⟩⟩
  | v :: vs, env, σ, as, nd, rep => by
    obtain ⟨as1, h, pm, rep1, back⟩ := RepE.wipe (List.nodup_cons.mp nd).2 rep
    by_cases hv : v < env.length
    · obtain ⟨l1, a, l2, rfl, q1, q2, q3⟩ := rep1.at v (by rw [wipeS_length]; exact hv)
      have r2 := (q3 F H (Le.refl F H) fun _ _ _ e => e).2 none
      refine ⟨l1 ++ l2, a ++ h, ?_, r2, fun F' H' env' as' le kp nn r' => ?_⟩
      · refine List.Perm.trans ?_ pm
        rw [List.append_assoc l1, List.append_assoc l1, ← List.append_assoc l2]
        refine List.Perm.append_left _ ?_
        refine (List.Perm.append_right _ List.perm_append_comm).trans ?_
        rw [List.append_assoc]
      · have hl' : env'.length = env.length := by rw [r'.length, wipe_length, rep.length]
        have e1 : env'[v]? = some none := nn v (by simp) hv
        obtain ⟨m1, a', m2, rfl, p1, p2, p3⟩ := r'.at v (by rw [hl']; exact hv)
        have ea := p2 e1
        subst ea
        have hσ : (L2.wipe σ vs).length = σ.length := wipe_length _ _
        have hvσ : v < σ.length := by rw [← rep.length]; exact hv
        have sset : (L2.wipe σ (v :: vs)).set v ((L2.wipe σ vs)[v]?.join) = L2.wipe σ vs := by
          show ((L2.wipe σ vs).set v none).set v _ = _
          rw [List.set_set]
          exact set_self (join_some (by rw [hσ]; exact hvσ))
        have hj : (wipeS env vs)[v]? = some ((wipeS env vs)[v]?.join) := join_some (by rw [wipeS_length]; exact hv)
        have others : ∀ u ∈ vs, u < env.length → (env'.set v ((wipeS env vs)[v]?.join))[u]? = some none := fun u hu hul => by
          rw [List.getElem?_set_ne (by intro e; subst e; exact (List.nodup_cons.mp nd).1 hu)]
          exact nn u (by simp [hu]) hul
        have kh : ∀ b ∈ h, ∀ o, H b = some o → H' b = some o := fun b hb => kp b (List.mem_append_right _ hb)
        cases hc : (wipeS env vs)[v]?.join with
        | none =>
          rw [hc] at hj others
          have ha : a = [] := q2 hj
          subst ha
          have r3 := (p3 F' H' (Le.refl F' H') fun _ _ _ e => e).2 ((L2.wipe σ vs)[v]?.join)
          rw [sset] at r3
          obtain ⟨as2, pm2, r4⟩ := back F' H' _ _ le kh others r3
          refine ⟨as2, by simpa using pm2, ?_⟩
          unfold restS
          rw [hc]
          exact r4
        | some t =>
          rw [hc] at hj others
          obtain ⟨w, ew, rt⟩ := q1 t hj
          have r3 := (p3 F' H' (Le.refl F' H') fun _ _ _ e => e).1 t w a (rt.mono le fun b hb => kp b (List.mem_append_left _ hb))
          have eσ : (L2.wipe σ (v :: vs)).set v (some w) = L2.wipe σ vs := by
            rw [← sset, ew]; rfl
          rw [eσ] at r3
          obtain ⟨as2, pm2, r4⟩ := back F' H' _ _ le kh others r3
          refine ⟨as2, pm2.trans ?_, ?_⟩
          · simp only [List.nil_append, List.append_assoc]
            refine List.Perm.append_left _ ?_
            rw [← List.append_assoc, ← List.append_assoc]
            exact List.Perm.append_right _ List.perm_append_comm
          · unfold restS
            rw [hc]
            exact r4
    · have e1 : wipeS env (v :: vs) = wipeS env vs := by
        show (wipeS env vs).set v none = _
        exact List.set_eq_of_length_le (by rw [wipeS_length]; omega)
      have e2 : L2.wipe σ (v :: vs) = L2.wipe σ vs := by
        show (L2.wipe σ vs).set v none = _
        exact List.set_eq_of_length_le (by rw [wipe_length, ← rep.length]; omega)
      rw [e1, e2]
      refine ⟨as1, h, pm, rep1, fun F' H' env' as' le kp nn r' => ?_⟩
      have hl' : env'.length = env.length := by rw [r'.length, wipe_length, rep.length]
      obtain ⟨as2, pm2, r4⟩ := back F' H' env' as' le kp (fun u hu => nn u (by simp [hu])) r'
      refine ⟨as2, pm2, ?_⟩
      unfold restS
      rw [List.set_eq_of_length_le (by omega)]
      exact r4
end

/-! ### reading -/
def rCompL (st : D → Slots → Option Slots) (tt : Rd Bool) (el : Rd T) (env : Slots) : List D → Option (List D)
  | [] => some []
  | d :: ds => (st d env).bind fun e1 => (tt e1).bind fun b => if b = true then (el e1).bind fun t => t.pl?.bind fun y => (rCompL st tt el env ds).map (y :: ·) else rCompL st tt el env ds
def rComp (vs : List Nat) (st : D → Slots → Option Slots) (src : Rd (List D)) (tt : Rd Bool) (el : Rd T) : Rd T := fun env =>
  (src env).bind fun ds => (rCompL st tt el (wipeS env vs) ds).bind fun ys => if ys.length < big then some (.pl (.lst ys)) else none
/-- how a block's target takes a value: nothing but the block's names change -/
def GBk (X : Cx) (vs : List Nat) (g : TG) (st : D → Slots → Option Slots) : Prop := ∀ fx : List Nat, (∀ i ∈ vs, i ∉ fx) → GOk X fx g st
section
variable {X : Cx} {vs : List Nat} {g : TG} {st : D → Slots → Option Slots} {tt : Rd Bool} {el : Rd T} {src : Rd (List D)}
theorem block_tgt (hg : GBk X vs g st) {F H as d x env' σ} {env : Slots} (ok : Wd.Ok ⟨F, H, as⟩) (rep : RepE X.K X.mg F H env (wipe σ vs) as) (r : Rep X.K X.mg F H d x) (e : st d env = some env') {Q : St → Hp → Prop}
    (h : ∀ σ' as', wipe σ' vs = wipe σ vs → Go ⟨F, H, as⟩ ⟨F, H, as'⟩ → RepE X.K X.mg F H env' σ' as' → Q σ' H) : g x (wipe σ vs) H Q := by
  refine hg ((List.range (wipe σ vs).length).filter fun i => decide (i ∉ vs)) (fun i hi hm => ?_) ok rep r e fun σ' as' hl hf g' rep' => h σ' as' ?_ g' rep'
  · have := (List.mem_filter.mp hm).2
    simp at this
    exact this hi
  · rw [← wipe_wipe (σ := σ)]
    refine wipe_eq hl fun i hi => ?_
    by_cases hlt : i < (wipe σ vs).length
    · exact hf i (List.mem_filter.mpr ⟨List.mem_range.mpr hlt, by simpa using hi⟩)
    · rw [List.getElem?_eq_none (by omega), List.getElem?_eq_none (by omega)]
theorem rlc {wi : TI} {σ : St} {H : Hp} {Q : VK} (hv : vs.Nodup) (hg : GBk X vs g st) (h : tR X (rComp vs st src tt el) σ H Q) (hw : ∀ σ H R, tRI X src σ H R → wi σ H R) : tLc wi g (tRB X tt) (tR X el) vs σ H Q := by
  obtain ⟨F, env, as, ok, rep, t, hm, post⟩ := h
  unfold rComp at hm
  simp only [Option.bind_eq_some_iff] at hm
  obtain ⟨ds, hds, ys, hys, hz⟩ := hm
  split at hz
  · rename_i hlen
    cases hz
    refine hw _ _ _ ⟨F, env, as, ok, rep, ds, hds, fun F1 H1 J g1 wk L hL => ?_⟩
    have ok1 := g1.ok
    have rep1 := rep.readG ok g1
    have gl := ok1.layO (o := .lst []) hL
    have allL : ∀ b o, H1 b = some o → upd H1 L (.lst []) b = some o := fun b o e => by rw [upd_ne (ne_of_none e hL)]; exact e
    -- the state of the walk
    refine ⟨fun i k H' => i ≤ ds.length ∧ k = ds.length - i ∧ ∃ F' acc vacc rest, Wd.Ok ⟨F', H', as ++ [L]⟩ ∧ Go ⟨F1, H1, as⟩ ⟨F', H', as ++ [L]⟩ ∧ (∀ b o, H1 b = some o → H' b = some o) ∧ H' L = some (.lst vacc) ∧ Reps X.K X.mg F' H' acc vacc ∧
        rCompL st tt el (wipeS env vs) (ds.drop i) = some rest ∧ acc ++ rest = ys,
      ⟨ds.length, Nat.zero_le _, by simp, F1, [], [], ys, gl.ok, gl, allL, upd_same, .nil, by simpa using hys, rfl⟩, ?_⟩
    rintro i k H' ⟨hi, rfl, F', acc, vacc, rest, ok', g', all', hL', racc, hrest, happ⟩
    have le' : Le F1 H1 F' H' := g'.le ok1
    obtain ⟨ws, wg⟩ := wk F' H' (as ++ [L]) g'.grow (fun b o _ e => all' b o e) ok' i
    by_cases hlt : i < ds.length
    · have hd : ds.drop i = ds[i] :: ds.drop (i + 1) := List.drop_eq_getElem_cons hlt
      rw [hd] at hrest
      unfold rCompL at hrest
      simp only [Option.bind_eq_some_iff] at hrest
      obtain ⟨e1, he1, b, hb, hr⟩ := hrest
      obtain ⟨go, yl⟩ := wg ds[i] (List.getElem?_eq_getElem hlt)
      refine .inr ⟨go, fun H2 => ∃ F2 acc2 vacc2 rest2, Wd.Ok ⟨F2, H2, as ++ [L]⟩ ∧ Go ⟨F1, H1, as⟩ ⟨F2, H2, as ++ [L]⟩ ∧ (∀ b o, H1 b = some o → H2 b = some o) ∧ H2 L = some (.lst vacc2) ∧ Reps X.K X.mg F2 H2 acc2 vacc2 ∧
        rCompL st tt el (wipeS env vs) (ds.drop (i + 1)) = some rest2 ∧ acc2 ++ rest2 = ys, fun H2 q => ⟨ds.length - (i + 1), by omega, hlt, rfl, q⟩, fun x H2 y => ?_⟩
      obtain ⟨F2, gr, rx⟩ := yl x H2 y
      have g2 := g'.trans gr.toGo
      have all2 : ∀ b o, H1 b = some o → H2 b = some o := fun b o e => gr.all b o (all' b o e)
      have repw : ∃ asw, RepE X.K X.mg F2 H2 (wipeS env vs) (wipe σ vs) asw ∧ Wd.Ok ⟨F2, H2, asw⟩ ∧ ∀ b ∈ asw, b ∈ as := by
        obtain ⟨asw, hid, pm, rw', _⟩ := rep1.wipe hv
        have sub : ∀ b ∈ asw, b ∈ as := fun b hb => pm.mem_iff.mp (List.mem_append_left _ hb)
        refine ⟨asw, rw'.mono (g2.le ok1) fun b _ o e => all2 b o e, ?_, sub⟩
        exact gr.ok.sub ((List.nodup_append.mp (pm.nodup_iff.mpr ok1.nd)).1) fun b hb => List.mem_append_left _ (sub b hb)
      obtain ⟨asw, repw, okw, subw⟩ := repw
      have racc2 := racc.mono (gr.toGo.le ok')
      have hL2 : H2 L = some (.lst vacc) := gr.all _ _ hL'
      refine block_tgt hg okw repw rx he1 fun σ3 as3 ew g3 rep3 => ⟨ew, F2, e1, as3, g3.ok, rep3, b, hb, fun F4 H4 g4 => ?_⟩
      -- from the block's small world to the whole one
      have big4 : GoR ⟨F2, H2, as ++ [L]⟩ ⟨F4, H4, as ++ [L]⟩ := by
        have sub3 : ∀ b ∈ as3, b ∈ as ∨ H2 b = none := fun b hb => (g3.newO b hb).imp (subw b) id
        refine ⟨⟨fun b o e _ => g4.all b o e, g4.grow, fun b hb => ?_, fun b hb => .inl hb, ?_⟩, g4.all⟩
        · rcases g4.newF b hb with z | z | z
          · exact .inl z
          · rcases sub3 b z with z | z
            · exact .inr (.inl (List.mem_append_left _ z))
            · exact .inr (.inr z)
          · exact .inr (.inr z)
        · refine ⟨gr.ok.nd, fun b hb hF => ?_, fun b hb => ?_, g4.ok.fs⟩
          · rcases g4.newF b hF with z | z | z
            · exact gr.ok.nf b hb z
            · exact g4.ok.nf b z hF
            · exact gr.ok.so b hb z
          · obtain ⟨o, e⟩ := some_of_ne (gr.ok.so b hb)
            show H4 b ≠ none
            have e4 : H4 b = some o := g4.all b o e
            rw [e4]; exact fun q => nomatch q
      have g24 := g2.trans big4.toGo
      have all4 : ∀ b o, H1 b = some o → H4 b = some o := fun b o e => g4.all b o (all2 b o e)
      have racc4 := racc2.mono (big4.toGo.le gr.ok)
      have hL4 : H4 L = some (.lst vacc) := g4.all _ _ hL2
      cases b with
      | false =>
        simp at hr
        exact iteF ⟨F4, acc, vacc, rest, big4.ok, g24, all4, hL4, racc4, hr, happ⟩
      | true =>
        simp only [if_true, Option.bind_eq_some_iff, Option.map_eq_some_iff] at hr
        obtain ⟨t, ht, y0, hy0, rest2, hrest2, rfl⟩ := hr
        have et : t = .pl y0 := by
          cases t <;> simp [T.pl?] at hy0
          rw [hy0]
        subst et
        refine iteT ⟨F4, e1, as3, g4.ok, rep3.readG g3.ok g4, _, ht, fun F5 H5 v5 at5 g5 rt5 s5 => ?_⟩
        have big5 : GoR ⟨F4, H4, as ++ [L]⟩ ⟨F5, H5, as ++ [L]⟩ := by
          have sub3 : ∀ b ∈ as3, b ∈ as ∨ H4 b = none ∨ b ∈ as3 := fun b hb => .inr (.inr hb)
          have sub3' : ∀ b ∈ as3, b ∈ as := fun b hb => by
            rcases g3.newO b hb with z | z
            · exact subw b z
            · exact absurd z (g3.ok.so b hb)
          refine ⟨⟨fun b o e _ => g5.all b o e, g5.grow, fun b hb => ?_, fun b hb => .inl hb, ?_⟩, g5.all⟩
          · rcases g5.newF b hb with z | z | z
            · exact .inl z
            · exact .inr (.inl (List.mem_append_left _ (sub3' b z)))
            · exact .inr (.inr z)
          · refine ⟨big4.ok.nd, fun b hb hF => ?_, fun b hb => ?_, g5.ok.fs⟩
            · rcases g5.newF b hF with z | z | z
              · exact big4.ok.nf b hb z
              · exact g5.ok.nf b z hF
              · exact big4.ok.so b hb z
            · obtain ⟨o, e⟩ := some_of_ne (big4.ok.so b hb)
              show H5 b ≠ none
              have e5 : H5 b = some o := g5.all b o e
              rw [e5]; exact fun q => nomatch q
        have hL5 : H5 L = some (.lst vacc) := g5.all _ _ hL4
        have rv : Rep X.K X.mg F5 H5 y0 v5 := by unfold RepT at rt5; exact rt5.2
        have racc5 := racc4.mono (big5.toGo.le big4.ok)
        have mem : L ∈ as ++ [L] := by simp
        have gm := big5.ok.mut (o := .lst (vacc ++ [v5])) mem
        have nL : ¬ F5 L := big5.ok.nf L mem
        have leM : Le F5 H5 F5 (upd H5 L (.lst (vacc ++ [v5]))) := gm.le big5.ok
        have hlen2 : vacc.length < big := by
          rw [racc.length]
          have : acc.length ≤ (acc ++ (y0 :: rest2)).length := by simp
          rw [happ] at this
          omega
        refine ⟨vacc, hL5, big_line' hlen2, F5, acc ++ [y0], vacc ++ [v5], rest2, gm.ok, (g24.trans big5.toGo).trans gm, fun b o e => ?_, upd_same, (racc5.append (.one rv)).mono leM, hrest2, by rw [← happ]; simp⟩
        rw [upd_ne (ne_of_none e hL)]
        exact g5.all b o (all4 b o e)
    · have ei : i = ds.length := by omega
      refine .inl ⟨ws ei, ?_⟩
      rw [ei, List.drop_length] at hrest
      cases hrest
      rw [List.append_nil] at happ
      subst happ
      have g2 := ok'.freeze
      have gf := g'.trans g2
      refine post _ H' (.ref L) [] (g1.trans ⟨gf, all'⟩) (RepT.plI ?_) (by simp)
      unfold Rep
      exact ⟨L, vacc, rfl, ⟨.inr (by simp), .inl hL'⟩, racc.mono ⟨fun _ h => .inl h, fun _ _ _ e => e⟩⟩
  · cases hz
theorem re_lc {e : Expr} {wi : TI} (h : PE X e (tLc wi g (tRB X tt) (tR X el) vs)) (hg : GBk X vs g st) (hw : ∀ σ H R, tRI X src σ H R → wi σ H R := by intro _ _ _ h; exact h) (hv : vs.Nodup := by decide) : PE X e (tR X (rComp vs st src tt el)) :=
  pe_imp h fun σ H Q q => rlc hv hg q hw
def rYes : Rd Bool := fun _ => some true
theorem rts_nil : PTs X [] (tRB X rYes) := ⟨fun pins s σ H Q I h => by
  obtain ⟨F, env, as, ok, rep, b, hb, post⟩ := h
  cases hb
  exact pts_nil.run pins s σ H Q I (post F H (GoR.refl ok))⟩
end

/-! ### doing -/
def mCompL (vs : List Nat) (st : D → Slots → Option Slots) (tt : M Bool) (el : M T) : List D → List D → Slots → Out (List D)
  | [], acc, env => .ok acc env
  | d :: ds, acc, env => match st d env with
    | none => .no
    | some e1 => match tt e1 with
      | .no => .no
      | .ex x e => .ex x e
      | .ok false e2 => mCompL vs st tt el ds acc (wipeS e2 vs)
      | .ok true e2 => match el e2 with
        | .no => .no
        | .ex x e => .ex x e
        | .ok t e3 => mCompL vs st tt el ds (acc ++ [t.frz]) (wipeS e3 vs)
def mComp (vs : List Nat) (st : D → Slots → Option Slots) (src : M (List D)) (tt : M Bool) (el : M T) : M T := src.bind fun ds => fun env => match mCompL vs st tt el ds [] (wipeS env vs) with
  | .ok acc env' => if acc.length < big then .ok (.ol acc) (restS env env' vs) else .no
  | .ex x e => .no
  | .no => .no
theorem mCompL_len {vs st tt el} : ∀ {ds acc : List D} {env env' acc'}, mCompL vs st tt el ds acc env = .ok acc' env' → acc.length ≤ acc'.length
  | [], acc, env, env', acc', h => by unfold mCompL at h; cases h; exact Nat.le_refl _
  | d :: ds, acc, env, env', acc', h => by
    unfold mCompL at h
    split at h
    · cases h
    · split at h
      · cases h
      · cases h
      · exact mCompL_len h
      · split at h
        · cases h
        · cases h
        · have := mCompL_len h
          simp at this
          omega
theorem mCompL_len' {vs st tt el} : ∀ {ds acc : List D} {env env' acc'}, mCompL vs st tt el ds acc env = .ok acc' env' → True := fun _ => trivial
section
variable {X : Cx} {W : WX} {vs : List Nat} {g : TG} {st : D → Slots → Option Slots} {tt : M Bool} {el : M T} {src : M (List D)}
theorem wipe_again {K mg F H env σ as} (hv : vs.Nodup) (rep : RepE K mg F H env σ as) : ∃ as1, (∀ b ∈ as1, b ∈ as) ∧ (as.Nodup → as1.Nodup) ∧ RepE K mg F H (wipeS env vs) (wipe σ vs) as1 := by
  obtain ⟨as1, h, pm, r, _⟩ := rep.wipe hv
  exact ⟨as1, fun b hb => pm.mem_iff.mp (List.mem_append_left _ hb), fun nd => (List.nodup_append.mp (pm.nodup_iff.mpr nd)).1, r⟩
theorem mlc {wi : TI} {σ : St} {H : Hp} {Q : VK} (hv : vs.Nodup) (hg : GBk X vs g st) (h : tE X W (mComp vs st src tt el) σ H Q) (hw : ∀ σ H R, tI X W src σ H R → wi σ H R) : tLc wi g (Mir.tB X W0 tt) (tE X W0 el) vs σ H Q := by
  obtain ⟨F, env, as, ok, rep, post⟩ := h
  refine hw _ _ _ ⟨F, env, as, ok, rep, ?_⟩
  unfold mComp M.bind at post
  cases h1 : src env with
  | no => simp only [h1] at post; exact post
  | ex x e1 => simp only [h1] at post; exact post
  | ok ds e1 =>
    simp only [h1] at post
    intro F1 H1 as1 J g1 rep1 wk L hL
    have ok1 := g1.ok
    have gl := ok1.layO (o := .lst []) hL
    -- the hidden slots
    obtain ⟨asw, hid, pm, repw, back⟩ := rep1.wipe hv
    have okw : Wd.Ok ⟨F1, H1, asw ++ (hid ++ [L])⟩ ∨ True := .inr trivial
    cases h2 : mCompL vs st tt el ds [] (wipeS e1 vs) with
    | no => simp only [h2] at post; exact post.elim
    | ex x e2 => simp only [h2] at post; exact post.elim
    | ok acc' e2 =>
      simp only [h2] at post
      split at post
      rotate_left
      · exact post.elim
      rename_i hlen
      have le0 : Le F1 H1 F1 (upd H1 L (.lst [])) := gl.le ok1
      have g0 : Go ⟨F1, H1, as1⟩ ⟨F1, upd H1 L (.lst []), asw ++ (hid ++ [L])⟩ := by
        refine gl.sub ?_ fun b hb => ?_
        · have : ((asw ++ hid) ++ [L]).Nodup := by
            have e : ((asw ++ hid) ++ [L]).Perm (as1 ++ [L]) := List.Perm.append_right _ pm
            exact e.nodup_iff.mpr gl.ok.nd
          simpa using this
        · simp only [List.mem_append] at hb ⊢
          rcases hb with z | z | z
          · exact .inl (pm.mem_iff.mp (List.mem_append_left _ z))
          · exact .inl (pm.mem_iff.mp (List.mem_append_right _ z))
          · exact .inr z
      have all0 : ∀ b o, H1 b = some o → upd H1 L (.lst []) b = some o := fun b o e => by rw [upd_ne (ne_of_none e hL)]; exact e
      refine ⟨fun i k H' => i ≤ ds.length ∧ k = ds.length - i ∧ ∃ F' acc vacc env' as', Go ⟨F1, H1, as1⟩ ⟨F', H', as' ++ (hid ++ [L])⟩ ∧ (∀ b ∈ hid, ∀ o, H1 b = some o → H' b = some o) ∧ H' L = some (.lst vacc) ∧ Reps X.K X.mg F' H' acc vacc ∧
          RepE X.K X.mg F' H' env' (wipe σ vs) as' ∧ (∀ v ∈ vs, v < e1.length → env'[v]? = some none) ∧ mCompL vs st tt el (ds.drop i) acc env' = .ok acc' e2,
        ⟨ds.length, Nat.zero_le _, by simp, F1, [], [], wipeS e1 vs, asw, g0, fun b _ => all0 b, upd_same, .nil, repw.mono le0 fun b _ => all0 b, fun v hv' hl => wipeS_none hv' hl, by simpa using h2⟩, ?_⟩
      rintro i k H' ⟨hi, rfl, F', acc, vacc, env', as', g', hh', hL', racc, rep', hn', hrest⟩
      have le' : Le F1 H1 F' H' := g'.le ok1
      obtain ⟨ws, wg⟩ := wk F' H' _ g'.grow le'.keep g'.ok i
      have okc := g'.ok.left
      by_cases hlt : i < ds.length
      · have hd : ds.drop i = ds[i] :: ds.drop (i + 1) := List.drop_eq_getElem_cons hlt
        rw [hd] at hrest
        unfold mCompL at hrest
        obtain ⟨go, yl⟩ := wg ds[i] (List.getElem?_eq_getElem hlt)
        refine .inr ⟨go, fun H2 => ∃ F' acc vacc env' as', Go ⟨F1, H1, as1⟩ ⟨F', H2, as' ++ (hid ++ [L])⟩ ∧ (∀ b ∈ hid, ∀ o, H1 b = some o → H2 b = some o) ∧ H2 L = some (.lst vacc) ∧ Reps X.K X.mg F' H2 acc vacc ∧
          RepE X.K X.mg F' H2 env' (wipe σ vs) as' ∧ (∀ v ∈ vs, v < e1.length → env'[v]? = some none) ∧ mCompL vs st tt el (ds.drop (i + 1)) acc env' = .ok acc' e2, fun H2 q => ⟨ds.length - (i + 1), by omega, hlt, rfl, q⟩, fun x H2 y => ?_⟩
        obtain ⟨F2, gr, rx⟩ := yl x H2 y
        have g2 := g'.trans gr.toGo
        have rep2 := rep'.readG g'.ok gr
        have racc2 := racc.mono (gr.toGo.le g'.ok)
        have hL2 : H2 L = some (.lst vacc) := gr.all _ _ hL'
        have hh2 : ∀ b ∈ hid, ∀ o, H1 b = some o → H2 b = some o := fun b hb o e => gr.all b o (hh' b hb o e)
        split at hrest
        · cases hrest
        · rename_i e3 he3
          have rep2' : RepE X.K X.mg F2 H2 env' (wipe σ vs) as' := rep2
          refine block_tgt hg g2.ok.left rep2' rx he3 fun σ3 as3 ew g3 rep3 => ⟨ew, F2, e3, as3, g3.ok, rep3, ?_⟩
          have ctx3 := g2.next g3
          have hl3 : e3.length = e1.length := by
            rw [rep3.length, rep1.length, ← wipe_length σ vs, ← ew, wipe_length]
          cases hb : tt e3 with
          | no => rw [hb] at hrest; cases hrest
          | ex x e => rw [hb] at hrest; cases hrest
          | ok b e4 =>
            rw [hb] at hrest
            intro F4 H4 as4 g4 rep4
            have ctx4 := ctx3.next g4
            have keepC : ∀ b ∈ hid ++ [L], ∀ o, H2 b = some o → H4 b = some o := fun b hb o e => g4.keep b o e fun z => (List.nodup_append.mp ctx3.ok.nd).2.2 b z b hb rfl
            have racc4 := racc2.mono ((g3.trans g4).le g2.ok.left)
            have hL4 := keepC L (by simp) _ hL2
            have hh4 : ∀ b ∈ hid, ∀ o, H1 b = some o → H4 b = some o := fun b hb o e => keepC b (by simp [hb]) o (hh2 b hb o e)
            have nw : ∀ {eN : Slots} {asN : List Addr} {FN : Addr → Prop} {HN : Hp}, RepE X.K X.mg FN HN eN σ3 asN → ∃ as5, (∀ b ∈ as5, b ∈ asN) ∧ (asN.Nodup → as5.Nodup) ∧ RepE X.K X.mg FN HN (wipeS eN vs) (wipe σ vs) as5 ∧ ∀ v ∈ vs, v < e1.length → (wipeS eN vs)[v]? = some none := fun {eN asN FN HN} rN => by
              obtain ⟨as5, q1, q2, q3⟩ := wipe_again hv rN
              rw [ew] at q3
              refine ⟨as5, q1, q2, q3, fun v hv' hl => wipeS_none hv' ?_⟩
              rw [rN.length, ← rep3.length, hl3]; exact hl
            have subN : ∀ {FN : Addr → Prop} {HN : Hp} {asN as5 : List Addr}, Go ⟨F1, H1, as1⟩ ⟨FN, HN, asN ++ (hid ++ [L])⟩ → (∀ b ∈ as5, b ∈ asN) → (asN.Nodup → as5.Nodup) → Go ⟨F1, H1, as1⟩ ⟨FN, HN, as5 ++ (hid ++ [L])⟩ := fun {FN HN asN as5} gN q1 q2 => by
              have nd := List.nodup_append.mp gN.ok.nd
              refine gN.sub (List.nodup_append.mpr ⟨q2 nd.1, nd.2.1, fun a ha b hb => nd.2.2 a (q1 a ha) b hb⟩) fun b hb => ?_
              rcases List.mem_append.mp hb with z | z
              · exact List.mem_append_left _ (q1 b z)
              · exact List.mem_append_right _ z
            cases b with
            | false =>
              simp only at hrest
              obtain ⟨as5, q1, q2, q3, q4⟩ := nw rep4
              exact iteF ⟨F4, acc, vacc, _, as5, subN ctx4 q1 q2, hh4, hL4, racc4, q3, q4, hrest⟩
            | true =>
              simp only at hrest
              refine iteT ⟨F4, e4, as4, g4.ok, rep4, ?_⟩
              cases he : el e4 with
              | no => rw [he] at hrest; cases hrest
              | ex x e => rw [he] at hrest; cases hrest
              | ok t e5 =>
                rw [he] at hrest
                intro F5 H5 v5 as5 at5 g5 rep5 rt5
                have gf := g5.fzr
                have ctx5 := ctx4.next gf
                have keepC5 : ∀ b ∈ hid ++ [L], ∀ o, H4 b = some o → H5 b = some o := fun b hb o e => g5.keep b o e fun z => (List.nodup_append.mp ctx4.ok.nd).2.2 b z b hb rfl
                have racc5 := racc4.mono (gf.le g4.ok)
                have hL5 := keepC5 L (by simp) _ hL4
                have memL : L ∈ as5 ++ (hid ++ [L]) := by simp
                have gm := ctx5.ok.mut (o := .lst (vacc ++ [v5])) memL
                have leM := gm.le ctx5.ok
                have nLas : L ∉ as5 := fun z => (List.nodup_append.mp ctx5.ok.nd).2.2 L z L (by simp) rfl
                have nLh : L ∉ hid := fun z => (List.nodup_append.mp ((List.nodup_append.mp ctx5.ok.nd).2.1)).2.2 L z L (by simp) rfl
                have hacc : acc.length < big := by
                  have := mCompL_len hrest
                  simp at this
                  omega
                obtain ⟨as6, q1, q2, q3, q4⟩ := nw (rep5.fzr (at1 := at5))
                refine ⟨vacc, hL5, big_line' (by rw [racc.length]; exact hacc), _, acc ++ [t.frz], vacc ++ [v5], _, as6, subN (ctx5.trans gm) q1 q2, fun b hb o e => ?_, upd_same, (racc5.append (.one rt5.fzr)).mono leM, q3.mono leM fun b hb o e => ?_, q4, hrest⟩
                · rw [upd_ne (by intro z; subst z; exact nLh hb)]
                  exact keepC5 b (by simp [hb]) o (hh4 b hb o e)
                · show upd H5 L (.lst (vacc ++ [v5])) b = some o
                  rw [upd_ne (by intro z; subst z; exact nLas (q1 _ hb))]
                  exact e
      · have ei : i = ds.length := by omega
        refine .inl ⟨ws ei, ?_⟩
        rw [ei, List.drop_length] at hrest
        unfold mCompL at hrest
        cases hrest
        obtain ⟨as2, pm2, rep2⟩ := back F' H' _ as' le' hh' hn' rep'
        refine post F' H' (.ref L) as2 [L] ((g1.trans g').sub ?_ fun b hb => ?_) rep2 ?_
        · have e : (as2 ++ [L]).Perm (as' ++ (hid ++ [L])) := by
            rw [← List.append_assoc]; exact List.Perm.append_right _ pm2
          exact e.nodup_iff.mpr g'.ok.nd
        · rcases List.mem_append.mp hb with z | z
          · rcases List.mem_append.mp (pm2.mem_iff.mp z) with y | y
            · exact List.mem_append_left _ y
            · exact List.mem_append_right _ (List.mem_append_left _ y)
          · exact List.mem_append_right _ (List.mem_append_right _ z)
        · unfold RepT
          exact ⟨L, vacc, rfl, rfl, hL', racc⟩
theorem me_lc {e : Expr} {wi : TI} (h : PE X e (tLc wi g (Mir.tB X W0 tt) (tE X W0 el) vs)) (hg : GBk X vs g st) (hw : ∀ σ H R, tI X W src σ H R → wi σ H R := by intro _ _ _ h; exact h) (hv : vs.Nodup := by decide) : PE X e (tE X W (mComp vs st src tt el)) :=
  pe_imp h fun σ H Q q => mlc hv hg q hw
def mYes : M Bool := fun env => .ok true env
theorem mts_nil : PTs X [] (Mir.tB X W0 mYes) := ⟨fun pins s σ H Q I h => by
  obtain ⟨F, env, as, ok, rep, post⟩ := h
  exact pts_nil.run pins s σ H Q I (post F H as (Go.refl ok) rep)⟩
end
end Mir

set_option maxHeartbeats 1000000
/-! Mir11: lists changed in place; calls; defs. -/
namespace Mir
open PySem L2
open PyProof.Rows hiding St

/-! ### methods of a list in a slot -/
/-- a method as a function of the items and the arguments: its value, the items behind it -/
abbrev LF := List D → List D → Option (D × List D)
def LMut (X : Cx) (f : LF) (r : V → List V → Hp → VK → Prop) : Prop := ∀ {F H own a xs vs ds ws d xs'}, Wd.Ok ⟨F, H, own⟩ → a ∈ own → H a = some (.lst vs) → Reps X.K X.mg F H xs vs → Reps X.K X.mg F H ds ws → f xs ds = some (d, xs') →
  ∀ {Q : VK}, (∀ v vs', Rep X.K X.mg F H d v → Reps X.K X.mg F H xs' vs' → Q v (upd H a (.lst vs'))) → r (.ref a) ws H Q
def mMut (f : LF) (j : Nat) (μ : M (List T)) : M T := fun env => match env[j]? with
  | some (some (.ol _)) => match μ env with
    | .ok ts e1 => match e1[j]? with
      | some (some (.ol xs)) => match f xs (frzs ts) with
        | some (d, xs') => .ok (.pl d) (e1.set j (some (.ol xs')))
        | none => .no
      | _ => .no
    | .ex x e1 => .ex x e1
    | .no => .no
  | _ => .no
theorem RepE.ol {K mg F H} {env : Slots} {σ : St} {as : List Addr} {j : Nat} {xs : List D} (rep : RepE K mg F H env σ as) (h : env[j]? = some (some (.ol xs))) : ∃ a vs, σ[j]? = some (some (.ref a)) ∧ a ∈ as ∧ H a = some (.lst vs) ∧ Reps K mg F H xs vs := by
  obtain ⟨l1, a, l2, rfl, g1, _, _⟩ := rep.at j (List.getElem?_eq_some_iff.mp h).1
  obtain ⟨v, e1, r⟩ := g1 _ h
  unfold RepT at r
  obtain ⟨b, vs, rfl, rfl, hh, rr⟩ := r
  exact ⟨b, vs, e1, by simp, hh, rr⟩
theorem RepE.olSet {K mg F H} {env : Slots} {σ : St} {as : List Addr} {j : Nat} {xs xs' : List D} {a : Addr} {vs' : List V} (rep : RepE K mg F H env σ as) (nd : as.Nodup) (nf : ∀ b ∈ as, ¬ F b) (h : env[j]? = some (some (.ol xs))) (hσ : σ[j]? = some (some (.ref a))) (r' : Reps K mg F (upd H a (.lst vs')) xs' vs') :
    RepE K mg F (upd H a (.lst vs')) (env.set j (some (.ol xs'))) σ as := by
  obtain ⟨l1, a1, l2, rfl, g1, _, g3⟩ := rep.at j (List.getElem?_eq_some_iff.mp h).1
  obtain ⟨v, e1, r⟩ := g1 _ h
  unfold RepT at r
  obtain ⟨b, vs, rfl, rfl, hh, rr⟩ := r
  have eab : b = a := by rw [hσ] at e1; simpa using e1.symm
  subst eab
  have nl : ∀ c ∈ l1 ++ l2, c ≠ b := fun c hc e => by
    subst e
    have := nd
    simp only [List.nodup_append, List.mem_append, List.mem_cons, List.not_mem_nil, or_false] at this hc
    rcases hc with z | z
    · exact this.2.2 _ z _ (.inl rfl) rfl
    · exact this.2.1.2.2 _ rfl _ z rfl
  have le : Le F H F (upd H b (.lst vs')) := ⟨fun _ h => h, fun c o hf e => by rw [upd_ne (by intro z; subst z; exact nf _ (by simp) hf)]; exact e⟩
  have q := (g3 F (upd H b (.lst vs')) le fun c hc o e => by rw [upd_ne (nl c hc)]; exact e).1 (.ol xs') (.ref b) [b] (by unfold RepT; exact ⟨b, vs', rfl, rfl, upd_same, r'⟩)
  rw [set_self hσ] at q
  exact q
section
variable {X : Cx} {W : WX} {e : Expr} {fx : List Nat} {st : Stmt} {μ : M (List T)} {m : M T}
theorem me_mut {f : LF} {r : V → List V → Hp → VK → Prop} {j : Nat} (hf : LMut X f r) (h : PE X e (tBM X.K "list" r (tVar j) (tA X W μ))) : PE X e (tE X W (mMut f j μ)) := pe_imp h fun σ H Q ⟨F, env, as, ok, rep, post⟩ => by
  unfold mMut at post
  split at post
  rotate_left
  · exact post.elim
  rename_i xs0 hj
  obtain ⟨a, vs0, hσ, ha, hH, k0⟩ := rep.ol hj
  refine ⟨.ref a, hσ, .inl ⟨rfl, vs0, .inl (.inl hH)⟩, F, env, as, ok, rep, ?_⟩
  cases h1 : μ env with
  | no => simp only [h1] at post; exact post.elim
  | ex x e1 => simp only [h1] at post; exact post
  | ok ts e1 =>
    simp only [h1] at post
    intro F1 H1 ws as1 at1 g1 rep1 rt1
    split at post
    rotate_left
    · exact post.elim
    rename_i xs hj1
    cases hu : f xs (frzs ts) with
    | none => rw [hu] at post; exact post.elim
    | some p =>
      obtain ⟨d, xs'⟩ := p
      rw [hu] at post
      have g2 := g1.fzr
      have rep2 := rep1.fzr (at1 := at1)
      obtain ⟨a', vs, hσ', ha', hH', k'⟩ := rep2.ol hj1
      have eaa : a' = a := by rw [hσ] at hσ'; simpa using hσ'.symm
      subst eaa
      refine hf g2.ok ha' hH' k' rt1.fzr hu fun v vs' rv rvs => ?_
      have gm := g2.ok.mut (o := .lst vs') ha'
      have le := gm.le g2.ok
      exact post _ _ v as1 [] (g2.trans gm).nil (rep2.olSet g2.ok.nd g2.ok.nf hj1 hσ' (rvs.mono le)) (RepT.plI (rv.mono le))
theorem me_mut0 {f : LF} {r : V → List V → Hp → VK → Prop} {j : Nat} (hf : LMut X f r) (h : PE X e (tBM0 X.K "list" r (tVar j))) : PE X e (tE X W (mMut f j mnil)) := pe_imp h fun σ H Q ⟨F, env, as, ok, rep, post⟩ => by
  unfold mMut mnil at post
  split at post
  rotate_left
  · exact post.elim
  rename_i xs hj
  simp only [hj] at post
  obtain ⟨a, vs, hσ, ha, hH, k0⟩ := rep.ol hj
  refine ⟨.ref a, hσ, .inl ⟨rfl, vs, .inl (.inl hH)⟩, ?_⟩
  cases hu : f xs (frzs []) with
  | none => rw [hu] at post; exact post.elim
  | some p =>
    obtain ⟨d, xs'⟩ := p
    rw [hu] at post
    refine hf ok ha hH k0 .nil hu fun v vs' rv rvs => ?_
    have gm := ok.mut (o := .lst vs') ha
    have le := gm.le ok
    exact post _ _ v as [] gm.nil (rep.olSet ok.nd ok.nf hj hσ (rvs.mono le)) (RepT.plI (rv.mono le))
end
def lAppend : LF := fun xs ds => match ds with
  | [d] => if xs.length < big then some (.non, xs ++ [d]) else none
  | _ => none
def lPop : LF := fun xs ds => match ds with
  | [] => (xs[xs.length - 1]?).map fun d => (d, xs.dropLast)
  | _ => none
def lPopAt : LF := fun xs ds => match ds with
  | [.int i] => if -(2 ^ 63) ≤ i ∧ i < 2 ^ 63 then (ixN xs.length i).bind fun k => (xs[k]?).map fun d => (d, xs.eraseIdx k) else none
  | _ => none
def lReverse : LF := fun xs ds => match ds with
  | [] => some (.non, xs.reverse)
  | _ => none
def lClear : LF := fun xs ds => match ds with
  | [] => some (.non, [])
  | _ => none
section
variable {X : Cx}
theorem Reps.one' {K mg F H d vs} (h : Reps K mg F H [d] vs) : ∃ v, vs = [v] ∧ Rep K mg F H d v := by
  unfold Reps Reps at h
  obtain ⟨v, r, e, h1, h2⟩ := h
  exact ⟨v, by rw [e, h2], h1⟩
theorem Reps.nil' {K mg F H vs} (h : Reps K mg F H [] vs) : vs = [] := by unfold Reps at h; exact h
theorem Rep.nonI {K mg F H} : Rep K mg F H .non .non := by unfold Rep; rfl
theorem lm_append : LMut X lAppend rAppend := by
  intro F H own a xs vs ds ws d xs' ok ha hH r rd e Q q
  unfold lAppend at e
  split at e
  · split at e <;> cases e
    rename_i hz
    obtain ⟨v, rfl, rv⟩ := rd.one'
    exact ⟨a, vs, v, rfl, rfl, hH, by rw [r.length]; exact big_line' hz, q .non _ Rep.nonI (r.append (.one rv))⟩
  · cases e
theorem dropLast_rep {K mg F H} {ds : List D} {vs : List V} (r : Reps K mg F H ds vs) : Reps K mg F H ds.dropLast vs.dropLast := by
  rw [List.dropLast_eq_take, List.dropLast_eq_take, r.length]
  exact r.take _
theorem lm_pop : LMut X lPop rPop := by
  intro F H own a xs vs ds ws d xs' ok ha hH r rd e Q q
  unfold lPop at e
  split at e
  · simp only [Option.map_eq_some_iff, Prod.mk.injEq] at e
    obtain ⟨d', hd, rfl, rfl⟩ := e
    have := rd.nil'
    subst this
    obtain ⟨v, hv, rv⟩ := r.get hd
    exact ⟨a, vs, v, rfl, rfl, hH, by rw [r.length]; exact hv, q v _ rv (dropLast_rep r)⟩
  · cases e
theorem lm_popAt : LMut X lPopAt rPopAt := by
  intro F H own a xs vs ds ws d xs' ok ha hH r rd e Q q
  unfold lPopAt at e
  split at e
  · split at e
    · rename_i hz
      simp only [Option.bind_eq_some_iff, Option.map_eq_some_iff, Prod.mk.injEq] at e
      obtain ⟨k, hk, d', hd, rfl, rfl⟩ := e
      obtain ⟨v, rfl, rv⟩ := rd.one'
      unfold Rep at rv
      subst rv
      obtain ⟨w, hw, rw'⟩ := r.get hd
      exact ⟨a, vs, _, k, w, rfl, rfl, hH, hz.1, hz.2, by rw [r.length]; exact (ixN_seq hk).1, hw, q w _ rw' (r.eraseIdx k)⟩
    · cases e
  · cases e
theorem lm_reverse : LMut X lReverse rReverse := by
  intro F H own a xs vs ds ws d xs' ok ha hH r rd e Q q
  unfold lReverse at e
  split at e <;> cases e
  have := rd.nil'
  subst this
  exact ⟨a, vs, rfl, rfl, hH, q .non _ Rep.nonI r.reverse⟩
theorem lm_clear : LMut X lClear rClear := by
  intro F H own a xs vs ds ws d xs' ok ha hH r rd e Q q
  unfold lClear at e
  split at e <;> cases e
  have := rd.nil'
  subst this
  exact ⟨a, vs, rfl, rfl, hH, q .non _ Rep.nonI .nil⟩
/-! xs[i] = e -/
end
def mSetIx (j : Nat) (i : Rd T) (m : M T) : MS := m.bind fun t => fun env => match env[j]? with
  | some (some (.ol xs)) => match (i env).bind asI with
    | some k => match ixN xs.length k with
      | some n => .ok .nx (env.set j (some (.ol (xs.set n t.frz))))
      | none => .no
    | none => .no
  | _ => .no
section
variable {X : Cx} {W : WX} {fx : List Nat} {st : Stmt} {m : M T} {ρ : Rd T}
theorem ms_setix {j : Nat} (h : PS X st (tAsg (tE X W m) (gSub (tVar j) (tR X ρ) rSetL))) : PS X st (tS X W fx (mSetIx j ρ m)) := ps_imp h fun D σ H hs =>
  tE_in hs fun F env as t e1 ok h1 post F1 H1 v as1 at1 g1 rep1 rt1 => by
    split at post
    rotate_left
    · exact post.elim
    rename_i xs hj
    split at post
    rotate_left
    · exact post.elim
    rename_i k hk
    split at post
    rotate_left
    · exact post.elim
    rename_i n hn
    have g2 := g1.fzr
    have rep2 := rep1.fzr (at1 := at1)
    obtain ⟨a, vs, hσ, ha, hH, kk⟩ := rep2.ol hj
    simp only [Option.bind_eq_some_iff] at hk
    obtain ⟨ti, hti, hki⟩ := hk
    have et := asI_int hki
    subst et
    refine ⟨.ref a, hσ, _, e1, as1, g2.ok, rep2, _, hti, fun F3 H3 v3 at3 g3 rt3 s3 => ?_⟩
    have rep3 := rep2.readG g2.ok g3
    have kk3 := kk.mono (g3.toGo.le g2.ok)
    have rt := (rt1.fzr).mono (g3.toGo.le g2.ok)
    refine ⟨a, vs, k, n, rfl, rt3.int, g3.all _ _ hH, by rw [kk.length]; exact hn, ?_⟩
    have gm := g3.ok.mut (o := .lst (vs.set n v)) ha
    have le := gm.le g3.ok
    exact post _ _ σ as1 fx_refl ((g2.trans g3.toGo).trans gm) (rep3.olSet g3.ok.nd g3.ok.nf hj hσ ((kk3.set n rt).mono le))
end

/-! ### calls -/
inductive FRes where
  | ok (t : T) (outs : List T) | ex (x : Exn) (outs : List T) | no
section
variable (K : PySem.W.Frag) (mg : Str → Option Value)
def PoF (F : Addr → Prop) (H : Hp) (as : List Addr) (vs : List V) (Q : VK) (E : XK) : FRes → Prop
  | .ok t outs => ∀ F' H' v as' at', Go ⟨F, H, as⟩ ⟨F', H', as' ++ at'⟩ → RepTs K mg F' H' outs vs as' → RepT K mg F' H' t v at' → Q v H'
  | .ex x outs => ∀ F' H' as' cls d, Go ⟨F, H, as⟩ ⟨F', H', as'⟩ → RepTs K mg F' H' outs vs as' → RepX K mg F' H' x cls d → E cls d H'
  | .no => False
/-- a def's promise by its mirror -/
def spM (n : Nat) (f : List T → FRes) : Sp := fun vs H Q E => vs.length = n ∧ ∃ F ts as, Wd.Ok ⟨F, H, as⟩ ∧ RepTs K mg F H ts vs as ∧ PoF K mg F H as vs Q E (f ts)
end
inductive PreT where
  | v (t : T) | s (i : Nat)
def takeAll : List PreT → Slots → Option (List T × Slots)
  | [], env => some ([], env)
  | .v t :: r, env => (takeAll r env).map fun p => (t :: p.1, p.2)
  | .s i :: r, env => match env[i]? with
    | some (some t) => (takeAll r (env.set i none)).map fun p => (t :: p.1, p.2)
    | _ => none
def backAll : List PreT → List T → Slots → Slots
  | .v _ :: r, _ :: os, env => backAll r os env
  | .s i :: r, o :: os, env => (backAll r os env).set i (some o)
  | _, _, env => env
section
variable (K : PySem.W.Frag) (mg : Str → Option Value) (F : Addr → Prop) (H : Hp)
def RepPs (σ : St) : List PreT → List V → List Addr → Prop
  | [], vs, as => vs = [] ∧ as = []
  | .v t :: r, vs, as => ∃ v ws a1 a2, vs = v :: ws ∧ as = a1 ++ a2 ∧ RepT K mg F H t v a1 ∧ RepPs σ r ws a2
  | .s i :: r, vs, as => ∃ v ws, vs = v :: ws ∧ σ[i]? = some (some v) ∧ RepPs σ r ws as
end
section
variable {K : PySem.W.Frag} {mg : Str → Option Value} {F F' : Addr → Prop} {H H' : Hp}
theorem RepPs.mono (l : Le F H F' H') {σ : St} : ∀ {ts : List PreT} {vs : List V} {as : List Addr}, (∀ b ∈ as, ∀ o, H b = some o → H' b = some o) → RepPs K mg F H σ ts vs as → RepPs K mg F' H' σ ts vs as
  | [], vs, as, k, h => by unfold RepPs at h ⊢; exact h
  | .v t :: e, vs, as, k, h => by
    unfold RepPs at h ⊢
    obtain ⟨v, r, a1, a2, eσ, ea, h1, h2⟩ := h
    exact ⟨v, r, a1, a2, eσ, ea, RepT.mono l (fun b hb => k b (by rw [ea]; exact List.mem_append_left _ hb)) h1, RepPs.mono l (fun b hb => k b (by rw [ea]; exact List.mem_append_right _ hb)) h2⟩
  | .s i :: e, vs, as, k, h => by
    unfold RepPs at h ⊢
    obtain ⟨v, r, eσ, ea, h2⟩ := h
    exact ⟨v, r, eσ, ea, RepPs.mono l k h2⟩
theorem take_rep {σ : St} : ∀ {pres : List PreT} {env env2 : Slots} {ts : List T} {vs : List V} {as at1 : List Addr}, RepE K mg F H env σ as → RepPs K mg F H σ pres vs at1 → takeAll pres env = some (ts, env2) →
    ∃ as2 own, RepE K mg F H env2 σ as2 ∧ RepTs K mg F H ts vs own ∧ (as2 ++ own).Perm (as ++ at1) ∧ env2.length = env.length ∧ ∀ j : Nat, env[j]? = some none → env2[j]? = some none
  | [], env, env2, ts, vs, as, at1, rep, rp, e => by
    unfold takeAll at e
    cases e
    unfold RepPs at rp
    exact ⟨as, [], rep, by unfold RepTs; exact ⟨rp.1, rfl⟩, by rw [rp.2], rfl, fun _ h => h⟩
  | .v t :: r, env, env2, ts, vs, as, at1, rep, rp, e => by
    unfold takeAll at e
    simp only [Option.map_eq_some_iff, Prod.mk.injEq] at e
    obtain ⟨⟨ts', e2⟩, he, rfl, rfl⟩ := e
    unfold RepPs at rp
    obtain ⟨v, ws, a1, a2, rfl, rfl, h1, h2⟩ := rp
    obtain ⟨as2, own, q1, q2, q3, q4, q5⟩ := take_rep rep h2 he
    refine ⟨as2, a1 ++ own, q1, by unfold RepTs; exact ⟨v, ws, a1, own, rfl, rfl, h1, q2⟩, ?_, q4, q5⟩
    rw [← List.append_assoc, ← List.append_assoc]
    refine ((List.Perm.append_right own List.perm_append_comm).trans ?_)
    rw [List.append_assoc]
    refine (List.Perm.append_left a1 q3).trans ?_
    rw [← List.append_assoc]
    exact List.Perm.append_right a2 List.perm_append_comm
  | .s i :: r, env, env2, ts, vs, as, at1, rep, rp, e => by
    unfold takeAll at e
    split at e
    · rename_i t hi
      simp only [Option.map_eq_some_iff, Prod.mk.injEq] at e
      obtain ⟨⟨ts', e2⟩, he, rfl, rfl⟩ := e
      unfold RepPs at rp
      obtain ⟨v, ws, rfl, hσ, h2⟩ := rp
      obtain ⟨l1, a, l2, rfl, g1, _, g3⟩ := rep.at i (List.getElem?_eq_some_iff.mp hi).1
      obtain ⟨v', e1, rt⟩ := g1 t hi
      have ev : v' = v := by rw [hσ] at e1; simpa using e1.symm
      subst ev
      have r2 := (g3 F H (Le.refl F H) fun _ _ _ e => e).2 (some v')
      rw [set_self hσ] at r2
      obtain ⟨as2, own, q1, q2, q3, q4, q5⟩ := take_rep r2 h2 he
      refine ⟨as2, a ++ own, q1, by unfold RepTs; exact ⟨v', ws, a, own, rfl, rfl, rt, q2⟩, ?_, by rw [q4, List.length_set], fun j hj => q5 j ?_⟩
      · rw [← List.append_assoc]
        refine ((List.Perm.append_right own List.perm_append_comm).trans ?_)
        rw [List.append_assoc]
        refine (List.Perm.append_left a q3).trans ?_
        simp only [← List.append_assoc]
        refine List.Perm.append_right _ (List.Perm.append_right _ List.perm_append_comm)
      · by_cases eij : i = j
        · subst eij; rw [hj] at hi; cases hi
        · rw [List.getElem?_set_ne eij]; exact hj
    · cases e
theorem take_none : ∀ {pres : List PreT} {env env2 : Slots} {ts : List T}, takeAll pres env = some (ts, env2) → ∀ j : Nat, (env[j]? = some none → env2[j]? = some none) ∧ (PreT.s j ∈ pres → env2[j]? = some none)
  | [], env, env2, ts, e, j => by
    unfold takeAll at e
    cases e
    exact ⟨fun h => h, fun h => by simp at h⟩
  | .v t :: r, env, env2, ts, e, j => by
    unfold takeAll at e
    simp only [Option.map_eq_some_iff, Prod.mk.injEq] at e
    obtain ⟨⟨ts', e2⟩, he, rfl, rfl⟩ := e
    have := take_none he j
    exact ⟨this.1, fun h => this.2 (by simpa using h)⟩
  | .s i :: r, env, env2, ts, e, j => by
    unfold takeAll at e
    split at e
    · rename_i t hi
      simp only [Option.map_eq_some_iff, Prod.mk.injEq] at e
      obtain ⟨⟨ts', e2⟩, he, rfl, rfl⟩ := e
      have := take_none he j
      refine ⟨fun h => this.1 ?_, fun h => ?_⟩
      · by_cases eij : i = j
        · subst eij; rw [h] at hi; cases hi
        · rw [List.getElem?_set_ne eij]; exact h
      · rcases List.mem_cons.mp h with z | z
        · cases z
          exact this.1 (by rw [List.getElem?_set_self (List.getElem?_eq_some_iff.mp hi).1])
        · exact this.2 z
    · cases e
/-- slots taken are distinct -/
theorem take_nodup : ∀ {pres : List PreT} {env env2 : Slots} {ts : List T}, takeAll pres env = some (ts, env2) → ∀ j : Nat, env[j]? = some none → PreT.s j ∉ pres
  | [], env, env2, ts, e, j, h => by simp
  | .v t :: r, env, env2, ts, e, j, h => by
    unfold takeAll at e
    simp only [Option.map_eq_some_iff, Prod.mk.injEq] at e
    obtain ⟨⟨ts', e2⟩, he, rfl, rfl⟩ := e
    have := take_nodup he j h
    simpa using this
  | .s i :: r, env, env2, ts, e, j, h => by
    unfold takeAll at e
    split at e
    · rename_i t hi
      simp only [Option.map_eq_some_iff, Prod.mk.injEq] at e
      obtain ⟨⟨ts', e2⟩, he, rfl, rfl⟩ := e
      intro hm
      rcases List.mem_cons.mp hm with z | z
      · cases z; rw [h] at hi; cases hi
      · refine take_nodup he j ?_ z
        by_cases eij : i = j
        · subst eij; rw [h] at hi; cases hi
        · rw [List.getElem?_set_ne eij]; exact h
    · cases e
theorem backAll_none : ∀ {pres : List PreT} {outs : List T} {env : Slots} {j : Nat}, PreT.s j ∉ pres → (backAll pres outs env)[j]? = env[j]?
  | [], outs, env, j, h => by simp [backAll]
  | .v t :: r, [], env, j, h => by simp [backAll]
  | .s i :: r, [], env, j, h => by simp [backAll]
  | .v t :: r, o :: os, env, j, h => by
    unfold backAll
    exact backAll_none (by simpa using h)
  | .s i :: r, o :: os, env, j, h => by
    unfold backAll
    rw [List.getElem?_set_ne (by intro e; subst e; simp at h)]
    exact backAll_none fun z => h (List.mem_cons_of_mem _ z)
theorem back_rep {σ : St} : ∀ {pres : List PreT} {env env0 : Slots} {ts outs : List T} {vs : List V} {as own at1 : List Addr} {F0 : Addr → Prop} {H0 : Hp}, RepE K mg F H env σ as → RepPs K mg F0 H0 σ pres vs at1 → RepTs K mg F H outs vs own → takeAll pres env0 = some (ts, env) →
    ∃ as2, RepE K mg F H (backAll pres outs env) σ as2 ∧ as2.Sublist as2 ∧ (∀ b ∈ as2, b ∈ as ++ own) ∧ ((as ++ own).Nodup → as2.Nodup)
  | [], env, env0, ts, outs, vs, as, own, at1, F0, H0, rep, rp, ro, he => by
    refine ⟨as, ?_, List.Sublist.refl _, fun b hb => List.mem_append_left _ hb, fun nd => (List.nodup_append.mp nd).1⟩
    cases outs <;> (unfold backAll; exact rep)
  | .v t :: r, env, env0, ts, outs, vs, as, own, at1, F0, H0, rep, rp, ro, he => by
    unfold takeAll at he
    simp only [Option.map_eq_some_iff, Prod.mk.injEq] at he
    obtain ⟨⟨ts', e2⟩, he, rfl, rfl⟩ := he
    unfold RepPs at rp
    obtain ⟨v, ws, a1, a2, rfl, rfl, h1, h2⟩ := rp
    cases outs with
    | nil => unfold RepTs at ro; exact nomatch ro.1
    | cons o os =>
      unfold RepTs at ro
      obtain ⟨v', ws', b1, b2, e, rfl, q1, q2⟩ := ro
      cases e
      obtain ⟨as2, r2, s1, s2, s3⟩ := back_rep rep h2 q2 he
      refine ⟨as2, by unfold backAll; exact r2, List.Sublist.refl _, fun b hb => ?_, fun nd => s3 ?_⟩
      · rcases List.mem_append.mp (s2 b hb) with z | z
        · exact List.mem_append_left _ z
        · exact List.mem_append_right _ (List.mem_append_right _ z)
      · exact List.Sublist.nodup (List.Sublist.append (List.Sublist.refl _) (List.sublist_append_right _ _)) nd
  | .s i :: r, env, env0, ts, outs, vs, as, own, at1, F0, H0, rep, rp, ro, he => by
    have hnone := (take_none he i).2 (by simp)
    unfold takeAll at he
    split at he
    · rename_i t hi
      simp only [Option.map_eq_some_iff, Prod.mk.injEq] at he
      obtain ⟨⟨ts', e2⟩, he, rfl, rfl⟩ := he
      unfold RepPs at rp
      obtain ⟨v, ws, rfl, hσ, h2⟩ := rp
      cases outs with
      | nil => unfold RepTs at ro; exact nomatch ro.1
      | cons o os =>
        unfold RepTs at ro
        obtain ⟨v', ws', b1, b2, e, rfl, q1, q2⟩ := ro
        cases e
        obtain ⟨as2, r2, s1, s2, s3⟩ := back_rep rep h2 q2 he
        have ni : PreT.s i ∉ r := take_nodup he i (by rw [List.getElem?_set_self (List.getElem?_eq_some_iff.mp hi).1])
        have hn2 : (backAll r os e2)[i]? = some none := by rw [backAll_none ni]; exact hnone
        obtain ⟨l1, a, l2, rfl, _, g2, g3⟩ := r2.at i (List.getElem?_eq_some_iff.mp hn2).1
        have ea := g2 hn2
        subst ea
        have r3 := (g3 F H (Le.refl F H) fun _ _ _ e => e).1 o v b1 q1
        rw [set_self hσ] at r3
        refine ⟨l1 ++ (b1 ++ l2), by unfold backAll; exact r3, List.Sublist.refl _, fun b hb => ?_, fun nd => ?_⟩
        · have : b ∈ l1 ++ ([] ++ l2) ∨ b ∈ b1 := by
            simp only [List.mem_append] at hb ⊢
            rcases hb with z | z | z
            · exact .inl (.inl z)
            · exact .inr z
            · exact .inl (.inr (.inr z))
          rcases this with z | z
          · rcases List.mem_append.mp (s2 b z) with y | y
            · exact List.mem_append_left _ y
            · exact List.mem_append_right _ (List.mem_append_right _ y)
          · exact List.mem_append_right _ (List.mem_append_left _ z)
        · have nd1 : (as ++ b2).Nodup := List.Sublist.nodup (List.Sublist.append (List.Sublist.refl _) (List.sublist_append_right _ _)) nd
          have nda := s3 nd1
          have ndb : b1.Nodup := (List.nodup_append.mp (List.nodup_append.mp nd).2.1).1
          have dis : ∀ x ∈ l1 ++ ([] ++ l2), ∀ y ∈ b1, x ≠ y := fun x hx y hy exy => by
            subst exy
            have nd' := List.nodup_append.mp nd
            rcases List.mem_append.mp (s2 x hx) with z | z
            · exact nd'.2.2 x z x (List.mem_append_left _ hy) rfl
            · exact (List.nodup_append.mp nd'.2.1).2.2 x hy x z rfl
          have full : ((l1 ++ ([] ++ l2)) ++ b1).Nodup := List.nodup_append.mpr ⟨nda, ndb, dis⟩
          exact nodup3 full
    · cases he
end
section
variable {X : Cx} {W : WX} {e : Expr} {es : List Expr} {m : M T} {μ : M (List PreT)}
theorem RepPs.length {K mg F H σ} : ∀ {ps : List PreT} {vs : List V} {as : List Addr}, RepPs K mg F H σ ps vs as → vs.length = ps.length
  | [], vs, as, h => by unfold RepPs at h; rw [h.1]; rfl
  | .v t :: r, vs, as, h => by
    unfold RepPs at h
    obtain ⟨v, ws, a1, a2, rfl, _, _, h2⟩ := h
    rw [List.length_cons, List.length_cons, RepPs.length h2]
  | .s i :: r, vs, as, h => by
    unfold RepPs at h
    obtain ⟨v, ws, rfl, _, h2⟩ := h
    rw [List.length_cons, List.length_cons, RepPs.length h2]
def PoP (X : Cx) (W : WX) (F : Addr → Prop) (H : Hp) (as : List Addr) (σ : St) (Q : List V → Hp → Prop) : Out (List PreT) → Prop
  | .ok ts env' => ∀ F' H' vs as' at', Go ⟨F, H, as⟩ ⟨F', H', as' ++ at'⟩ → RepE X.K X.mg F' H' env' σ as' → RepPs X.K X.mg F' H' σ ts vs at' → Q vs H'
  | .ex x env' => ∀ F' H' as' cls d, Go ⟨F, H, as⟩ ⟨F', H', as'⟩ → RepE X.K X.mg F' H' env' σ as' → RepX X.K X.mg F' H' x cls d → W cls d σ H'
  | .no => False
def tP (X : Cx) (W : WX) (m : M (List PreT)) : TA := fun σ H Q => ∃ F env as, Wd.Ok ⟨F, H, as⟩ ∧ RepE X.K X.mg F H env σ as ∧ PoP X W F H as σ Q (m env)
def pnil : M (List PreT) := fun env => .ok [] env
def pval (m : M T) (r : M (List PreT)) : M (List PreT) := m.bind fun t => r.bind fun ts => fun env => .ok (.v t :: ts) env
def pslot (i : Nat) (r : M (List PreT)) : M (List PreT) := fun env => match env[i]? with
  | some (some _) => (r.bind fun ts => fun env => .ok (.s i :: ts) env) env
  | _ => .no
theorem mp_nil : PA X [] (tP X W pnil) := pa_imp pa_nil fun σ H Q ⟨F, env, as, ok, rep, post⟩ => by
  exact post F H [] as [] (Go.refl ok).nil rep (by unfold RepPs; exact ⟨rfl, rfl⟩)
theorem mp_val (ha : PE X e (tE X W m)) (hr : PA X es (tP X W μ)) (hs : starEach (e :: es) X.env = (false, eval e X.env) :: starEach es X.env := by rfl) : PA X (e :: es) (tP X W (pval m μ)) :=
  pa_imp (pa_cons ha hr hs) fun σ H Q ⟨F, env, as, ok, rep, post⟩ => by
  refine ⟨F, env, as, ok, rep, ?_⟩
  unfold pval M.bind at post
  cases h1 : m env with
  | no => rw [h1] at post; exact post
  | ex x e1 => rw [h1] at post; exact post
  | ok x e1 =>
    rw [h1] at post
    intro F1 H1 v1 as1 at1 g1 rep1 rt1
    refine ⟨F1, e1, as1, g1.ok.left, rep1, ?_⟩
    dsimp only at post
    cases h2 : μ e1 with
    | no => rw [h2] at post; exact post
    | ex x e2 =>
      rw [h2] at post
      intro F2 H2 as2 cls d g2 rep2 rx
      exact post F2 H2 as2 cls d (g1.next g2).left rep2 rx
    | ok y e2 =>
      rw [h2] at post
      intro F2 H2 v2 as2 at2 g2 rep2 rt2
      have g12 := g1.next g2
      rw [List.append_assoc] at g12
      have nd2 : (as2 ++ (at1 ++ at2)).Nodup := (List.Perm.nodup_iff (List.Perm.append_left _ List.perm_append_comm)).mp g12.ok.nd
      refine post F2 H2 (v1 :: v2) as2 (at1 ++ at2) (g12.sub nd2 fun b hb => ?_) rep2 ?_
      · simp only [List.mem_append] at hb ⊢
        rcases hb with z | z | z
        · exact .inl z
        · exact .inr (.inr z)
        · exact .inr (.inl z)
      · unfold RepPs
        exact ⟨v1, v2, at1, at2, rfl, rfl, rt1.next g1 g2, rt2⟩
theorem mp_slot {i : Nat} (ha : PE X e (tVar i)) (hr : PA X es (tP X W μ)) (hs : starEach (e :: es) X.env = (false, eval e X.env) :: starEach es X.env := by rfl) : PA X (e :: es) (tP X W (pslot i μ)) :=
  pa_imp (pa_cons ha hr hs) fun σ H Q ⟨F, env, as, ok, rep, post⟩ => by
  unfold pslot at post
  split at post
  · rename_i t hi
    obtain ⟨l1, a, l2, ea, g1, _, _⟩ := rep.at i (List.getElem?_eq_some_iff.mp hi).1
    obtain ⟨v, hσ, r⟩ := g1 t hi
    refine ⟨v, hσ, F, env, as, ok, rep, ?_⟩
    unfold M.bind at post
    cases h1 : μ env with
    | no => rw [h1] at post; exact post
    | ex x e1 => rw [h1] at post; exact post
    | ok ts e1 =>
      rw [h1] at post
      exact fun F1 H1 vs as1 at1 g1 rep1 rt1 => post F1 H1 (v :: vs) as1 at1 g1 rep1 (by unfold RepPs; exact ⟨v, vs, rfl, hσ, rt1⟩)
  · exact post.elim
/-! a call that may change what is lent; nothing is raised -/
def mCall (f : List T → FRes) (μ : M (List PreT)) : M T := μ.bind fun pres => fun env => match takeAll pres env with
  | some (ts, e2) => match f ts with
    | .ok t outs => .ok t (backAll pres outs e2)
    | _ => .no
  | none => .no
theorem me_call {n : Nat} {f : List T → FRes} {E : XK} (h : PE X e (tCall (spM X.K X.mg n f) [] E (tP X W μ))) (hn : ∀ env pres e1, μ env = .ok pres e1 → pres.length = n) : PE X e (tE X W (mCall f μ)) := pe_imp h fun σ H Q ⟨F, env, as, ok, rep, post⟩ => by
  refine ⟨F, env, as, ok, rep, ?_⟩
  unfold mCall M.bind at post
  cases h1 : μ env with
  | no => rw [h1] at post; exact post
  | ex x e1 => rw [h1] at post; exact post
  | ok pres e1 =>
    rw [h1] at post
    intro F1 H1 vs as1 at1 g1 rep1 rp1
    dsimp only at post
    cases ht : takeAll pres e1 with
    | none => rw [ht] at post; exact post.elim
    | some p =>
      obtain ⟨ts, e2⟩ := p
      rw [ht] at post
      dsimp only at post
      obtain ⟨as2, own, rep2, rts, pm, _, _⟩ := take_rep rep1 rp1 ht
      have g1' : Go ⟨F, H, as⟩ ⟨F1, H1, as2 ++ own⟩ := g1.sub (pm.nodup_iff.mpr g1.ok.nd) fun b hb => pm.mem_iff.mp hb
      have okc : Wd.Ok ⟨F1, H1, own⟩ := g1'.ok.sub (List.nodup_append.mp g1'.ok.nd).2.1 fun b hb => List.mem_append_right _ hb
      have hlen : (vs ++ ([] : List V)).length = n := by
        rw [List.append_nil, rp1.length, hn env pres e1 h1]
      refine ⟨hlen, F1, ts, own, okc, by rw [List.append_nil]; exact rts, ?_⟩
      cases hf : f ts with
      | no => rw [hf] at post; exact post.elim
      | ex x outs => rw [hf] at post; exact post.elim
      | ok t outs =>
        rw [hf] at post
        dsimp only at post
        intro F2 H2 v as' at' g2 ro rt
        rw [List.append_nil] at ro
        -- the rest of the slots is kept
        have ok12 : Wd.Ok ⟨F1, H1, own ++ as2⟩ := g1'.ok.sub (List.perm_append_comm.nodup_iff.mp g1'.ok.nd) fun b hb => List.perm_append_comm.mem_iff.mp hb
        have g3 := g2.ctx ok12
        have keep2 : ∀ b ∈ as2, ∀ o, H1 b = some o → H2 b = some o := fun b hb o e => g2.keep b o e fun z => (List.nodup_append.mp g1'.ok.nd).2.2 b hb b z rfl
        have rep3 := rep2.mono (g2.le okc) keep2
        obtain ⟨as3, rep4, _, sub, nd⟩ := back_rep rep3 rp1 ro ht
        have full : ((as' ++ at') ++ as2).Nodup := g3.ok.nd
        have nd0 : (as2 ++ as').Nodup := by
          have : (as2 ++ (as' ++ at')).Nodup := List.perm_append_comm.nodup_iff.mp full
          exact List.Sublist.nodup (List.Sublist.append (List.Sublist.refl _) (List.sublist_append_left _ _)) this
        refine post F2 H2 v as3 at' (Go.sub ((g1'.src (fun b hb => hb)).trans (g3.src (l' := as2 ++ own) fun b hb => List.perm_append_comm.mem_iff.mp hb)) ?_ fun b hb => ?_) rep4 rt
        · refine List.nodup_append.mpr ⟨nd nd0, (List.nodup_append.mp (List.nodup_append.mp full).1).2.1, fun x hx y hy e => ?_⟩
          subst e
          rcases List.mem_append.mp (sub x hx) with z | z
          · exact (List.nodup_append.mp full).2.2 x (List.mem_append_right _ hy) x z rfl
          · exact (List.nodup_append.mp (List.nodup_append.mp full).1).2.2 x z x hy rfl
        · rcases List.mem_append.mp hb with z | z
          · rcases List.mem_append.mp (sub b z) with y | y
            · exact List.mem_append_right _ y
            · exact List.mem_append_left _ (List.mem_append_left _ y)
          · exact List.mem_append_left _ (List.mem_append_right _ z)
end
end Mir

set_option maxHeartbeats 1000000
/-! Mir12: calls that read; defs. -/
namespace Mir
open PySem L2
open PyProof.Rows hiding St

def PLen (μ : M (List PreT)) (n : Nat) : Prop := ∀ env pres e1, μ env = .ok pres e1 → pres.length = n
theorem PLen.nil : PLen pnil 0 := fun env pres e1 h => by unfold pnil at h; cases h; rfl
theorem PLen.val {m μ n} (h : PLen μ n) : PLen (pval m μ) (n + 1) := fun env pres e1 e => by
  unfold pval M.bind at e
  split at e
  · dsimp only at e
    split at e
    · cases e
      rename_i h2
      rw [List.length_cons, h _ _ _ h2]
    · cases e
    · cases e
  · cases e
  · cases e
theorem PLen.slot {i μ n} (h : PLen μ n) : PLen (pslot i μ) (n + 1) := fun env pres e1 e => by
  unfold pslot M.bind at e
  split at e
  · dsimp only at e
    split at e
    · cases e
      rename_i h2
      rw [List.length_cons, h _ _ _ h2]
    · cases e
    · cases e
  · cases e
def RLen (ρ : Rd (List T)) (n : Nat) : Prop := ∀ env ts, ρ env = some ts → ts.length = n
theorem RLen.nil : RLen rnil 0 := fun env ts h => by unfold rnil at h; cases h; rfl
theorem RLen.cons {a b n} (h : RLen b n) : RLen (rcons a b) (n + 1) := fun env ts e => by
  unfold rcons at e
  simp only [Option.bind_eq_some_iff, Option.map_eq_some_iff] at e
  obtain ⟨x, hx, y, hy, rfl⟩ := e
  rw [List.length_cons, h _ _ hy]
mutual
/-- no list, no instance within -/
def D.noRef : D → Bool
  | .lst _ => false
  | .obj _ _ => false
  | .scr _ => false
  | .tup xs => D.noRefs xs
  | _ => true
def D.noRefs : List D → Bool
  | [] => true
  | x :: xs => D.noRef x && D.noRefs xs
end
section
variable {K : PySem.W.Frag} {mg : Str → Option Value} {F F' : Addr → Prop} {H : Hp}
mutual
theorem Rep.noRef (h : ∀ a vs, F a → SqT K H a vs → F' a ∨ SqT K (fun _ => none) a vs) : ∀ {d : D} {v : V}, d.noRef = true → Rep K mg F H d v → Rep K mg F' H d v
  | .non, v, _, r => by unfold Rep at r ⊢; exact r
  | .bl _, v, _, r => by unfold Rep at r ⊢; exact r
  | .int _, v, _, r => by unfold Rep at r ⊢; exact r
  | .str _, v, _, r => by unfold Rep at r ⊢; exact r
  | .ty _, v, _, r => by unfold Rep at r ⊢; exact r
  | .cls _, v, _, r => by unfold Rep at r ⊢; exact r
  | .tup xs, v, n, r => by
    unfold Rep at r ⊢
    obtain ⟨a, vs, e, f, q⟩ := r
    refine ⟨a, vs, e, ⟨f.1, ?_⟩, Reps.noRef h (by simpa [D.noRef] using n) q⟩
    rcases f.2 with z | z
    · exact h a vs z f.1
    · exact .inr z
  | .lst xs, v, n, r => by simp [D.noRef] at n
  | .obj c fs, v, n, r => by simp [D.noRef] at n
  | .scr xs, v, n, r => by simp [D.noRef] at n
theorem Reps.noRef (h : ∀ a vs, F a → SqT K H a vs → F' a ∨ SqT K (fun _ => none) a vs) : ∀ {ds : List D} {vs : List V}, D.noRefs ds = true → Reps K mg F H ds vs → Reps K mg F' H ds vs
  | [], vs, _, r => by unfold Reps at r ⊢; exact r
  | d :: ds, vs, n, r => by
    simp only [D.noRefs, Bool.and_eq_true] at n
    unfold Reps at r ⊢
    obtain ⟨v, ws, e, h1, h2⟩ := r
    exact ⟨v, ws, e, Rep.noRef h n.1 h1, Reps.noRef h n.2 h2⟩
end
mutual
/-- what is owned is a list or an instance -/
theorem RepT.owned : ∀ {t : T} {v : V} {as : List Addr}, RepT K mg F H t v as → ∀ b ∈ as, (∃ xs, H b = some (.lst xs)) ∨ ∃ C dx fs, H b = some (.ins C dx fs)
  | .pl d, v, as, r, b, hb => by unfold RepT at r; rw [r.1] at hb; simp at hb
  | .ol xs, v, as, r, b, hb => by
    unfold RepT at r
    obtain ⟨a, vs, rfl, rfl, hh, _⟩ := r
    simp at hb; subst hb
    exact .inl ⟨vs, hh⟩
  | .oo c fs, v, as, r, b, hb => by
    unfold RepT at r
    obtain ⟨a, C, dx, vs, r, rfl, rfl, hh, _, q⟩ := r
    rcases List.mem_cons.mp hb with z | z
    · subst z; exact .inr ⟨C, dx, vs, hh⟩
    · exact RepTF.owned q b z
theorem RepTF.owned : ∀ {ts : List (Str × T)} {vs : List (Str × V)} {as : List Addr}, RepTF K mg F H ts vs as → ∀ b ∈ as, (∃ xs, H b = some (.lst xs)) ∨ ∃ C dx fs, H b = some (.ins C dx fs)
  | [], vs, as, r, b, hb => by unfold RepTF at r; rw [r.2] at hb; simp at hb
  | (x, t) :: ts, vs, as, r, b, hb => by
    unfold RepTF at r
    obtain ⟨v, ws, a1, a2, _, rfl, h1, h2⟩ := r
    rcases List.mem_append.mp hb with z | z
    · exact RepT.owned h1 b z
    · exact RepTF.owned h2 b z
end
theorem RepTs.owned : ∀ {ts : List T} {vs : List V} {as : List Addr}, RepTs K mg F H ts vs as → ∀ b ∈ as, (∃ xs, H b = some (.lst xs)) ∨ ∃ C dx fs, H b = some (.ins C dx fs)
  | [], vs, as, r, b, hb => by unfold RepTs at r; rw [r.2] at hb; simp at hb
  | t :: ts, vs, as, r, b, hb => by
    unfold RepTs at r
    obtain ⟨v, ws, a1, a2, _, rfl, h1, h2⟩ := r
    rcases List.mem_append.mp hb with z | z
    · exact RepT.owned h1 b z
    · exact RepTs.owned h2 b z
theorem RepTs.fzAll : ∀ {ts : List T} {vs : List V} {as : List Addr}, RepTs K mg F H ts vs as → (∀ b ∈ as, F b) → RepTs K mg F H (ts.map fz) vs []
  | [], vs, as, r, k => by unfold RepTs at r; rw [List.map_nil]; unfold RepTs; exact ⟨r.1, rfl⟩
  | t :: ts, vs, as, r, k => by
    unfold RepTs at r
    obtain ⟨v, ws, a1, a2, e, rfl, h1, h2⟩ := r
    rw [List.map_cons]
    unfold RepTs
    exact ⟨v, ws, [], [], e, rfl, RepT.plI (RepT.frz h1 fun b hb => k b (List.mem_append_left _ hb)), RepTs.fzAll h2 fun b hb => k b (List.mem_append_right _ hb)⟩
end
/-- a call that only reads -/
def rCall (f : List T → FRes) (ρ : Rd (List T)) : Rd T := fun env => (ρ env).bind fun ts => match f (ts.map fz) with
  | .ok t _ => if ((plains ts).isSome || t.frz.noRef) = true then some (fz t) else none
  | _ => none
section
variable {X : Cx} {e : Expr} {ρ : Rd (List T)}
theorem re_call {n : Nat} {f : List T → FRes} {E : XK} (h : PE X e (tCall (spM X.K X.mg n f) [] E (tRA X ρ))) (hn : RLen ρ n) : PE X e (tR X (rCall f ρ)) := pe_imp h fun σ H Q ⟨F, env, as, ok, rep, t, hm, post⟩ => by
  unfold rCall at hm
  simp only [Option.bind_eq_some_iff] at hm
  obtain ⟨ts, hts, h2⟩ := hm
  split at h2
  rotate_left
  · cases h2
  rename_i u outs hf
  split at h2
  rotate_left
  · cases h2
  rename_i hc
  cases h2
  refine ⟨F, env, as, ok, rep, ts, hts, fun F1 H1 vs at1 g1 rts s1 => ?_⟩
  have hlen : (vs ++ ([] : List V)).length = n := by rw [List.append_nil, rts.length, hn env ts hts]
  -- the callee's world
  have ok1 := g1.ok
  have okc : Wd.Ok ⟨fun b => F1 b ∨ b ∈ at1, H1, []⟩ := ⟨List.nodup_nil, by simp, by simp, fun b hb => hb.elim (ok1.fs b) fun z => ok1.so b (s1 b z)⟩
  have rts' := (rts.mono (F' := fun b => F1 b ∨ b ∈ at1) ⟨fun _ h => .inl h, fun _ _ _ e => e⟩ fun _ _ _ e => e).fzAll fun b hb => .inr hb
  refine ⟨hlen, _, ts.map fz, [], okc, by rw [List.append_nil]; exact rts', ?_⟩
  rw [hf]
  intro F2 H2 v as' at2 g2 ro rt
  have g3 := g2.fzr
  have all2 : ∀ b o, H1 b = some o → H2 b = some o := fun b o e => g2.keep b o e (by simp)
  have rv : Rep X.K X.mg (fun b => F2 b ∨ b ∈ at2) H2 u.frz v := rt.fzr
  have own1 := rts.owned
  -- the caller's world
  have hG : GoR ⟨F1, H1, as⟩ ⟨fun b => (F2 b ∨ b ∈ at2) ∧ b ∉ at1, H2, as⟩ := by
    refine ⟨⟨fun b o e _ => all2 b o e, fun b hb => ⟨g3.grow b (.inl hb), fun z => ok1.nf b (s1 b z) hb⟩, fun b hb => ?_, fun b hb => .inl hb, ?_⟩, all2⟩
    · rcases g3.newF b hb.1 with z | z | z
      · rcases z with z | z
        · exact .inl z
        · exact absurd z hb.2
      · simp at z
      · exact .inr (.inr z)
    · refine ⟨ok1.nd, fun b hb hF => ?_, fun b hb => ?_, fun b hF => g3.ok.fs b hF.1⟩
      · rcases g3.newF b hF.1 with z | z | z
        · rcases z with z | z
          · exact ok1.nf b hb z
          · exact hF.2 z
        · simp at z
        · exact ok1.so b hb z
      · obtain ⟨o, e⟩ := some_of_ne (ok1.so b hb)
        have e2 : H2 b = some o := all2 b o e
        show H2 b ≠ none
        rw [e2]; exact fun q => nomatch q
  refine post _ H2 v [] (g1.trans hG) (RepT.plI ?_) (by simp)
  simp only [Bool.or_eq_true] at hc
  rcases hc with hc | hc
  · obtain ⟨ds, hds⟩ := Option.isSome_iff_exists.mp hc
    obtain ⟨rfl, _⟩ := rts.plains hds
    exact rv.mono ⟨fun b hb => ⟨hb, by simp⟩, fun _ _ _ e => e⟩
  · refine rv.noRef (fun a ws hF hs => ?_) hc
    by_cases ha : a ∈ at1
    · rcases hs with (z | ⟨o, z⟩) | z
      · rcases own1 a ha with ⟨xs, e⟩ | ⟨C, dx, fs, e⟩
        · rw [all2 a _ e] at z; cases z
        · rw [all2 a _ e] at z; cases z
      · rcases own1 a ha with ⟨xs, e⟩ | ⟨C, dx, fs, e⟩
        · rw [all2 a _ e] at z; cases z
        · rw [all2 a _ e] at z; cases z
      · exact .inr (.inr z)
    · exact .inl ⟨hF, ha⟩
end

/-- an assignment's value, by what it computes -/
theorem asg_imp {X : Cx} {st : Stmt} {t u : TE} {g : TG} (h : PS X st (tAsg t g)) (i : ∀ {σ H Q}, u σ H Q → t σ H Q) : PS X st (tAsg u g) := ps_imp h fun D σ H q => i q
/-! ### defs -/
def ownOk (fx : List Nat) : Nat → List T → Bool
  | _, [] => true
  | k, .pl _ :: ts => ownOk fx (k + 1) ts
  | k, _ :: ts => fx.contains k && ownOk fx (k + 1) ts
def outsOf : List T → Slots → Option (List T)
  | [], _ => some []
  | .pl d :: ts, _ :: env => (outsOf ts env).map (.pl d :: ·)
  | _ :: ts, some t :: env => (outsOf ts env).map (t :: ·)
  | _, _ => none
def mkFn (n : Nat) (fx : List Nat) (body : MS) (args : List T) : FRes :=
  if ownOk fx 0 args = true then match body (args.map some ++ List.replicate (n - args.length) none) with
    | .ok (.rt t) env => match outsOf args env with
      | some outs => .ok t outs
      | none => .no
    | .ok .nx env => match outsOf args env with
      | some outs => .ok (.pl .non) outs
      | none => .no
    | _ => .no
  else .no
section
variable {K : PySem.W.Frag} {mg : Str → Option Value} {F F' : Addr → Prop} {H H' : Hp}
theorem start_rep : ∀ {ts : List T} {vs : List V} {as : List Addr} (k : Nat), RepTs K mg F H ts vs as → RepE K mg F H (ts.map some ++ List.replicate k none) (vs.map some ++ List.replicate k none) as
  | [], vs, as, k, r => by
    unfold RepTs at r
    obtain ⟨rfl, rfl⟩ := r
    simp only [List.map_nil, List.nil_append]
    induction k with
    | zero => simp only [List.replicate_zero]; unfold RepE; exact ⟨rfl, rfl⟩
    | succ k ih => simp only [List.replicate_succ]; unfold RepE; exact ⟨none, _, rfl, ih⟩
  | t :: ts, vs, as, k, r => by
    unfold RepTs at r
    obtain ⟨v, ws, a1, a2, rfl, rfl, h1, h2⟩ := r
    simp only [List.map_cons, List.cons_append]
    unfold RepE
    exact ⟨v, _, a1, a2, rfl, rfl, h1, start_rep k h2⟩
theorem outs_rep {fx : List Nat} : ∀ {ts outs : List T} {env : Slots} {σ : St} {vs : List V} {as as0 : List Addr} {k : Nat}, RepE K mg F' H' env σ as → RepTs K mg F H ts vs as0 → Le F H F' H' → ownOk fx k ts = true →
    (∀ i, k + i ∈ fx → i < vs.length → σ[i]? = (vs[i]?).map some) → outsOf ts env = some outs → ∃ as', as'.Sublist as ∧ RepTs K mg F' H' outs vs as'
  | [], outs, env, σ, vs, as, as0, k, rep, r, le, ho, hs, e => by
    unfold outsOf at e
    cases e
    unfold RepTs at r
    exact ⟨[], List.nil_sublist _, by unfold RepTs; exact ⟨r.1, rfl⟩⟩
  | .pl d :: ts, outs, env, σ, vs, as, as0, k, rep, r, le, ho, hs, e => by
    cases env with
    | nil => unfold outsOf at e; cases e
    | cons o env =>
      unfold outsOf at e
      simp only [Option.map_eq_some_iff] at e
      obtain ⟨os, he, rfl⟩ := e
      unfold RepTs at r
      obtain ⟨v, ws, a1, a2, rfl, rfl, h1, h2⟩ := r
      have rd : Rep K mg F' H' d v := by unfold RepT at h1; exact h1.2.mono le
      have tail : ∃ σ' as', σ = σ[0]?.join :: σ' ∧ as'.Sublist as ∧ RepE K mg F' H' env σ' as' := by
        cases o with
        | none => unfold RepE at rep; obtain ⟨o', r', rfl, q⟩ := rep; exact ⟨r', as, by simp, List.Sublist.refl _, q⟩
        | some t => unfold RepE at rep; obtain ⟨v', r', b1, b2, rfl, rfl, _, q⟩ := rep; exact ⟨r', b2, by simp, List.sublist_append_right _ _, q⟩
      obtain ⟨σ', as1, eσ, sub, rep'⟩ := tail
      obtain ⟨as', s1, q⟩ := outs_rep (k := k + 1) rep' h2 le (by unfold ownOk at ho; exact ho) (fun i hi hl => by
        have := hs (i + 1) (by rw [← Nat.add_assoc, Nat.add_right_comm]; exact hi) (by simp; omega)
        rw [eσ] at this
        simpa using this) he
      exact ⟨as', s1.trans sub, by unfold RepTs; exact ⟨v, ws, [], as', rfl, rfl, RepT.plI rd, q⟩⟩
  | .ol xs :: ts, outs, env, σ, vs, as, as0, k, rep, r, le, ho, hs, e => by
    cases env with
    | nil => unfold outsOf at e; cases e
    | cons o env =>
      cases o with
      | none => unfold outsOf at e; cases e
      | some t =>
        unfold outsOf at e
        simp only [Option.map_eq_some_iff] at e
        obtain ⟨os, he, rfl⟩ := e
        unfold RepTs at r
        obtain ⟨v, ws, a1, a2, rfl, rfl, h1, h2⟩ := r
        unfold RepE at rep
        obtain ⟨v', r', b1, b2, rfl, rfl, q1, q2⟩ := rep
        unfold ownOk at ho
        simp only [Bool.and_eq_true, List.contains_iff_mem] at ho
        have ev := hs 0 (by simpa using ho.1) (by simp)
        simp at ev
        subst ev
        obtain ⟨as', s1, q⟩ := outs_rep (k := k + 1) q2 h2 le ho.2 (fun i hi hl => by
          have := hs (i + 1) (by rw [← Nat.add_assoc, Nat.add_right_comm]; exact hi) (by simp; omega)
          simpa using this) he
        exact ⟨b1 ++ as', List.Sublist.append (List.Sublist.refl _) s1, by unfold RepTs; exact ⟨v', ws, b1, as', rfl, rfl, q1, q⟩⟩
  | .oo c fs :: ts, outs, env, σ, vs, as, as0, k, rep, r, le, ho, hs, e => by
    cases env with
    | nil => unfold outsOf at e; cases e
    | cons o env =>
      cases o with
      | none => unfold outsOf at e; cases e
      | some t =>
        unfold outsOf at e
        simp only [Option.map_eq_some_iff] at e
        obtain ⟨os, he, rfl⟩ := e
        unfold RepTs at r
        obtain ⟨v, ws, a1, a2, rfl, rfl, h1, h2⟩ := r
        unfold RepE at rep
        obtain ⟨v', r', b1, b2, rfl, rfl, q1, q2⟩ := rep
        unfold ownOk at ho
        simp only [Bool.and_eq_true, List.contains_iff_mem] at ho
        have ev := hs 0 (by simpa using ho.1) (by simp)
        simp at ev
        subst ev
        obtain ⟨as', s1, q⟩ := outs_rep (k := k + 1) q2 h2 le ho.2 (fun i hi hl => by
          have := hs (i + 1) (by rw [← Nat.add_assoc, Nat.add_right_comm]; exact hi) (by simp; omega)
          simpa using this) he
        exact ⟨b1 ++ as', List.Sublist.append (List.Sublist.refl _) s1, by unfold RepTs; exact ⟨v', ws, b1, as', rfl, rfl, q1, q⟩⟩
end
section
variable {P : Program} {w : World} {K : PySem.W.Frag} {mg : Str → Option Value} {base : Heap}
/-- a def keeps its mirror's promise (nothing is raised) -/
theorem fn_mir {x qual : Str} {st : Stmt} {f : Addr} {fd : FuncData} {N ps : List Str} {k : Nat} {fx : List Nat} {body : MS} (Fn : Fun K x qual st f fd) (S : FnScope N ps (defScope st))
    (hb : ∀ (cdv : Value) (A : Around) (outer : List Env) (s : Shared) (H : Hp) (E : XK), Room k (A.deeper (envOfC qual (defScope st) s.heap.objs.size f cdv)) →
      PSs (cxOf CX0 P w K mg base N qual (defScope st) f cdv A outer s H E).nox (defBody st) (tS (cxOf CX0 P w K mg base N qual (defScope st) f cdv A outer s H E).nox W0 fx body)) :
    FnOk P w K mg base CX0 (k + 1) f fd ps (spM K mg ps.length (mkFn N.length fx body)) := by
  refine Fn.ok S (fun vs H Q E h => h.1) (fun cdv A outer s H vs Q E hr h => ?_)
  obtain ⟨hlen, F, ts, as, ok, rts, post⟩ := h
  refine ⟨tS (cxOf CX0 P w K mg base N qual (defScope st) f cdv A outer s H E).nox W0 fx body, hb cdv A outer s H E hr, ?_⟩
  have hl : ts.length = vs.length := rts.length.symm
  unfold mkFn at post
  split at post
  rotate_left
  · exact post.elim
  rename_i hown
  refine ⟨F, ts.map some ++ List.replicate (N.length - ts.length) none, as, ok, ?_, ?_⟩
  · unfold L2.start
    rw [← hl]
    exact start_rep _ rts
  · have fxs : ∀ {σ' : St}, (∀ i ∈ fx, σ'[i]? = (L2.start N vs)[i]?) → ∀ i, 0 + i ∈ fx → i < vs.length → σ'[i]? = (vs[i]?).map some := fun {σ'} h i hi hlt => by
      rw [h i (by simpa using hi)]
      unfold L2.start
      rw [List.getElem?_append_left (by simpa using hlt), List.getElem?_map]
    cases hbd : body (ts.map some ++ List.replicate (N.length - ts.length) none) with
    | no => rw [hbd] at post; exact post.elim
    | ex y env' =>
      rw [hbd] at post
      exact post.elim
    | ok fl env' =>
      rw [hbd] at post
      cases fl with
      | nx =>
        dsimp only at post
        intro F' H' σ' as' hσ g rep
        cases ho : outsOf ts env' with
        | none => rw [ho] at post; exact post.elim
        | some outs =>
          rw [ho] at post
          obtain ⟨as2, sub, ro⟩ := outs_rep rep rts (g.le ok) hown (fxs hσ) ho
          exact post F' H' .non as2 [] (g.sub (by simpa using sub.nodup g.ok.nd) fun b hb => sub.subset (by simpa using hb)) ro (RepT.plI Rep.nonI)
      | bk => exact post.elim
      | ct => exact post.elim
      | rt t =>
        dsimp only at post
        intro F' H' σ' v as' at' hσ g rep rt
        cases ho : outsOf ts env' with
        | none => rw [ho] at post; exact post.elim
        | some outs =>
          rw [ho] at post
          obtain ⟨as2, sub, ro⟩ := outs_rep rep rts (g.le ok) hown (fxs hσ) ho
          refine post F' H' v as2 at' (g.sub ((List.Sublist.append sub (List.Sublist.refl _)).nodup g.ok.nd) fun b hb => ?_) ro rt
          rcases List.mem_append.mp hb with z | z
          · exact List.mem_append_left _ (sub.subset z)
          · exact List.mem_append_right _ z
end
end Mir

set_option maxHeartbeats 1000000
/-! Mir13: odds and ends that the printed texts use. -/
namespace Mir
open PySem L2
open PyProof.Rows hiding St
theorem u65 {k : Nat} {A : Around} (r : Room k A) : A.units + 65 < cLine := by have := r.un; omega
theorem bb_len : bootBuiltins "len" = some (.builtin "len") := by decide +kernel
theorem bb_abs : bootBuiltins "abs" = some (.builtin "abs") := by decide +kernel
theorem bb_max : bootBuiltins "max" = some (.builtin "max") := by decide +kernel
theorem bb_min : bootBuiltins "min" = some (.builtin "min") := by decide +kernel
theorem bb_sum : bootBuiltins "sum" = some (.builtin "sum") := by decide +kernel
theorem bb_isinstance : bootBuiltins "isinstance" = some (.builtin "isinstance") := by decide +kernel
theorem bb_tuple : bootBuiltins "tuple" = some (.type "tuple") := by decide +kernel
theorem bb_list : bootBuiltins "list" = some (.type "list") := by decide +kernel
theorem bb_int : bootBuiltins "int" = some (.type "int") := by decide +kernel
theorem bb_str : bootBuiltins "str" = some (.type "str") := by decide +kernel
theorem bb_bool : bootBuiltins "bool" = some (.type "bool") := by decide +kernel
theorem bb_type : bootBuiltins "type" = some (.type "type") := by decide +kernel
theorem re_ty {X : Cx} {x : Str} {n : String} {pos : Pos} (hv : bootBuiltins x = some (.type n)) (hg : Gl X x) (hm : X.mg x = none) (hn : x ≠ "__name__" := by decide) (hd : (x == ("__debug__" : Str)) = false := by decide) : PE X (.Name x pos) (tR X (rc (.ty n))) :=
  re_c (pe_bltn (v := .ty n) hg hm hv rfl hn hd) fun _ _ => by unfold Rep; rfl
/-- an operation on what is read; its new list is owned -/
def mNr (f : List T → Option T) (ρ : Rd (List T)) : M T := fun env => match (ρ env).bind f with
  | some t => .ok t env
  | none => .no
section
variable {X : Cx} {W : WX} {e : Expr} {ρs : Rd (List T)} {m : M T}
theorem meNr {f r} (hf : Nary X f r) (h : PE X e (tCB r (tRA X ρs))) : PE X e (tE X W (mNr f ρs)) := pe_imp h fun σ H Q ⟨F, env, as, ok, rep, post⟩ => by
  unfold mNr at post
  split at post
  · rename_i t ht
    simp only [Option.bind_eq_some_iff] at ht
    obtain ⟨ts, hts, hf'⟩ := ht
    refine ⟨F, env, as, ok, rep, ts, hts, fun F1 H1 vs at1 g1 rt1 s1 => hf g1.ok rt1 s1 hf' fun F3 H3 v at3 g3 all r3 => ?_⟩
    exact post F3 H3 v as at3 (g1.toGo.trans g3) (rep.mono ((g1.toGo.le ok).trans ⟨g3.grow, fun b o _ e => all b o e⟩) fun b _ o e => all b o (g1.all b o e)) r3
  · exact post.elim
theorem tE_fz {σ H Q} : tE X W (mfz m) σ H Q → tE X W m σ H Q := fun ⟨F, env, as, ok, rep, post⟩ => by
  refine ⟨F, env, as, ok, rep, ?_⟩
  unfold mfz M.bind at post
  cases h1 : m env with
  | no => rw [h1] at post; exact post
  | ex x e1 => rw [h1] at post; exact post
  | ok t e1 =>
    rw [h1] at post
    intro F1 H1 v as1 at1 g1 rep1 rt1
    exact post _ H1 v as1 [] g1.fzr.nil rep1.fzr (RepT.plI rt1.fzr)
end
/-- a law's promise -/
def spLaw (K : PySem.W.Frag) : Sp := fun vs H Q _ => ∃ (a : Addr) (ns : List Int), vs = [.ref a] ∧ SqL K H a (ns.map V.int) ∧ ns.length ≤ 63 ∧ (∀ z ∈ ns, Builtin.Int.intBits z ≤ 1048576) ∧ ∀ H', Q (.bl true) H'
theorem law_sp {K : PySem.W.Frag} {mg : Str → Option Value} {f : List T → FRes} (hm : ∀ ns : List Int, ns.length ≤ 63 → (∀ z ∈ ns, Builtin.Int.intBits z ≤ 1048576) → ∃ outs, f [.pl (.scr (ns.map D.int))] = .ok (.pl (.bl true)) outs)
    (vs : List V) (H : Hp) (Q : VK) (E : XK) (h : spLaw K vs H Q E) : spM K mg 1 f vs H Q E := by
  obtain ⟨a, ns, rfl, hS, hl, hb, q⟩ := h
  obtain ⟨outs, ho⟩ := hm ns hl hb
  refine ⟨rfl, fun b => b = a ∧ H b ≠ none, [.pl (.scr (ns.map D.int))], [], ⟨List.nodup_nil, by simp, by simp, fun b hb => hb.2⟩, ?_, ?_⟩
  · unfold RepTs RepTs
    refine ⟨.ref a, [], [], [], rfl, rfl, RepT.plI ?_, rfl, rfl⟩
    unfold Rep
    refine ⟨a, _, rfl, ⟨hS, ?_⟩, Reps.of_ints ns⟩
    rcases hS with (z | ⟨o, z⟩) | z
    · exact .inl ⟨rfl, by rw [z]; exact fun q => nomatch q⟩
    · exact .inl ⟨rfl, by rw [z]; exact fun q => nomatch q⟩
    · exact .inr (.inr z)
  · rw [ho]
    intro F' H' v as' at' g ro rt
    rw [rt.bl]
    exact q H'
def D.intsOf : List D → Option (List Int)
  | [] => some []
  | .int i :: r => (D.intsOf r).map (i :: ·)
  | _ => none
theorem intsOf_eq : ∀ {ds : List D} {ns : List Int}, D.intsOf ds = some ns → ds = ns.map D.int
  | [], ns, h => by unfold D.intsOf at h; cases h; rfl
  | .int i :: r, ns, h => by
    unfold D.intsOf at h
    simp only [Option.map_eq_some_iff] at h
    obtain ⟨ms, h1, rfl⟩ := h
    rw [intsOf_eq h1]; rfl
@[simp] theorem intsOf_map (ns : List Int) : D.intsOf (ns.map D.int) = some ns := by
  induction ns with
  | nil => rfl
  | cons n ns ih => rw [List.map_cons]; unfold D.intsOf; rw [ih]; rfl
def opSum : List T → Option T
  | [x] => x.asL.bind fun xs => (D.intsOf xs).map fun ns => .pl (.int ns.sum)
  | _ => none
section
variable {X : Cx}
theorem na_sum : Nary X opSum (rSum X.K) := by
  intro F H own ts vs a u Q ok r s e q
  unfold opSum at e
  split at e
  · simp only [Option.bind_eq_some_iff, Option.map_eq_some_iff] at e
    obtain ⟨xs, e1, ns, e2, rfl⟩ := e
    obtain ⟨v, rfl, r1⟩ := r.one
    obtain ⟨p, ws, rfl, h1, k1⟩ := r1.asL e1
    rw [intsOf_eq e2] at k1
    rw [k1.ints] at h1
    exact ⟨p, ns, rfl, .inl h1, q.val ok (by unfold Rep; rfl)⟩
  · cases e
end
end Mir

set_option maxHeartbeats 1000000
/-! Mir14: xs[doing] = e; raise as a dead end; try that runs through; insert, extend; a, b = x, y; swaps. -/
namespace Mir
open PySem L2
open PyProof.Rows hiding St

def mSetIxM (j : Nat) (μ : M T) (m : M T) : MS := m.bind fun t => fun env => match env[j]? with
  | some (some (.ol _)) => match μ env with
    | .ok k e2 => match e2[j]? with
      | some (some (.ol xs)) => match asI k with
        | some k => match ixN xs.length k with
          | some n => .ok .nx (e2.set j (some (.ol (xs.set n t.frz))))
          | none => .no
        | none => .no
      | _ => .no
    | .ex x e2 => .ex x e2
    | .no => .no
  | _ => .no
section
variable {X : Cx} {W : WX} {fx : List Nat} {st : Stmt} {m μ : M T}
theorem ms_setixM {j : Nat} (h : PS X st (tAsg (tE X W m) (gSub (tVar j) (tE X W μ) rSetL))) : PS X st (tS X W fx (mSetIxM j μ m)) := ps_imp h fun D σ H hs =>
  tE_in hs fun F env as t e1 ok h1 post F1 H1 v as1 at1 g1 rep1 rt1 => by
    split at post
    rotate_left
    · exact post.elim
    rename_i xs0 hj
    have g2 := g1.fzr
    have rep2 := rep1.fzr (at1 := at1)
    obtain ⟨a, vs0, hσ, ha, hH, k0⟩ := rep2.ol hj
    refine ⟨.ref a, hσ, _, e1, as1, g2.ok, rep2, ?_⟩
    cases hm : μ e1 with
    | no => simp only [hm] at post; exact post.elim
    | ex x e2 =>
      simp only [hm] at post
      intro F3 H3 as3 cls d g3 rep3 rx
      exact post F3 H3 σ as3 cls d fx_refl (g2.trans g3) rep3 rx
    | ok k e2 =>
      simp only [hm] at post
      intro F3 H3 v3 as3 at3 g3 rep3 rt3
      split at post
      rotate_left
      · exact post.elim
      rename_i xs hj3
      split at post
      rotate_left
      · exact post.elim
      rename_i k' hk
      split at post
      rotate_left
      · exact post.elim
      rename_i n hn
      have et := asI_int hk
      subst et
      have g4 := g3.fzr
      have rep4 := rep3.fzr (at1 := at3)
      obtain ⟨a', vs, hσ', ha', hH', kk⟩ := rep4.ol hj3
      have eaa : a' = a := by rw [hσ] at hσ'; simpa using hσ'.symm
      subst eaa
      have rt := (rt1.fzr).mono (g4.le g2.ok)
      refine ⟨a', vs, k', n, rfl, rt3.int, hH', by rw [kk.length]; exact hn, ?_⟩
      have gm := g4.ok.mut (o := .lst (vs.set n v)) ha'
      have le := gm.le g4.ok
      exact post _ _ σ as3 fx_refl ((g2.trans g4).trans gm) (rep4.olSet g4.ok.nd g4.ok.nf hj3 hσ' ((kk.set n rt).mono le))
end
/-! raise: here a dead end -/
def mStuck : MS := fun _ => .no
theorem ms_stuck {X : Cx} {W : WX} {fx : List Nat} {st : Stmt} : PS X st (tS X W fx mStuck) := ⟨fun pins s σ H D I ⟨F, env, as, ok, rep, post⟩ => post.elim⟩
/-! targets that change the heap -/
def GOkM (X : Cx) (fx : List Nat) (g : TG) (st : D → Slots → Option Slots) : Prop := ∀ {F H σ env as d x env'}, Wd.Ok ⟨F, H, as⟩ → RepE X.K X.mg F H env σ as → Rep X.K X.mg F H d x → st d env = some env' →
  ∀ {Q : St → Hp → Prop}, (∀ σ' F' H' as', (∀ i ∈ fx, σ'[i]? = σ[i]?) → Go ⟨F, H, as⟩ ⟨F', H', as'⟩ → RepE X.K X.mg F' H' env' σ' as' → Q σ' H') → g x σ H Q
def GsOkM (X : Cx) (fx : List Nat) (g : TGs) (st : List D → Slots → Option Slots) : Prop := ∀ {F H σ env as ds xs env'}, Wd.Ok ⟨F, H, as⟩ → RepE X.K X.mg F H env σ as → Reps X.K X.mg F H ds xs → st ds env = some env' →
  ∀ {Q : St → Hp → Prop}, (∀ σ' F' H' as', (∀ i ∈ fx, σ'[i]? = σ[i]?) → Go ⟨F, H, as⟩ ⟨F', H', as'⟩ → RepE X.K X.mg F' H' env' σ' as' → Q σ' H') → g xs σ H Q
/-- xs[i] as a target -/
def stSub (j : Nat) (ρ : Rd T) : D → Slots → Option Slots := fun d env => match env[j]? with
  | some (some (.ol xs)) => ((ρ env).bind asI).bind fun k => (ixN xs.length k).map fun n => env.set j (some (.ol (xs.set n d)))
  | _ => none
section
variable {X : Cx} {W : WX} {fx : List Nat} {st : Stmt} {m : M T} {ρ : Rd T}
theorem GOk.toM {g sd} (h : GOk X fx g sd) : GOkM X fx g sd := by
  intro F H σ env as d x env' ok rep r e Q q
  exact h ok rep r e fun σ' as' _ f' g' rep' => q σ' F H as' f' g' rep'
theorem gokm_sub {j : Nat} : GOkM X fx (gSub (tVar j) (tR X ρ) rSetL) (stSub j ρ) := by
  intro F H σ env as d x env' ok rep r e Q q
  unfold stSub at e
  split at e
  · rename_i xs hj
    simp only [Option.bind_eq_some_iff, Option.map_eq_some_iff] at e
    obtain ⟨k, ⟨ti, hti, hki⟩, n, hn, rfl⟩ := e
    have et := asI_int hki
    subst et
    obtain ⟨a, vs, hσ, ha, hH, kk⟩ := rep.ol hj
    refine ⟨.ref a, hσ, F, env, as, ok, rep, _, hti, fun F3 H3 v3 at3 g3 rt3 s3 => ?_⟩
    have rep3 := rep.readG ok g3
    have kk3 := kk.mono (g3.toGo.le ok)
    have rt := r.mono (g3.toGo.le ok)
    refine ⟨a, vs, k, n, rfl, rt3.int, g3.all _ _ hH, by rw [kk.length]; exact hn, ?_⟩
    have gm := g3.ok.mut (o := .lst (vs.set n x)) ha
    have le := gm.le g3.ok
    exact q σ _ _ as fx_refl (g3.toGo.trans gm) (rep3.olSet g3.ok.nd g3.ok.nf hj hσ ((kk3.set n rt).mono le))
  · cases e
theorem gsokm_nil : GsOkM X fx gNil stNil := by
  intro F H σ env as ds xs env' ok rep r e Q q
  unfold stNil at e
  split at e
  · cases e
    unfold Reps at r
    exact ⟨r, q σ F H as fx_refl (Go.refl ok) rep⟩
  · cases e
theorem gsokm_cons {g gs s1 s2} (h1 : GOkM X fx g s1) (h2 : GsOkM X fx gs s2) : GsOkM X fx (gCons g gs) (stCons s1 s2) := by
  intro F H σ env as ds xs env' ok rep r e Q q
  unfold stCons at e
  split at e
  · simp only [Option.bind_eq_some_iff] at e
    obtain ⟨e1, he1, he2⟩ := e
    unfold Reps at r
    obtain ⟨v, rs, rfl, r1, r2⟩ := r
    refine ⟨v, rs, rfl, h1 ok rep r1 he1 fun σ1 F1 H1 as1 f1 g1 rep1 => ?_⟩
    exact h2 g1.ok rep1 (r2.mono (g1.le ok)) he2 fun σ2 F2 H2 as2 f2 g2 rep2 => q σ2 F2 H2 as2 (fun i hi => (f2 i hi).trans (f1 i hi)) (g1.trans g2) rep2
  · cases e
theorem gokm_tup {n : Nat} {g st} (h : GsOkM X fx g st) : GOkM X fx (gTL X.K n g) (stT n st) := by
  intro F H σ env as d x env' ok rep r e Q q
  unfold stT at e
  split at e
  · split at e
    · rename_i hn
      unfold Rep at r
      obtain ⟨a, vs, rfl, f, k⟩ := r
      exact .inl ⟨a, vs, rfl, f.1, k.length.trans hn, h ok rep k e q⟩
    · cases e
  · split at e
    · rename_i hn
      unfold Rep at r
      obtain ⟨a, vs, rfl, f, k⟩ := r
      exact .inr ⟨a, vs, rfl, .inl f.2, k.length.trans hn, h ok rep k e q⟩
    · cases e
  · cases e
theorem ms_asgM {g : TG} {sd : D → Slots → Option Slots} (h : PS X st (tAsg (tE X W m) g)) (hg : GOkM X fx g sd) : PS X st (tS X W fx (mAsg sd m)) := ps_imp h fun D σ H hs =>
  tE_in hs fun F env as t e1 ok h1 post F1 H1 v as1 at1 g1 rep1 rt1 => by
    cases hp : sd t.frz e1 with
    | none => simp only [hp] at post; exact post.elim
    | some e2 =>
      simp only [hp] at post
      have g2 := g1.fzr
      exact hg g2.ok rep1.fzr rt1.fzr hp fun σ' F' H' as' f' g' rep' => post F' H' σ' as' f' (g2.trans g') rep'
end
/-! a, b = x, y: two names -/
def mPar (i j : Nat) (ρ : Rd (List T)) : MS := fun env => match (ρ env).bind plains with
  | some [d, d'] => match put i (.pl d) env with
    | some e1 => match put j (.pl d') e1 with
      | some e2 => .ok .nx e2
      | none => .no
    | none => .no
  | _ => .no
theorem ms_par {X : Cx} {W : WX} {fx : List Nat} {st : Stmt} {i j : Nat} {ρ : Rd (List T)} (h : PS X st (tPar i j (tRA X ρ))) (hi : i ∉ fx := by decide) (hj : j ∉ fx := by decide) : PS X st (tS X W fx (mPar i j ρ)) := ps_imp h fun D σ H ⟨F, env, as, ok, rep, post⟩ => by
  unfold mPar at post
  split at post
  rotate_left
  · exact post.elim
  rename_i d d' hp
  split at post
  rotate_left
  · exact post.elim
  rename_i e1 he1
  split at post
  rotate_left
  · exact post.elim
  rename_i e2 he2
  simp only [Option.bind_eq_some_iff] at hp
  obtain ⟨ts, hts, hpl⟩ := hp
  refine ⟨F, env, as, ok, rep, ts, hts, fun F1 H1 vs at1 g1 rt1 s1 => ?_⟩
  obtain ⟨_, r⟩ := rt1.plains hpl
  unfold Reps Reps Reps at r
  obtain ⟨v, r', rfl, rv, w, r'', rfl, rw, rfl⟩ := r
  have rep1 := rep.readG ok g1
  obtain ⟨as2, g2, rep2⟩ := put_ok (Go.refl g1.ok).nil rep1 (RepT.plI rv) he1
  obtain ⟨as3, g3, rep3⟩ := put_ok (Go.refl g2.ok).nil rep2 (RepT.plI rw) he2
  refine ⟨v, w, rfl, post F1 H1 _ as3 (fun k hk => ?_) ((g1.toGo.trans g2).trans g3) rep3⟩
  rw [fx_set hj k hk, fx_set hi k hk]
end Mir

set_option maxHeartbeats 1000000
/-! Mir15: min, max, sorted of a list or tuple of ints. -/
namespace Mir
open PySem L2
open PyProof.Rows hiding St
theorem ra_iL {h : Heap} : ∀ {vs : List Value} {ns : List Int}, IntsAre vs ns → ReadsAll h vs (ns.map .int) []
  | _, _, .nil => .nil
  | _, _, .cons n t r => .cons (as := []) (bs := []) (.int _ _) (ra_iL r)
theorem alike_iL (ns : List Int) : PySem.W.AlikeAll (ns.map .int) := by
  refine ⟨fun x hx y hy => ?_, fun x hx => ?_⟩
  · obtain ⟨i, _, rfl⟩ := List.mem_map.mp hx
    obtain ⟨j, _, rfl⟩ := List.mem_map.mp hy
    simp [PySem.W.alike]
  · obtain ⟨i, _, rfl⟩ := List.mem_map.mp hx
    simp
section
variable {prog : Program} {w : World} {A : Around} {E : Value → Shared → Prop} {s : Shared} {l : Addr} {its : List Value} {n : Int} {ns : List Int} {Q : Value → Shared → Prop}
theorem depth_iL : ∀ ns : List Int, PyData.depthAll (ns.map .int) = 0
  | [] => by simp [PyData.depthAll]
  | n :: ns => by
    have := depth_iL ns
    rw [List.map_cons]
    unfold PyData.depthAll
    rw [this]
    simp [PyData.depth]
theorem min_seq (hh : A.handled = none) (hl : s.heap.IsList l its.toArray ∨ s.heap.IsTuple l its.toArray) (hi : IntsAre its (n :: ns)) (hu : A.units + 65 < cLine)
    (h : ∀ h' tk t', (∀ b o, s.heap.get? b = some o → h'.get? b = some o) → Q (.int (ns.foldl min n) t') { s with heap := h', toks := tk }) : wpAny (model prog w) A (call (.builtin "min") [.ref l]) Q E s := by
  have hr : ReadsAll s.heap its.toArray.toList (PyData.int n :: ns.map .int) [] := ra_iL hi
  have ha : PySem.W.AlikeAll (PyData.int n :: ns.map .int) := alike_iL (n :: ns)
  have hd : A.units + 1 + PyData.depthAll (PyData.int n :: ns.map .int) < cLine := by
    have : PyData.depthAll (PyData.int n :: ns.map .int) = 0 := depth_iL (n :: ns)
    omega
  have k : ∀ (i : Nat) v h' tk bs, its.toArray[i]? = some v → Reads h' v (PySem.W.minD (.int n) (ns.map .int)) bs → (∀ b o, s.heap.get? b = some o → h'.get? b = some o) → Q v { s with heap := h', toks := tk } := fun i v h' tk bs _ r hk => by
    rw [PySem.W.minD_ints] at r
    obtain ⟨t, rfl, _⟩ := reads_int_inv r
    exact h h' tk t hk
  rcases hl with hl | hl
  · exact PySem.W.min_list_data hh hl hr ha hd k
  · exact PySem.W.min_tuple_data hh hl hr ha hd k
theorem max_seq (hh : A.handled = none) (hl : s.heap.IsList l its.toArray ∨ s.heap.IsTuple l its.toArray) (hi : IntsAre its (n :: ns)) (hu : A.units + 65 < cLine)
    (h : ∀ h' tk t', (∀ b o, s.heap.get? b = some o → h'.get? b = some o) → Q (.int (ns.foldl max n) t') { s with heap := h', toks := tk }) : wpAny (model prog w) A (call (.builtin "max") [.ref l]) Q E s := by
  have hr : ReadsAll s.heap its.toArray.toList (PyData.int n :: ns.map .int) [] := ra_iL hi
  have ha : PySem.W.AlikeAll (PyData.int n :: ns.map .int) := alike_iL (n :: ns)
  have hd : A.units + 1 + PyData.depthAll (PyData.int n :: ns.map .int) < cLine := by
    have : PyData.depthAll (PyData.int n :: ns.map .int) = 0 := depth_iL (n :: ns)
    omega
  have k : ∀ (i : Nat) v h' tk bs, its.toArray[i]? = some v → Reads h' v (PySem.W.maxD (.int n) (ns.map .int)) bs → (∀ b o, s.heap.get? b = some o → h'.get? b = some o) → Q v { s with heap := h', toks := tk } := fun i v h' tk bs _ r hk => by
    rw [PySem.W.maxD_ints] at r
    obtain ⟨t, rfl, _⟩ := reads_int_inv r
    exact h h' tk t hk
  rcases hl with hl | hl
  · exact PySem.W.max_list_data hh hl hr ha hd k
  · exact PySem.W.max_tuple_data hh hl hr ha hd k
end
section
variable {X : Cx}
def rMinS (K : PySem.W.Frag) : List V → Hp → VK → Prop := fun vs H Q => ∃ (a : Addr) (n : Int) (ns : List Int), vs = [V.ref a] ∧ (SqL K H a ((n :: ns).map V.int) ∨ SqT K H a ((n :: ns).map V.int)) ∧ Q (.int (ns.foldl min n)) H
def rMaxS (K : PySem.W.Frag) : List V → Hp → VK → Prop := fun vs H Q => ∃ (a : Addr) (n : Int) (ns : List Int), vs = [V.ref a] ∧ (SqL K H a ((n :: ns).map V.int) ∨ SqT K H a ((n :: ns).map V.int)) ∧ Q (.int (ns.foldl max n)) H
theorem cr_minS (hc : X.calm = true) (hu : X.A.units + 65 < cLine) : CallR X (.builtin "min") (rMinS X.K) := by
  intro pins s σ H vs us Q I r h
  obtain ⟨a, n, ns, rfl, hs, q⟩ := h
  rw [Vals.ref1 r]
  rcases hs with hs | hs
  · obtain ⟨its, rv, hl, _⟩ := I.list hs
    exact min_seq (I.ok.hd hc) (.inl hl.isList) rv.ints hu fun h' tk t' hk => ⟨.int _, H, I.kept hk, ⟨_, rfl⟩, q⟩
  · obtain ⟨its, rv, hl, _⟩ := I.tuple hs
    exact min_seq (I.ok.hd hc) (.inr hl) rv.ints hu fun h' tk t' hk => ⟨.int _, H, I.kept hk, ⟨_, rfl⟩, q⟩
theorem cr_maxS (hc : X.calm = true) (hu : X.A.units + 65 < cLine) : CallR X (.builtin "max") (rMaxS X.K) := by
  intro pins s σ H vs us Q I r h
  obtain ⟨a, n, ns, rfl, hs, q⟩ := h
  rw [Vals.ref1 r]
  rcases hs with hs | hs
  · obtain ⟨its, rv, hl, _⟩ := I.list hs
    exact max_seq (I.ok.hd hc) (.inl hl.isList) rv.ints hu fun h' tk t' hk => ⟨.int _, H, I.kept hk, ⟨_, rfl⟩, q⟩
  · obtain ⟨its, rv, hl, _⟩ := I.tuple hs
    exact max_seq (I.ok.hd hc) (.inr hl) rv.ints hu fun h' tk t' hk => ⟨.int _, H, I.kept hk, ⟨_, rfl⟩, q⟩
def opMin1 : List T → Option T
  | [x] => x.asS.bind fun xs => (D.intsOf xs).bind fun ns => match ns with
    | [] => none
    | n :: r => some (.pl (.int (r.foldl min n)))
  | _ => none
def opMax1 : List T → Option T
  | [x] => x.asS.bind fun xs => (D.intsOf xs).bind fun ns => match ns with
    | [] => none
    | n :: r => some (.pl (.int (r.foldl max n)))
  | _ => none
def opSorted : List T → Option T
  | [x] => x.asL.bind fun xs => (D.intsOf xs).map fun ns => .ol ((ns.mergeSort fun a b => decide (a ≤ b)).map D.int)
  | _ => none
theorem na_min1 : Nary X opMin1 (rMinS X.K) := by
  intro F H own ts vs a u Q ok r s e q
  unfold opMin1 at e
  split at e
  · simp only [Option.bind_eq_some_iff] at e
    obtain ⟨xs, e1, ns, e2, e3⟩ := e
    split at e3
    · cases e3
    · cases e3
      rename_i n r'
      obtain ⟨v, rfl, r1⟩ := r.one
      obtain ⟨p, ws, rfl, h1, k1⟩ := r1.asS e1
      rw [intsOf_eq e2] at k1
      rw [k1.ints] at h1
      exact ⟨p, n, r', rfl, h1, q.val ok (by unfold Rep; rfl)⟩
  · cases e
theorem na_max1 : Nary X opMax1 (rMaxS X.K) := by
  intro F H own ts vs a u Q ok r s e q
  unfold opMax1 at e
  split at e
  · simp only [Option.bind_eq_some_iff] at e
    obtain ⟨xs, e1, ns, e2, e3⟩ := e
    split at e3
    · cases e3
    · cases e3
      rename_i n r'
      obtain ⟨v, rfl, r1⟩ := r.one
      obtain ⟨p, ws, rfl, h1, k1⟩ := r1.asS e1
      rw [intsOf_eq e2] at k1
      rw [k1.ints] at h1
      exact ⟨p, n, r', rfl, h1, q.val ok (by unfold Rep; rfl)⟩
  · cases e
theorem srt_eq {ns ns' : List Int} (h1 : ns'.Perm ns) (h2 : ns'.Pairwise (· ≤ ·)) : ns' = ns.mergeSort fun a b => decide (a ≤ b) := by
  have p := List.pairwise_mergeSort (le := fun a b : Int => decide (a ≤ b)) (fun a b c x y => by simp at *; omega) (fun a b => by simp; omega) ns
  have p2 : (ns.mergeSort fun a b => decide (a ≤ b)).Pairwise (· ≤ ·) := p.imp fun h => by simpa using h
  exact List.Perm.eq_of_pairwise (le := (· ≤ ·)) (fun a b _ _ x y => by omega) h2 p2 (h1.trans (List.mergeSort_perm _ _).symm)
theorem na_sorted : Nary X opSorted (rSortedI X.K) := by
  intro F H own ts vs a u Q ok r s e q
  unfold opSorted at e
  split at e
  · simp only [Option.bind_eq_some_iff, Option.map_eq_some_iff] at e
    obtain ⟨xs, e1, ns, e2, rfl⟩ := e
    obtain ⟨v, rfl, r1⟩ := r.one
    obtain ⟨p, ws, rfl, h1, k1⟩ := r1.asL e1
    rw [intsOf_eq e2] at k1
    rw [k1.ints] at h1
    refine ⟨p, ns, rfl, .inl h1, fun ns' p' h2 h3 hp => ?_⟩
    rw [srt_eq h2 h3]
    exact q.newL ok hp (Reps.of_ints _)
  · cases e
end
/-! insert, extend -/
def lInsert : LF := fun xs ds => match ds with
  | [.int i, d] => if 0 ≤ i ∧ i < 2 ^ 63 ∧ xs.length < big then some (.non, xs.take i.toNat ++ [d] ++ xs.drop i.toNat) else none
  | _ => none
def lExtend : LF := fun xs ds => match ds with
  | [.lst ys] => if xs.length + ys.length ≤ big then some (.non, xs ++ ys) else none
  | _ => none
def rExtendG : V → List V → Hp → VK → Prop := fun x vs H Q => ∃ l b xs zs, x = .ref l ∧ vs = [.ref b] ∧ H l = some (.lst xs) ∧ L2.Rd H b (.lst zs) ∧ xs.length + zs.length ≤ sizeLine ∧ Q .non (upd H l (.lst (xs ++ zs)))
section
variable {X : Cx}
theorem mt_extendG : MtR X "list.extend" rExtendG := by
  intro pins s σ H x vs v us Q I rx rv h
  obtain ⟨l, b, xs, zs, rfl, rfl, hH, hB, hz, q⟩ := h
  cases rx
  obtain ⟨u, rfl, ru⟩ := rv.one
  cases ru
  obtain ⟨z, its, n, r, hl, e⟩ := I.lstM hH
  obtain ⟨z2, its2, n2, r2, e2⟩ := hB.ok I.hok
  have hl2 := r2.length
  have hl1 := r.length
  have sz1 : its.toArray.size + its2.toArray.size ≤ sizeLine := by rw [List.size_toArray, List.size_toArray]; omega
  have far : ¬ (!its.toArray.isEmpty && Builtin.List.listTooLong (its.toArray.size + its2.toArray.size)) = true := by
    rw [notLongL sz1, Bool.and_false]
    exact Bool.false_ne_true
  refine call_meets F.slot_list_extend ⟨_, e, rfl⟩ F.entry_list_extend (F.args_list_extend_2 _ _)
    (AutoSeq1.list_extend_list_list_0 l its.toArray n b its2.toArray n2 far (by rw [List.size_toArray]; omega) (by simp only [List.size_toArray] at *; omega)) ⟨e, e2, ?_⟩
  exact ⟨.non, _, I.lset (its' := its ++ its2) hH e (by simp) (r.append r2) (by rw [List.length_append]; omega), rfl, q⟩
abbrev rInsertM : V → List V → Hp → VK → Prop := fun x vs H Q => ∃ (l : Addr) (xs : List V) (i : Int) (y : V), x = .ref l ∧ vs = [.int i, y] ∧ H l = some (.lst xs) ∧ xs.length < sizeLine ∧ 0 ≤ i ∧ i < 2 ^ 63 ∧
    Q .non (upd H l (.lst (xs.take i.toNat ++ [y] ++ xs.drop i.toNat)))
theorem mt_insertM : MtR X "list.insert" rInsertM := mt_insert
theorem Reps.app {K mg F H} : ∀ {ds es : List D} {vs ws : List V}, Reps K mg F H ds vs → Reps K mg F H es ws → Reps K mg F H (ds ++ es) (vs ++ ws)
  | [], es, vs, ws, r, r' => by unfold Reps at r; subst r; exact r'
  | d :: ds, es, vs, ws, r, r' => by
    unfold Reps at r
    obtain ⟨v, r1, rfl, h1, h2⟩ := r
    rw [List.cons_append, List.cons_append]
    unfold Reps
    exact ⟨v, _, rfl, h1, Reps.app h2 r'⟩
theorem lm_insert : LMut X lInsert rInsertM := by
  intro F H own a xs vs ds ws d xs' ok ha hH r rd e Q q
  unfold lInsert at e
  split at e
  · split at e <;> cases e
    rename_i i d' hz
    unfold Reps Reps Reps at rd
    obtain ⟨v, r1, rfl, h1, w, r2, rfl, h2, rfl⟩ := rd
    unfold Rep at h1
    subst h1
    refine ⟨a, vs, i, w, rfl, rfl, hH, by rw [r.length]; exact big_line' hz.2.2, hz.1, hz.2.1, q .non _ Rep.nonI (((r.take _).app (.one h2)).app (r.drop _))⟩
  · cases e
theorem lm_extend : LMut X lExtend rExtendG := by
  intro F H own a xs vs ds ws d xs' ok ha hH r rd e Q q
  unfold lExtend at e
  split at e
  · split at e <;> cases e
    rename_i ys hz
    obtain ⟨v, rfl, rv⟩ := rd.one'
    unfold Rep at rv
    obtain ⟨b, zs, rfl, f, k⟩ := rv
    refine ⟨a, b, vs, zs, rfl, rfl, hH, f.2, by rw [r.length, k.length]; exact big_line hz, q .non _ Rep.nonI (r.app k)⟩
  · cases e
end
theorem bb_sorted : bootBuiltins "sorted" = some (.builtin "sorted") := by decide +kernel
end Mir

/-! Mir16: constant expressions. -/
namespace Mir
open PySem L2
open PyProof.Rows hiding St
theorem re_konst {X : Cx} {e : Expr} {ρ : Rd T} {d : D} (h : ∀ env, ρ env = some (.pl d)) (p : PE X e (tR X ρ)) : PE X e (tR X (rc d)) := by
  have e1 : ρ = rc d := funext fun env => h env
  rw [← e1]; exact p
end Mir

set_option maxHeartbeats 2000000
/-! Mir17: zip of a list and a tuple, in any mix. -/
namespace Mir
open PySem L2
open PyProof.Rows hiding St
/-- t: a tuple, else a list -/
def SqK (t : Bool) (K : PySem.W.Frag) (H : Hp) (a : Addr) (xs : List V) : Prop := match t with
  | true => SqT K H a xs
  | false => SqL K H a xs
def ItAt (t : Bool) (h : Heap) (i a : Addr) (k : Nat) : Prop := match t with
  | true => h.IsTupleIter i a k
  | false => h.IsListIter i a k
def HoldsK (t : Bool) (h : Heap) (a : Addr) (items : Array Value) : Prop := match t with
  | true => h.IsTuple a items
  | false => h.IsList a items
theorem ItAt.at {t : Bool} {h h' : Heap} {i a : Addr} {k : Nat} (x : ItAt t h i a k) (e : ∀ o, h.get? i = some o → h'.get? i = some o) : ItAt t h' i a k := by
  cases t
  · exact Heap.IsListIter.at x e
  · exact Heap.IsTupleIter.at x e
theorem HoldsK.lt {t : Bool} {h : Heap} {a : Addr} {items : Array Value} (x : HoldsK t h a items) : a < h.objs.size := by
  cases t <;> (obtain ⟨o, ho, _⟩ := x; exact Heap.lt_size ho)
theorem ItAt.obj {t : Bool} {h : Heap} {i a : Addr} {k : Nat} (x : ItAt t h i a k) : ∃ o, h.get? i = some o ∧ ∀ v, o.data ≠ .cell v := by
  cases t <;> (obtain ⟨o, e, _, d⟩ := x; exact ⟨o, e, fun v q => by rw [d] at q; cases q⟩)
theorem drawsK {prog : Program} {w : World} {A : Around} (t : Bool) (hh : A.handled = none) (i a : Addr) (hne : a ≠ i) (items : Array Value) :
    Draws prog w A i [i, a] items.size (fun k v => items[k]? = some v) (fun k h => ItAt t h i a k ∧ HoldsK t h a items) := by
  cases t
  · exact Draws.list hh i a hne items
  · exact Draws.tuple hh i a hne items
section
variable {X : Cx} {pins : List (Addr × Obj)} {σ : L2.St} {H : Hp} {s : Shared}
theorem Inv.sqK {t : Bool} {a : Addr} {xs : List V} (I : Inv X pins σ H s) (h : SqK t X.K H a xs) : ∃ its : List Value, Vals xs its ∧ HoldsK t s.heap a its.toArray := by
  cases t
  · obtain ⟨its, rv, p, _⟩ := I.list h
    exact ⟨its, rv, p.isList⟩
  · obtain ⟨its, rv, p, _⟩ := I.tuple h
    exact ⟨its, rv, p⟩
theorem Inv.sqK_inj {t : Bool} {a : Addr} {xs ys : List V} (I : Inv X pins σ H s) (h : SqK t X.K H a xs) (h' : SqK t X.K H a ys) : xs = ys := by
  cases t
  · exact I.list_inj h h'
  · exact I.tuple_inj h h'
end
/-- what stands at a and at b at each turn, in new pairs -/
def ItX (K : PySem.W.Frag) (t u : Bool) (a b : Addr) : It where
  go i H := ∃ (xs ys : List V) (x y : V), SqK t K H a xs ∧ SqK u K H b ys ∧ xs[i]? = some x ∧ ys[i]? = some y
  yld i H v H' := ∃ p x y, v = .ref p ∧ H p = none ∧ H' = upd H p (.tup [x, y]) ∧ (∀ xs, SqK t K H a xs → xs[i]? = some x) ∧ ∀ ys, SqK u K H b ys → ys[i]? = some y
  stop i H := ∃ xs ys : List V, SqK t K H a xs ∧ SqK u K H b ys ∧ i ≤ xs.length ∧ i ≤ ys.length ∧ (i = xs.length ∨ i = ys.length)
theorem five {c z a b d e : Addr} (h : c ∈ [z, a, b, d, e]) : c = z ∨ c = a ∨ c = b ∨ c = d ∨ c = e := by simpa using h
/-- cells apart -/
theorem sep_of {z TI TO i1 i2 a b : Addr} (D : ZipApart z TI TO i1 i2 a b) : ZipSep2 z TI TO i1 i2 [i1, a] [i2, b] where
  TIz := D.TIz
  TOz := D.TOz
  TITO := D.TITO
  TIi1 := D.TIi1
  TIi2 := D.TIi2
  mem1 := by simp
  mem2 := by simp
  zf1 := by simp; exact ⟨D.i1z.symm, D.l1z.symm⟩
  zf2 := by simp; exact ⟨D.i2z.symm, D.l2z.symm⟩
  Tf1 := by simp; exact ⟨D.TOi1, D.l1TO.symm⟩
  Tf2 := by simp; exact ⟨D.TOi2, D.l2TO.symm⟩
  sep1_2 := by simp; exact ⟨D.i12, D.l2i1.symm⟩
  sep2_1 := by simp; exact ⟨D.i12.symm, D.l1i2.symm⟩
/-- where the cells of a zip are -/
structure ZX (t u : Bool) (z TI TO i1 i2 a b : Addr) (i : Nat) (h : Heap) : Prop where
  z : IsZip h z TI TO .none
  ti : IsTupOf2 h TI (.ref i1) (.ref i2)
  to : ∃ x y, IsTupOf2 h TO x y
  i1 : ItAt t h i1 a i
  i2 : ItAt u h i2 b i
theorem turn_zipX {P : Program} {w : World} {K : PySem.W.Frag} {elts : List Expr} {kk : Nat} {tpos : Pos} {t u : Bool} {a b z TI TO i1 i2 : Addr} (D : ZipApart z TI TO i1 i2 a b) :
    Turn P w K (.Tuple elts kk tpos) (ItX K t u a b) [z, TI, TO, i1, i2] z (ZX t u z TI TO i1 i2 a b) where
  mem := by simp
  obj := fun i h st c hc => by
    obtain ⟨x, y, hto⟩ := st.to
    rcases five hc with rfl | rfl | rfl | rfl | rfl
    · exact ⟨_, st.z, fun v q => nomatch q⟩
    · exact ⟨_, st.ti, fun v q => nomatch q⟩
    · exact ⟨_, hto, fun v q => nomatch q⟩
    · exact st.i1.obj
    · exact st.i2.obj
  keep := fun i h h' st k => by
    obtain ⟨x, y, hto⟩ := st.to
    exact ⟨k z (by simp) _ st.z, k TI (by simp) _ st.ti, ⟨x, y, k TO (by simp) _ hto⟩, st.i1.at (k i1 (by simp)), st.i2.at (k i2 (by simp))⟩
  item := by
    intro X hP hw hK hc i pins s σ H E I hf st ⟨xs, ys, x, y, sx, sy, hx, hy⟩
    subst hP hw hK
    obtain ⟨x0, y0, hto⟩ := st.to
    obtain ⟨its, rv, p⟩ := Inv.sqK I sx
    obtain ⟨its2, rv2, p2⟩ := Inv.sqK I sy
    obtain ⟨c, hc1, rc⟩ := rv.get hx
    obtain ⟨c2, hc2, rc2⟩ := rv2.get hy
    have l1 : i < its.toArray.size := by have := (List.getElem?_eq_some_iff.mp hc1).1; simpa using this
    have l2 : i < its2.toArray.size := by have := (List.getElem?_eq_some_iff.mp hc2).1; simpa using this
    have hz := Heap.lt_size st.z
    refine wpAny_pyNext_zipD2_item (sep_of D) (drawsK (A := X.A.in1) t (I.ok.hd hc) i1 a D.l1i1 its.toArray) (drawsK (A := X.A.in1) u (I.ok.hd hc) i2 b D.l2i2 its2.toArray) st.z st.ti hto ⟨st.i1, p⟩ ⟨st.i2, p2⟩ l1 l2 fun v1 v2 h' tk e1 e2 z' to' j1 j2 hT hs hk => ?_
    have ev1 : v1 = c := by
      have e1 : its.toArray[i]? = some v1 := e1
      rw [List.getElem?_toArray, hc1] at e1; exact (Option.some.inj e1).symm
    have ev2 : v2 = c2 := by
      have e2 : its2.toArray[i]? = some v2 := e2
      rw [List.getElem?_toArray, hc2] at e2; exact (Option.some.inj e2).symm
    subst ev1 ev2
    refine ⟨_, rfl, wpAny_letOwnedTupleGo_zip (s := { s with heap := h', toks := tk }) z' fun g zg sb => ?_⟩
    have keepg : ∀ m o, m ∉ [z, TI, TO, i1, i2] → s.heap.get? m = some o → g.get? m = some o := fun m o hm e => by
      simp only [List.mem_cons, List.not_mem_nil, or_false, not_or] at hm
      rw [sb.2 m hm.1]
      exact hk m o hm.1 hm.2.2.1 hm.2.2.2.1 hm.2.2.2.2 e
    have made : ObjOk X.prog X.w (upd H s.heap.objs.size (.tup [x, y])) g s.heap.objs.size (.tup [x, y]) := by
      have gT : g.get? s.heap.objs.size = some { cls := .type "tuple", data := .seq #[v1, v2] } := by
        rw [sb.2 _ (Nat.ne_of_gt hz)]; exact hT
      exact ⟨(show 2 ≤ sizeLine by decide), [v1, v2], .cons rc (.cons rc2 .nil), _, gT, rfl, _, rfl⟩
    have I1 := I.turnedNew (t' := tk) keepg hf (Nat.le_refl _) made
    refine ⟨.ref s.heap.objs.size, _, I1, rfl, ⟨_, x, y, rfl, I.hok.fresh (Nat.le_refl _), rfl, fun l hl => (Inv.sqK_inj I hl sx) ▸ hx, fun l hl => (Inv.sqK_inj I hl sy) ▸ hy⟩, ⟨zg, ?_, ⟨v1, v2, ?_⟩, ?_, ?_⟩, fun m hm => ?_⟩
    · show g.get? TI = _
      rw [sb.2 TI D.TIz]
      exact hk TI _ D.TIz D.TITO D.TIi1 D.TIi2 st.ti
    · show g.get? TO = _
      rw [sb.2 TO D.TOz]
      exact to'
    · exact j1.1.at fun o e => by rw [sb.2 i1 D.i1z]; exact e
    · exact j2.1.at fun o e => by rw [sb.2 i2 D.i2z]; exact e
    · have lt : m < s.heap.objs.size := by
        rcases five hm with rfl | rfl | rfl | rfl | rfl
        · exact hz
        · exact Heap.lt_size st.ti
        · exact Heap.lt_size hto
        · obtain ⟨o, e, _⟩ := st.i1.obj; exact Heap.lt_size e
        · obtain ⟨o, e, _⟩ := st.i2.obj; exact Heap.lt_size e
      rw [upd_ne (Nat.ne_of_lt lt)]
      exact (hf m hm).1
  done := by
    intro X hP hw hK hc i pins s σ H E I hf st ⟨xs, ys, sx, sy, h1, h2, h3⟩
    subst hP hw hK
    obtain ⟨x0, y0, hto⟩ := st.to
    obtain ⟨its, rv, p⟩ := Inv.sqK I sx
    obtain ⟨its2, rv2, p2⟩ := Inv.sqK I sy
    have l1 := rv.length
    have l2 := rv2.length
    refine wpAny_pyNext_zipD2_end (sep_of D) (drawsK (A := X.A.in1) t (I.ok.hd hc) i1 a D.l1i1 its.toArray) (drawsK (A := X.A.in1) u (I.ok.hd hc) i2 b D.l2i2 its2.toArray) st.z st.ti hto ⟨st.i1, p⟩ ⟨st.i2, p2⟩ (by simp; omega) (by simp; omega) (by simp; omega) fun h' tk hk => ⟨rfl, I.turnedL hf (k := fun m o hm e => ?_)⟩
    simp only [List.mem_cons, List.not_mem_nil, or_false, not_or] at hm
    exact hk m o hm.1 hm.2.2.1 hm.2.2.2.1 hm.2.2.2.2 e
  self := fun A i s Q E st h => wpAny_pyIter_zip st.z h
/-- zip over lists and tuples, in any mix -/
def kZipX (K : PySem.W.Frag) (R : It → Hp → Prop) (vs : List V) (H : Hp) : Prop := ∃ t u a b xs ys, vs = [.ref a, .ref b] ∧ SqK t K H a xs ∧ SqK u K H b ys ∧ R (ItX K t u a b) H
theorem beginsK (t : Bool) (a : Addr) (items : Array Value) : Begins (.ref a) { cls := .type (if t then "tuple_iterator" else "list_iterator"), data := .fields #[.ref a, .int 0 0] } fun h => HoldsK t h a items := by
  cases t
  · exact begins_list a items
  · exact begins_tuple a items
theorem itAt0 (t : Bool) {h : Heap} {i a : Addr} (e : h.get? i = some { cls := .type (if t then "tuple_iterator" else "list_iterator"), data := .fields #[.ref a, .int 0 0] }) : ItAt t h i a 0 := by
  cases t <;> exact ⟨_, e, rfl, rfl⟩
theorem pi_zipX {X : Cx} {e e2 : Expr} {ta : TA} {p pos tpos : Pos} {elts : List Expr} {kk : Nat} (hg : Gl X "zip") (hm : X.mg "zip" = none) (ha : PA X [e, e2] ta)
    (hs : starEach [e, e2] X.env = (false, eval e X.env) :: starEach [e2] X.env := by rfl) (hpl : (backTo pos (starEach [e2] X.env)).any (·.1) = false := by rfl) :
    PI X (.Tuple elts kk tpos) (.Call (.Name "zip" p) [e, e2] [] pos) (fun σ H R => ta σ H (kZipX X.K R)) := by
  refine ⟨fun pins s σ H R I h => Call_ (ld_blt I hg hm PyProof.Rows.boot_zip (PyProof.Rows.callWith_type1 (thn (ha.run pos pins s σ H _ I h) fun us s1 ⟨vs, H1, I1, rv, q⟩ => ?_) hs hpl))⟩
  obtain ⟨t, u, a, b, xs, ys, rfl, sx, sy, q⟩ := q
  cases rv with
  | cons r rr =>
    cases rr with
    | cons r' rr =>
      cases rr
      cases r
      cases r'
      obtain ⟨its, rv, p1⟩ := Inv.sqK I1 sx
      obtain ⟨its2, rv2, p2⟩ := Inv.sqK I1 sy
      refine zip_begins2 (beginsK t a its.toArray) (beginsK u b its2.toArray) p1 p2 fun h' hz hTI hTO g1 g2 hsz hk => wpAny_pyIter_zip hz ?_
      refine ⟨s1.heap.objs.size + 4, [s1.heap.objs.size + 4, s1.heap.objs.size + 2, s1.heap.objs.size + 3, s1.heap.objs.size, s1.heap.objs.size + 1], _, _, H1, rfl, I1.kept (t' := s1.toks) hk, turn_zipX (PySem.W.ktu_apart s1.heap.objs.size a b p1.lt p2.lt), ⟨hz, hTI, ⟨_, _, hTO⟩, itAt0 t g1, itAt0 u g2⟩, fun c hc => ?_, q⟩
      have hle : s1.heap.objs.size ≤ c := by
        rcases five hc with rfl | rfl | rfl | rfl | rfl <;> first | exact Nat.le_refl _ | exact Nat.le_add_right _ _
      exact I1.fpOk hle (I1.hok.fresh hle)
/-! the mirror's side -/
def T.asZ : T → Option (Bool × List D)
  | .pl (.tup ds) => some (true, ds)
  | .pl (.lst ds) => some (false, ds)
  | .ol ds => some (false, ds)
  | _ => none
def zipX : List T → Option (List D)
  | [x, y] => x.asZ.bind fun p => y.asZ.map fun q => List.zipWith pairD p.2 q.2
  | _ => none
/-- what stands at a, for as long as what is known at S stays -/
def KeptK (X : Cx) (S F : Addr → Prop) (H : Hp) (t : Bool) (a : Addr) (vs : List V) : Prop := SqK t X.K H a vs ∧ ∀ (F' : Addr → Prop) (H' : Hp), (∀ b, F b → F' b) → (∀ b o, S b → H b = some o → H' b = some o) → SqK t X.K H' a vs
theorem RepT.asZK {X : Cx} {S F : Addr → Prop} {H : Hp} {x : T} {v : V} {as : List Addr} {t : Bool} {ds : List D} (r : RepT X.K X.mg F H x v as) (e : x.asZ = some (t, ds)) (hs : ∀ b, F b ∨ b ∈ as → S b) : ∃ a vs, v = .ref a ∧ KeptK X S F H t a vs ∧ Reps X.K X.mg F H ds vs := by
  cases x with
  | oo c fs => cases e
  | ol xs =>
    cases e
    obtain ⟨a, vs, h1, h2, h3, k⟩ := r.asLS (S := S) rfl hs
    exact ⟨a, vs, h1, ⟨.inl h2, fun F' H' _ kp => .inl (rd_keep (fun o => kp a o h3) h2)⟩, k⟩
  | pl d =>
    cases d <;> first | cases e | skip
    · obtain ⟨a, vs, h1, h2, f, k⟩ := r.tup
      exact ⟨a, vs, h1, ⟨f.1, fun F' H' gr kp => (f.mono ⟨gr, fun b o hf => kp b o (hs b (.inl hf))⟩).1⟩, k⟩
    · obtain ⟨a, vs, h1, h2, h3, k⟩ := r.asLS (S := S) rfl hs
      exact ⟨a, vs, h1, ⟨.inl h2, fun F' H' _ kp => .inl (rd_keep (fun o => kp a o h3) h2)⟩, k⟩
theorem walk_zipX {X : Cx} {S F : Addr → Prop} {H : Hp} {t u : Bool} {a b : Addr} {vs ws : List V} {ds es : List D} (h : KeptK X S F H t a vs) (r : Reps X.K X.mg F H ds vs) (h2 : KeptK X S F H u b ws) (r2 : Reps X.K X.mg F H es ws) (le : ∀ b, F b → S b) :
    WalkOk X S F H (ItX X.K t u a b) (List.zipWith pairD ds es) := fun F' H' own gr kp ok i => by
  have lf : Le F H F' H' := ⟨gr, fun b o hf => kp b o (le b hf)⟩
  have k1 := h.2 F' H' gr kp
  have k2 := h2.2 F' H' gr kp
  refine ⟨fun e => ⟨vs, ws, k1, k2, ?_⟩, fun d hd => ?_⟩
  · rw [r.length, r2.length]
    rw [List.length_zipWith] at e
    omega
  · obtain ⟨x, y, hx, hy, rfl⟩ := zip_get hd
    obtain ⟨v, hv, rv⟩ := r.get hx
    obtain ⟨w, hw, rw'⟩ := r2.get hy
    refine ⟨⟨vs, ws, v, w, k1, k2, hv, hw⟩, fun z H'' ⟨p, x', y', ez, hp, eH, q1, q2⟩ => ?_⟩
    subst ez eH
    have e1 := q1 vs k1
    have e2 := q2 ws k2
    rw [hv] at e1; cases e1
    rw [hw] at e2; cases e2
    exact rep_pair ok hp (rv.mono lf) (rw'.mono lf)
theorem src_zipX {X : Cx} : Srcs X zipX (kZipX X.K) := by
  intro S F H ts vs as ds R r e hs h
  unfold zipX at e
  split at e
  · simp only [Option.bind_eq_some_iff, Option.map_eq_some_iff] at e
    obtain ⟨⟨t, xs⟩, e1, ⟨u, ys⟩, e2, rfl⟩ := e
    obtain ⟨v, v', a1, a2, rfl, rfl, r1, r2⟩ := r.two
    obtain ⟨a, vs, rfl, q1, k1⟩ := RepT.asZK (S := S) r1 e1 fun b hb => hs b (hb.imp id fun z => List.mem_append_left _ z)
    obtain ⟨b, ws, rfl, q2, k2⟩ := RepT.asZK (S := S) r2 e2 fun b hb => hs b (hb.imp id fun z => List.mem_append_right _ z)
    exact ⟨t, u, a, b, vs, ws, rfl, q1.1, q2.1, h _ (walk_zipX q1 k1 q2 k2 fun b hb => hs b (.inl hb))⟩
  · cases e
end Mir

/-! MirW: what a mirror's run gives, step by step. -/
namespace Mir
open PySem

/-! ### sizes of ints -/
class Sz (i : Int) (n : outParam Nat) : Prop where
  lt : i.natAbs < 2 ^ n
theorem Sz.mono {i : Int} {n m : Nat} (h : Sz i n) (l : n ≤ m) : Sz i m := ⟨Nat.lt_of_lt_of_le h.lt (Nat.pow_le_pow_right (by decide) l)⟩
theorem Sz.log {i : Int} {n : Nat} (h : Sz i n) : i.natAbs.log2 < n + 1 := by
  by_cases hi : i.natAbs = 0
  · rw [hi, show Nat.log2 0 = 0 from by decide]; omega
  · have := (Nat.log2_lt hi).mpr (Nat.lt_of_lt_of_le h.lt (Nat.pow_le_pow_right (by decide) (Nat.le_succ n)))
    exact this
instance szMul {i j : Int} {n m : Nat} [h : Sz i n] [k : Sz j m] : Sz (i * j) (n + m) := ⟨by
  rw [Int.natAbs_mul, Nat.pow_add]
  exact Nat.mul_lt_mul'' h.lt k.lt⟩
theorem pow_add2 (n m : Nat) : 2 ^ n + 2 ^ m ≤ 2 ^ (n + m + 1) := by
  have h1 : 2 ^ n ≤ 2 ^ (n + m) := Nat.pow_le_pow_right (by decide) (Nat.le_add_right n m)
  have h2 : 2 ^ m ≤ 2 ^ (n + m) := Nat.pow_le_pow_right (by decide) (Nat.le_add_left m n)
  rw [Nat.pow_succ]; omega
theorem pow_max (n m : Nat) : 2 ^ n + 2 ^ m ≤ 2 ^ (max n m + 1) := by
  have h1 : 2 ^ n ≤ 2 ^ (max n m) := Nat.pow_le_pow_right (by decide) (Nat.le_max_left n m)
  have h2 : 2 ^ m ≤ 2 ^ (max n m) := Nat.pow_le_pow_right (by decide) (Nat.le_max_right n m)
  rw [Nat.pow_succ]; omega
instance szAdd {i j : Int} {n m : Nat} [h : Sz i n] [k : Sz j m] : Sz (i + j) (max n m + 1) := ⟨Nat.lt_of_lt_of_le (Nat.lt_of_le_of_lt (Int.natAbs_add_le i j) (by have := h.lt; have := k.lt; omega)) (pow_max n m)⟩
instance szSub {i j : Int} {n m : Nat} [h : Sz i n] [k : Sz j m] : Sz (i - j) (max n m + 1) := ⟨by
  have e : (i - j).natAbs ≤ i.natAbs + j.natAbs := by omega
  exact Nat.lt_of_lt_of_le (Nat.lt_of_le_of_lt e (by have := h.lt; have := k.lt; omega)) (pow_max n m)⟩
instance szNeg {i : Int} {n : Nat} [h : Sz i n] : Sz (-i) n := ⟨by rw [Int.natAbs_neg]; exact h.lt⟩
instance (priority := low) szLit {k : Nat} : Sz (no_index (OfNat.ofNat k : Int)) (k.log2 + 1) := ⟨by
  show (Int.ofNat k).natAbs < 2 ^ (k.log2 + 1)
  rw [Int.natAbs_ofNat']
  exact Nat.lt_log2_self⟩
theorem sz_le {i j : Int} {n : Nat} (k : Sz j n) (h : i.natAbs ≤ j.natAbs) : Sz i n := ⟨Nat.lt_of_le_of_lt h k.lt⟩
theorem sz_lt {i : Int} {b : Int} {n : Nat} (k : Sz b n) (h0 : 0 ≤ i) (h : i < b) : Sz i n := sz_le k (by omega)
theorem opMul_sz {i j : Int} {n m : Nat} [h : Sz i n] [k : Sz j m] (hh : n + m < 100000000) : opMul (.pl (.int i)) (.pl (.int j)) = some (.pl (.int (i * j))) := by
  show (if i.natAbs.log2 + j.natAbs.log2 < 100000000 then some (T.pl (.int (i * j))) else none) = _
  have := h.log
  have := k.log
  by_cases hi : i.natAbs.log2 + j.natAbs.log2 < 100000000
  · rw [if_pos hi]
  · omega
theorem opDiv_sz {i j : Int} {m : Nat} [k : Sz j m] (h0 : 0 < j) (hh : m < 9000) : opDiv (.pl (.int i)) (.pl (.int j)) = some (.pl (.int (i / j))) := by
  show (if j ≠ 0 ∧ j.natAbs.log2 < 9000 then some (T.pl (.int (i.fdiv j))) else none) = _
  have := k.log
  have hj : j ≠ 0 ∧ j.natAbs.log2 < 9000 := by
    refine ⟨by omega, ?_⟩
    have : j.natAbs.log2 < m ∨ j.natAbs.log2 ≤ m := .inr (by omega)
    omega
  rw [if_pos hj, Int.fdiv_eq_ediv_of_nonneg i (by omega)]
theorem opMod_pos {i j : Int} (h0 : 0 < j) : opMod (.pl (.int i)) (.pl (.int j)) = some (.pl (.int (i % j))) := by
  show (if j ≠ 0 then some (T.pl (.int (i.fmod j))) else none) = _
  rw [if_pos (show j ≠ 0 by omega), Int.fmod_eq_emod_of_nonneg i (by omega)]
theorem opAdd_int (i j : Int) : opAdd (.pl (.int i)) (.pl (.int j)) = some (.pl (.int (i + j))) := rfl
theorem opSub_int (i j : Int) : opSub (.pl (.int i)) (.pl (.int j)) = some (.pl (.int (i - j))) := rfl
theorem opNeg_int (i : Int) : opNeg (.pl (.int i)) = some (.pl (.int (-i))) := rfl
theorem opCmp_int (p : Int → Int → Bool) (i j : Int) : opCmp p (.pl (.int i)) (.pl (.int j)) = some (.pl (.bl (p i j))) := rfl

/-! ### runs -/
structure W {α : Type} (o : Out α) (Q : α → Slots → Prop) : Prop where
  go : match o with
    | .ok a e => Q a e
    | _ => False
structure WF (r : FRes) (Q : T → List T → Prop) : Prop where
  go : match r with
    | .ok t o => Q t o
    | _ => False
theorem W.no {α : Type} {Q : α → Slots → Prop} {C : Prop} (h : W .no Q) : C := (show False from h.go).elim
theorem W.ex {α : Type} {Q : α → Slots → Prop} {C : Prop} {x e} (h : W (.ex x e) Q) : C := (show False from h.go).elim
theorem W.ok {α : Type} {Q : α → Slots → Prop} {x e} (h : W (.ok x e) Q) : Q x e := h.go
theorem W.I {α : Type} {Q : α → Slots → Prop} {x e} (h : Q x e) : W (.ok x e) Q := ⟨h⟩
theorem WF.no {Q} {C : Prop} (h : WF .no Q) : C := (show False from h.go).elim
theorem WF.ex {Q} {C : Prop} {x e} (h : WF (.ex x e) Q) : C := (show False from h.go).elim
theorem WF.ok {Q} {x e} (h : WF (.ok x e) Q) : Q x e := h.go
theorem WF.I {Q : T → List T → Prop} {x e} (h : Q x e) : WF (.ok x e) Q := ⟨h⟩
theorem W.mono {α : Type} {o : Out α} {Q Q' : α → Slots → Prop} (h : W o Q) (i : ∀ a e, Q a e → Q' a e) : W o Q' := by
  cases o with
  | ok a e => exact .I (i a e h.ok)
  | ex x e => exact h.ex
  | no => exact h.no
theorem WF.mono {r : FRes} {Q Q' : T → List T → Prop} (h : WF r Q) (i : ∀ a e, Q a e → Q' a e) : WF r Q' := by
  cases r with
  | ok a e => exact .I (i a e h.ok)
  | ex x e => exact h.ex
  | no => exact h.no
theorem WF.eq {r : FRes} {Q : T → List T → Prop} (h : WF r Q) : ∃ t o, r = .ok t o ∧ Q t o := by
  cases r with
  | ok a e => exact ⟨a, e, rfl, h.ok⟩
  | ex x e => exact h.ex
  | no => exact h.no
theorem WF.of {r : FRes} {t o} {Q : T → List T → Prop} (e : r = .ok t o) (h : Q t o) : WF r Q := by rw [e]; exact .I h
/-- behind a statement -/
def SeqK (b : MS) (Q : Fl → Slots → Prop) : Fl → Slots → Prop
  | .nx, e => W (b e) Q
  | .bk, e => Q .bk e
  | .ct, e => Q .ct e
  | .rt t, e => Q (.rt t) e
section
variable {env e1 e2 : Slots} {Q : Fl → Slots → Prop} {R : T → Slots → Prop} {B : Bool → Slots → Prop} {a b s s' : MS} {m m' : M T} {ρ : Rd T} {β : Rd Bool} {μ : M Bool} {i : Nat} {t : T} {d : D}
theorem w_seq (h : W (a env) (SeqK b Q)) : W (mSeq a b env) Q := by
  unfold mSeq
  cases h1 : a env with
  | no => rw [h1] at h; exact h.no
  | ex x e => rw [h1] at h; exact h.ex
  | ok fl e =>
    rw [h1] at h
    cases fl with
    | nx => exact h.ok
    | bk => exact .I h.ok
    | ct => exact .I h.ok
    | rt t => exact .I h.ok
theorem w_nx (h : W (b env) Q) : SeqK b Q .nx env := h
theorem w_bk (h : Q .bk env) : SeqK b Q .bk env := h
theorem w_ct (h : Q .ct env) : SeqK b Q .ct env := h
theorem w_rt (h : Q (.rt t) env) : SeqK b Q (.rt t) env := h
theorem w_skip (h : Q .nx env) : W (mSkip env) Q := .I h
theorem w_brk (h : Q .bk env) : W (mBrk env) Q := .I h
theorem w_cnt (h : Q .ct env) : W (mCnt env) Q := .I h
theorem w_bind {α γ : Type} {m : M α} {k : α → M γ} {Q : γ → Slots → Prop} (h : W (m env) fun a e => W (k a e) Q) : W (m.bind k env) Q := by
  unfold M.bind
  cases h1 : m env with
  | no => rw [h1] at h; exact h.no
  | ex x e => rw [h1] at h; exact h.ex
  | ok x e => rw [h1] at h; exact h.ok
def PutK (i : Nat) (Q : Fl → Slots → Prop) : T → Slots → Prop := fun t e => ∃ e', put i t e = some e' ∧ Q .nx e'
theorem w_set (h : W (m env) (PutK i Q)) : W (mSet i m env) Q := by
  unfold mSet
  refine w_bind (h.mono fun t e ⟨e', h1, h2⟩ => ?_)
  rw [h1]; exact .I h2
theorem w_put (h1 : put i t env = some e1) (h : Q .nx e1) : PutK i Q t env := ⟨e1, h1, h⟩
theorem w_r (h1 : ρ env = some (.pl d)) (h : R (.pl d) env) : W (ofR ρ env) R := by
  unfold ofR; rw [h1]; exact .I h
theorem w_rB {b : Bool} (h1 : β env = some b) (h : B b env) : W (ofRB β env) B := by
  unfold ofRB; rw [h1]; exact .I h
theorem w_ifS (h : W (μ env) fun c e => (c = true → W (s e) Q) ∧ (c = false → W (s' e) Q)) : W (mIfS μ s s' env) Q := by
  unfold mIfS
  refine w_bind (h.mono fun c e h => ?_)
  cases c with
  | true => exact h.1 rfl
  | false => exact h.2 rfl
theorem w_ifr {c : Bool} (h1 : β env = some c) (ht : c = true → W (s env) Q) (hf : c = false → W (s' env) Q) : W (mIfS (ofRB β) s s' env) Q := w_ifS (w_rB h1 ⟨ht, hf⟩)
theorem w_ret (h : W (m env) fun t e => Q (.rt t) e) : W (mRet m env) Q := by
  unfold mRet
  exact w_bind (h.mono fun _ _ h => .I h)
theorem w_retR (h1 : ρ env = some (.pl d)) (h : Q (.rt (.pl d)) env) : W (mRet (ofR ρ) env) Q := w_ret (w_r h1 h)
theorem w_retN (h : Q (.rt (.pl .non)) env) : W (mRetN env) Q := .I h
theorem w_drop (h : W (m env) fun t e => Q .nx e) : W (mDrop m env) Q := by
  unfold mDrop
  exact w_bind (h.mono fun _ _ h => .I h)
theorem w_setR (h1 : ρ env = some (.pl d)) (h2 : put i (.pl d) env = some e1) (h : Q .nx e1) : W (mSet i (ofR ρ) env) Q := w_set (w_r h1 (w_put h2 h))
theorem w_mv (h1 : env[i]? = some (some t)) (h : R (fz t) (env.set i (some (fz t)))) : W (mv i env) R := by
  unfold mv; rw [h1]; exact .I h
theorem w_move (h1 : env[i]? = some (some t)) (h : R t (env.set i none)) : W (mmove i env) R := by
  unfold mmove; rw [h1]; exact .I h
theorem w_mfz (h : W (m env) fun t e => R (fz t) e) : W (mfz m env) R := by
  unfold mfz
  exact w_bind (h.mono fun _ _ h => .I h)
theorem w_m1 {f : T → Option T} (h : W (m env) fun x e => ∃ z, f x = some z ∧ R z e) : W (m1 f m env) R := by
  unfold m1
  refine w_bind (h.mono fun x e ⟨z, h1, h2⟩ => ?_)
  rw [h1]; exact .I h2
theorem w_m2 {f : T → T → Option T} (h : W (m env) fun x e => W (m' e) fun y e => ∃ z, f x y = some z ∧ R z e) : W (m2 f m m' env) R := by
  unfold m2
  refine w_bind (h.mono fun x e h => w_bind (h.mono fun y e ⟨z, h1, h2⟩ => ?_))
  rw [h1]; exact .I h2
theorem w_mN {f : List T → Option T} {μ : M (List T)} (h : W (μ env) fun x e => ∃ z, f x = some z ∧ R z e) : W (mN f μ env) R := by
  unfold mN
  refine w_bind (h.mono fun x e ⟨z, h1, h2⟩ => ?_)
  rw [h1]; exact .I h2
theorem w_mNr {f : List T → Option T} {ρ : Rd (List T)} (h1 : (ρ env).bind f = some t) (h : R t env) : W (mNr f ρ env) R := by
  unfold mNr
  rw [h1]; exact .I h
theorem w_mnil {L : List T → Slots → Prop} (h : L [] env) : W (mnil env) L := .I h
theorem w_mcons {μ : M (List T)} {L : List T → Slots → Prop} (h : W (m env) fun x e => W (μ e) fun y e => L (x :: y) e) : W (mcons m μ env) L := by
  unfold mcons
  exact w_bind (h.mono fun x e h => w_bind (h.mono fun _ _ h => .I h))
theorem w_mlst {μ : M (List T)} (h : W (μ env) fun ts e => ts.length ≤ big ∧ R (.ol (frzs ts)) e) : W (mlst μ env) R := by
  unfold mlst
  refine w_bind (h.mono fun x e ⟨h1, h2⟩ => ?_)
  unfold M.ofO
  rw [if_pos h1]; exact .I h2
theorem w_mtup {μ : M (List T)} (h : W (μ env) fun ts e => ts.length ≤ big ∧ R (.pl (.tup (frzs ts))) e) : W (mtup μ env) R := by
  unfold mtup
  refine w_bind (h.mono fun x e ⟨h1, h2⟩ => ?_)
  unfold M.ofO
  rw [if_pos h1]; exact .I h2
theorem w_mb {f : T → Option Bool} (h : W (m env) fun x e => ∃ z, f x = some z ∧ B z e) : W (mb f m env) B := by
  unfold mb
  refine w_bind (h.mono fun x e ⟨z, h1, h2⟩ => ?_)
  rw [h1]; exact .I h2
theorem w_mAndB {μ' : M Bool} (h : W (μ env) fun c e => (c = true → W (μ' e) B) ∧ (c = false → B false e)) : W (mAndB μ μ' env) B := by
  unfold mAndB
  refine w_bind (h.mono fun c e h => ?_)
  cases c with
  | true => exact h.1 rfl
  | false => exact .I (h.2 rfl)
theorem w_mOrB {μ' : M Bool} (h : W (μ env) fun c e => (c = true → B true e) ∧ (c = false → W (μ' e) B)) : W (mOrB μ μ' env) B := by
  unfold mOrB
  refine w_bind (h.mono fun c e h => ?_)
  cases c with
  | true => exact .I (h.1 rfl)
  | false => exact h.2 rfl
theorem w_mNotB (h : W (μ env) fun c e => B (!c) e) : W (mNotB μ env) B := by
  unfold mNotB
  exact w_bind (h.mono fun _ _ h => .I h)
theorem w_mIf {α : Type} {x y : M α} {Q : α → Slots → Prop} (h : W (μ env) fun c e => (c = true → W (x e) Q) ∧ (c = false → W (y e) Q)) : W (mIf μ x y env) Q := by
  unfold mIf
  refine w_bind (h.mono fun c e h => ?_)
  cases c with
  | true => exact h.1 rfl
  | false => exact h.2 rfl
theorem w_mAndV (h : W (m env) fun x e => ∃ c, asB x = some c ∧ (c = true → W (m' e) R) ∧ (c = false → R (.pl (.bl false)) e)) : W (mAndV m m' env) R := by
  unfold mAndV
  refine w_bind (h.mono fun x e ⟨c, h1, h2, h3⟩ => ?_)
  rw [h1]
  cases c with
  | true => exact h2 rfl
  | false => exact .I (h3 rfl)
theorem w_mOrV (h : W (m env) fun x e => ∃ c, asB x = some c ∧ (c = true → R (.pl (.bl true)) e) ∧ (c = false → W (m' e) R)) : W (mOrV m m' env) R := by
  unfold mOrV
  refine w_bind (h.mono fun x e ⟨c, h1, h2, h3⟩ => ?_)
  rw [h1]
  cases c with
  | true => exact .I (h2 rfl)
  | false => exact h3 rfl
/-! calls -/
theorem w_pnil {L : List PreT → Slots → Prop} (h : L [] env) : W (pnil env) L := .I h
theorem w_pval {μ : M (List PreT)} {L : List PreT → Slots → Prop} (h : W (m env) fun x e => W (μ e) fun y e => L (.v x :: y) e) : W (pval m μ env) L := by
  unfold pval
  exact w_bind (h.mono fun x e h => w_bind (h.mono fun _ _ h => .I h))
theorem w_pslot {μ : M (List PreT)} {L : List PreT → Slots → Prop} (h1 : env[i]? = some (some t)) (h : W (μ env) fun y e => L (.s i :: y) e) : W (pslot i μ env) L := by
  unfold pslot
  rw [h1]
  exact w_bind (h.mono fun _ _ h => .I h)
theorem w_call {f : List T → FRes} {μ : M (List PreT)} (h : W (μ env) fun ps e => ∃ ts e2, takeAll ps e = some (ts, e2) ∧ WF (f ts) fun t o => R t (backAll ps o e2)) : W (mCall f μ env) R := by
  unfold mCall
  refine w_bind (h.mono fun ps e ⟨ts, e2, h1, h2⟩ => ?_)
  rw [h1]
  dsimp only
  cases hf : f ts with
  | ok t o => rw [hf] at h2; exact .I h2.ok
  | ex x o => rw [hf] at h2; exact h2.ex
  | no => rw [hf] at h2; exact h2.no
theorem w_take {f : List T → FRes} {ps : List PreT} {ts : List T} (h1 : takeAll ps env = some (ts, e2)) (h : WF (f ts) fun t o => R t (backAll ps o e2)) : ∃ ts e2, takeAll ps env = some (ts, e2) ∧ WF (f ts) fun t o => R t (backAll ps o e2) := ⟨ts, e2, h1, h⟩
/-! lists changed in place -/
theorem w_mut {f : LF} {μ : M (List T)} {xs0 : List D} (h0 : env[i]? = some (some (.ol xs0))) (h : W (μ env) fun ts e => ∃ xs d xs', e[i]? = some (some (.ol xs)) ∧ f xs (frzs ts) = some (d, xs') ∧ R (.pl d) (e.set i (some (.ol xs')))) : W (mMut f i μ env) R := by
  unfold mMut
  rw [h0]
  dsimp only
  cases h1 : μ env with
  | no => rw [h1] at h; exact h.no
  | ex x e => rw [h1] at h; exact h.ex
  | ok ts e =>
    rw [h1] at h
    obtain ⟨xs, d, xs', q1, q2, q3⟩ := h
    dsimp only
    rw [q1]
    dsimp only
    rw [q2]; exact .I q3
theorem w_setix {k : Rd T} (h : W (m env) fun t e => ∃ xs n j, e[i]? = some (some (.ol xs)) ∧ k e = some (.pl (.int n)) ∧ L2.ixN xs.length n = some j ∧ Q .nx (e.set i (some (.ol (xs.set j t.frz))))) : W (mSetIx i k m env) Q := by
  unfold mSetIx
  refine w_bind (h.mono fun t e ⟨xs, n, j, h1, h2, h3, h4⟩ => ?_)
  rw [h1]
  dsimp only
  rw [h2]
  show W (match L2.ixN xs.length n with | some n => _ | none => _) Q
  rw [h3]; exact .I h4
/-! loops -/
theorem w_for {st : D → Slots → Option Slots} {src : M (List D)} (h : W (src env) fun ds e => W (mForL st s ds e) Q) : W (mFor st src s env) Q := by
  unfold mFor
  exact w_bind h
theorem w_seqS {L : List D → Slots → Prop} (h : W (m env) fun t e => ∃ ds, seqD t.frz = some ds ∧ L ds e) : W (mSeqS m env) L := by
  unfold mSeqS
  refine w_bind (h.mono fun t e ⟨ds, h1, h2⟩ => ?_)
  rw [h1]; exact .I h2
theorem w_src {f : List T → Option (List D)} {μ : M (List T)} {L : List D → Slots → Prop} (h : W (μ env) fun ts e => ∃ ds, f ts = some ds ∧ L ds e) : W (mSrc f μ env) L := by
  unfold mSrc
  refine w_bind (h.mono fun t e ⟨ds, h1, h2⟩ => ?_)
  rw [h1]; exact .I h2
def ForK (I : Slots → Prop) (Q : Fl → Slots → Prop) : Fl → Slots → Prop
  | .nx, e => I e
  | .ct, e => I e
  | .bk, e => Q .nx e
  | .rt t, e => Q (.rt t) e
theorem w_forL {st : D → Slots → Option Slots} (I : List D → Slots → Prop) {ds : List D} (h0 : I ds env) (hs : ∀ d r e, I (d :: r) e → ∃ e1, st d e = some e1 ∧ W (s e1) (ForK (I r) Q)) (hd : ∀ e, I [] e → Q .nx e) : W (mForL st s ds env) Q := by
  induction ds generalizing env with
  | nil => exact .I (hd env h0)
  | cons d r ih =>
    obtain ⟨e1, q1, q2⟩ := hs d r env h0
    unfold mForL
    rw [q1]
    dsimp only
    cases hb : s e1 with
    | no => rw [hb] at q2; exact q2.no
    | ex x e => rw [hb] at q2; exact q2.ex
    | ok fl e =>
      rw [hb] at q2
      cases fl with
      | nx => exact ih q2.ok
      | ct => exact ih q2.ok
      | bk => exact .I q2.ok
      | rt t => exact .I q2.ok
/-- by the turn's number -/
theorem w_forN {st : D → Slots → Option Slots} {ds : List D} (I : Nat → Slots → Prop) (h0 : I 0 env) (hs : ∀ k d e, ds[k]? = some d → I k e → ∃ e1, st d e = some e1 ∧ W (s e1) (ForK (I (k + 1)) Q)) (hd : ∀ e, I ds.length e → Q .nx e) : W (mForL st s ds env) Q := by
  refine w_forL (fun r e => ∃ k, k ≤ ds.length ∧ r = ds.drop k ∧ I k e) ⟨0, Nat.zero_le _, by simp, h0⟩ (fun d r e ⟨k, hk, hr, hi⟩ => ?_) fun e ⟨k, hk, hr, hi⟩ => ?_
  · have hlt : k < ds.length := by
      have := congrArg List.length hr
      simp at this; omega
    rw [List.drop_eq_getElem_cons hlt] at hr
    obtain ⟨rfl, rfl⟩ := List.cons.inj hr
    obtain ⟨e1, q1, q2⟩ := hs k _ e (List.getElem?_eq_getElem hlt) hi
    refine ⟨e1, q1, q2.mono fun fl e h => ?_⟩
    cases fl with
    | nx => exact ⟨k + 1, hlt, rfl, h⟩
    | ct => exact ⟨k + 1, hlt, rfl, h⟩
    | bk => exact h
    | rt t => exact h
  · have : k = ds.length := by
      have := congrArg List.length hr
      simp at this; omega
    subst this; exact hd e hi
theorem f_nx {I : Slots → Prop} (h : I env) : ForK I Q .nx env := h
theorem f_ct {I : Slots → Prop} (h : I env) : ForK I Q .ct env := h
theorem f_bk {I : Slots → Prop} (h : Q .nx env) : ForK I Q .bk env := h
theorem f_rt {I : Slots → Prop} (h : Q (.rt t) env) : ForK I Q (.rt t) env := h
/-! comprehensions that do -/
theorem w_comp {vs : List Nat} {st : D → Slots → Option Slots} {src : M (List D)} {tt : M Bool} {el : M T} (h : W (src env) fun ds e => W (mCompL vs st tt el ds [] (wipeS e vs)) fun acc e' => acc.length < big ∧ R (.ol acc) (restS e e' vs)) : W (mComp vs st src tt el env) R := by
  unfold mComp
  refine w_bind (h.mono fun ds e h => ?_)
  cases h1 : mCompL vs st tt el ds [] (wipeS e vs) with
  | no => rw [h1] at h; exact h.no
  | ex x e => rw [h1] at h; exact h.ex
  | ok acc e' =>
    rw [h1] at h
    obtain ⟨q1, q2⟩ := h
    dsimp only
    rw [if_pos q1]; exact .I q2
theorem w_compL {vs : List Nat} {st : D → Slots → Option Slots} {tt : M Bool} {el : M T} {L : List D → Slots → Prop} {ds : List D} {acc : List D} (I : List D → List D → Slots → Prop) (h0 : I ds acc env)
    (hs : ∀ d r acc e, I (d :: r) acc e → ∃ e1, st d e = some e1 ∧ W (tt e1) fun c e2 => (c = true → W (el e2) fun t e3 => I r (acc ++ [t.frz]) (wipeS e3 vs)) ∧ (c = false → I r acc (wipeS e2 vs))) (hd : ∀ acc e, I [] acc e → L acc e) : W (mCompL vs st tt el ds acc env) L := by
  induction ds generalizing env acc with
  | nil => unfold mCompL; exact .I (hd acc env h0)
  | cons d r ih =>
    obtain ⟨e1, q1, q2⟩ := hs d r acc env h0
    unfold mCompL
    rw [q1]
    dsimp only
    cases h1 : tt e1 with
    | no => rw [h1] at q2; exact q2.no
    | ex x e => rw [h1] at q2; exact q2.ex
    | ok c e2 =>
      rw [h1] at q2
      cases c with
      | false => exact ih (q2.ok.2 rfl)
      | true =>
        have q3 := q2.ok.1 rfl
        dsimp only
        cases h2 : el e2 with
        | no => rw [h2] at q3; exact q3.no
        | ex x e => rw [h2] at q3; exact q3.ex
        | ok t e3 => rw [h2] at q3; exact ih q3.ok
theorem w_yes (h : B true env) : W (mYes env) B := .I h
end
/-! defs -/
def FnK (args : List T) (Q : T → List T → Prop) : Fl → Slots → Prop
  | .rt t, e => ∃ o, outsOf args e = some o ∧ Q t o
  | .nx, e => ∃ o, outsOf args e = some o ∧ Q (.pl .non) o
  | _, _ => False
theorem w_fn {n : Nat} {fx : List Nat} {body : MS} {args : List T} {Q : T → List T → Prop} (h0 : ownOk fx 0 args = true) (h : W (body (args.map some ++ List.replicate (n - args.length) none)) (FnK args Q)) : WF (mkFn n fx body args) Q := by
  unfold mkFn
  rw [if_pos h0]
  cases h1 : body (args.map some ++ List.replicate (n - args.length) none) with
  | no => rw [h1] at h; exact h.no
  | ex x e => rw [h1] at h; exact h.ex
  | ok fl e =>
    rw [h1] at h
    cases fl with
    | nx => obtain ⟨o, q1, q2⟩ := h.ok; dsimp only; rw [q1]; exact .I q2
    | rt t => obtain ⟨o, q1, q2⟩ := h.ok; dsimp only; rw [q1]; exact .I q2
    | bk => exact h.ok.elim
    | ct => exact h.ok.elim
theorem fn_rt {args o : List T} {t : T} {e : Slots} {Q : T → List T → Prop} (h1 : outsOf args e = some o) (h : Q t o) : FnK args Q (.rt t) e := ⟨o, h1, h⟩
theorem fn_nx {args o : List T} {e : Slots} {Q : T → List T → Prop} (h1 : outsOf args e = some o) (h : Q (.pl .non) o) : FnK args Q .nx e := ⟨o, h1, h⟩
/-- a reading call -/
theorem rCall_of {f : List T → FRes} {ρ : Rd (List T)} {env : Slots} {ts : List T} {t : T} {o : List T} (h1 : ρ env = some ts) (h2 : f (ts.map fz) = .ok t o) (h3 : ((plains ts).isSome || t.frz.noRef) = true) : rCall f ρ env = some (fz t) := by
  unfold rCall
  rw [h1, Option.bind_some, h2]
  dsimp only
  rw [if_pos h3]
end Mir

/-! MirE: what a mirror's reads give. -/
namespace Mir
open PySem L2
section
variable {env e1 e2 : Slots} {ρ ρ' ρc : Rd T} {β β' : Rd Bool} {κ : Rd (List T)} {σ : Rd (List D)} {ts : List T} {t t' u : T} {d : D} {x y : Bool} {i : Nat} {f : T → T → Option T} {ds : List D} {o o' : Option Int}
theorem e_r1 {f : T → Option T} (h : ρ env = some t) (hf : f t = some u) : r1 f ρ env = some (fz u) := by unfold r1; rw [h, Option.bind_some, hf]; rfl
theorem e_r2 (h : ρ env = some t) (h' : ρ' env = some t') (hf : f t t' = some u) : r2 f ρ ρ' env = some (fz u) := by unfold r2; rw [h, Option.bind_some, h', Option.bind_some, hf]; rfl
theorem e_r2p (h : ρ env = some t) (h' : ρ' env = some t') (hf : f t t' = some (.pl d)) : r2 f ρ ρ' env = some (.pl d) := e_r2 h h' hf
theorem e_r1p {f : T → Option T} (h : ρ env = some t) (hf : f t = some (.pl d)) : r1 f ρ env = some (.pl d) := e_r1 h hf
theorem e_rN {f : List T → Option T} (h : κ env = some ts) (hf : f ts = some u) : rN f κ env = some (fz u) := by unfold rN; rw [h, Option.bind_some, hf]; rfl
theorem e_rNp {f : List T → Option T} (h : κ env = some ts) (hf : f ts = some (.pl d)) : rN f κ env = some (.pl d) := e_rN h hf
theorem e_rcons (h : ρ env = some t) (h' : κ env = some ts) : rcons ρ κ env = some (t :: ts) := by unfold rcons; rw [h, Option.bind_some, h']; rfl
theorem e_rnil : rnil env = some [] := rfl
theorem e_rsome {ρ : Rd T} {n : Int} (h : ρ env = some (.pl (.int n))) : rsome ρ env = some (some n) := by unfold rsome; rw [h]; rfl
theorem e_r3 {f : T → Option Int → Option Int → Option T} {l h : Rd (Option Int)} (h0 : ρ env = some t) (h1 : l env = some o) (h2 : h env = some o') (hf : f t o o' = some u) : r3 f ρ l h env = some (fz u) := by
  unfold r3; rw [h0, Option.bind_some, h1, Option.bind_some, h2, Option.bind_some, hf]; rfl
theorem e_rtup (h : κ env = some ts) (hp : plains ts = some ds) (hl : ds.length ≤ big) : rtup κ env = some (.pl (.tup ds)) := by unfold rtup; rw [h, Option.bind_some, hp, Option.bind_some, if_pos hl]
theorem e_rlst (h : κ env = some ts) (hp : plains ts = some ds) (hl : ds.length ≤ big) : rlst κ env = some (.pl (.lst ds)) := by unfold rlst; rw [h, Option.bind_some, hp, Option.bind_some, if_pos hl]
theorem e_rb {f : T → Option Bool} (h : ρ env = some t) (hf : f t = some x) : rb f ρ env = some x := by unfold rb; rw [h, Option.bind_some, hf]
theorem e_and (h : β env = some x) (h' : x = true → β' env = some y) : rAndB β β' env = some (x && y) := by
  unfold rAndB; rw [h, Option.bind_some]
  cases x with
  | true => exact h' rfl
  | false => rfl
theorem e_or (h : β env = some x) (h' : x = false → β' env = some y) : rOrB β β' env = some (x || y) := by
  unfold rOrB; rw [h, Option.bind_some]
  cases x with
  | true => rfl
  | false => exact h' rfl
theorem e_not (h : β env = some x) : rNotB β env = some (!x) := by unfold rNotB; rw [h]; rfl
theorem e_notV (h : ρ env = some (.pl (.bl x))) : rNotV ρ env = some (.pl (.bl (!x))) := by unfold rNotV; rw [h]; rfl
theorem e_andV (h : ρ env = some (.pl (.bl x))) (h' : x = true → ρ' env = some (.pl (.bl y))) : rAndV ρ ρ' env = some (.pl (.bl (x && y))) := by
  unfold rAndV; rw [h, Option.bind_some]
  cases x with
  | true => exact h' rfl
  | false => rfl
theorem e_orV (h : ρ env = some (.pl (.bl x))) (h' : x = false → ρ' env = some (.pl (.bl y))) : rOrV ρ ρ' env = some (.pl (.bl (x || y))) := by
  unfold rOrV; rw [h, Option.bind_some]
  cases x with
  | true => rfl
  | false => exact h' rfl
theorem e_if (h : β env = some x) (h1 : x = true → ρ env = some t) (h2 : x = false → ρ' env = some t') : rIf β ρ ρ' env = some (if x = true then t else t') := by
  unfold rIf; rw [h, Option.bind_some]
  cases x with
  | true => exact h1 rfl
  | false => exact h2 rfl
theorem e_call {f : List T → FRes} {o : List T} (h : κ env = some ts) (h2 : f (ts.map fz) = .ok t o) (h3 : ((plains ts).isSome || t.frz.noRef) = true) : rCall f κ env = some (fz t) := rCall_of h h2 h3
theorem e_seqS (h : ρ env = some t) (h2 : seqD t.frz = some ds) : rSeqS ρ env = some ds := by unfold rSeqS; rw [h, Option.bind_some, h2]
theorem e_src {f : List T → Option (List D)} (h : κ env = some ts) (h2 : f ts = some ds) : rSrc f κ env = some ds := by unfold rSrc; rw [h, Option.bind_some, h2]
theorem compL_map {st : D → Slots → Option Slots} {el : Rd T} {env : Slots} {g : D → D} : ∀ {ds : List D}, (∀ d ∈ ds, ∃ e1, st d env = some e1 ∧ el e1 = some (.pl (g d))) → rCompL st rYes el env ds = some (ds.map g)
  | [], _ => rfl
  | d :: ds, h => by
    obtain ⟨e1, q1, q2⟩ := h d (by simp)
    unfold rCompL
    rw [q1, Option.bind_some]
    show ((el e1).bind _) = _
    rw [q2]
    show (Option.map _ (rCompL st rYes el env ds)) = _
    rw [compL_map fun d' hd => h d' (List.mem_cons_of_mem _ hd)]
    rfl
theorem e_comp {vs : List Nat} {st : D → Slots → Option Slots} {el : Rd T} (g : D → D) (hs : σ env = some ds) (hl : ds.length < big) (h : ∀ d ∈ ds, ∃ e1, st d (wipeS env vs) = some e1 ∧ el e1 = some (.pl (g d))) :
    rComp vs st σ rYes el env = some (.pl (.lst (ds.map g))) := by
  unfold rComp
  rw [hs, Option.bind_some, compL_map h, Option.bind_some, if_pos (by rw [List.length_map]; exact hl)]
end
/-! iL -/
abbrev iL (xs : List Int) : List D := xs.map D.int
theorem rgD0 (n : Nat) : rgD 0 n = iL ((List.range n).map fun k : Nat => (k : Int)) := by
  unfold rgD iL
  rw [List.map_map]
  apply List.map_congr_left
  intro k _
  show D.int (0 + (k : Int)) = D.int (k : Int)
  rw [Int.zero_add]
theorem rng_at {n k : Nat} {d : D} (h : (iL ((List.range n).map fun k : Nat => (k : Int)))[k]? = some d) : k < n ∧ d = .int (k : Int) := by
  unfold iL at h
  rw [List.map_map, List.getElem?_map, Option.map_eq_some_iff] at h
  obtain ⟨j, hj, rfl⟩ := h
  obtain ⟨q1, q2⟩ := List.getElem?_eq_some_iff.mp hj
  rw [List.length_range] at q1
  rw [List.getElem_range] at q2
  subst q2
  exact ⟨q1, rfl⟩
theorem rng1 {n : Nat} (h : n < 1000000) : rngD1 [.pl (.int (n : Int))] = some (iL ((List.range n).map fun k : Nat => (k : Int))) := by
  simp only [rngD1]
  rw [if_pos (show -(2 ^ 62) ≤ (n : Int) ∧ (n : Int) < 2 ^ 62 by omega), rgD0, Int.toNat_natCast]
section
variable {env e1 e2 : Slots} {ρ : Rd T} {σ : Rd (List D)} {xs : List Int}
theorem e_compI {vs : List Nat} {st : D → Slots → Option Slots} {el : Rd T} (g : Int → Int) (hs : σ env = some (iL xs)) (hl : xs.length < 1000000) (h : ∀ x ∈ xs, ∃ e1, st (.int x) (wipeS env vs) = some e1 ∧ el e1 = some (.pl (.int (g x)))) :
    rComp vs st σ rYes el env = some (.pl (.lst (iL (xs.map g)))) := by
  rw [e_comp (g := fun d => match d with | .int x => .int (g x) | d => d) hs (by rw [List.length_map]; exact hl) (fun d hd => ?_)]
  · unfold iL
    rw [List.map_map, List.map_map]
    rfl
  · obtain ⟨x, hx, rfl⟩ := List.mem_map.mp hd
    exact h x hx
theorem e_compR {vs : List Nat} {st : D → Slots → Option Slots} {el : Rd T} (g : Nat → Int) {n : Nat} (hs : σ env = some (iL ((List.range n).map fun k : Nat => (k : Int)))) (hl : n < 1000000) (h : ∀ k, k < n → ∃ e1, st (.int (k : Int)) (wipeS env vs) = some e1 ∧ el e1 = some (.pl (.int (g k)))) :
    rComp vs st σ rYes el env = some (.pl (.lst (iL ((List.range n).map g)))) := by
  rw [e_compI (g := fun x => g x.toNat) hs (by simpa using hl) (fun x hx => ?_), List.map_map]
  · rfl
  · obtain ⟨k, hk, rfl⟩ := List.mem_map.mp hx
    exact h k (List.mem_range.mp hk)
theorem getD_map {α β : Type} (f : α → β) (xs : List α) (k : Nat) (d : α) (e : β) (h : k < xs.length) : (xs.map f).getD k e = f (xs.getD k d) := by
  rw [List.getD_eq_getElem?_getD, List.getD_eq_getElem?_getD, List.getElem?_map, List.getElem?_eq_getElem h]; rfl
theorem atI_nat {α : Type} {xs : List α} {k : Nat} (h : k < xs.length) : atI xs (k : Int) = some xs[k] := by
  unfold atI
  have : ixN xs.length (k : Int) = some k := by
    unfold ixN
    rw [if_pos (by omega), if_pos (by omega)]
    rfl
  rw [this]
  exact List.getElem?_eq_getElem h
theorem ix_lst {ds : List D} {k : Nat} (h : k < ds.length) : opIx (.pl (.lst ds)) (.pl (.int (k : Int))) = some (.pl ds[k]) := by
  show (atI ds (k : Int)).map T.pl = _
  rw [atI_nat h]; rfl
theorem ix_tup {ds : List D} {k : Nat} (h : k < ds.length) : opIx (.pl (.tup ds)) (.pl (.int (k : Int))) = some (.pl ds[k]) := by
  show (atI ds (k : Int)).map T.pl = _
  rw [atI_nat h]; rfl
theorem ix_iL {xs : List Int} {k : Nat} (h : k < xs.length) : opIx (.pl (.lst (iL xs))) (.pl (.int (k : Int))) = some (.pl (.int (xs.getD k 0))) := by
  rw [ix_lst (by rw [List.length_map]; exact h), List.getElem_map, List.getD_eq_getElem?_getD, List.getElem?_eq_getElem h]; rfl
theorem ix_iLT {xs : List Int} {k : Nat} (h : k < xs.length) : opIx (.pl (.tup (iL xs))) (.pl (.int (k : Int))) = some (.pl (.int (xs.getD k 0))) := by
  rw [ix_tup (by rw [List.length_map]; exact h), List.getElem_map, List.getD_eq_getElem?_getD, List.getElem?_eq_getElem h]; rfl
end
theorem eqvs_iL : ∀ xs ys : List Int, D.eqvs (iL xs) (iL ys) = decide (xs = ys)
  | [], [] => rfl
  | [], _ :: _ => by simp [iL, D.eqvs]
  | _ :: _, [] => by simp [iL, D.eqvs]
  | x :: xs, y :: ys => by
    have := eqvs_iL xs ys
    unfold iL at this ⊢
    rw [List.map_cons, List.map_cons]
    unfold D.eqvs
    rw [this]
    simp [D.eqv, List.cons.injEq, Bool.decide_and, BEq.beq]
theorem flats_iL (n : Nat) : ∀ xs : List Int, D.flats n (iL xs) = true
  | [] => rfl
  | x :: xs => by
    have := flats_iL n xs
    unfold iL at this ⊢
    rw [List.map_cons]
    unfold D.flats D.flat
    rw [this]; rfl
theorem opEq_int (neg : Bool) (i j : Int) : opEq neg (.pl (.int i)) (.pl (.int j)) = some (.pl (.bl (if neg then !(i == j) else (i == j)))) := by
  unfold opEq
  rw [if_pos ⟨by simp [T.frz, D.flat], by simp [T.frz, D.flat]⟩]
  simp [T.frz, D.eqv]
theorem opEq_lst (neg : Bool) (xs ys : List Int) : opEq neg (.pl (.lst (iL xs))) (.pl (.lst (iL ys))) = some (.pl (.bl (if neg then !decide (xs = ys) else decide (xs = ys)))) := by
  unfold opEq
  rw [if_pos ⟨by unfold T.frz D.flat; exact flats_iL _ _, by unfold T.frz D.flat; exact flats_iL _ _⟩]
  unfold T.frz D.eqv
  rw [eqvs_iL]
theorem opEq_tup (neg : Bool) (xs ys : List Int) : opEq neg (.pl (.tup (iL xs))) (.pl (.tup (iL ys))) = some (.pl (.bl (if neg then !decide (xs = ys) else decide (xs = ys)))) := by
  unfold opEq
  rw [if_pos ⟨by unfold T.frz D.flat; exact flats_iL _ _, by unfold T.frz D.flat; exact flats_iL _ _⟩]
  unfold T.frz D.eqv
  rw [eqvs_iL]
theorem noRefs_iL : ∀ xs : List Int, D.noRefs (iL xs) = true
  | [] => rfl
  | x :: xs => by
    have := noRefs_iL xs
    unfold iL at this ⊢
    rw [List.map_cons]
    unfold D.noRefs D.noRef
    rw [this]; rfl
theorem WF.is {r : FRes} {a : T} {b : List T} (h : WF r fun t o => t = a ∧ o = b) : r = .ok a b := by
  obtain ⟨t, o, h1, rfl, rfl⟩ := h.eq
  exact h1
end Mir

/-! MirA: rules in the form that the stepping tactics use. -/
namespace Mir
open PySem L2
/-- an operation's answer, frozen -/
def R1 (o : Option T) (d : D) : Prop := o.map fz = some (.pl d)
theorem R1.pl {o : Option T} {d : D} (h : o = some (.pl d)) : R1 o d := by unfold R1; rw [h]; rfl
theorem R1.ol {o : Option T} {ds : List D} (h : o = some (.ol ds)) : R1 o (.lst ds) := by unfold R1; rw [h]; rfl
/-- .. as it is -/
structure R0 (o : Option T) (t : T) : Prop where
  eq : o = some t
section
variable {env e1 e2 : Slots} {ρ ρ' ρc : Rd T} {β β' : Rd Bool} {κ : Rd (List T)} {σ : Rd (List D)} {ts : List T} {t t' u : T} {d d' : D} {x y : Bool} {i : Nat} {f : T → T → Option T} {ds ys : List D} {o o' : Option Int}
theorem x_r1 {f : T → Option T} (h : ρ env = some t) (hf : R1 (f t) d) : r1 f ρ env = some (.pl d) := by unfold r1; rw [h, Option.bind_some]; exact hf
theorem x_r2 (h : ρ env = some t) (h' : ρ' env = some t') (hf : R1 (f t t') d) : r2 f ρ ρ' env = some (.pl d) := by unfold r2; rw [h, Option.bind_some, h', Option.bind_some]; exact hf
theorem x_rN {f : List T → Option T} (h : κ env = some ts) (hf : R1 (f ts) d) : rN f κ env = some (.pl d) := by unfold rN; rw [h, Option.bind_some]; exact hf
theorem x_r3 {f : T → Option Int → Option Int → Option T} {l h : Rd (Option Int)} (h0 : ρ env = some t) (h1 : l env = some o) (h2 : h env = some o') (hf : R1 (f t o o') d) : r3 f ρ l h env = some (.pl d) := by
  unfold r3; rw [h0, Option.bind_some, h1, Option.bind_some, h2, Option.bind_some]; exact hf
/-- a def's answer to a reading call -/
def CallTo (f : List T → FRes) (ts : List T) (d : D) : Prop := ∃ t o, f (ts.map fz) = .ok t o ∧ fz t = .pl d
theorem CallTo.pl {f : List T → FRes} {o : List T} (h : f (ts.map fz) = .ok (.pl d) o) : CallTo f ts d := ⟨_, _, h, rfl⟩
theorem CallTo.ol {f : List T → FRes} {o : List T} (h : f (ts.map fz) = .ok (.ol ds) o) : CallTo f ts (.lst ds) := ⟨_, _, h, rfl⟩
theorem x_call {f : List T → FRes} (h : κ env = some ts) (h2 : CallTo f ts d) (h3 : ((plains ts).isSome || d.noRef) = true) : rCall f κ env = some (.pl d) := by
  obtain ⟨t, o, h2, ht⟩ := h2
  have e : t.frz = d := by
    have := ht
    unfold fz at this
    injection this
  rw [rCall_of h h2 (by rw [e]; exact h3), ht]
/-- an if-expression -/
def IfV (c : Bool) (a b : Option T) (t : T) : Prop := (c = true → a = some t) ∧ (c = false → b = some t)
theorem x_if (h : β env = some x) (h1 : IfV x (ρ env) (ρ' env) t) : rIf β ρ ρ' env = some t := by
  unfold rIf; rw [h, Option.bind_some]
  cases x with
  | true => exact h1.1 rfl
  | false => exact h1.2 rfl
theorem IfV.yes {c : Bool} {a b : Option T} (h : c = true) (h1 : a = some t) : IfV c a b t := ⟨fun _ => h1, fun h2 => by rw [h] at h2; cases h2⟩
theorem IfV.no {c : Bool} {a b : Option T} (h : c = false) (h1 : b = some t) : IfV c a b t := ⟨fun h2 => (by rw [h] at h2; cases h2), fun _ => h1⟩
theorem IfV.both {p : Prop} [Decidable p] {a b : Option T} (h1 : p → a = some (.pl d)) (h2 : ¬ p → b = some (.pl d')) : IfV (decide p) a b (.pl (if p then d else d')) := by
  by_cases hp : p
  · rw [if_pos hp]
    exact ⟨fun _ => h1 hp, fun h => absurd hp (of_decide_eq_false h)⟩
  · rw [if_neg hp]
    exact ⟨fun h => absurd (of_decide_eq_true h) hp, fun _ => h2 hp⟩
/-- comprehensions -/
def CompOk (st : D → Slots → Option Slots) (tt : Rd Bool) (el : Rd T) (env : Slots) (ds ys : List D) : Prop := rCompL st tt el env ds = some ys
variable {st : D → Slots → Option Slots} {tt : Rd Bool} {el : Rd T}
theorem x_comp {vs : List Nat} (hs : σ env = some ds) (h : CompOk st tt el (wipeS env vs) ds ys) (hl : ys.length < big) : rComp vs st σ tt el env = some (.pl (.lst ys)) := by
  unfold rComp
  unfold CompOk at h
  rw [hs, Option.bind_some, h, Option.bind_some, if_pos hl]
theorem CompOk.nil : CompOk st tt el env [] [] := rfl
theorem CompOk.cons (h1 : st d env = some e1) (h2 : tt e1 = some true) (h3 : el e1 = some (.pl d')) (h : CompOk st tt el env ds ys) : CompOk st tt el env (d :: ds) (d' :: ys) := by
  unfold CompOk at h ⊢
  unfold rCompL
  rw [h1, Option.bind_some, h2, Option.bind_some, if_pos rfl, h3, Option.bind_some, h]; rfl
theorem CompOk.skip (h1 : st d env = some e1) (h2 : tt e1 = some false) (h : CompOk st tt el env ds ys) : CompOk st tt el env (d :: ds) ys := by
  unfold CompOk at h ⊢
  unfold rCompL
  rw [h1, Option.bind_some, h2, Option.bind_some, if_neg (by decide), h]
theorem CompOk.map {α : Type} {m : α → D} (g : α → D) {xs : List α} (h : ∀ a, a ∈ xs → ∃ e1, st (m a) env = some e1 ∧ el e1 = some (.pl (g a))) : CompOk st rYes el env (xs.map m) (xs.map g) := by
  induction xs with
  | nil => rfl
  | cons a xs ih =>
    obtain ⟨e1, q1, q2⟩ := h a (by simp)
    exact .cons q1 rfl q2 (ih fun b hb => h b (List.mem_cons_of_mem _ hb))
theorem CompOk.mapI {α : Type} {m : α → D} (g : α → Int) {xs : List α} (h : ∀ a, a ∈ xs → ∃ e1, st (m a) env = some e1 ∧ el e1 = some (.pl (.int (g a)))) : CompOk st rYes el env (xs.map m) (iL (xs.map g)) := by
  have := CompOk.map (g := fun a => D.int (g a)) h
  unfold iL
  rw [List.map_map]
  exact this
theorem CompOk.filt {α : Type} {m : α → D} (g : α → D) (p : α → Bool) {xs : List α} (h : ∀ a, a ∈ xs → ∃ e1, st (m a) env = some e1 ∧ tt e1 = some (p a) ∧ (p a = true → el e1 = some (.pl (g a)))) : CompOk st tt el env (xs.map m) ((xs.filter p).map g) := by
  induction xs with
  | nil => rfl
  | cons a xs ih =>
    obtain ⟨e1, q1, q2, q3⟩ := h a (by simp)
    have ih := ih fun b hb => h b (List.mem_cons_of_mem _ hb)
    rw [List.map_cons, List.filter_cons]
    cases hp : p a with
    | true => rw [hp] at q2; exact .cons q1 q2 (q3 hp) ih
    | false => rw [hp] at q2; exact .skip q1 q2 ih
end
/-! values -/
theorem oEq (i j : Int) : opEq false (.pl (.int i)) (.pl (.int j)) = some (.pl (.bl (decide (i = j)))) := by
  rw [opEq_int]
  congr 3
theorem oNe (i j : Int) : opEq true (.pl (.int i)) (.pl (.int j)) = some (.pl (.bl (!decide (i = j)))) := by
  rw [opEq_int]
  congr 3
theorem oTru (i : Int) : asTru (.pl (.int i)) = some (!decide (i = 0)) := by
  show some (i != 0) = _
  congr 1
/-- range(n) -/
abbrev iR (n : Nat) : List D := (List.range n).map fun k : Nat => D.int (k : Int)
theorem iR_iL (n : Nat) : iR n = iL ((List.range n).map fun k : Nat => (k : Int)) := by
  unfold iR iL
  rw [List.map_map]; rfl
theorem iR_len (n : Nat) : (iR n).length = n := by simp
theorem iR_at {n k : Nat} {d : D} (h : (iR n)[k]? = some d) : k < n ∧ d = .int (k : Int) := rng_at (by rw [iR_iL] at h; exact h)
theorem rngR {n : Nat} (h : n < 1000000) : rngD1 [.pl (.int (n : Int))] = some (iR n) := by rw [rng1 h, iR_iL]
theorem rngL {n : Nat} {i : Int} (hi : i = (n : Int)) (h : n < 1000000) : rngD1 [.pl (.int i)] = some (iR n) := by rw [hi]; exact rngR h
/-- range(k, n) -/
theorem rngK {k n : Nat} (h : n < 1000000) (hk : k ≤ n) : rngD2 [.pl (.int (k : Int)), .pl (.int (n : Int))] = some ((List.range (n - k)).map fun t : Nat => D.int ((k + t : Nat) : Int)) := by
  simp only [rngD2]
  rw [if_pos (show -(2 ^ 62) ≤ (k : Int) ∧ (k : Int) < 2 ^ 62 ∧ -(2 ^ 62) ≤ (n : Int) ∧ (n : Int) < 2 ^ 62 by omega)]
  have : ((n : Int) - (k : Int)).toNat = n - k := by omega
  rw [this]
  unfold rgD
  congr 1
/-! items -/
theorem atI_eq {α : Type} {xs : List α} {k : Nat} {i : Int} {x : α} (hi : i = (k : Int)) (h : xs[k]? = some x) : atI xs i = some x := by
  subst hi
  have hl := (List.getElem?_eq_some_iff.mp h).1
  rw [atI_nat hl, ← h, List.getElem?_eq_getElem hl]
theorem atI_neg {α : Type} {xs : List α} {k : Nat} {i : Int} {x : α} (hi : i = -(k : Int)) (h0 : 0 < k) (hk : k ≤ xs.length) (h : xs[xs.length - k]? = some x) : atI xs i = some x := by
  subst hi
  unfold atI
  have : ixN xs.length (-(k : Int)) = some (xs.length - k) := by
    unfold ixN
    rw [if_neg (by omega), if_pos (by omega)]
    congr 1; omega
  rw [this]
  exact h
theorem ixL {ds : List D} {i : Int} {x : D} (h : atI ds i = some x) : opIx (.pl (.lst ds)) (.pl (.int i)) = some (.pl x) := by
  show (atI ds i).map T.pl = _
  rw [h]; rfl
theorem ixT {ds : List D} {i : Int} {x : D} (h : atI ds i = some x) : opIx (.pl (.tup ds)) (.pl (.int i)) = some (.pl x) := by
  show (atI ds i).map T.pl = _
  rw [h]; rfl
theorem ixO {ds : List D} {i : Int} {x : D} (h : atI ds i = some x) : opIx (.ol ds) (.pl (.int i)) = some (.pl x) := by
  show (atI ds i).map T.pl = _
  rw [h]; rfl
theorem ixS {ds : List D} {i : Int} {x : D} (h : atI ds i = some x) : opIx (.pl (.scr ds)) (.pl (.int i)) = some (.pl x) := by
  show (atI ds i).map T.pl = _
  rw [h]; rfl
theorem at_map {α : Type} {m : α → D} {xs : List α} {k : Nat} {i : Int} {x : α} (hi : i = (k : Int)) (h : xs[k]? = some x) : atI (xs.map m) i = some (m x) := atI_eq hi (by rw [List.getElem?_map, h]; rfl)
theorem at_getD {xs : List Int} {k : Nat} {i : Int} (hi : i = (k : Int)) (h : k < xs.length) : atI (iL xs) i = some (.int (xs.getD k 0)) := by
  refine at_map hi ?_
  rw [List.getD_eq_getElem?_getD, List.getElem?_eq_getElem h]; rfl
theorem at_fun {α : Type} {m : Nat → α} {f : α → D} {n k : Nat} {i : Int} (hi : i = (k : Int)) (h : k < n) : atI (((List.range n).map m).map f) i = some (f (m k)) := by
  refine at_map hi ?_
  rw [List.getElem?_map, List.getElem?_range h]; rfl
theorem at_fun1 {f : Nat → D} {n k : Nat} {i : Int} (hi : i = (k : Int)) (h : k < n) : atI ((List.range n).map f) i = some (f k) := by
  refine at_map hi ?_
  rw [List.getElem?_range h]
/-! runs -/
section
variable {env e1 e2 : Slots} {Q : Fl → Slots → Prop} {R : T → Slots → Prop} {B : Bool → Slots → Prop} {a b s s' : MS} {m m' : M T} {ρ : Rd T} {β : Rd Bool} {μ : M Bool} {i : Nat} {t : T} {d : D} {x : Bool} {ds : List D}
/-- which branch -/
def IfG (c : Bool) (A B : Prop) : Prop := (c = true → A) ∧ (c = false → B)
theorem IfG.yes {c : Bool} {A B : Prop} (h : c = true) (h1 : A) : IfG c A B := ⟨fun _ => h1, fun h2 => by rw [h] at h2; cases h2⟩
theorem IfG.no {c : Bool} {A B : Prop} (h : c = false) (h1 : B) : IfG c A B := ⟨fun h2 => (by rw [h] at h2; cases h2), fun _ => h1⟩
theorem IfG.both {c : Bool} {A B : Prop} (h1 : c = true → A) (h2 : c = false → B) : IfG c A B := ⟨h1, h2⟩
theorem x_ifr (h1 : β env = some x) (h : IfG x (W (s env) Q) (W (s' env) Q)) : W (mIfS (ofRB β) s s' env) Q := w_ifr h1 h.1 h.2
theorem x_ifm (h : W (μ env) fun c e => IfG c (W (s e) Q) (W (s' e) Q)) : W (mIfS μ s s' env) Q := w_ifS (h.mono fun _ _ h => h)
theorem x_mb {f : T → Option Bool} (h : W (m env) fun u e => ∃ z, f u = some z ∧ B z e) : W (mb f m env) B := w_mb h
theorem x_set (h : W (m env) fun t e => ∃ e', put i t e = some e' ∧ Q .nx e') : W (mSet i m env) Q := w_set h
theorem x_m1 {f : T → Option T} (h : W (m env) fun u e => ∃ z, R0 (f u) z ∧ R z e) : W (m1 f m env) R := w_m1 (h.mono fun _ _ ⟨z, h1, h2⟩ => ⟨z, h1.eq, h2⟩)
theorem x_m2 {f : T → T → Option T} (h : W (m env) fun u e => W (m' e) fun y e => ∃ z, R0 (f u y) z ∧ R z e) : W (m2 f m m' env) R := w_m2 (h.mono fun _ _ h => h.mono fun _ _ ⟨z, h1, h2⟩ => ⟨z, h1.eq, h2⟩)
theorem x_mN {f : List T → Option T} {μ : M (List T)} (h : W (μ env) fun u e => ∃ z, R0 (f u) z ∧ R z e) : W (mN f μ env) R := w_mN (h.mono fun _ _ ⟨z, h1, h2⟩ => ⟨z, h1.eq, h2⟩)
theorem x_mNr {f : List T → Option T} {κ : Rd (List T)} {ts : List T} (h1 : κ env = some ts) (h2 : R0 (f ts) t) (h : R t env) : W (mNr f κ env) R := w_mNr (by rw [h1]; exact h2.eq) h
theorem x_asg {sd : D → Slots → Option Slots} (h : W (m env) fun t e => ∃ e1, sd t.frz e = some e1 ∧ Q .nx e1) : W (mAsg sd m env) Q := by
  unfold mAsg
  refine w_bind (h.mono fun t e ⟨e1, h1, h2⟩ => ?_)
  rw [h1]; exact .I h2
theorem x_par {j : Nat} {κ : Rd (List T)} {d d' : D} (h1 : κ env = some [.pl d, .pl d']) (h2 : put i (.pl d) env = some e1) (h3 : put j (.pl d') e1 = some e2) (h : Q .nx e2) : W (mPar i j κ env) Q := by
  unfold mPar
  rw [h1]
  show W (match put i (.pl d) env with | some e1 => (match put j (.pl d') e1 with | some e2 => Out.ok Fl.nx e2 | none => Out.no) | none => Out.no) Q
  rw [h2]
  dsimp only
  rw [h3]; exact .I h
theorem x_setixM {k : M T} (h : W (m env) fun t e => ∃ xs, e[i]? = some (some (.ol xs)) ∧ W (k e) fun kt e2 => ∃ xs n j, e2[i]? = some (some (.ol xs)) ∧ kt = .pl (.int n) ∧ L2.ixN xs.length n = some j ∧ Q .nx (e2.set i (some (.ol (xs.set j t.frz))))) : W (mSetIxM i k m env) Q := by
  unfold mSetIxM
  refine w_bind (h.mono fun t e ⟨xs, h0, h⟩ => ?_)
  rw [h0]
  dsimp only
  cases hk : k e with
  | no => rw [hk] at h; exact h.no
  | ex x e => rw [hk] at h; exact h.ex
  | ok kt e2 =>
    rw [hk] at h
    obtain ⟨xs, n, j, h1, h2, h3, h4⟩ := h.ok
    subst h2
    dsimp only
    rw [h1]
    show W (match L2.ixN xs.length n with | some n => _ | none => _) Q
    rw [h3]; exact .I h4
/-- a literal list is walked -/
theorem x_forNil {st : D → Slots → Option Slots} (h : Q .nx env) : W (mForL st s [] env) Q := .I h
theorem x_forCons {st : D → Slots → Option Slots} (h1 : st d env = some e1) (h : W (s e1) (ForK (fun e => W (mForL st s ds e) Q) Q)) : W (mForL st s (d :: ds) env) Q := by
  unfold mForL
  rw [h1]
  dsimp only
  cases hb : s e1 with
  | no => rw [hb] at h; exact h.no
  | ex x e => rw [hb] at h; exact h.ex
  | ok fl e =>
    rw [hb] at h
    cases fl with
    | nx => exact h.ok
    | ct => exact h.ok
    | bk => exact .I h.ok
    | rt t => exact .I h.ok
/-- every item passes, or one returns -/
theorem x_forAll {st : D → Slots → Option Slots} {α : Type} {emb : α → D} {xs : List α} {j : Nat} {E : Option T → Slots} {s0 : Option T} (h0 : env = E s0)
    (hs : ∀ a, a ∈ xs → ∀ s0, ∃ e1, st (emb a) (E s0) = some e1 ∧ W (s e1) (ForK (fun e => ∃ s1, e = E s1) Q)) (hd : ∀ s1, Q .nx (E s1)) : W (mForL st s (xs.map emb) env) Q := by
  refine w_forL (fun r e => ∃ ys s1, r = ys.map emb ∧ (∀ a ∈ ys, a ∈ xs) ∧ e = E s1) ⟨xs, s0, rfl, fun _ h => h, h0⟩ ?_ ?_
  · rintro d r e ⟨ys, s1, hr, hy, rfl⟩
    cases ys with
    | nil => cases hr
    | cons a ys =>
      injection hr with hd hr
      subst hd hr
      obtain ⟨e1, q1, q2⟩ := hs a (hy a (by simp)) s1
      refine ⟨e1, q1, q2.mono fun fl e h => ?_⟩
      cases fl with
      | nx => obtain ⟨s2, rfl⟩ := h; exact ⟨ys, s2, rfl, fun b hb => hy b (List.mem_cons_of_mem _ hb), rfl⟩
      | ct => obtain ⟨s2, rfl⟩ := h; exact ⟨ys, s2, rfl, fun b hb => hy b (List.mem_cons_of_mem _ hb), rfl⟩
      | bk => exact h
      | rt t => exact h
  · rintro e ⟨ys, s1, hr, hy, rfl⟩
    exact hd s1
end
theorem outs_nil {e : Slots} : outsOf [] e = some [] := rfl
theorem sz_of {x : Int} {n : Nat} (h : x.natAbs < 2 ^ n) : Sz x n := ⟨h⟩
/-- what a state of the drawing holds -/
def OkB (b : Int) : Prop := 0 ≤ b ∧ b < 2147483647
/-- lists of small ints -/
def Szs (xs : List Int) (n : Nat) : Prop := ∀ x ∈ xs, x.natAbs < 2 ^ n
theorem Szs.mem {xs : List Int} {n : Nat} (h : Szs xs n) {x : Int} (hx : x ∈ xs) : Sz x n := ⟨h x hx⟩
theorem Szs.getD {xs : List Int} {n : Nat} (h : Szs xs n) (k : Nat) : Sz (xs.getD k 0) n := ⟨by
  rw [List.getD_eq_getElem?_getD]
  cases hx : xs[k]? with
  | none => exact Nat.pow_pos (by decide)
  | some x => exact h x (List.mem_of_getElem? hx)⟩
theorem Szs.mono {xs : List Int} {n m : Nat} (h : Szs xs n) (l : n ≤ m) : Szs xs m := fun x hx => Nat.lt_of_lt_of_le (h x hx) (Nat.pow_le_pow_right (by decide) l)
/-! slots as lists written out -/
theorem put0 {t : T} {x : Option T} {e : Slots} : put 0 t (x :: e) = some (some t :: e) := rfl
theorem putS {i : Nat} {t : T} {x : Option T} {e e' : Slots} (h : put i t e = some e') : put (i + 1) t (x :: e) = some (x :: e') := by
  unfold put at h ⊢
  rw [List.getElem?_cons_succ]
  split at h <;> rename_i h1 <;> first | (rw [h1]; cases h; rfl) | cases h
/-- e with slot i set -/
structure SetTo (i : Nat) (x : Option T) (e e' : Slots) : Prop where
  eq : e.set i x = e'
theorem set0 {x y : Option T} {e : Slots} : SetTo 0 x (y :: e) (x :: e) := ⟨rfl⟩
theorem setS {i : Nat} {x y : Option T} {e e' : Slots} (h : SetTo i x e e') : SetTo (i + 1) x (y :: e) (y :: e') := ⟨by rw [List.set_cons_succ, h.eq]⟩
/-- slots lent to a call -/
structure TakeTo (ps : List PreT) (e : Slots) (ts : List T) (e' : Slots) : Prop where
  eq : takeAll ps e = some (ts, e')
theorem take_nil {e : Slots} : TakeTo [] e [] e := ⟨rfl⟩
theorem take_v {t : T} {ps : List PreT} {e : Slots} {ts : List T} {e' : Slots} (h : TakeTo ps e ts e') : TakeTo (.v t :: ps) e (t :: ts) e' := ⟨by unfold takeAll; rw [h.eq]; rfl⟩
theorem take_s {i : Nat} {t : T} {ps : List PreT} {e e1 : Slots} {ts : List T} {e' : Slots} (h1 : e[i]? = some (some t)) (h2 : SetTo i none e e1) (h : TakeTo ps e1 ts e') : TakeTo (.s i :: ps) e (t :: ts) e' := ⟨by
  unfold takeAll; rw [h1]; dsimp only; rw [h2.eq, h.eq]; rfl⟩
structure BackTo (ps : List PreT) (os : List T) (e e' : Slots) : Prop where
  eq : backAll ps os e = e'
theorem back_nil {os : List T} {e : Slots} : BackTo [] os e e := ⟨by cases os <;> rfl⟩
theorem back_v {t o : T} {ps : List PreT} {os : List T} {e e' : Slots} (h : BackTo ps os e e') : BackTo (.v t :: ps) (o :: os) e e' := ⟨by unfold backAll; exact h.eq⟩
theorem back_s {i : Nat} {o : T} {ps : List PreT} {os : List T} {e e1 e' : Slots} (h : BackTo ps os e e1) (h2 : SetTo i (some o) e1 e') : BackTo (.s i :: ps) (o :: os) e e' := ⟨by unfold backAll; rw [h.eq, h2.eq]⟩
section
variable {env e1 e2 : Slots} {Q : Fl → Slots → Prop} {R : T → Slots → Prop} {m : M T} {ρ : Rd T} {i : Nat} {t : T} {d : D}
theorem x_callM {f : List T → FRes} {μ : M (List PreT)} (h : W (μ env) fun ps e => ∃ ts e2, TakeTo ps e ts e2 ∧ WF (f ts) fun t o => ∃ e3, BackTo ps o e2 e3 ∧ R t e3) : W (mCall f μ env) R :=
  w_call (h.mono fun ps e ⟨ts, e2, h1, h2⟩ => ⟨ts, e2, h1.eq, h2.mono fun t o ⟨e3, h3, h4⟩ => by rw [h3.eq]; exact h4⟩)
theorem x_take {f : List T → FRes} {ps : List PreT} {ts : List T} (h1 : TakeTo ps env ts e2) (h : WF (f ts) fun t o => ∃ e3, BackTo ps o e2 e3 ∧ R t e3) : ∃ ts e2, TakeTo ps env ts e2 ∧ WF (f ts) fun t o => ∃ e3, BackTo ps o e2 e3 ∧ R t e3 := ⟨ts, e2, h1, h⟩
theorem x_mut {f : LF} {μ : M (List T)} {xs0 : List D} (h0 : env[i]? = some (some (.ol xs0))) (h : W (μ env) fun ts e => ∃ xs d xs' e', e[i]? = some (some (.ol xs)) ∧ f xs (frzs ts) = some (d, xs') ∧ SetTo i (some (.ol xs')) e e' ∧ R (.pl d) e') : W (mMut f i μ env) R :=
  w_mut h0 (h.mono fun ts e ⟨xs, d, xs', e', h1, h2, h3, h4⟩ => ⟨xs, d, xs', h1, h2, by rw [h3.eq]; exact h4⟩)
theorem x_setix {k : Rd T} (h : W (m env) fun t e => ∃ xs n j e', e[i]? = some (some (.ol xs)) ∧ k e = some (.pl (.int n)) ∧ L2.ixN xs.length n = some j ∧ SetTo i (some (.ol (xs.set j t.frz))) e e' ∧ Q .nx e') : W (mSetIx i k m env) Q :=
  w_setix (h.mono fun t e ⟨xs, n, j, e', h1, h2, h3, h4, h5⟩ => ⟨xs, n, j, h1, h2, h3, by rw [h4.eq]; exact h5⟩)
theorem x_setixM' {k : M T} (h : W (m env) fun t e => ∃ xs, e[i]? = some (some (.ol xs)) ∧ W (k e) fun kt e2 => ∃ xs n j e3, e2[i]? = some (some (.ol xs)) ∧ kt = .pl (.int n) ∧ L2.ixN xs.length n = some j ∧ SetTo i (some (.ol (xs.set j t.frz))) e2 e3 ∧ Q .nx e3) : W (mSetIxM i k m env) Q :=
  x_setixM (h.mono fun t e ⟨xs, h0, h⟩ => ⟨xs, h0, h.mono fun kt e2 ⟨xs, n, j, e3, h1, h2, h3, h4, h5⟩ => ⟨xs, n, j, h1, h2, h3, by rw [h4.eq]; exact h5⟩⟩)
theorem x_mv (h1 : env[i]? = some (some t)) (h2 : SetTo i (some (fz t)) env e1) (h : R (fz t) e1) : W (mv i env) R := w_mv h1 (by rw [h2.eq]; exact h)
theorem x_move (h1 : env[i]? = some (some t)) (h2 : SetTo i none env e1) (h : R t e1) : W (mmove i env) R := w_move h1 (by rw [h2.eq]; exact h)
end
theorem ixN_nat {n k : Nat} {i : Int} (hi : i = (k : Int)) (h : k < n) : L2.ixN n i = some k := by
  subst hi
  unfold L2.ixN
  rw [if_pos (by omega), if_pos (by omega)]; rfl
theorem app_ok {xs : List D} {d : D} (h : xs.length < big) : lAppend xs [d] = some (.non, xs ++ [d]) := if_pos h
theorem frzs_cons (t : T) (ts : List T) : frzs (t :: ts) = t.frz :: frzs ts := rfl
/-- restS, step by step -/
structure RestTo (env e' : Slots) (vs : List Nat) (e'' : Slots) : Prop where
  eq : restS env e' vs = e''
theorem rest_nil {env e' : Slots} : RestTo env e' [] e' := ⟨rfl⟩
theorem rest_cons {env e' e1 e'' : Slots} {v : Nat} {vs : List Nat} {x : Option T} (h0 : ((wipeS env vs)[v]?).join = x) (h1 : SetTo v x e' e1) (h : RestTo env e1 vs e'') : RestTo env e' (v :: vs) e'' := ⟨by
  unfold restS; rw [h0, h1.eq]; exact h.eq⟩
theorem x_mcomp {vs : List Nat} {st : D → Slots → Option Slots} {src : M (List D)} {tt : M Bool} {el : M T} {env : Slots} {R : T → Slots → Prop} (h : W (src env) fun ds e => W (mCompL vs st tt el ds [] (wipeS e vs)) fun acc e' => acc.length < big ∧ ∃ e'', RestTo e e' vs e'' ∧ R (.ol acc) e'') : W (mComp vs st src tt el env) R :=
  w_comp (h.mono fun ds e h => h.mono fun acc e' ⟨h1, e'', h2, h3⟩ => ⟨h1, by rw [h2.eq]; exact h3⟩)
/-- a def's first slots -/
inductive EnvOf : List T → Nat → Slots → Prop where
  | nil : EnvOf [] 0 []
  | none {k : Nat} {e : Slots} (h : EnvOf [] k e) : EnvOf [] (k + 1) (none :: e)
  | some {t : T} {ts : List T} {k : Nat} {e : Slots} (h : EnvOf ts k e) : EnvOf (t :: ts) (k + 1) (some t :: e)
theorem EnvOf.eq : ∀ {ts : List T} {n : Nat} {e : Slots}, EnvOf ts n e → e = ts.map Option.some ++ List.replicate (n - ts.length) Option.none
  | _, _, _, .nil => rfl
  | _, _, _, .none h => by rw [h.eq]; rfl
  | _, _, _, .some h => by rw [h.eq, List.length_cons, Nat.add_sub_add_right]; rfl
theorem x_fn {n : Nat} {fx : List Nat} {body : MS} {args : List T} {e : Slots} {Q : T → List T → Prop} (h0 : ownOk fx 0 args = true) (he : EnvOf args n e) (h : W (body e) (FnK args Q)) : WF (mkFn n fx body args) Q := w_fn h0 (by rw [← he.eq]; exact h)
theorem x_rv {i : Nat} {env : Slots} {t : T} (h : env[i]? = some (some t)) : rv i env = some t := by unfold rv; rw [h]; rfl
theorem x_rc {d : D} {env : Slots} : rc d env = some (.pl d) := rfl
section
variable {a b : T} {ts : List T} {d : D} {ds : List D} {o o' : Option Int} {neg : Bool}
theorem R1.ix (h : opIx a b = some (.pl d)) : R1 (opIx a b) d := .pl h
theorem R1.len (h : opLen ts = some (.pl d)) : R1 (opLen ts) d := .pl h
theorem R1.tuple (h : opTuple ts = some (.pl d)) : R1 (opTuple ts) d := .pl h
theorem R1.list (h : opList ts = some (.ol ds)) : R1 (opList ts) (.lst ds) := .ol h
theorem R1.isi (h : opIsi ts = some (.pl d)) : R1 (opIsi ts) d := .pl h
theorem R1.is (h : opIs neg a b = some (.pl d)) : R1 (opIs neg a b) d := .pl h
theorem R1.sl (h : opSl a o o' = some (.pl d)) : R1 (opSl a o o') d := .pl h
theorem R1.slL (h : opSl a o o' = some (.ol ds)) : R1 (opSl a o o') (.lst ds) := .ol h
theorem R1.max2 (h : opMax2 ts = some (.pl d)) : R1 (opMax2 ts) d := .pl h
theorem R1.min2 (h : opMin2 ts = some (.pl d)) : R1 (opMin2 ts) d := .pl h
theorem R1.abs (h : opAbs ts = some (.pl d)) : R1 (opAbs ts) d := .pl h
theorem R1.int (h : opInt ts = some (.pl d)) : R1 (opInt ts) d := .pl h
theorem R1.gcd (h : opGcd ts = some (.pl d)) : R1 (opGcd ts) d := .pl h
theorem R1.inn (h : opIn neg a b = some (.pl d)) : R1 (opIn neg a b) d := .pl h
theorem oIntI {i : Int} : opInt [.pl (.int i)] = some (.pl (.int i)) := rfl
theorem oIntB {p : Prop} [Decidable p] : opInt [.pl (.bl (decide p))] = some (.pl (.int (if p then 1 else 0))) := by
  show some (T.pl (D.int (if decide p = true then 1 else 0))) = _
  by_cases h : p <;> simp [h]
theorem oAbs {i : Int} : opAbs [.pl (.int i)] = some (.pl (.int (i.natAbs : Int))) := by
  show some (T.pl (D.int (if i < 0 then -i else i))) = _
  congr 3
  split <;> omega
theorem oMax {i j : Int} : opMax2 [.pl (.int i), .pl (.int j)] = some (.pl (.int (max i j))) := by
  show some (T.pl (D.int (if j > i then j else i))) = _
  congr 3
  split <;> omega
theorem oMin {i j : Int} : opMin2 [.pl (.int i), .pl (.int j)] = some (.pl (.int (min i j))) := by
  show some (T.pl (D.int (if j < i then j else i))) = _
  congr 3
  split <;> omega
theorem oLenL {ds : List D} : opLen [.pl (.lst ds)] = some (.pl (.int (ds.length : Nat))) := rfl
theorem oLenT {ds : List D} : opLen [.pl (.tup ds)] = some (.pl (.int (ds.length : Nat))) := rfl
theorem oLenO {ds : List D} : opLen [.ol ds] = some (.pl (.int (ds.length : Nat))) := rfl
theorem oLenI {xs : List Int} : opLen [.pl (.lst (iL xs))] = some (.pl (.int (xs.length : Nat))) := by rw [oLenL, List.length_map]
theorem oLenIT {xs : List Int} : opLen [.pl (.tup (iL xs))] = some (.pl (.int (xs.length : Nat))) := by rw [oLenT, List.length_map]
theorem oLenIO {xs : List Int} : opLen [.ol (iL xs)] = some (.pl (.int (xs.length : Nat))) := by rw [oLenO, List.length_map]
theorem oLenM {α : Type} {f : α → D} {xs : List α} : opLen [.pl (.lst (xs.map f))] = some (.pl (.int (xs.length : Nat))) := by rw [oLenL, List.length_map]
theorem oLenMT {α : Type} {f : α → D} {xs : List α} : opLen [.pl (.tup (xs.map f))] = some (.pl (.int (xs.length : Nat))) := by rw [oLenT, List.length_map]
theorem oLenMO {α : Type} {f : α → D} {xs : List α} : opLen [.ol (xs.map f)] = some (.pl (.int (xs.length : Nat))) := by rw [oLenO, List.length_map]
theorem oAddL {xs ys : List D} (h : xs.length + ys.length ≤ big) : opAdd (.pl (.lst xs)) (.pl (.lst ys)) = some (.ol (xs ++ ys)) := by
  show (if xs.length + ys.length ≤ big then some (T.ol (xs ++ ys)) else none) = _
  rw [if_pos h]
theorem oAddOL {xs ys : List D} (h : xs.length + ys.length ≤ big) : opAdd (.ol xs) (.pl (.lst ys)) = some (.ol (xs ++ ys)) := by
  show (if xs.length + ys.length ≤ big then some (T.ol (xs ++ ys)) else none) = _
  rw [if_pos h]
theorem oAddT {xs ys : List D} (h : xs.length + ys.length ≤ big) : opAdd (.pl (.tup xs)) (.pl (.tup ys)) = some (.pl (.tup (xs ++ ys))) := if_pos h
theorem strOk_of {x : Str} (h : PyData.strOk x = true) : D.flat 40 (.str x) = true := h
theorem oEqS {x y : Str} (h : PyData.strOk x = true) (h' : PyData.strOk y = true) : opEq false (.pl (.str x)) (.pl (.str y)) = some (.pl (.bl (decide (x = y)))) := by
  unfold opEq
  rw [if_pos ⟨h, h'⟩]
  show some (T.pl (D.bl (x == y))) = _
  congr 3
theorem oNeS {x y : Str} (h : PyData.strOk x = true) (h' : PyData.strOk y = true) : opEq true (.pl (.str x)) (.pl (.str y)) = some (.pl (.bl (!decide (x = y)))) := by
  unfold opEq
  rw [if_pos ⟨h, h'⟩]
  show some (T.pl (D.bl (!(x == y)))) = _
  congr 3
end
structure FrzTo (t : T) (d : D) : Prop where
  eq : t.frz = d
theorem frz_pl {d : D} : FrzTo (.pl d) d := ⟨rfl⟩
theorem frz_ol {ds : List D} : FrzTo (.ol ds) (.lst ds) := ⟨rfl⟩
structure FrzsTo (ts : List T) (ds : List D) : Prop where
  eq : frzs ts = ds
theorem frzs_n : FrzsTo [] [] := ⟨rfl⟩
theorem frzs_c {t : T} {ts : List T} {d : D} {ds : List D} (h : FrzTo t d) (h' : FrzsTo ts ds) : FrzsTo (t :: ts) (d :: ds) := ⟨by rw [frzs_cons, h.eq, h'.eq]⟩
structure LSet (xs : List D) (j : Nat) (d : D) (ys : List D) : Prop where
  eq : xs.set j d = ys
theorem ls0 {x d : D} {xs : List D} : LSet (x :: xs) 0 d (d :: xs) := ⟨rfl⟩
theorem lsS {x d : D} {xs ys : List D} {j : Nat} (h : LSet xs j d ys) : LSet (x :: xs) (j + 1) d (x :: ys) := ⟨by rw [List.set_cons_succ, h.eq]⟩
theorem lsG {d : D} {xs : List D} {j : Nat} : LSet xs j d (xs.set j d) := ⟨rfl⟩
theorem ixN_lit {n k : Nat} (h : k < n) : L2.ixN n (no_index (OfNat.ofNat k : Int)) = some k := ixN_nat rfl h
/-! what is left to show at a step, by names -/
section
variable {env e1 e2 e3 : Slots} {Q : Fl → Slots → Prop} {R : T → Slots → Prop} {B : Bool → Slots → Prop} {m m' : M T} {ρ : Rd T} {i : Nat} {t : T} {d : D} {s s' : MS} {μ : M Bool}
def OpK (o : Option T) (R : T → Slots → Prop) (e : Slots) : Prop := ∃ z, R0 o z ∧ R z e
theorem c_op {o : Option T} (h1 : R0 o t) (h : R t env) : OpK o R env := ⟨t, h1, h⟩
theorem y_m1 {f : T → Option T} (h : W (m env) fun u e => OpK (f u) R e) : W (m1 f m env) R := x_m1 h
theorem y_m2 {f : T → T → Option T} (h : W (m env) fun u e => W (m' e) fun y e => OpK (f u y) R e) : W (m2 f m m' env) R := x_m2 h
theorem y_mN {f : List T → Option T} {μ : M (List T)} (h : W (μ env) fun u e => OpK (f u) R e) : W (mN f μ env) R := x_mN h
def PuK (i : Nat) (t : T) (Q : Fl → Slots → Prop) (e : Slots) : Prop := ∃ e', put i t e = some e' ∧ Q .nx e'
theorem c_put (h1 : put i t env = some e1) (h : Q .nx e1) : PuK i t Q env := ⟨e1, h1, h⟩
theorem y_set (h : W (m env) fun t e => PuK i t Q e) : W (mSet i m env) Q := x_set h
def LenK (p q : Prop) : Prop := p ∧ q
theorem c_len {p q : Prop} (h : p) (h' : q) : LenK p q := ⟨h, h'⟩
theorem y_mlst {μ : M (List T)} (h : W (μ env) fun ts e => LenK (ts.length ≤ big) (R (.ol (frzs ts)) e)) : W (mlst μ env) R := w_mlst h
theorem y_mtup {μ : M (List T)} (h : W (μ env) fun ts e => LenK (ts.length ≤ big) (R (.pl (.tup (frzs ts))) e)) : W (mtup μ env) R := w_mtup h
def AsgK (sd : D → Slots → Option Slots) (d : D) (Q : Fl → Slots → Prop) (e : Slots) : Prop := ∃ e1, sd d e = some e1 ∧ Q .nx e1
theorem c_asg {sd : D → Slots → Option Slots} (h1 : sd d env = some e1) (h : Q .nx e1) : AsgK sd d Q env := ⟨e1, h1, h⟩
theorem y_asg {sd : D → Slots → Option Slots} (h : W (m env) fun t e => AsgK sd t.frz Q e) : W (mAsg sd m env) Q := x_asg h
def CallK (f : List T → FRes) (ps : List PreT) (R : T → Slots → Prop) (e : Slots) : Prop := ∃ ts e2, TakeTo ps e ts e2 ∧ WF (f ts) fun t o => ∃ e3, BackTo ps o e2 e3 ∧ R t e3
def BackK (ps : List PreT) (o : List T) (e2 : Slots) (t : T) (R : T → Slots → Prop) : Prop := ∃ e3, BackTo ps o e2 e3 ∧ R t e3
theorem c_call {f : List T → FRes} {ps : List PreT} {ts : List T} (h1 : TakeTo ps env ts e2) (h : WF (f ts) fun t o => BackK ps o e2 t R) : CallK f ps R env := ⟨ts, e2, h1, h⟩
theorem c_back {ps : List PreT} {o : List T} (h1 : BackTo ps o e2 e3) (h : R t e3) : BackK ps o e2 t R := ⟨e3, h1, h⟩
theorem y_call {f : List T → FRes} {μ : M (List PreT)} (h : W (μ env) fun ps e => CallK f ps R e) : W (mCall f μ env) R := x_callM h
def MutK (f : LF) (i : Nat) (ts : List T) (R : T → Slots → Prop) (e : Slots) : Prop := ∃ xs d xs' e', e[i]? = some (some (.ol xs)) ∧ f xs (frzs ts) = some (d, xs') ∧ SetTo i (some (.ol xs')) e e' ∧ R (.pl d) e'
theorem c_mut {f : LF} {ts : List T} {xs xs' ds : List D} (h1 : env[i]? = some (some (.ol xs))) (h0 : FrzsTo ts ds) (h2 : f xs ds = some (d, xs')) (h3 : SetTo i (some (.ol xs')) env e1) (h : R (.pl d) e1) : MutK f i ts R env := ⟨xs, d, xs', e1, h1, by rw [h0.eq]; exact h2, h3, h⟩
theorem y_mut {f : LF} {μ : M (List T)} {xs0 : List D} (h0 : env[i]? = some (some (.ol xs0))) (h : W (μ env) fun ts e => MutK f i ts R e) : W (mMut f i μ env) R := x_mut h0 h
def IxK (i : Nat) (k : Rd T) (t : T) (Q : Fl → Slots → Prop) (e : Slots) : Prop := ∃ xs n j e', e[i]? = some (some (.ol xs)) ∧ k e = some (.pl (.int n)) ∧ L2.ixN xs.length n = some j ∧ SetTo i (some (.ol (xs.set j t.frz))) e e' ∧ Q .nx e'
theorem c_ix {k : Rd T} {xs ys : List D} {n : Int} {j : Nat} (h1 : env[i]? = some (some (.ol xs))) (h2 : k env = some (.pl (.int n))) (h3 : L2.ixN xs.length n = some j) (h0 : FrzTo t d) (h5 : LSet xs j d ys) (h4 : SetTo i (some (.ol ys)) env e1) (h : Q .nx e1) : IxK i k t Q env := ⟨xs, n, j, e1, h1, h2, h3, by rw [h0.eq, h5.eq]; exact h4, h⟩
theorem y_setix {k : Rd T} (h : W (m env) fun t e => IxK i k t Q e) : W (mSetIx i k m env) Q := x_setix h
def IyK (i : Nat) (t kt : T) (Q : Fl → Slots → Prop) (e : Slots) : Prop := ∃ xs n j e3, e[i]? = some (some (.ol xs)) ∧ kt = .pl (.int n) ∧ L2.ixN xs.length n = some j ∧ SetTo i (some (.ol (xs.set j t.frz))) e e3 ∧ Q .nx e3
def HasK (i : Nat) (e : Slots) (q : Prop) : Prop := ∃ xs, e[i]? = some (some (.ol xs)) ∧ q
theorem c_has {xs : List D} {q : Prop} (h1 : env[i]? = some (some (.ol xs))) (h : q) : HasK i env q := ⟨xs, h1, h⟩
theorem c_iy {xs ys : List D} {n : Int} {j : Nat} (h1 : env[i]? = some (some (.ol xs))) (h3 : L2.ixN xs.length n = some j) (h0 : FrzTo t d) (h5 : LSet xs j d ys) (h4 : SetTo i (some (.ol ys)) env e1) (h : Q .nx e1) : IyK i t (.pl (.int n)) Q env := ⟨xs, n, j, e1, h1, rfl, h3, by rw [h0.eq, h5.eq]; exact h4, h⟩
theorem y_setixM {k : M T} (h : W (m env) fun t e => HasK i e (W (k e) fun kt e2 => IyK i t kt Q e2)) : W (mSetIxM i k m env) Q := x_setixM' (h.mono fun t e ⟨xs, h1, h2⟩ => ⟨xs, h1, h2⟩)
def SrcK (o : Option (List D)) (L : List D → Slots → Prop) (e : Slots) : Prop := ∃ ds, o = some ds ∧ L ds e
theorem c_src {o : Option (List D)} {ds : List D} {L : List D → Slots → Prop} (h1 : o = some ds) (h : L ds env) : SrcK o L env := ⟨ds, h1, h⟩
theorem y_seqS {L : List D → Slots → Prop} (h : W (m env) fun t e => SrcK (seqD t.frz) L e) : W (mSeqS m env) L := w_seqS h
theorem y_src {f : List T → Option (List D)} {μ : M (List T)} {L : List D → Slots → Prop} (h : W (μ env) fun ts e => SrcK (f ts) L e) : W (mSrc f μ env) L := w_src h
def BolK (o : Option Bool) (B : Bool → Slots → Prop) (e : Slots) : Prop := ∃ z, o = some z ∧ B z e
theorem c_bol {o : Option Bool} {z : Bool} (h1 : o = some z) (h : B z env) : BolK o B env := ⟨z, h1, h⟩
theorem y_mb {f : T → Option Bool} (h : W (m env) fun u e => BolK (f u) B e) : W (mb f m env) B := w_mb h
theorem y_ifm (h : W (μ env) fun c e => IfG c (W (s e) Q) (W (s' e) Q)) : W (mIfS μ s s' env) Q := x_ifm h
theorem y_mAndB {μ' : M Bool} (h : W (μ env) fun c e => IfG c (W (μ' e) B) (B false e)) : W (mAndB μ μ' env) B := w_mAndB h
theorem y_mOrB {μ' : M Bool} (h : W (μ env) fun c e => IfG c (B true e) (W (μ' e) B)) : W (mOrB μ μ' env) B := w_mOrB h
theorem y_mIf {α : Type} {x y : M α} {Q : α → Slots → Prop} (h : W (μ env) fun c e => IfG c (W (x e) Q) (W (y e) Q)) : W (mIf μ x y env) Q := w_mIf h
theorem y_mcomp {vs : List Nat} {st : D → Slots → Option Slots} {src : M (List D)} {tt : M Bool} {el : M T} (h : W (src env) fun ds e => W (mCompL vs st tt el ds [] (wipeS e vs)) fun acc e' => LenK (acc.length < big) (∃ e'', RestTo e e' vs e'' ∧ R (.ol acc) e'')) : W (mComp vs st src tt el env) R := x_mcomp h
end
theorem sz_bits {z : Int} (h : Builtin.Int.intBits z ≤ 1048576) : Sz z 1048576 := ⟨by
  unfold Builtin.Int.intBits at h
  by_cases h0 : z.natAbs = 0
  · rw [h0]; exact Nat.pow_pos (by decide)
  · refine (Nat.log2_lt h0).mp ?_
    split at h
    · rename_i hz
      have : z = 0 := by simpa using hz
      omega
    · omega⟩
theorem big2 : (2 : Nat) ≤ big := by decide
end Mir

/-! MirB: truth values, loops, sums: what the function lemmas share. -/
namespace Mir
open PySem L2
/-- the truth value of a proposition -/
noncomputable def tv (P : Prop) : Bool := @decide P (Classical.propDecidable P)
theorem tv_iff {P : Prop} : tv P = true ↔ P := by unfold tv; exact @decide_eq_true_iff P (Classical.propDecidable P)
theorem tv_not {P : Prop} : tv P = false ↔ ¬ P := by unfold tv; exact @decide_eq_false_iff_not P (Classical.propDecidable P)
theorem tv_t {P : Prop} (h : P) : tv P = true := tv_iff.mpr h
theorem tv_f {P : Prop} (h : ¬ P) : tv P = false := tv_not.mpr h
theorem tv_congr {P R : Prop} (h : P ↔ R) : tv P = tv R := by rw [propext h]
theorem tv_dec {P : Prop} [Decidable P] : tv P = decide P := by
  by_cases h : P
  · rw [tv_t h, decide_eq_true h]
  · rw [tv_f h, decide_eq_false h]
theorem tv_and {P R : Prop} : (tv P && tv R) = tv (P ∧ R) := by
  by_cases h : P <;> by_cases h' : R <;> simp [tv_t, tv_f, h, h']
theorem tv_or {P R : Prop} : (tv P || tv R) = tv (P ∨ R) := by
  by_cases h : P <;> by_cases h' : R <;> simp [tv_t, tv_f, h, h']
theorem tv_neg {P : Prop} : (!tv P) = tv (¬ P) := by
  by_cases h : P <;> simp [tv_t, tv_f, h]
/-- an answer True or False -/
structure Says (t : T) (P : Prop) : Prop where
  eq : t = .pl (.bl (tv P))
theorem says_t {P : Prop} (h : P) : Says (.pl (.bl true)) P := ⟨by rw [tv_t h]⟩
theorem says_f {P : Prop} (h : ¬ P) : Says (.pl (.bl false)) P := ⟨by rw [tv_f h]⟩
theorem says_b {P : Prop} {b : Bool} (h : b = true ↔ P) : Says (.pl (.bl b)) P := ⟨by
  cases b with
  | true => rw [tv_t (h.mp rfl)]
  | false => rw [tv_f fun p => by have := h.mpr p; cases this]⟩
theorem says_call {f : List T → FRes} {ts : List T} {P : Prop} (h : WF (f ts) fun t o => Says t P ∧ o = ts) : f ts = .ok (.pl (.bl (tv P))) ts := by
  obtain ⟨t, o, h1, ⟨rfl⟩, rfl⟩ := h.eq
  exact h1
/-- the steps of a loop -/
def StK (st : D → Slots → Option Slots) (d : D) (e : Slots) (A : Slots → Prop) : Prop := ∃ e1, st d e = some e1 ∧ A e1
theorem c_st {st : D → Slots → Option Slots} {d : D} {e e1 : Slots} {A : Slots → Prop} (h1 : st d e = some e1) (h : A e1) : StK st d e A := ⟨e1, h1, h⟩
section
variable {env e1 e2 : Slots} {Q : Fl → Slots → Prop} {s : MS} {st : D → Slots → Option Slots} {α S : Type} {emb : α → D} {xs : List α} {E : S → Slots}
/-- a loop whose turns only look: each turn goes on with P, or leaves -/
theorem x_forP (P : α → Prop) (s0 : S) (hs : ∀ a, a ∈ xs → ∀ s0, StK st (emb a) (E s0) fun e1 => W (s e1) (ForK (fun e => P a ∧ ∃ s1, e = E s1) Q)) (hd : (∀ a, a ∈ xs → P a) → ∀ s1, Q .nx (E s1)) : W (mForL st s (xs.map emb) (E s0)) Q := by
  refine w_forL (fun r e => ∃ ys s1, r = ys.map emb ∧ (∀ a ∈ ys, a ∈ xs) ∧ (∀ a ∈ xs, a ∈ ys ∨ P a) ∧ e = E s1) ⟨xs, s0, rfl, fun _ h => h, fun _ h => .inl h, rfl⟩ ?_ ?_
  · rintro d r e ⟨ys, s1, hr, hy, hp, rfl⟩
    cases ys with
    | nil => cases hr
    | cons a ys =>
      injection hr with hd hr
      subst hd hr
      obtain ⟨e1, q1, q2⟩ := hs a (hy a (by simp)) s1
      refine ⟨e1, q1, q2.mono fun fl e h => ?_⟩
      have go : (P a ∧ ∃ s1, e = E s1) → ∃ (ys' : List α) (s1 : S), ys.map emb = ys'.map emb ∧ (∀ a ∈ ys', a ∈ xs) ∧ (∀ a ∈ xs, a ∈ ys' ∨ P a) ∧ e = E s1 := fun ⟨pa, s2, he⟩ =>
        ⟨ys, s2, rfl, fun b hb => hy b (List.mem_cons_of_mem _ hb), fun b hb => (hp b hb).elim (fun h => (List.mem_cons.mp h).elim (fun e => .inr (e ▸ pa)) .inl) .inr, he⟩
      cases fl with
      | nx => exact go h
      | ct => exact go h
      | bk => exact h
      | rt t => exact h
  · rintro e ⟨ys, s1, hr, hy, hp, rfl⟩
    cases ys with
    | cons a ys => cases hr
    | nil => exact hd (fun a ha => (hp a ha).resolve_left (by simp)) s1
/-- a loop with a state: I before turn k -/
theorem x_forI (I : Nat → S → Prop) (s0 : S) (h0 : I 0 s0) (hs : ∀ k a s, xs[k]? = some a → I k s → StK st (emb a) (E s) fun e1 => W (s' e1) (ForK (fun e => ∃ s1, I (k + 1) s1 ∧ e = E s1) Q)) (hd : ∀ s1, I xs.length s1 → Q .nx (E s1)) : W (mForL st s' (xs.map emb) (E s0)) Q := by
  refine w_forN (fun k e => ∃ s, I k s ∧ e = E s) ⟨s0, h0, rfl⟩ (fun k d e hk ⟨s, hi, he⟩ => ?_) fun e ⟨s, hi, he⟩ => ?_
  · rw [List.getElem?_map, Option.map_eq_some_iff] at hk
    obtain ⟨a, ha, rfl⟩ := hk
    subst he
    exact hs k a s ha hi
  · subst he
    rw [List.length_map] at hi
    exact hd s hi
/-- .. over range(n) -/
theorem x_forR (I : Nat → S → Prop) {n : Nat} (s0 : S) (h0 : I 0 s0) (hs : ∀ k s, k < n → I k s → StK st (.int (k : Int)) (E s) fun e1 => W (s' e1) (ForK (fun e => ∃ s1, I (k + 1) s1 ∧ e = E s1) Q)) (hd : ∀ s1, I n s1 → Q .nx (E s1)) : W (mForL st s' (iR n) (E s0)) Q := by
  refine x_forI (emb := fun k : Nat => D.int (k : Int)) I s0 h0 (fun k a s ha hi => ?_) fun s1 hi => hd s1 (by rwa [List.length_range] at hi)
  obtain ⟨h1, h2⟩ := List.getElem?_eq_some_iff.mp ha
  rw [List.length_range] at h1
  rw [List.getElem_range] at h2
  subst h2
  exact hs k s h1 hi
end
/-- a list built by a comprehension that does, turn by turn -/
theorem x_mcompI {vs : List Nat} {st : D → Slots → Option Slots} {tt : M Bool} {el : M T} {L : List D → Slots → Prop} {α S : Type} {emb : α → D} {xs : List α} {E : S → Slots} {env : Slots} (I : Nat → List D → S → Prop) (s0 : S) (he : env = E s0) (h0 : I 0 [] s0)
    (hs : ∀ k a acc s, xs[k]? = some a → I k acc s → StK st (emb a) (E s) fun e1 => W (tt e1) fun c e2 => IfG c (W (el e2) fun t e3 => ∃ s1, I (k + 1) (acc ++ [t.frz]) s1 ∧ wipeS e3 vs = E s1) (∃ s1, I (k + 1) acc s1 ∧ wipeS e2 vs = E s1))
    (hd : ∀ acc s, I xs.length acc s → L acc (E s)) : W (mCompL vs st tt el (xs.map emb) [] env) L := by
  subst he
  refine w_compL (fun r acc e => ∃ k s, k ≤ xs.length ∧ r = (xs.drop k).map emb ∧ I k acc s ∧ e = E s) ⟨0, s0, Nat.zero_le _, by simp, h0, rfl⟩ ?_ ?_
  · rintro d r acc e ⟨k, s, hk, hr, hi, rfl⟩
    have hlt : k < xs.length := by
      have := congrArg List.length hr
      simp at this; omega
    rw [List.drop_eq_getElem_cons hlt] at hr
    obtain ⟨rfl, rfl⟩ := List.cons.inj hr
    obtain ⟨e1, q1, q2⟩ := hs k _ acc s (List.getElem?_eq_getElem hlt) hi
    refine ⟨e1, q1, q2.mono fun c e2 h => ⟨fun hc => (h.1 hc).mono ?_, fun hc => ?_⟩⟩
    · rintro t e3 ⟨s1, h1, h2⟩; exact ⟨k + 1, s1, hlt, rfl, h1, h2⟩
    · obtain ⟨s1, h1, h2⟩ := h.2 hc; exact ⟨k + 1, s1, hlt, rfl, h1, h2⟩
  · rintro acc e ⟨k, s, hk, hr, hi, rfl⟩
    have : k = xs.length := by
      have := congrArg List.length hr
      simp at this; omega
    subst this; exact hd acc s hi
/-- sums -/
def sumTo (n : Nat) (f : Nat → Int) : Int := (List.range n).foldl (fun t k => t + f k) 0
theorem sumTo_zero (f : Nat → Int) : sumTo 0 f = 0 := rfl
theorem sumTo_succ (n : Nat) (f : Nat → Int) : sumTo (n + 1) f = sumTo n f + f n := by
  unfold sumTo
  rw [List.range_succ, List.foldl_append]; rfl
theorem sumTo_congr {n : Nat} {f g : Nat → Int} (h : ∀ k, k < n → f k = g k) : sumTo n f = sumTo n g := by
  induction n with
  | zero => rfl
  | succ n ih => rw [sumTo_succ, sumTo_succ, ih fun k hk => h k (Nat.lt_succ_of_lt hk), h n (Nat.lt_succ_self n)]
theorem sumTo_add {n : Nat} {f g : Nat → Int} : sumTo n f + sumTo n g = sumTo n fun k => f k + g k := by
  induction n with
  | zero => rfl
  | succ n ih => rw [sumTo_succ, sumTo_succ, sumTo_succ, ← ih]; omega
theorem sumTo_mul {n : Nat} {f : Nat → Int} {c : Int} : sumTo n f * c = sumTo n fun k => f k * c := by
  induction n with
  | zero => simp [sumTo_zero]
  | succ n ih => rw [sumTo_succ, sumTo_succ, ← ih, Int.add_mul]
theorem sumTo_sz {n : Nat} {f : Nat → Int} {b : Nat} (h : ∀ k, k < n → (f k).natAbs < 2 ^ b) : (sumTo n f).natAbs ≤ n * 2 ^ b := by
  induction n with
  | zero => simp [sumTo_zero]
  | succ n ih =>
    rw [sumTo_succ]
    have h1 := ih fun k hk => h k (Nat.lt_succ_of_lt hk)
    have h2 := h n (Nat.lt_succ_self n)
    have h3 := Int.natAbs_add_le (sumTo n f) (f n)
    rw [Nat.succ_mul]; omega
/-- lists of indices, of rows -/
abbrev iN (ks : List Nat) : List D := ks.map fun k : Nat => D.int (k : Int)
abbrev tT (R : List (List Int)) : List D := R.map fun r => D.tup (iL r)
abbrev tL (R : List (List Int)) : List D := R.map fun r => D.lst (iL r)
theorem in_iN {k : Nat} {ks : List Nat} : inD (.int (k : Int)) (iN ks) = decide (k ∈ ks) := by
  unfold inD iN
  induction ks with
  | nil => simp
  | cons a ks ih =>
    rw [List.map_cons, List.any_cons, ih]
    simp only [D.eqv, List.mem_cons]
    by_cases h : k = a
    · subst h; simp
    · have h1 : ¬ ((a : Int) = (k : Int)) := by omega
      simp [h, h1]
theorem iN_scal (ks : List Nat) : (iN ks).all D.scal = true := by
  unfold iN
  rw [List.all_map]
  exact List.all_eq_true.mpr fun _ _ => rfl
theorem oInL {k : Nat} {ks : List Nat} : opIn false (.pl (.int (k : Int))) (.pl (.lst (iN ks))) = some (.pl (.bl (decide (k ∈ ks)))) := by
  show (if D.scal (.int (k : Int)) = true ∧ (iN ks).all D.scal = true then _ else _) = _
  rw [if_pos ⟨rfl, iN_scal ks⟩, ← in_iN]; rfl
theorem oInT {k : Nat} {ks : List Nat} : opIn false (.pl (.int (k : Int))) (.pl (.tup (iN ks))) = some (.pl (.bl (decide (k ∈ ks)))) := by
  show (if D.scal (.int (k : Int)) = true ∧ (iN ks).all D.scal = true then _ else _) = _
  rw [if_pos ⟨rfl, iN_scal ks⟩, ← in_iN]; rfl
theorem oNiL {k : Nat} {ks : List Nat} : opIn true (.pl (.int (k : Int))) (.pl (.lst (iN ks))) = some (.pl (.bl (!decide (k ∈ ks)))) := by
  show (if D.scal (.int (k : Int)) = true ∧ (iN ks).all D.scal = true then _ else _) = _
  rw [if_pos ⟨rfl, iN_scal ks⟩, ← in_iN]; rfl
theorem oNiT {k : Nat} {ks : List Nat} : opIn true (.pl (.int (k : Int))) (.pl (.tup (iN ks))) = some (.pl (.bl (!decide (k ∈ ks)))) := by
  show (if D.scal (.int (k : Int)) = true ∧ (iN ks).all D.scal = true then _ else _) = _
  rw [if_pos ⟨rfl, iN_scal ks⟩, ← in_iN]; rfl
theorem oEqB (a b : Bool) : opEq false (.pl (.bl a)) (.pl (.bl b)) = some (.pl (.bl (a == b))) := by
  unfold opEq
  rw [if_pos ⟨by simp [T.frz, D.flat], by simp [T.frz, D.flat]⟩]
  simp [T.frz, D.eqv]
theorem oNeB (a b : Bool) : opEq true (.pl (.bl a)) (.pl (.bl b)) = some (.pl (.bl (!(a == b)))) := by
  unfold opEq
  rw [if_pos ⟨by simp [T.frz, D.flat], by simp [T.frz, D.flat]⟩]
  simp [T.frz, D.eqv]
/-- a list or a tuple of ints -/
def SeqI (d : D) (xs : List Int) : Prop := d = .lst (iL xs) ∨ d = .tup (iL xs)
theorem seqI_l {xs : List Int} : SeqI (.lst (iL xs)) xs := .inl rfl
theorem seqI_t {xs : List Int} : SeqI (.tup (iL xs)) xs := .inr rfl
/-! targets -/
theorem tg_n {i : Nat} {d : D} {e e' : Slots} (h : put i (.pl d) e = some e') : stN i d e = some e' := h
theorem tg_nil {e : Slots} : stNil [] e = some e := rfl
theorem tg_cons {a : D → Slots → Option Slots} {b : List D → Slots → Option Slots} {d : D} {ds : List D} {e e1 e2 : Slots} (h1 : a d e = some e1) (h2 : b ds e1 = some e2) : stCons a b (d :: ds) e = some e2 := by
  show (a d e).bind (b ds) = _
  rw [h1]; exact h2
theorem tg_tup {n : Nat} {st : List D → Slots → Option Slots} {ds : List D} {e e' : Slots} (hn : ds.length = n) (h : st ds e = some e') : stT n st (.tup ds) e = some e' := by
  unfold stT
  dsimp only
  rw [if_pos hn]
  exact h
theorem tg_lst {n : Nat} {st : List D → Slots → Option Slots} {ds : List D} {e e' : Slots} (hn : ds.length = n) (h : st ds e = some e') : stT n st (.lst ds) e = some e' := by
  unfold stT
  dsimp only
  rw [if_pos hn]
  exact h
theorem zip_map (xs ys : List Int) : List.zipWith pairD (iL xs) (iL ys) = (List.range (min xs.length ys.length)).map fun k : Nat => D.tup [.int (xs.getD k 0), .int (ys.getD k 0)] := by
  apply List.ext_getElem
  · simp [iL]
  · intro k h1 h2
    simp only [List.length_zipWith, iL, List.length_map] at h1
    simp only [List.getElem_zipWith, iL, List.getElem_map, List.getElem_range, pairD, List.getD_eq_getElem?_getD]
    rw [List.getElem?_eq_getElem (show k < xs.length by omega), List.getElem?_eq_getElem (show k < ys.length by omega)]; rfl
/-- the sum of products -/
def dotL (xs ys : List Int) : Int := sumTo (min xs.length ys.length) fun k => xs.getD k 0 * ys.getD k 0
theorem small_pow {n b : Nat} (hn : n < 1024) : n * 2 ^ b < 2 ^ (b + 10) := by
  rw [Nat.pow_add, Nat.mul_comm]
  exact Nat.mul_lt_mul_of_pos_left (by omega) (Nat.pow_pos (by decide))
theorem sumTo_Sz {n : Nat} {f : Nat → Int} {b : Nat} (hn : n < 1024) (h : ∀ k, k < n → Sz (f k) b) : Sz (sumTo n f) (b + 10) := ⟨Nat.lt_of_le_of_lt (sumTo_sz fun k hk => (h k hk).lt) (small_pow hn)⟩
theorem dotL_Sz {xs ys : List Int} {n m : Nat} (hx : Szs xs n) (hy : Szs ys m) (hl : xs.length < 1024) : Sz (dotL xs ys) (n + m + 10) := sumTo_Sz (by omega) fun k _ => by
  have := hx.getD k
  have := hy.getD k
  exact inferInstance
/-! vectors and tables by functions -/
class Below (k : Nat) (n : outParam Nat) : Prop where
  lt : k < n
abbrev vec (n : Nat) (f : Nat → Int) : List Int := (List.range n).map f
abbrev mL (n m : Nat) (A : Nat → Nat → Int) : List D := (List.range n).map fun i => D.lst (iL (vec m (A i)))
abbrev mT (n m : Nat) (A : Nat → Nat → Int) : List D := (List.range n).map fun i => D.tup (iL (vec m (A i)))
abbrev bN (n : Nat) (b : Nat → Nat) : List D := (List.range n).map fun j : Nat => D.int ((b j : Nat) : Int)
theorem vec_getD {n k : Nat} {f : Nat → Int} (h : k < n) : (vec n f).getD k 0 = f k := by
  rw [List.getD_eq_getElem?_getD, List.getElem?_map, List.getElem?_range h]; rfl
theorem vec_Szs {n b : Nat} {f : Nat → Int} (h : ∀ k, Sz (f k) b) : Szs (vec n f) b := fun x hx => by
  obtain ⟨k, _, rfl⟩ := List.mem_map.mp hx
  exact (h k).lt
theorem vec_len (n : Nat) (f : Nat → Int) : (vec n f).length = n := by simp
theorem vec_of (xs : List Int) : xs = vec xs.length fun k => xs.getD k 0 := by
  apply List.ext_getElem
  · simp
  · intro k h1 h2
    rw [List.getElem_map, List.getElem_range, List.getD_eq_getElem?_getD, List.getElem?_eq_getElem h1]; rfl
theorem vec_congr {n : Nat} {f g : Nat → Int} (h : ∀ k, k < n → f k = g k) : vec n f = vec n g := List.map_congr_left fun k hk => h k (List.mem_range.mp hk)
theorem dot_vec {n m : Nat} {f g : Nat → Int} : dotL (vec n f) (vec m g) = sumTo (min n m) fun k => f k * g k := by
  unfold dotL
  rw [vec_len, vec_len]
  exact sumTo_congr fun k hk => by rw [vec_getD (by omega), vec_getD (by omega)]
theorem bN_iN (n : Nat) (b : Nat → Nat) : bN n b = iN ((List.range n).map b) := by
  unfold bN iN
  rw [List.map_map]; rfl
/-- among the first n -/
def Among (k n : Nat) (b : Nat → Nat) : Prop := ∃ j, j < n ∧ b j = k
theorem among_mem {k n : Nat} {b : Nat → Nat} : k ∈ (List.range n).map b ↔ Among k n b := by
  rw [List.mem_map]
  exact ⟨fun ⟨j, h, e⟩ => ⟨j, List.mem_range.mp h, e⟩, fun ⟨j, h, e⟩ => ⟨j, List.mem_range.mpr h, e⟩⟩
theorem bInL {k n : Nat} {b : Nat → Nat} : opIn false (.pl (.int (k : Int))) (.pl (.lst (bN n b))) = some (.pl (.bl (tv (Among k n b)))) := by
  rw [bN_iN, oInL, ← tv_dec, tv_congr among_mem]
theorem bInT {k n : Nat} {b : Nat → Nat} : opIn false (.pl (.int (k : Int))) (.pl (.tup (bN n b))) = some (.pl (.bl (tv (Among k n b)))) := by
  rw [bN_iN, oInT, ← tv_dec, tv_congr among_mem]
theorem bNiL {k n : Nat} {b : Nat → Nat} : opIn true (.pl (.int (k : Int))) (.pl (.lst (bN n b))) = some (.pl (.bl (!tv (Among k n b)))) := by
  rw [bN_iN, oNiL, ← tv_dec, tv_congr among_mem]
theorem bNiT {k n : Nat} {b : Nat → Nat} : opIn true (.pl (.int (k : Int))) (.pl (.tup (bN n b))) = some (.pl (.bl (!tv (Among k n b)))) := by
  rw [bN_iN, oNiT, ← tv_dec, tv_congr among_mem]
theorem oLenF {f : Nat → D} {n : Nat} : opLen [.pl (.lst ((List.range n).map f))] = some (.pl (.int (n : Nat))) := by rw [oLenM, List.length_range]
theorem oLenFT {f : Nat → D} {n : Nat} : opLen [.pl (.tup ((List.range n).map f))] = some (.pl (.int (n : Nat))) := by rw [oLenMT, List.length_range]
theorem oLenFO {f : Nat → D} {n : Nat} : opLen [.ol ((List.range n).map f)] = some (.pl (.int (n : Nat))) := by rw [oLenMO, List.length_range]
theorem oLenV {f : Nat → Int} {n : Nat} : opLen [.pl (.lst (iL (vec n f)))] = some (.pl (.int (n : Nat))) := by rw [oLenI, vec_len]
theorem oLenVT {f : Nat → Int} {n : Nat} : opLen [.pl (.tup (iL (vec n f)))] = some (.pl (.int (n : Nat))) := by rw [oLenIT, vec_len]
theorem oLenVO {f : Nat → Int} {n : Nat} : opLen [.ol (iL (vec n f))] = some (.pl (.int (n : Nat))) := by rw [oLenIO, vec_len]
section
variable {env e1 e2 : Slots} {Q : Fl → Slots → Prop} {s : MS} {st : D → Slots → Option Slots} {S : Type} {n : Nat} {E : S → Slots}
theorem x_forPR (P : Nat → Prop) (s0 : S) (hs : ∀ k, k < n → ∀ s0, StK st (.int (k : Int)) (E s0) fun e1 => W (s e1) (ForK (fun e => P k ∧ ∃ s1, e = E s1) Q)) (hd : (∀ k, k < n → P k) → ∀ s1, Q .nx (E s1)) : W (mForL st s (iR n) (E s0)) Q :=
  x_forP (emb := fun k : Nat => D.int (k : Int)) P s0 (fun k hk => hs k (List.mem_range.mp hk)) fun h s1 => hd (fun k hk => h k (List.mem_range.mpr hk)) s1
end
/-- from the end: xs[-j] -/
theorem at_back {n j : Nat} {f : Nat → Int} {i : Int} (hi : i = -(j : Int)) (h0 : 0 < j) (hj : j ≤ n) : atI (iL (vec n f)) i = some (.int (f (n - j))) := by
  refine atI_neg hi h0 (by simp; exact hj) ?_
  rw [List.getElem?_map, List.getElem?_map]
  simp only [iL, List.length_map, List.length_range]
  rw [List.getElem?_range (by omega)]; rfl
theorem lit_nat {k : Nat} : (no_index (OfNat.ofNat k : Int)) = ((k : Nat) : Int) := rfl
/-! sizes of written ints -/
instance szL0 : Sz (0 : Int) 1 := ⟨by decide⟩
instance szL1 : Sz (1 : Int) 1 := ⟨by decide⟩
instance szL2 : Sz (2 : Int) 2 := ⟨by decide⟩
instance szL3 : Sz (3 : Int) 2 := ⟨by decide⟩
instance szL4 : Sz (4 : Int) 3 := ⟨by decide⟩
instance szL5 : Sz (5 : Int) 3 := ⟨by decide⟩
instance szL6 : Sz (6 : Int) 3 := ⟨by decide⟩
instance szL7 : Sz (7 : Int) 3 := ⟨by decide⟩
instance szL8 : Sz (8 : Int) 4 := ⟨by decide⟩
instance szL9 : Sz (9 : Int) 4 := ⟨by decide⟩
instance szL10 : Sz (10 : Int) 4 := ⟨by decide⟩
instance szL11 : Sz (11 : Int) 4 := ⟨by decide⟩
instance szL12 : Sz (12 : Int) 4 := ⟨by decide⟩
instance szL13 : Sz (13 : Int) 4 := ⟨by decide⟩
instance szL14 : Sz (14 : Int) 4 := ⟨by decide⟩
instance szL15 : Sz (15 : Int) 4 := ⟨by decide⟩
instance szL16 : Sz (16 : Int) 5 := ⟨by decide⟩
instance szL17 : Sz (17 : Int) 5 := ⟨by decide⟩
instance szL18 : Sz (18 : Int) 5 := ⟨by decide⟩
instance szL19 : Sz (19 : Int) 5 := ⟨by decide⟩
instance szL20 : Sz (20 : Int) 5 := ⟨by decide⟩
instance szL21 : Sz (21 : Int) 5 := ⟨by decide⟩
instance szL22 : Sz (22 : Int) 5 := ⟨by decide⟩
instance szL23 : Sz (23 : Int) 5 := ⟨by decide⟩
instance szL24 : Sz (24 : Int) 5 := ⟨by decide⟩
instance szL25 : Sz (25 : Int) 5 := ⟨by decide⟩
instance szL26 : Sz (26 : Int) 5 := ⟨by decide⟩
instance szL27 : Sz (27 : Int) 5 := ⟨by decide⟩
instance szL28 : Sz (28 : Int) 5 := ⟨by decide⟩
instance szL29 : Sz (29 : Int) 5 := ⟨by decide⟩
instance szL30 : Sz (30 : Int) 5 := ⟨by decide⟩
instance szL31 : Sz (31 : Int) 5 := ⟨by decide⟩
instance szL32 : Sz (32 : Int) 6 := ⟨by decide⟩
instance szL33 : Sz (33 : Int) 6 := ⟨by decide⟩
instance szL34 : Sz (34 : Int) 6 := ⟨by decide⟩
instance szL35 : Sz (35 : Int) 6 := ⟨by decide⟩
instance szL36 : Sz (36 : Int) 6 := ⟨by decide⟩
instance szL37 : Sz (37 : Int) 6 := ⟨by decide⟩
instance szL38 : Sz (38 : Int) 6 := ⟨by decide⟩
instance szL39 : Sz (39 : Int) 6 := ⟨by decide⟩
instance szL40 : Sz (40 : Int) 6 := ⟨by decide⟩
instance szL50 : Sz (50 : Int) 6 := ⟨by decide⟩
instance szL60 : Sz (60 : Int) 6 := ⟨by decide⟩
instance szL64 : Sz (64 : Int) 7 := ⟨by decide⟩
instance szL97 : Sz (97 : Int) 7 := ⟨by decide⟩
instance szL100 : Sz (100 : Int) 7 := ⟨by decide⟩
instance szL1000 : Sz (1000 : Int) 10 := ⟨by decide⟩
instance szL1000000 : Sz (1000000 : Int) 20 := ⟨by decide⟩
instance szL100000000 : Sz (100000000 : Int) 27 := ⟨by decide⟩
instance szL1000000000 : Sz (1000000000 : Int) 30 := ⟨by decide⟩
instance szL10000000000 : Sz (10000000000 : Int) 34 := ⟨by decide⟩
instance szL1000000000000 : Sz (1000000000000 : Int) 40 := ⟨by decide⟩
instance szL1000000000000000000 : Sz (1000000000000000000 : Int) 60 := ⟨by decide⟩
instance szL1000000000000000000000000000000 : Sz (1000000000000000000000000000000 : Int) 100 := ⟨by decide⟩
structure PlTo (ts : List T) (ds : List D) : Prop where
  eq : plains ts = some ds
theorem pl_n : PlTo [] [] := ⟨rfl⟩
theorem pl_c {d : D} {ts : List T} {ds : List D} (h : PlTo ts ds) : PlTo (.pl d :: ts) (d :: ds) := ⟨by
  unfold plains T.pl?
  simp only [Option.bind_some]
  rw [h.eq]; rfl⟩
theorem x_rtup {κ : Rd (List T)} {env : Slots} {ts : List T} {ds : List D} (h : κ env = some ts) (hp : PlTo ts ds) (hl : ds.length ≤ big) : rtup κ env = some (.pl (.tup ds)) := e_rtup h hp.eq hl
theorem x_rlst {κ : Rd (List T)} {env : Slots} {ts : List T} {ds : List D} (h : κ env = some ts) (hp : PlTo ts ds) (hl : ds.length ≤ big) : rlst κ env = some (.pl (.lst ds)) := e_rlst h hp.eq hl
structure OutTo (ts : List T) (e : Slots) (o : List T) : Prop where
  eq : outsOf ts e = some o
theorem out_n {e : Slots} : OutTo [] e [] := ⟨rfl⟩
theorem out_p {d : D} {ts o : List T} {x : Option T} {e : Slots} (h : OutTo ts e o) : OutTo (.pl d :: ts) (x :: e) (.pl d :: o) := ⟨by unfold outsOf; rw [h.eq]; rfl⟩
theorem out_o {ds : List D} {ts o : List T} {t : T} {e : Slots} (h : OutTo ts e o) : OutTo (.ol ds :: ts) (some t :: e) (t :: o) := ⟨by unfold outsOf; rw [h.eq]; rfl⟩
theorem y_fnrt {args o : List T} {t : T} {e : Slots} {Q : T → List T → Prop} (h1 : OutTo args e o) (h : Q t o) : FnK args Q (.rt t) e := fn_rt h1.eq h
theorem y_fnnx {args o : List T} {e : Slots} {Q : T → List T → Prop} (h1 : OutTo args e o) (h : Q (.pl .non) o) : FnK args Q .nx e := fn_nx h1.eq h
theorem sq_l {xs : List D} : seqD (T.pl (.lst xs)).frz = some xs := rfl
theorem sq_t {xs : List D} : seqD (T.pl (.tup xs)).frz = some xs := rfl
theorem sq_o {xs : List D} : seqD (T.ol xs).frz = some xs := rfl
theorem zx_tt {xs ys : List D} : zipX [.pl (.tup xs), .pl (.tup ys)] = some (List.zipWith pairD xs ys) := rfl
theorem zx_tl {xs ys : List D} : zipX [.pl (.tup xs), .pl (.lst ys)] = some (List.zipWith pairD xs ys) := rfl
theorem zx_lt {xs ys : List D} : zipX [.pl (.lst xs), .pl (.tup ys)] = some (List.zipWith pairD xs ys) := rfl
theorem zx_ll {xs ys : List D} : zipX [.pl (.lst xs), .pl (.lst ys)] = some (List.zipWith pairD xs ys) := rfl
theorem zx_ol {xs ys : List D} : zipX [.ol xs, .pl (.lst ys)] = some (List.zipWith pairD xs ys) := rfl
theorem zx_lo {xs ys : List D} : zipX [.pl (.lst xs), .ol ys] = some (List.zipWith pairD xs ys) := rfl
theorem neg_lit {k : Nat} : (-(no_index (OfNat.ofNat k : Int))) = -((k : Nat) : Int) := rfl
structure FzTo (ts us : List T) : Prop where
  eq : ts.map fz = us
theorem fz_n : FzTo [] [] := ⟨rfl⟩
theorem fz_c {d : D} {ts us : List T} (h : FzTo ts us) : FzTo (.pl d :: ts) (.pl d :: us) := ⟨by rw [List.map_cons, h.eq]; rfl⟩
theorem fz_o {ds : List D} {ts us : List T} (h : FzTo ts us) : FzTo (.ol ds :: ts) (.pl (.lst ds) :: us) := ⟨by rw [List.map_cons, h.eq]; rfl⟩
/-- a def's answer -/
def Gives (f : List T → FRes) (us : List T) (d : D) : Prop := ∃ t o, f us = .ok t o ∧ fz t = .pl d
theorem gives_p {f : List T → FRes} {us o : List T} {d : D} (h : f us = .ok (.pl d) o) : Gives f us d := ⟨_, _, h, rfl⟩
theorem gives_o {f : List T → FRes} {us o : List T} {ds : List D} (h : f us = .ok (.ol ds) o) : Gives f us (.lst ds) := ⟨_, _, h, rfl⟩
theorem y_rcall {f : List T → FRes} {κ : Rd (List T)} {env : Slots} {ts us : List T} {d : D} (h : κ env = some ts) (hz : FzTo ts us) (h2 : Gives f us d) (h3 : ((plains ts).isSome || d.noRef) = true) : rCall f κ env = some (.pl d) :=
  x_call h (by obtain ⟨t, o, h1, h2⟩ := h2; exact ⟨t, o, by rw [hz.eq]; exact h1, h2⟩) h3
/-! isinstance, is None -/
theorem is_non  : opIs false (.pl .non) (.pl .non) = some (.pl (.bl true)) := rfl
theorem ns_non  : opIs true (.pl .non) (.pl .non) = some (.pl (.bl false)) := rfl
theorem isi_non_int  : opIsi [.pl .non, .pl (.ty "int")] = some (.pl (.bl false)) := rfl
theorem isi_non_bool  : opIsi [.pl .non, .pl (.ty "bool")] = some (.pl (.bl false)) := rfl
theorem isi_non_str  : opIsi [.pl .non, .pl (.ty "str")] = some (.pl (.bl false)) := rfl
theorem isi_non_tuple  : opIsi [.pl .non, .pl (.ty "tuple")] = some (.pl (.bl false)) := rfl
theorem isi_non_list  : opIsi [.pl .non, .pl (.ty "list")] = some (.pl (.bl false)) := rfl
theorem is_bl {b : Bool} : opIs false (.pl (.bl b)) (.pl .non) = some (.pl (.bl false)) := rfl
theorem ns_bl {b : Bool} : opIs true (.pl (.bl b)) (.pl .non) = some (.pl (.bl true)) := rfl
theorem isi_bl_int {b : Bool} : opIsi [.pl (.bl b), .pl (.ty "int")] = some (.pl (.bl true)) := rfl
theorem isi_bl_bool {b : Bool} : opIsi [.pl (.bl b), .pl (.ty "bool")] = some (.pl (.bl true)) := rfl
theorem isi_bl_str {b : Bool} : opIsi [.pl (.bl b), .pl (.ty "str")] = some (.pl (.bl false)) := rfl
theorem isi_bl_tuple {b : Bool} : opIsi [.pl (.bl b), .pl (.ty "tuple")] = some (.pl (.bl false)) := rfl
theorem isi_bl_list {b : Bool} : opIsi [.pl (.bl b), .pl (.ty "list")] = some (.pl (.bl false)) := rfl
theorem is_int {i : Int} : opIs false (.pl (.int i)) (.pl .non) = some (.pl (.bl false)) := rfl
theorem ns_int {i : Int} : opIs true (.pl (.int i)) (.pl .non) = some (.pl (.bl true)) := rfl
theorem isi_int_int {i : Int} : opIsi [.pl (.int i), .pl (.ty "int")] = some (.pl (.bl true)) := rfl
theorem isi_int_bool {i : Int} : opIsi [.pl (.int i), .pl (.ty "bool")] = some (.pl (.bl false)) := rfl
theorem isi_int_str {i : Int} : opIsi [.pl (.int i), .pl (.ty "str")] = some (.pl (.bl false)) := rfl
theorem isi_int_tuple {i : Int} : opIsi [.pl (.int i), .pl (.ty "tuple")] = some (.pl (.bl false)) := rfl
theorem isi_int_list {i : Int} : opIsi [.pl (.int i), .pl (.ty "list")] = some (.pl (.bl false)) := rfl
theorem is_str {x : Str} : opIs false (.pl (.str x)) (.pl .non) = some (.pl (.bl false)) := rfl
theorem ns_str {x : Str} : opIs true (.pl (.str x)) (.pl .non) = some (.pl (.bl true)) := rfl
theorem isi_str_int {x : Str} : opIsi [.pl (.str x), .pl (.ty "int")] = some (.pl (.bl false)) := rfl
theorem isi_str_bool {x : Str} : opIsi [.pl (.str x), .pl (.ty "bool")] = some (.pl (.bl false)) := rfl
theorem isi_str_str {x : Str} : opIsi [.pl (.str x), .pl (.ty "str")] = some (.pl (.bl true)) := rfl
theorem isi_str_tuple {x : Str} : opIsi [.pl (.str x), .pl (.ty "tuple")] = some (.pl (.bl false)) := rfl
theorem isi_str_list {x : Str} : opIsi [.pl (.str x), .pl (.ty "list")] = some (.pl (.bl false)) := rfl
theorem is_tup {xs : List D} : opIs false (.pl (.tup xs)) (.pl .non) = some (.pl (.bl false)) := rfl
theorem ns_tup {xs : List D} : opIs true (.pl (.tup xs)) (.pl .non) = some (.pl (.bl true)) := rfl
theorem isi_tup_int {xs : List D} : opIsi [.pl (.tup xs), .pl (.ty "int")] = some (.pl (.bl false)) := rfl
theorem isi_tup_bool {xs : List D} : opIsi [.pl (.tup xs), .pl (.ty "bool")] = some (.pl (.bl false)) := rfl
theorem isi_tup_str {xs : List D} : opIsi [.pl (.tup xs), .pl (.ty "str")] = some (.pl (.bl false)) := rfl
theorem isi_tup_tuple {xs : List D} : opIsi [.pl (.tup xs), .pl (.ty "tuple")] = some (.pl (.bl true)) := rfl
theorem isi_tup_list {xs : List D} : opIsi [.pl (.tup xs), .pl (.ty "list")] = some (.pl (.bl false)) := rfl
theorem is_lst {xs : List D} : opIs false (.pl (.lst xs)) (.pl .non) = some (.pl (.bl false)) := rfl
theorem ns_lst {xs : List D} : opIs true (.pl (.lst xs)) (.pl .non) = some (.pl (.bl true)) := rfl
theorem isi_lst_int {xs : List D} : opIsi [.pl (.lst xs), .pl (.ty "int")] = some (.pl (.bl false)) := rfl
theorem isi_lst_bool {xs : List D} : opIsi [.pl (.lst xs), .pl (.ty "bool")] = some (.pl (.bl false)) := rfl
theorem isi_lst_str {xs : List D} : opIsi [.pl (.lst xs), .pl (.ty "str")] = some (.pl (.bl false)) := rfl
theorem isi_lst_tuple {xs : List D} : opIsi [.pl (.lst xs), .pl (.ty "tuple")] = some (.pl (.bl false)) := rfl
theorem isi_lst_list {xs : List D} : opIsi [.pl (.lst xs), .pl (.ty "list")] = some (.pl (.bl true)) := rfl
theorem is_ol {xs : List D} : opIs false (.ol xs) (.pl .non) = some (.pl (.bl false)) := rfl
theorem ns_ol {xs : List D} : opIs true (.ol xs) (.pl .non) = some (.pl (.bl true)) := rfl
theorem isi_ol_int {xs : List D} : opIsi [.ol xs, .pl (.ty "int")] = some (.pl (.bl false)) := rfl
theorem isi_ol_bool {xs : List D} : opIsi [.ol xs, .pl (.ty "bool")] = some (.pl (.bl false)) := rfl
theorem isi_ol_str {xs : List D} : opIsi [.ol xs, .pl (.ty "str")] = some (.pl (.bl false)) := rfl
theorem isi_ol_tuple {xs : List D} : opIsi [.ol xs, .pl (.ty "tuple")] = some (.pl (.bl false)) := rfl
theorem isi_ol_list {xs : List D} : opIsi [.ol xs, .pl (.ty "list")] = some (.pl (.bl true)) := rfl
theorem asB_b {b : Bool} : asB (.pl (.bl b)) = some b := rfl
theorem tru_b {b : Bool} : asTru (.pl (.bl b)) = some b := rfl
theorem tru_l {xs : List D} : asTru (.pl (.lst xs)) = some (!xs.isEmpty) := rfl
theorem tru_t {xs : List D} : asTru (.pl (.tup xs)) = some (!xs.isEmpty) := rfl
theorem tru_n : asTru (.pl .non) = some false := rfl
theorem e_or_t {β β' : Rd Bool} {env : Slots} (h : β env = some true) : rOrB β β' env = some true := by unfold rOrB; rw [h]; rfl
theorem e_and_f {β β' : Rd Bool} {env : Slots} (h : β env = some false) : rAndB β β' env = some false := by unfold rAndB; rw [h]; rfl
theorem e_orV_t {ρ ρ' : Rd T} {env : Slots} (h : ρ env = some (.pl (.bl true))) : rOrV ρ ρ' env = some (.pl (.bl true)) := by unfold rOrV; rw [h]; rfl
theorem e_andV_f {ρ ρ' : Rd T} {env : Slots} (h : ρ env = some (.pl (.bl false))) : rAndV ρ ρ' env = some (.pl (.bl false)) := by unfold rAndV; rw [h]; rfl
theorem e_or_f {β β' : Rd Bool} {env : Slots} {y : Bool} (h : β env = some false) (h' : β' env = some y) : rOrB β β' env = some y := by unfold rOrB; rw [h]; exact h'
theorem e_and_t {β β' : Rd Bool} {env : Slots} {y : Bool} (h : β env = some true) (h' : β' env = some y) : rAndB β β' env = some y := by unfold rAndB; rw [h]; exact h'
theorem e_orV_f {ρ ρ' : Rd T} {env : Slots} {t : T} (h : ρ env = some (.pl (.bl false))) (h' : ρ' env = some t) : rOrV ρ ρ' env = some t := by unfold rOrV; rw [h]; exact h'
theorem e_andV_t {ρ ρ' : Rd T} {env : Slots} {t : T} (h : ρ env = some (.pl (.bl true))) (h' : ρ' env = some t) : rAndV ρ ρ' env = some t := by unfold rAndV; rw [h]; exact h'
theorem e_not_t {β : Rd Bool} {env : Slots} (h : β env = some true) : rNotB β env = some false := by unfold rNotB; rw [h]; rfl
theorem e_not_f {β : Rd Bool} {env : Slots} (h : β env = some false) : rNotB β env = some true := by unfold rNotB; rw [h]; rfl
section
variable {env : Slots} {Q : Fl → Slots → Prop} {s s' : MS} {μ μ' : M Bool} {m : M T}
theorem y_if1 {f : T → Option Bool} (h : W (mb f m env) fun c e => IfG c (W (s e) Q) (W (s' e) Q)) : W (mIfS (mb f m) s s' env) Q := y_ifm h
theorem y_if2 (h : W (mAndB μ μ' env) fun c e => IfG c (W (s e) Q) (W (s' e) Q)) : W (mIfS (mAndB μ μ') s s' env) Q := y_ifm h
theorem y_if3 (h : W (mOrB μ μ' env) fun c e => IfG c (W (s e) Q) (W (s' e) Q)) : W (mIfS (mOrB μ μ') s s' env) Q := y_ifm h
theorem y_if4 (h : W (mNotB μ env) fun c e => IfG c (W (s e) Q) (W (s' e) Q)) : W (mIfS (mNotB μ) s s' env) Q := y_ifm h
end
theorem nat_sub1 {m : Nat} : ((m + 1 : Nat) : Int) - 1 = (m : Int) := by omega
theorem nat_sub2 {m : Nat} : ((m + 2 : Nat) : Int) - 2 = (m : Int) := by omega
theorem nat_add1 {m : Nat} : (m : Int) + 1 = ((m + 1 : Nat) : Int) := rfl
theorem nat_add2 {m : Nat} : (m : Int) + 2 = ((m + 2 : Nat) : Int) := rfl
theorem nat_add {m k : Nat} : (m : Int) + (k : Int) = ((m + k : Nat) : Int) := rfl
end Mir

/-! MirC: nested values: ints, texts, tuples. -/
namespace Mir
open PySem L2
/-- an int, a text or a tuple -/
inductive K3 : D → Prop where
  | int (i : Int) : K3 (.int i)
  | str (x : Str) : K3 (.str x)
  | tup (ds : List D) : K3 (.tup ds)
/-- a tuple's items are of these kinds -/
def K3s (v : D) : Prop := ∀ ds, v = .tup ds → ds.length < 1000000 ∧ ∀ d ∈ ds, K3 d
theorem K3s.int {i : Int} : K3s (.int i) := fun _ h => by cases h
theorem K3s.str {x : Str} : K3s (.str x) := fun _ h => by cases h
theorem K3s.iL {xs : List Int} (h : xs.length < 1000000) : K3s (.tup (iL xs)) := fun _ e => by
  cases e
  exact ⟨by rw [List.length_map]; exact h, fun d hd => by obtain ⟨i, _, rfl⟩ := List.mem_map.mp hd; exact .int i⟩
/-- a tuple of n ints -/
def isW (v : D) (n : Int) : Prop := ∃ xs : List Int, v = .tup (iL xs) ∧ (xs.length : Int) = n
theorem ints_of : ∀ {ds : List D}, (∀ d ∈ ds, ∃ i, d = .int i) → ∃ xs : List Int, ds = iL xs
  | [], _ => ⟨[], rfl⟩
  | d :: ds, h => by
    obtain ⟨i, hi⟩ := h d (by simp)
    obtain ⟨xs, hx⟩ := ints_of fun e he => h e (List.mem_cons_of_mem _ he)
    exact ⟨i :: xs, by rw [hi, hx]; rfl⟩
theorem iL_mem {xs : List Int} {d : D} (h : d ∈ iL xs) : ∃ i, d = .int i := by
  obtain ⟨i, _, rfl⟩ := List.mem_map.mp h
  exact ⟨i, rfl⟩
theorem iL_inj : ∀ {xs ys : List Int}, iL xs = iL ys → xs = ys
  | [], [], _ => rfl
  | [], _ :: _, h => by cases h
  | _ :: _, [], h => by cases h
  | x :: xs, y :: ys, h => by
    injection h with h1 h2
    cases h1
    rw [iL_inj h2]
theorem isW_iL {xs : List Int} {n : Int} : isW (.tup (iL xs)) n ↔ (xs.length : Int) = n :=
  ⟨fun ⟨ys, h, e⟩ => by injection h with h; rw [iL_inj h]; exact e, fun h => ⟨xs, rfl, h⟩⟩
section
variable {env e1 e2 : Slots} {Q : Fl → Slots → Prop} {s : MS} {st : D → Slots → Option Slots} {S : Type} {ds : List D} {E : S → Slots}
theorem x_forPD (P : D → Prop) (s0 : S) (hs : ∀ d, d ∈ ds → ∀ s0, StK st d (E s0) fun e1 => W (s e1) (ForK (fun e => P d ∧ ∃ s1, e = E s1) Q)) (hd : (∀ d, d ∈ ds → P d) → ∀ s1, Q .nx (E s1)) : W (mForL st s ds (E s0)) Q := by
  have := x_forP (emb := fun d : D => d) (xs := ds) (E := E) P s0 hs hd
  rwa [List.map_id'] at this
theorem x_forID {s' : MS} (I : Nat → S → Prop) (s0 : S) (h0 : I 0 s0) (hs : ∀ k d s, ds[k]? = some d → I k s → StK st d (E s) fun e1 => W (s' e1) (ForK (fun e => ∃ s1, I (k + 1) s1 ∧ e = E s1) Q)) (hd : ∀ s1, I ds.length s1 → Q .nx (E s1)) : W (mForL st s' ds (E s0)) Q := by
  have := x_forI (emb := fun d : D => d) (xs := ds) (E := E) (Q := Q) (st := st) I s0 h0 hs hd
  rwa [List.map_id'] at this
end
/-- the letters -/
abbrev abc : Str := Str.ofString "abcdefghijklmnopqrstuvwxyz"
/-- a word of 1 to n small letters -/
def wordP (n : Nat) (x : Str) : Prop := 1 ≤ x.length ∧ x.length ≤ n ∧ ∀ c ∈ x.cps.toList, c ∈ abc.cps.toList
/-- at most n deep, with words -/
def certP : Nat → D → Prop
  | 0, d => match d with
    | .int _ => True
    | .str x => wordP 12 x
    | _ => False
  | n + 1, d => match d with
    | .int _ => True
    | .str x => wordP 12 x
    | .tup ds => ∀ e ∈ ds, certP n e
    | _ => False
theorem certP_int {n : Nat} {i : Int} : certP n (.int i) := by cases n <;> exact trivial
theorem certP_str {n : Nat} {x : Str} : certP n (.str x) ↔ wordP 12 x := by cases n <;> exact Iff.rfl
theorem certP_tup {n : Nat} {ds : List D} : certP (n + 1) (.tup ds) ↔ ∀ e ∈ ds, certP n e := Iff.rfl
theorem certP_mono {n m : Nat} (h : n ≤ m) : ∀ {d : D}, certP n d → certP m d := by
  induction n generalizing m with
  | zero =>
    intro d hd
    cases d <;> first | exact certP_int | exact certP_str.mpr (certP_str.mp hd) | exact hd.elim
  | succ n ih =>
    intro d hd
    obtain ⟨k, rfl⟩ : ∃ k, m = k + 1 := ⟨m - 1, by omega⟩
    cases d <;> first | exact certP_int | exact certP_str.mpr (certP_str.mp hd) | exact (fun e he => ih (by omega) (hd e he)) | exact hd.elim
theorem certP_iL {n : Nat} {xs : List Int} : certP (n + 1) (.tup (iL xs)) := fun e he => by
  obtain ⟨i, rfl⟩ := iL_mem he
  exact certP_int
/-- what stands in it -/
def nodes : D → Nat
  | .tup ds => 1 + nodess ds
  | _ => 1
where nodess : List D → Nat
  | [] => 0
  | d :: ds => nodes d + nodess ds
theorem at_D {ds : List D} {k : Nat} {i : Int} (hi : i = (k : Int)) (h : k < ds.length) : atI ds i = some (ds.getD k .non) := by
  refine atI_eq hi ?_
  rw [List.getD_eq_getElem?_getD, List.getElem?_eq_getElem h]; rfl
theorem at_I {xs : List Int} {i : Int} (h0 : 0 ≤ i) (h : i < (xs.length : Int)) : atI (iL xs) i = some (.int (xs.getD i.toNat 0)) := at_getD (k := i.toNat) (by omega) (by omega)
theorem getD_mm {α : Type} {xs : List α} {k : Nat} {d : α} (h : k < xs.length) : xs.getD k d ∈ xs := by
  rw [List.getD_eq_getElem?_getD, List.getElem?_eq_getElem h]
  exact List.getElem_mem h
theorem oEqD {d d' : D} (h : D.flat 40 d = true) (h' : D.flat 40 d' = true) : opEq false (.pl d) (.pl d') = some (.pl (.bl (D.eqv d d'))) := by
  unfold opEq
  rw [if_pos ⟨h, h'⟩]; rfl
theorem oNeD {d d' : D} (h : D.flat 40 d = true) (h' : D.flat 40 d' = true) : opEq true (.pl d) (.pl d') = some (.pl (.bl (!D.eqv d d'))) := by
  unfold opEq
  rw [if_pos ⟨h, h'⟩]; rfl
/-- a sign among the letters -/
theorem oInC {c : Nat} {z : Str} : opIn false (.pl (.str ⟨#[c]⟩)) (.pl (.str z)) = some (.pl (.bl (decide (c ∈ z.cps.toList)))) := rfl
theorem oNiC {c : Nat} {z : Str} : opIn true (.pl (.str ⟨#[c]⟩)) (.pl (.str z)) = some (.pl (.bl (!decide (c ∈ z.cps.toList)))) := rfl
/-- the signs of a text -/
abbrev sg (x : Str) : List D := x.cps.toList.map fun c => D.str ⟨#[c]⟩
theorem sq_s {x : Str} : seqD (T.pl (.str x)).frz = some (sg x) := rfl
theorem oLenS {x : Str} (h : x.length ≤ big) : opLen [.pl (.str x)] = some (.pl (.int (x.length : Nat))) := if_pos h
theorem x_chain {f f' : T → T → Option T} {ρa ρb ρc : Rd T} {env : Slots} {x y w : T} {a b : Bool} (h1 : ρa env = some x) (h2 : ρb env = some y) (h3 : R1 (f x y) (.bl a)) (h4 : a = true → ρc env = some w) (h5 : a = true → R1 (f' y w) (.bl b)) : rChain f f' ρa ρb ρc env = some (.pl (.bl (a && b))) := by
  unfold rChain
  rw [h1, Option.bind_some, h2, Option.bind_some]
  unfold R1 at h3
  rw [Option.map_eq_some_iff] at h3
  obtain ⟨z, hz, ez⟩ := h3
  have e : asB z = some a := by
    unfold fz at ez
    injection ez with ez
    cases z <;> unfold T.frz at ez
    · subst ez; rfl
    · cases ez
    · cases ez
  rw [hz, Option.bind_some, e, Option.bind_some]
  cases a with
  | true => rw [if_pos rfl, h4 rfl, Option.bind_some]; exact h5 rfl
  | false => rfl
/-- values that are nested at will -/
inductive Good : D → Prop where
  | int (i : Int) : Good (.int i)
  | str (x : Str) (h : x.length < 1000) (h' : PyData.strOk x = true) : Good (.str x)
  | tup (ds : List D) (h : ∀ d ∈ ds, Good d) : Good (.tup ds)
theorem Good.k3 {d : D} (h : Good d) : K3 d := by cases h <;> constructor
theorem nodess_append (xs ys : List D) : nodes.nodess (xs ++ ys) = nodes.nodess xs + nodes.nodess ys := by
  induction xs with
  | nil => simp [nodes.nodess]
  | cons x xs ih => rw [List.cons_append, nodes.nodess, nodes.nodess, ih]; omega
theorem nodes_pos (d : D) : 1 ≤ nodes d := by cases d <;> simp [nodes]
theorem nodess_len (xs : List D) : xs.length ≤ nodes.nodess xs := by
  induction xs with
  | nil => simp
  | cons x xs ih => rw [nodes.nodess, List.length_cons]; have := nodes_pos x; omega
theorem nodess_mem {d : D} {xs : List D} (h : d ∈ xs) : nodes d ≤ nodes.nodess xs := by
  induction xs with
  | nil => cases h
  | cons x xs ih =>
    rw [nodes.nodess]
    rcases List.mem_cons.mp h with rfl | h
    · omega
    · have := ih h; omega
theorem Good.k3s {d : D} (h : Good d) (hn : nodes d < 1000000) : K3s d := fun ds e => by
  subst e
  cases h with
  | tup _ h => exact ⟨by have := nodess_len ds; rw [nodes] at hn; omega, fun d hd => (h d hd).k3⟩
/-- a text of small letters -/
def wordV (v : D) : Prop := ∃ x, v = .str x ∧ wordP 12 x
theorem filt_len {x : Str} {p : Nat → Bool} {g : Nat → D} (h : x.length < 1000) : ((x.cps.toList.filter p).map g).length < big := by
  rw [List.length_map]
  have h1 := List.length_filter_le p x.cps.toList
  have h2 : x.cps.toList.length = x.length := Array.length_toList
  show _ < 1000000
  omega
theorem at_c0 {d : D} {r : List D} : atI (d :: r) 0 = some d := atI_eq (k := 0) rfl rfl
theorem at_c1 {d e : D} {r : List D} : atI (d :: e :: r) 1 = some e := atI_eq (k := 1) rfl rfl
theorem at_c2 {d e f : D} {r : List D} : atI (d :: e :: f :: r) 2 = some f := atI_eq (k := 2) rfl rfl
theorem oLenCT {d : D} {r : List D} : opLen [.pl (.tup (d :: r))] = some (.pl (.int ((r.length + 1 : Nat) : Int))) := rfl
theorem oLenNT : opLen [.pl (.tup [])] = some (.pl (.int 0)) := rfl
theorem oLenNL : opLen [.pl (.lst [])] = some (.pl (.int 0)) := rfl
theorem ext_ok {xs ys : List D} (h : xs.length + ys.length ≤ 1000000) : lExtend xs [.lst ys] = some (.non, xs ++ ys) := if_pos h
/-- level by level: what is known before turn j of round k -/
structure CI (v : D) (k : Nat) (rest acc : List D) : Prop where
  gr : ∀ d ∈ rest, Good d
  ga : ∀ e ∈ acc, Good e
  sz : nodes.nodess acc + nodes.nodess rest < 100000
  lo : k < 8 → (certP 8 v ↔ (∀ d ∈ rest, certP (8 - k) d) ∧ ∀ e ∈ acc, certP (7 - k) e)
  at8 : k = 8 → acc = [] ∧ (certP 8 v ↔ ∀ d ∈ rest, certP 0 d)
  hi : 8 < k → acc = [] ∧ rest = [] ∧ certP 8 v
theorem CI.start {v : D} (h : Good v) (hn : nodes v < 100000) : CI v 0 [v] [] where
  gr := fun d hd => by simp at hd; subst hd; exact h
  ga := fun d hd => by cases hd
  sz := by simp [nodes.nodess]; exact hn
  lo := fun _ => by simp
  at8 := fun h => by cases h
  hi := fun h => by omega
theorem CI.next {v : D} {k : Nat} {acc : List D} (h : CI v k [] acc) : CI v (k + 1) acc [] where
  gr := h.ga
  ga := fun d hd => by cases hd
  sz := by have := h.sz; simpa [nodes.nodess] using this
  lo := fun hk => by
    have := h.lo (by omega)
    rw [show 8 - (k + 1) = 7 - k by omega]
    simpa using this
  at8 := fun hk => by
    have := h.lo (by omega)
    rw [show 7 - k = 0 by omega] at this
    exact ⟨rfl, by simpa using this⟩
  hi := fun hk => by
    by_cases e : k = 8
    · obtain ⟨h1, h2⟩ := h.at8 e
      exact ⟨rfl, h1, h2.mpr (by simp)⟩
    · obtain ⟨h1, _, h2⟩ := h.hi (by omega)
      exact ⟨rfl, h1, h2⟩
theorem CI.leaf {v d : D} {k : Nat} {rest acc : List D} (h : CI v k (d :: rest) acc) (hc : ∀ n, certP n d) : CI v k rest acc where
  gr := fun e he => h.gr e (List.mem_cons_of_mem _ he)
  ga := h.ga
  sz := by have := h.sz; rw [nodes.nodess] at this; omega
  lo := fun hk => by
    rw [h.lo hk]
    exact ⟨fun ⟨a, b⟩ => ⟨fun e he => a e (List.mem_cons_of_mem _ he), b⟩, fun ⟨a, b⟩ => ⟨fun e he => (List.mem_cons.mp he).elim (fun q => q ▸ hc _) (a e), b⟩⟩
  at8 := fun hk => by
    obtain ⟨h1, h2⟩ := h.at8 hk
    refine ⟨h1, h2.trans ?_⟩
    exact ⟨fun a e he => a e (List.mem_cons_of_mem _ he), fun a e he => (List.mem_cons.mp he).elim (fun q => q ▸ hc _) (a e)⟩
  hi := fun hk => by obtain ⟨_, h2, _⟩ := h.hi hk; cases h2
theorem CI.tup {v : D} {k : Nat} {ds rest acc : List D} (h : CI v k (.tup ds :: rest) acc) (hk : k ≠ 8) : CI v k rest (acc ++ ds) where
  gr := fun e he => h.gr e (List.mem_cons_of_mem _ he)
  ga := fun e he => by
    rcases List.mem_append.mp he with he | he
    · exact h.ga e he
    · have := h.gr (.tup ds) (by simp)
      cases this with
      | tup _ g => exact g e he
  sz := by have := h.sz; rw [nodes.nodess, nodes] at this; rw [nodess_append]; omega
  lo := fun hk => by
    rw [h.lo hk]
    have e : 8 - k = (7 - k) + 1 := by omega
    constructor
    · rintro ⟨a, b⟩
      refine ⟨fun e he => a e (List.mem_cons_of_mem _ he), fun d hd => ?_⟩
      rcases List.mem_append.mp hd with hd | hd
      · exact b d hd
      · have := a (.tup ds) (by simp)
        rw [e] at this
        exact this d hd
    · rintro ⟨a, b⟩
      refine ⟨fun d hd => ?_, fun d hd => b d (List.mem_append_left _ hd)⟩
      rcases List.mem_cons.mp hd with rfl | hd
      · rw [e]; exact fun d hd => b d (List.mem_append_right _ hd)
      · exact a d hd
  at8 := fun e => absurd e hk
  hi := fun hk => by obtain ⟨_, h2, _⟩ := h.hi hk; cases h2
/-- a leaf that is none, or a tuple too deep -/
theorem CI.bad {v d : D} {k : Nat} {rest acc : List D} (h : CI v k (d :: rest) acc) (hc : k < 8 → ¬ certP (8 - k) d) (h0 : k = 8 → ¬ certP 0 d) : ¬ certP 8 v := fun c => by
  by_cases e : k < 8
  · exact hc e (((h.lo e).mp c).1 d (by simp))
  · by_cases e8 : k = 8
    · exact h0 e8 ((h.at8 e8).2.mp c d (by simp))
    · obtain ⟨_, h2, _⟩ := h.hi (by omega); cases h2
theorem CI.len {v : D} {k : Nat} {rest acc : List D} (h : CI v k rest acc) : acc.length < 100000 := by have := h.sz; have := nodess_len acc; omega
theorem in2 {x a b : Int} : inD (.int x) [.int a, .int b] = (decide (x = a) || decide (x = b)) := by
  have q : ∀ c : Int, D.eqv (.int c) (.int x) = decide (x = c) := fun c => by
    show (c == x) = _
    by_cases h : x = c
    · subst h; simp
    · have h' : ¬ c = x := fun e => h e.symm
      simp [h, h']
  simp [inD, q]
theorem oNi2 {x a b : Int} : opIn true (.pl (.int x)) (.pl (.lst [.int a, .int b])) = some (.pl (.bl (!(decide (x = a) || decide (x = b))))) := by
  rw [← in2]; rfl
theorem oIn2 {x a b : Int} : opIn false (.pl (.int x)) (.pl (.lst [.int a, .int b])) = some (.pl (.bl (decide (x = a) || decide (x = b)))) := by
  rw [← in2]; rfl
theorem iL_filt {p : Int → Bool} {xs : List Int} {n : Nat} (h : xs.length < n) (hn : n ≤ 1000000) : ((xs.filter p).map D.int).length < big := by
  rw [List.length_map]
  have h1 := List.length_filter_le p xs
  show _ < 1000000
  omega
/-! lists put together, written out where they can be -/
structure AppTo (xs ys zs : List D) : Prop where
  eq : xs ++ ys = zs
theorem ap_n {ys : List D} : AppTo [] ys ys := ⟨rfl⟩
theorem ap_c {x : D} {xs ys zs : List D} (h : AppTo xs ys zs) : AppTo (x :: xs) ys (x :: zs) := ⟨by rw [List.cons_append, h.eq]⟩
theorem ap_e {xs : List D} : AppTo xs [] xs := ⟨List.append_nil xs⟩
theorem ap_i {xs ys : List Int} : AppTo (iL xs) (iL ys) (iL (xs ++ ys)) := ⟨(List.map_append).symm⟩
theorem ap_i1 {xs : List Int} {y : Int} : AppTo (iL xs) [.int y] (iL (xs ++ [y])) := ⟨by unfold iL; rw [List.map_append]; rfl⟩
theorem ap_g {xs ys : List D} : AppTo xs ys (xs ++ ys) := ⟨rfl⟩
section
variable {xs ys zs : List D} {d : D}
theorem pAddL (h : xs.length + ys.length ≤ big) (ha : AppTo xs ys zs) : opAdd (.pl (.lst xs)) (.pl (.lst ys)) = some (.ol zs) := by rw [oAddL h, ha.eq]
theorem pAddOL (h : xs.length + ys.length ≤ big) (ha : AppTo xs ys zs) : opAdd (.ol xs) (.pl (.lst ys)) = some (.ol zs) := by rw [oAddOL h, ha.eq]
theorem pAddT (h : xs.length + ys.length ≤ big) (ha : AppTo xs ys zs) : opAdd (.pl (.tup xs)) (.pl (.tup ys)) = some (.pl (.tup zs)) := by rw [oAddT h, ha.eq]
theorem papp (h : xs.length < big) (ha : AppTo xs [d] zs) : lAppend xs [d] = some (.non, zs) := by rw [app_ok h, ha.eq]
theorem pext (h : xs.length + ys.length ≤ 1000000) (ha : AppTo xs ys zs) : lExtend xs [.lst ys] = some (.non, zs) := by rw [ext_ok h, ha.eq]
theorem oAddS {x y : Str} (h : x.length + y.length ≤ big) : opAdd (.pl (.str x)) (.pl (.str y)) = some (.pl (.str (x ++ y))) := if_pos h
end
/-- a display's items -/
def DisK (ts : List T) (R : List D → Prop) : Prop := ∃ ds, FrzsTo ts ds ∧ ds.length ≤ big ∧ R ds
theorem c_dis {ts : List T} {ds : List D} {R : List D → Prop} (h1 : FrzsTo ts ds) (h2 : ds.length ≤ big) (h : R ds) : DisK ts R := ⟨ds, h1, h2, h⟩
theorem z_mlst {env : Slots} {R : T → Slots → Prop} {μ : M (List T)} (h : W (μ env) fun ts e => DisK ts fun ds => R (.ol ds) e) : W (mlst μ env) R :=
  w_mlst (h.mono fun ts e ⟨ds, h1, h2, h3⟩ => ⟨by rw [← h1.eq] at h2; unfold frzs at h2; rwa [List.length_map] at h2, by rw [h1.eq]; exact h3⟩)
theorem z_mtup {env : Slots} {R : T → Slots → Prop} {μ : M (List T)} (h : W (μ env) fun ts e => DisK ts fun ds => R (.pl (.tup ds)) e) : W (mtup μ env) R :=
  w_mtup (h.mono fun ts e ⟨ds, h1, h2, h3⟩ => ⟨by rw [← h1.eq] at h2; unfold frzs at h2; rwa [List.length_map] at h2, by rw [h1.eq]; exact h3⟩)
theorem R0ix {a b t : T} (h : opIx a b = some t) : R0 (opIx a b) t := ⟨h⟩
theorem R0tuple {ts : List T} {t : T} (h : opTuple ts = some t) : R0 (opTuple ts) t := ⟨h⟩
theorem R0list {ts : List T} {t : T} (h : opList ts = some t) : R0 (opList ts) t := ⟨h⟩
theorem eq_ix {a b t : T} (h : opIx a b = some t) : opIx a b = some t := h
theorem eq_len {ts : List T} {t : T} (h : opLen ts = some t) : opLen ts = some t := h
theorem eq_isi {ts : List T} {t : T} (h : opIsi ts = some t) : opIsi ts = some t := h
theorem eq_is {n : Bool} {a b t : T} (h : opIs n a b = some t) : opIs n a b = some t := h
theorem eq_tuple {ts : List T} {t : T} (h : opTuple ts = some t) : opTuple ts = some t := h
theorem eq_list {ts : List T} {t : T} (h : opList ts = some t) : opList ts = some t := h
theorem eq_gcd {ts : List T} {t : T} (h : opGcd ts = some t) : opGcd ts = some t := h
theorem eq_inn {n : Bool} {a b t : T} (h : opIn n a b = some t) : opIn n a b = some t := h
theorem eq_sl {a t : T} {o p : Option Int} (h : opSl a o p = some t) : opSl a o p = some t := h
theorem eq_slL {a t : T} {o p : Option Int} (h : opSl a o p = some t) : opSl a o p = some t := h
theorem eq_max1 {ts : List T} {t : T} (h : opMax1 ts = some t) : opMax1 ts = some t := h
theorem eq_sorted {ts : List T} {t : T} (h : opSorted ts = some t) : opSorted ts = some t := h
theorem eq_sum {ts : List T} {t : T} (h : opSum ts = some t) : opSum ts = some t := h
section
variable {β β' : Rd Bool} {ρ ρ' : Rd T} {env : Slots} {b : Bool}
theorem e_and_fx (h : β env = some b) (hb : b = false) : rAndB β β' env = some false := e_and_f (hb ▸ h)
theorem e_or_tx (h : β env = some b) (hb : b = true) : rOrB β β' env = some true := e_or_t (hb ▸ h)
theorem e_andV_fx (h : ρ env = some (.pl (.bl b))) (hb : b = false) : rAndV ρ ρ' env = some (.pl (.bl false)) := e_andV_f (hb ▸ h)
theorem e_orV_tx (h : ρ env = some (.pl (.bl b))) (hb : b = true) : rOrV ρ ρ' env = some (.pl (.bl true)) := e_orV_t (hb ▸ h)
end
section
variable {env e1 : Slots} {R : T → Slots → Prop} {m : M T} {i : Nat} {t : T} {d : D}
theorem fz_frz (h : FrzTo t d) : fz t = .pl d := by unfold fz; rw [h.eq]
theorem z_mv (h1 : env[i]? = some (some t)) (h0 : FrzTo t d) (h2 : SetTo i (some (.pl d)) env e1) (h : R (.pl d) e1) : W (mv i env) R := w_mv h1 (by rw [fz_frz h0, h2.eq]; exact h)
def FzK (t : T) (R : T → Prop) : Prop := ∃ d, FrzTo t d ∧ R (.pl d)
theorem c_fz {R : T → Prop} (h0 : FrzTo t d) (h : R (.pl d)) : FzK t R := ⟨d, h0, h⟩
theorem z_mfz (h : W (m env) fun t e => FzK t fun u => R u e) : W (mfz m env) R := w_mfz (h.mono fun t e ⟨d, h0, h1⟩ => by rw [fz_frz h0]; exact h1)
end
/-- a drawing def: the state goes on, the answer is as P says -/
def Drw (f : List T → FRes) (args : List T) (P : T → Prop) : Prop := ∀ a b, OkB b → WF (f (.ol [.int a, .int b] :: args)) fun t o => P t ∧ ∃ a' b', OkB b' ∧ o = .ol [.int a', .int b'] :: args
theorem st_drw {f : List T → FRes} {args : List T} {P : T → Prop} {a b : Int} {Q : T → List T → Prop} (hd : Drw f args P) (hb : OkB b) (h : ∀ t a' b', P t → OkB b' → Q t (.ol [.int a', .int b'] :: args)) : WF (f (.ol [.int a, .int b] :: args)) Q :=
  (hd a b hb).mono fun t o ⟨h1, a', b', h2, h3⟩ => by rw [h3]; exact h t a' b' h1 h2
/-- an item of a written list -/
theorem lit_ix {ds : List D} {P : D → Prop} {r : Int} (h0 : 0 ≤ r) (h1 : r < (ds.length : Int)) (hP : ∀ d ∈ ds, P d) : ∃ d, opIx (.pl (.lst ds)) (.pl (.int r)) = some (.pl d) ∧ P d := by
  have hl : r.toNat < ds.length := by omega
  exact ⟨ds[r.toNat], ixL (atI_eq (k := r.toNat) (by omega) (List.getElem?_eq_getElem hl)), hP _ (List.getElem_mem hl)⟩
theorem rngI {i : Int} (h0 : 0 ≤ i) (h : i < 1000000) : rngD1 [.pl (.int i)] = some (iR i.toNat) := rngL (by omega) (by omega)
def RestK (e e' : Slots) (vs : List Nat) (t : T) (R : T → Slots → Prop) : Prop := ∃ e'', RestTo e e' vs e'' ∧ R t e''
theorem c_rest {e e' e'' : Slots} {vs : List Nat} {t : T} {R : T → Slots → Prop} (h1 : RestTo e e' vs e'') (h : R t e'') : RestK e e' vs t R := ⟨e'', h1, h⟩
theorem z_mcomp {env : Slots} {R : T → Slots → Prop} {vs : List Nat} {st : D → Slots → Option Slots} {src : M (List D)} {tt : M Bool} {el : M T} (h : W (src env) fun ds e => W (mCompL vs st tt el ds [] (wipeS e vs)) fun acc e' => LenK (acc.length < big) (RestK e e' vs (.ol acc) R)) : W (mComp vs st src tt el env) R := y_mcomp h
section
variable {vs : List Nat} {st : D → Slots → Option Slots} {el : M T} {L : List D → Slots → Prop} {α S : Type} {emb : α → D} {xs : List α} {E : S → Slots} {env : Slots}
def OneK (A : S → Prop) (E : S → Slots) (e : Slots) : Prop := ∃ s1, A s1 ∧ e = E s1
theorem c_one {A : S → Prop} {e : Slots} (s1 : S) (h : A s1) (h' : e = E s1) : OneK A E e := ⟨s1, h, h'⟩
/-- a list of drawn items -/
theorem x_mdraw (P : D → Prop) (A : S → Prop) (s0 : S) (he : env = E s0) (h0 : A s0)
    (hs : ∀ a, a ∈ xs → ∀ s, A s → StK st (emb a) (E s) fun e1 => W (el e1) fun t e3 => P t.frz ∧ OneK A E (wipeS e3 vs))
    (hd : ∀ acc s, acc.length = xs.length → (∀ d ∈ acc, P d) → A s → L acc (E s)) : W (mCompL vs st mYes el (xs.map emb) [] env) L := by
  refine x_mcompI (E := E) (fun k acc s => acc.length = k ∧ (∀ d ∈ acc, P d) ∧ A s) s0 he ⟨rfl, by simp, h0⟩ (fun k a acc s hk ⟨h1, h2, h3⟩ => ?_) fun acc s ⟨h1, h2, h3⟩ => hd acc s h1 h2 h3
  obtain ⟨e1, q1, q2⟩ := hs a (List.mem_of_getElem? hk) s h3
  refine ⟨e1, q1, w_yes (IfG.yes rfl (q2.mono fun t e3 ⟨p, s1, p1, p2⟩ => ⟨s1, ⟨by rw [List.length_append]; simp; exact h1, ?_, p1⟩, p2⟩))⟩
  intro d hd
  rcases List.mem_append.mp hd with hd | hd
  · exact h2 d hd
  · simp at hd; subst hd; exact p
end
theorem ints_sz : ∀ {ds : List D} {n : Nat}, (∀ d ∈ ds, ∃ i, d = .int i ∧ Sz i n) → ∃ xs : List Int, ds = iL xs ∧ Szs xs n ∧ xs.length = ds.length
  | [], _, _ => ⟨[], rfl, by intro x hx; simp at hx, rfl⟩
  | d :: ds, n, h => by
    obtain ⟨i, hi, si⟩ := h d (by simp)
    obtain ⟨xs, hx, sx, hl⟩ := ints_sz fun e he => h e (List.mem_cons_of_mem _ he)
    refine ⟨i :: xs, by rw [hi, hx]; rfl, fun x hx => ?_, by simp [hl]⟩
    rcases List.mem_cons.mp hx with rfl | hx
    · exact si.lt
    · exact sx x hx
theorem rest_c {env e' e1 e'' : Slots} {v : Nat} {vs : List Nat} {x : Option T} (h0 : (wipeS env vs)[v]? = some x) (h1 : SetTo v x e' e1) (h : RestTo env e1 vs e'') : RestTo env e' (v :: vs) e'' := rest_cons (by rw [h0]; rfl) h1 h
theorem Szs.app {xs ys : List Int} {n : Nat} (h : Szs xs n) (h' : Szs ys n) : Szs (xs ++ ys) n := fun x hx => (List.mem_append.mp hx).elim (h x) (h' x)
theorem Szs.one {x : Int} {n m : Nat} (h : Sz x n) (l : n ≤ m) : Szs [x] m := fun y hy => by simp at hy; subst hy; exact (h.mono l).lt
instance szAbs {i : Int} {n : Nat} [h : Sz i n] : Sz ((i.natAbs : Nat) : Int) n := ⟨by rw [Int.natAbs_natCast]; exact h.lt⟩
theorem Szs.zeros {n b : Nat} : Szs ((List.range n).map fun _ => 0) b := fun x hx => by
  obtain ⟨_, _, rfl⟩ := List.mem_map.mp hx
  exact Nat.pow_pos (by decide)
theorem Szs.set {xs : List Int} {n k : Nat} {x : Int} (h : Szs xs n) (h' : Sz x n) : Szs (xs.set k x) n := fun y hy => by
  rcases List.mem_or_eq_of_mem_set hy with hy | rfl
  · exact h y hy
  · exact h'.lt
theorem Szs.map {xs : List Int} {n m : Nat} {f : Int → Int} (h : Szs xs n) (hf : ∀ x, Sz x n → Sz (f x) m) : Szs (xs.map f) m := fun y hy => by
  obtain ⟨x, hx, rfl⟩ := List.mem_map.mp hy
  exact (hf x ⟨h x hx⟩).lt
theorem ls_i {xs : List Int} {j : Nat} {y : Int} : LSet (iL xs) j (.int y) (iL (xs.set j y)) := ⟨by unfold iL; rw [List.map_set]⟩
/-- both branches lead to P -/
def NxP (P : Slots → Prop) : Fl → Slots → Prop := fun fl e => fl = .nx ∧ P e
theorem c_nxp {P : Slots → Prop} {e : Slots} (h : P e) : NxP P .nx e := ⟨rfl, h⟩
theorem W.nxp {P : Slots → Prop} {Q : Fl → Slots → Prop} {o : Out Fl} (h : W o (NxP P)) (hn : ∀ e, P e → Q .nx e) : W o Q := h.mono fun fl e ⟨h1, h2⟩ => by rw [h1]; exact hn e h2
theorem IfG.join {c : Bool} {s s' : MS} {e1 e2 : Slots} {Q : Fl → Slots → Prop} (P : Slots → Prop) (h1 : c = true → W (s e1) (NxP P)) (h2 : c = false → W (s' e2) (NxP P)) (hn : ∀ e, P e → Q .nx e) : IfG c (W (s e1) Q) (W (s' e2) Q) :=
  ⟨fun h => (h1 h).nxp hn, fun h => (h2 h).nxp hn⟩
/-- small parts of nested values -/
structure Leaf (d : D) : Prop where
  good : Good d
  few : nodes d ≤ 3
  cert : certP 7 d
theorem Leaf.int {i : Int} : Leaf (.int i) := ⟨.int i, by simp [nodes], certP_int⟩
theorem nodess_le {ds : List D} {m : Nat} (h : ∀ d ∈ ds, nodes d ≤ m) : nodes.nodess ds ≤ ds.length * m := by
  induction ds with
  | nil => simp [nodes.nodess]
  | cons d ds ih =>
    rw [nodes.nodess, List.length_cons, Nat.succ_mul]
    have h1 := h d (by simp)
    have h2 := ih fun e he => h e (List.mem_cons_of_mem _ he)
    omega
/-- a tuple of leaves -/
structure Leaves (ds : List D) (n : Nat) : Prop where
  all : ∀ d ∈ ds, Leaf d
  len : ds.length ≤ n
theorem Leaves.good {ds : List D} {n : Nat} (h : Leaves ds n) : Good (.tup ds) := .tup ds fun d hd => (h.all d hd).good
theorem Leaves.cert {ds : List D} {n : Nat} (h : Leaves ds n) : certP 8 (.tup ds) := fun d hd => (h.all d hd).cert
theorem Leaves.nodes {ds : List D} {n : Nat} (h : Leaves ds n) : nodes (.tup ds) ≤ 1 + n * 3 := by
  have h1 := nodess_le (ds := ds) (m := 3) fun d hd => (h.all d hd).few
  have h2 := Nat.mul_le_mul_right 3 h.len
  rw [Mir.nodes]; omega
theorem Leaves.ints {xs : List Int} {n : Nat} (h : xs.length ≤ n) : Leaves (iL xs) n := ⟨fun d hd => by obtain ⟨i, rfl⟩ := iL_mem hd; exact .int, by rw [List.length_map]; exact h⟩
theorem Leaves.sub {ds es : List D} {n m : Nat} (h : Leaves ds n) (hs : ∀ e ∈ es, e ∈ ds) (hl : es.length ≤ m) : Leaves es m := ⟨fun e he => h.all e (hs e he), hl⟩
theorem Leaves.set {ds : List D} {n k : Nat} {d : D} (h : Leaves ds n) (hd : Leaf d) : Leaves (ds.set k d) n := ⟨fun e he => by
  rcases List.mem_or_eq_of_mem_set he with he | rfl
  · exact h.all e he
  · exact hd, by rw [List.length_set]; exact h.len⟩
theorem Leaves.app {ds es : List D} {n m : Nat} (h : Leaves ds n) (h' : Leaves es m) : Leaves (ds ++ es) (n + m) := ⟨fun e he => (List.mem_append.mp he).elim (h.all e) (h'.all e), by have := h.len; have := h'.len; rw [List.length_append]; omega⟩
theorem Leaves.one {d : D} (h : Leaf d) : Leaves [d] 1 := ⟨fun e he => by simp at he; subst he; exact h, by simp⟩
theorem Leaf.a : Leaf (.str "a") := ⟨.str _ (by decide) (by decide +kernel), by simp [nodes], by refine certP_str.mpr ⟨by decide, by decide, by decide⟩⟩
theorem Leaf.point : Leaf (.str "point") := ⟨.str _ (by decide) (by decide +kernel), by simp [nodes], by refine certP_str.mpr ⟨by decide, by decide, by decide⟩⟩
theorem Leaf.nil : Leaf (.tup []) := ⟨.tup _ (by simp), by simp [nodes, nodes.nodess], fun d hd => by cases hd⟩
theorem Leaf.unit {i : Int} : Leaf (.tup [.int i]) := ⟨.tup _ (fun d hd => by simp at hd; subst hd; exact .int i), by simp [nodes, nodes.nodess], fun d hd => by simp at hd; subst hd; exact certP_int⟩
theorem ins_ok {xs : List D} {i : Int} {d : D} (h0 : 0 ≤ i) (h1 : i < 2 ^ 63) (h : xs.length < big) : lInsert xs [.int i, d] = some (.non, xs.take i.toNat ++ [d] ++ xs.drop i.toNat) := if_pos ⟨h0, h1, h⟩
theorem pop_ok {xs : List D} {i : Int} (h0 : 0 ≤ i) (h1 : i < 2 ^ 63) (h : i.toNat < xs.length) : lPopAt xs [.int i] = some (xs[i.toNat], xs.eraseIdx i.toNat) := by
  show (if -(2 ^ 63) ≤ i ∧ i < 2 ^ 63 then (L2.ixN xs.length i).bind fun k => (xs[k]?).map fun d => (d, xs.eraseIdx k) else none) = _
  rw [if_pos ⟨by omega, h1⟩, ixN_nat (k := i.toNat) (by omega) h, Option.bind_some, List.getElem?_eq_getElem h]; rfl
/-! texts -/
/-- small letters only -/
def ab (x : Str) : Prop := ∀ c ∈ x.cps.toList, c ∈ abc.cps.toList
theorem str_len_append (x y : Str) : (x ++ y).length = x.length + y.length := by
  show (x.cps ++ y.cps).size = _
  rw [Array.size_append]; rfl
theorem str_mem_append {x y : Str} {c : Nat} : c ∈ (x ++ y).cps.toList ↔ c ∈ x.cps.toList ∨ c ∈ y.cps.toList := by
  show c ∈ (x.cps ++ y.cps).toList ↔ _
  simp
theorem ab.append {x y : Str} (h : ab x) (h' : ab y) : ab (x ++ y) := fun c hc => (str_mem_append.mp hc).elim (h c) (h' c)
theorem cutS_mem {z : Str} {lo hi : Option Int} {c : Nat} (h : c ∈ (cutS z lo hi).cps.toList) : c ∈ z.cps.toList := by
  have h : c ∈ (z.cps.toList.drop (HT.sIx z.length 0 lo)).take (HT.sIx z.length z.length hi - HT.sIx z.length 0 lo) := by
    simpa [cutS] using h
  exact List.mem_of_mem_drop (List.mem_of_mem_take h)
theorem ab.cut {z : Str} {lo hi : Option Int} (h : ab z) : ab (cutS z lo hi) := fun c hc => h c (cutS_mem hc)
theorem strOk_all {x : Str} (h : ∀ c ∈ x.cps.toList, c < 0x110000) : PyData.strOk x = true := by
  unfold PyData.strOk
  rw [Array.all_eq_true]
  intro i hi
  exact decide_eq_true (h _ (by simp))
theorem ab.ok {x : Str} (h : ab x) : PyData.strOk x = true := strOk_all fun c hc => by
  have h2 : ∀ c ∈ abc.cps.toList, c < 0x110000 := by decide
  exact h2 c (h c hc)
theorem oSlS {z : Str} {lo hi : Option Int} (h : z.length ≤ big) : opSl (.pl (.str z)) lo hi = some (.pl (.str (cutS z lo hi))) := if_pos h
theorem abc_ix {r : Int} (h0 : 0 ≤ r) (h1 : r < 26) : ∃ c, c ∈ abc.cps.toList ∧ opIx (.pl (.str abc)) (.pl (.int r)) = some (.pl (.str ⟨#[c]⟩)) := by
  have hl : abc.cps.toList.length = 26 := by decide
  have hr : r.toNat < abc.cps.toList.length := by omega
  refine ⟨abc.cps.toList[r.toNat], List.getElem_mem hr, ?_⟩
  show (if abc.length ≤ big then (atI abc.cps.toList r).map fun c => T.pl (.str ⟨#[c]⟩) else none) = _
  rw [if_pos (by decide), atI_eq (k := r.toNat) (by omega) (List.getElem?_eq_getElem hr)]; rfl
theorem ab.one {c : Nat} (h : c ∈ abc.cps.toList) : ab ⟨#[c]⟩ := fun e he => by simp at he; subst he; exact h
theorem flat_int {n : Nat} {i : Int} : D.flat n (.int i) = true := by cases n <;> rfl
theorem flat_str {n : Nat} {x : Str} (h : PyData.strOk x = true) : D.flat n (.str x) = true := by cases n <;> exact h
theorem flats_all {n : Nat} : ∀ {ds : List D}, (∀ d ∈ ds, D.flat n d = true) → D.flats n ds = true
  | [], _ => by cases n <;> rfl
  | d :: ds, h => by
    unfold D.flats
    rw [h d (by simp), flats_all fun e he => h e (List.mem_cons_of_mem _ he)]; rfl
theorem flat_tup {n : Nat} {ds : List D} (h : ∀ d ∈ ds, D.flat n d = true) : D.flat (n + 1) (.tup ds) = true := flats_all h
/-- lengths of texts -/
class Ln (x : Str) (n : outParam Nat) : Prop where
  le : x.length ≤ n
instance lnCut {z : Str} {lo hi : Option Int} {n : Nat} [h : Ln z n] : Ln (cutS z lo hi) n := ⟨Nat.le_trans (cutS_length z lo hi) h.le⟩
instance lnApp {x y : Str} {n m : Nat} [h : Ln x n] [k : Ln y m] : Ln (x ++ y) (n + m) := ⟨by rw [str_len_append]; have := h.le; have := k.le; omega⟩
instance lnOne {c : Nat} : Ln ⟨#[c]⟩ 1 := ⟨Nat.le_refl 1⟩
instance (priority := low) lnLit {s : String} : Ln (Str.ofString s) (Str.ofString s).length := ⟨Nat.le_refl _⟩
instance lnRep {z : Str} {k n : Nat} [h : Ln z n] : Ln (repS z k) (k * n) := ⟨by show (repS z k).cps.size ≤ _; rw [repS_size]; exact Nat.mul_le_mul_left k h.le⟩
theorem qAddS {x y : Str} {n m : Nat} [h : Ln x n] [k : Ln y m] (hh : n + m ≤ 1000000) : opAdd (.pl (.str x)) (.pl (.str y)) = some (.pl (.str (x ++ y))) := oAddS (by have := h.le; have := k.le; show _ ≤ 1000000; omega)
theorem qSlS {z : Str} {lo hi : Option Int} {n : Nat} [h : Ln z n] (hh : n ≤ 1000000) : opSl (.pl (.str z)) lo hi = some (.pl (.str (cutS z lo hi))) := oSlS (Nat.le_trans h.le hh)
theorem qLenS {x : Str} {n : Nat} [h : Ln x n] (hh : n ≤ 1000000) : opLen [.pl (.str x)] = some (.pl (.int (x.length : Nat))) := oLenS (Nat.le_trans h.le hh)
theorem qRepS {z : Str} {k : Int} {n : Nat} [h : Ln z n] (h0 : 1 < k) (h1 : k < 1000) (h2 : 0 < z.length) (hh : n ≤ 1000) : opMul (.pl (.str z)) (.pl (.int k)) = some (.pl (.str (repS z k.toNat))) := by
  show (if 1 < k ∧ k < 1000000 ∧ 0 < z.length ∧ z.length * k.toNat ≤ big then _ else none) = _
  have h3 : z.length * k.toNat ≤ 1000 * 1000 := Nat.mul_le_mul (Nat.le_trans h.le hh) (by omega)
  rw [if_pos ⟨h0, by omega, h2, h3⟩]
theorem e_rnone {env : Slots} : rnone env = some none := rfl
theorem cutD_mem {xs : List D} {lo hi : Option Int} {d : D} (h : d ∈ cutD xs lo hi) : d ∈ xs := List.mem_of_mem_drop (List.mem_of_mem_take h)
theorem cutD_len (xs : List D) (lo hi : Option Int) : (cutD xs lo hi).length ≤ xs.length := by
  unfold cutD
  rw [List.length_take, List.length_drop]; omega
theorem oSlL {xs : List D} {lo hi : Option Int} : opSl (.pl (.lst xs)) lo hi = some (.ol (cutD xs lo hi)) := rfl
theorem oSlO {xs : List D} {lo hi : Option Int} : opSl (.ol xs) lo hi = some (.ol (cutD xs lo hi)) := rfl
theorem oSlT {xs : List D} {lo hi : Option Int} : opSl (.pl (.tup xs)) lo hi = some (.pl (.tup (cutD xs lo hi))) := rfl
/-- a list with a bound on its length -/
class Ll (xs : List D) (n : outParam Nat) : Prop where
  le : xs.length ≤ n
instance llCut {xs : List D} {lo hi : Option Int} {n : Nat} [h : Ll xs n] : Ll (cutD xs lo hi) n := ⟨Nat.le_trans (cutD_len xs lo hi) h.le⟩
instance llApp {xs ys : List D} {n m : Nat} [h : Ll xs n] [k : Ll ys m] : Ll (xs ++ ys) (n + m) := ⟨by rw [List.length_append]; have := h.le; have := k.le; omega⟩
instance llNil : Ll [] 0 := ⟨Nat.le_refl 0⟩
instance llCons {x : D} {xs : List D} {n : Nat} [h : Ll xs n] : Ll (x :: xs) (n + 1) := ⟨Nat.succ_le_succ h.le⟩
theorem ll_le {xs : List D} {n : Nat} [h : Ll xs n] (hn : n ≤ 1000000) : xs.length ≤ big := Nat.le_trans h.le hn
theorem ll_lt {xs : List D} {n : Nat} [h : Ll xs n] (hn : n < 1000000) : xs.length < big := Nat.lt_of_le_of_lt h.le hn
theorem ll_add {xs ys : List D} {n m : Nat} [h : Ll xs n] [k : Ll ys m] (hn : n + m ≤ 1000000) : xs.length + ys.length ≤ big := by have := h.le; have := k.le; show _ ≤ 1000000; omega
theorem pAddLO {xs ys zs : List D} (h : xs.length + ys.length ≤ big) (ha : AppTo xs ys zs) : opAdd (.pl (.lst xs)) (.ol ys) = some (.ol zs) := by
  show (if xs.length + ys.length ≤ big then some (T.ol (xs ++ ys)) else none) = _
  rw [if_pos h, ha.eq]
theorem pAddOO {xs ys zs : List D} (h : xs.length + ys.length ≤ big) (ha : AppTo xs ys zs) : opAdd (.ol xs) (.ol ys) = some (.ol zs) := by
  show (if xs.length + ys.length ≤ big then some (T.ol (xs ++ ys)) else none) = _
  rw [if_pos h, ha.eq]
theorem str_ix {z : Str} {r : Int} (hz : z.length ≤ 1000000) (h0 : 0 ≤ r) (h1 : r < (z.length : Int)) : ∃ c, c ∈ z.cps.toList ∧ opIx (.pl (.str z)) (.pl (.int r)) = some (.pl (.str ⟨#[c]⟩)) := by
  have hl : z.cps.toList.length = z.length := Array.length_toList
  have hr : r.toNat < z.cps.toList.length := by omega
  refine ⟨z.cps.toList[r.toNat], List.getElem_mem hr, ?_⟩
  show (if z.length ≤ big then (atI z.cps.toList r).map fun c => T.pl (.str ⟨#[c]⟩) else none) = _
  rw [if_pos hz, atI_eq (k := r.toNat) (by omega) (List.getElem?_eq_getElem hr)]; rfl
/-- texts as they may be written -/
def okS (x : Str) : Prop := ∀ c ∈ x.cps.toList, c < 0x110000
theorem okS.ok {x : Str} (h : okS x) : PyData.strOk x = true := strOk_all h
theorem ab.okS {x : Str} (h : ab x) : okS x := fun c hc => by
  have h2 : ∀ c ∈ abc.cps.toList, c < 0x110000 := by decide
  exact h2 c (h c hc)
theorem okS.append {x y : Str} (h : okS x) (h' : okS y) : okS (x ++ y) := fun c hc => (str_mem_append.mp hc).elim (h c) (h' c)
theorem okS.cut {z : Str} {lo hi : Option Int} (h : okS z) : okS (cutS z lo hi) := fun c hc => h c (cutS_mem hc)
theorem okS.one {c : Nat} (h : c < 0x110000) : okS ⟨#[c]⟩ := fun e he => by simp at he; subst he; exact h
theorem okS.rep {z : Str} {n : Nat} (h : okS z) : okS (repS z n) := by
  have f : ∀ (m : Nat) (a : Array Nat), (∀ c ∈ a.toList, c < 0x110000) → ∀ c ∈ ((List.replicate m z.cps).foldl (· ++ ·) a).toList, c < 0x110000 := fun m => by
    induction m with
    | zero => intro a ha; simpa using ha
    | succ m ih =>
      intro a ha
      rw [List.replicate_succ, List.foldl_cons]
      exact ih _ fun c hc => by
        have : c ∈ a.toList ∨ c ∈ z.cps.toList := by simpa using hc
        exact this.elim (ha c) (h c)
  exact f n #[] (by intro c hc; cases hc)
theorem lit_ixO {ds : List D} {P : D → Prop} {r : Int} (h0 : 0 ≤ r) (h1 : r < (ds.length : Int)) (hP : ∀ d ∈ ds, P d) : ∃ d, opIx (.ol ds) (.pl (.int r)) = some (.pl d) ∧ P d := lit_ix h0 h1 hP
/-- parts of a nested value -/
structure Part (d : D) : Prop where
  good : Good d
  few : nodes d = 1
  cert : certP 1 d
theorem certP_one {n : Nat} {d : D} (h : certP 1 d) : certP (n + 1) d := certP_mono (by omega) h
theorem st_eq {f : List T → FRes} {ts o : List T} {t : T} {Q : T → List T → Prop} (h : f ts = .ok t o) (hq : Q t o) : WF (f ts) Q := WF.of h hq
end Mir

set_option maxHeartbeats 4000000
/-! LowP: lowest terms, plain. -/
namespace Law
open PySem PySem.Spec L2 Mir
theorem abs_if (x : Int) : (if x < 0 then -x else x) = (x.natAbs : Int) := by split <;> omega
def gcdL (xs : List Int) : Nat := xs.foldl (fun g x => Nat.gcd g x.natAbs) 0
theorem gcdL_lt {xs : List Int} {n : Nat} (h : ∀ x ∈ xs, x.natAbs < 2 ^ n) : gcdL xs < 2 ^ n := by
  unfold gcdL
  suffices ∀ (g : Nat), g < 2 ^ n → xs.foldl (fun g x => Nat.gcd g x.natAbs) g < 2 ^ n from this 0 (Nat.pow_pos (by decide))
  induction xs with
  | nil => intro g hg; exact hg
  | cons x xs ih =>
    intro g hg
    refine ih (fun y hy => h y (List.mem_cons_of_mem _ hy)) _ ?_
    rcases Nat.eq_zero_or_pos g with h0 | h0
    · subst h0
      show Nat.gcd 0 x.natAbs < 2 ^ n
      rw [Nat.gcd_zero_left]; exact h x (by simp)
    · exact Nat.lt_of_le_of_lt (Nat.gcd_le_left _ h0) hg
def lowestL (xs : List Int) : List Int := if gcdL xs < 2 then xs else xs.map (· / (gcdL xs : Int))
theorem gcdL_dvd_aux : ∀ (xs : List Int) (g : Nat), xs.foldl (fun g x => Nat.gcd g x.natAbs) g ∣ g ∧ ∀ x ∈ xs, xs.foldl (fun g x => Nat.gcd g x.natAbs) g ∣ x.natAbs
  | [], g => ⟨Nat.dvd_refl g, by simp⟩
  | x :: xs, g => by
    obtain ⟨h1, h2⟩ := gcdL_dvd_aux xs (Nat.gcd g x.natAbs)
    refine ⟨Nat.dvd_trans h1 (Nat.gcd_dvd_left _ _), fun y hy => ?_⟩
    rcases List.mem_cons.mp hy with rfl | hy
    · exact Nat.dvd_trans h1 (Nat.gcd_dvd_right _ _)
    · exact h2 y hy
theorem gcdL_dvd {xs : List Int} {x : Int} (h : x ∈ xs) : (gcdL xs : Int) ∣ x := Int.ofNat_dvd_left.mpr ((gcdL_dvd_aux xs 0).2 x h)
theorem gcdL_zero {xs : List Int} (h : gcdL xs = 0) : ∀ x ∈ xs, x = 0 := fun x hx => by
  have := gcdL_dvd hx
  rw [h] at this
  exact Int.zero_dvd.mp (by simpa using this)
theorem lowestL_length (xs : List Int) : (lowestL xs).length = xs.length := by unfold lowestL; split <;> simp
theorem lowestL_sz {xs : List Int} {n : Nat} (h : ∀ x ∈ xs, x.natAbs < 2 ^ n) : ∀ x ∈ lowestL xs, x.natAbs < 2 ^ n := by
  unfold lowestL
  split
  · exact h
  · intro y hy
    obtain ⟨x, hx, rfl⟩ := List.mem_map.mp hy
    exact Nat.lt_of_le_of_lt (Int.natAbs_ediv_le_natAbs _ _) (h x hx)
def pointL (nums : List Int) (den : Int) : List Int := if den < 0 then nums.map (fun x => -x) ++ [-den] else nums ++ [den]
theorem add_iL {a b : List Int} (h : a.length + b.length ≤ 1000000) : opAdd (.pl (.lst (iL a))) (.pl (.lst (iL b))) = some (.ol (iL (a ++ b))) := by
  show (if (iL a).length + (iL b).length ≤ big then some (T.ol (iL a ++ iL b)) else none) = _
  rw [List.length_map, List.length_map, if_pos h]
  unfold iL
  rw [List.map_append]
theorem e_r2l {env : Slots} {ρ ρ' : Rd T} {f : T → T → Option T} {t t' : T} {ds : List D} (h : ρ env = some t) (h' : ρ' env = some t') (hf : f t t' = some (.ol ds)) : r2 f ρ ρ' env = some (.pl (.lst ds)) := e_r2 h h' hf
theorem e_callp {env : Slots} {κ : Rd (List T)} {f : List T → FRes} {ts o : List T} {d : D} (h : κ env = some ts) (h2 : f (ts.map fz) = .ok (.pl d) o) (h3 : ((plains ts).isSome || d.noRef) = true) : rCall f κ env = some (.pl d) := e_call h h2 h3
theorem big1 : (1 : Nat) ≤ big := by decide
theorem big2 : (2 : Nat) ≤ big := by decide
theorem pointL_sz {nums : List Int} {den : Int} {n : Nat} (h : ∀ x ∈ nums, x.natAbs < 2 ^ n) (hd : den.natAbs < 2 ^ n) : ∀ x ∈ pointL nums den, x.natAbs < 2 ^ n := by
  unfold pointL
  intro x hx
  split at hx <;> simp at hx
  · rcases hx with ⟨y, hy, rfl⟩ | rfl
    · rw [Int.natAbs_neg]; exact h y hy
    · rw [Int.natAbs_neg]; exact hd
  · rcases hx with hx | rfl
    · exact h x hx
    · exact hd
theorem pointL_length {nums : List Int} {den : Int} : (pointL nums den).length = nums.length + 1 := by
  unfold pointL; split <;> simp
theorem cut_init {xs : List Int} : cutD (iL xs) none (some (-1)) = iL xs.dropLast := by
  unfold cutD iL
  rw [List.length_map]
  have e : HT.sIx xs.length xs.length (some (-1)) = xs.length - 1 := by
    simp [HT.sIx]; omega
  rw [e]
  show List.take (xs.length - 1 - 0) (List.drop 0 (xs.map D.int)) = _
  rw [List.drop_zero, Nat.sub_zero, ← List.map_take, List.dropLast_eq_take]
theorem sl_lst {xs : List Int} : opSl (.pl (.lst (iL xs))) none (some (-1)) = some (.ol (iL xs.dropLast)) := by
  show some (T.ol (cutD (iL xs) none (some (-1)))) = _
  rw [cut_init]
theorem sl_tup {xs : List Int} : opSl (.pl (.tup (iL xs))) none (some (-1)) = some (.pl (.tup (iL xs.dropLast))) := by
  show some (T.pl (.tup (cutD (iL xs) none (some (-1))))) = _
  rw [cut_init]
theorem ix_last {xs : List Int} (h : xs ≠ []) : atI (iL xs) (-1) = some (.int (xs.getD (xs.length - 1) 0)) := by
  have hp : 0 < xs.length := List.length_pos_iff.mpr h
  unfold atI ixN iL
  rw [List.length_map, if_neg (by decide), if_pos (by omega), Option.bind_some, List.getElem?_map]
  rw [show ((-1 : Int) + (xs.length : Int)).toNat = xs.length - 1 by omega]
  rw [List.getD_eq_getElem?_getD, List.getElem?_eq_getElem (by omega)]; rfl
theorem ix_lastL {xs : List Int} (h : xs ≠ []) : opIx (.pl (.lst (iL xs))) (.pl (.int (-1))) = some (.pl (.int (xs.getD (xs.length - 1) 0))) := by
  show (atI (iL xs) (-1)).map T.pl = _
  rw [ix_last h]; rfl
theorem ix_lastT {xs : List Int} (h : xs ≠ []) : opIx (.pl (.tup (iL xs))) (.pl (.int (-1))) = some (.pl (.int (xs.getD (xs.length - 1) 0))) := by
  show (atI (iL xs) (-1)).map T.pl = _
  rw [ix_last h]; rfl
theorem getD_sz {xs : List Int} {n : Nat} (h : ∀ x ∈ xs, x.natAbs < 2 ^ n) (k : Nat) : Sz (xs.getD k 0) n := ⟨by
  rw [List.getD_eq_getElem?_getD]
  cases hx : xs[k]? with
  | none => exact Nat.pow_pos (by decide)
  | some x => exact h x (List.mem_of_getElem? hx)⟩
end Law

namespace Law
open PySem PySem.Spec L2 Mir
open PyProof.Rows hiding St
def topS (i : Nat) : Stmt := PySem.Challenge.pw_whateverthenumbers_k04_shapes_of_certifi.main.body.getD i (.Pass ⟨0, 0, 0, 0⟩)
abbrev s__law_state : Stmt := topS 12
abbrev N__law_state : List Str := ["script", "at", "cell", "large"]
theorem sc__law_state : FnScope N__law_state ["script", "at"] (defScope s__law_state) := ⟨rfl, rfl, rfl, by decide +kernel, rfl, by decide +kernel, by decide +kernel⟩
abbrev s__law_pick : Stmt := topS 13
abbrev N__law_pick : List Str := ["state", "size", "told"]
theorem sc__law_pick : FnScope N__law_pick ["state", "size"] (defScope s__law_pick) := ⟨rfl, rfl, rfl, by decide +kernel, rfl, by decide +kernel, by decide +kernel⟩
abbrev s__law_number : Stmt := topS 19
abbrev N__law_number : List Str := ["state", "kind", "number", "k"]
theorem sc__law_number : FnScope N__law_number ["state"] (defScope s__law_number) := ⟨rfl, rfl, rfl, by decide +kernel, rfl, by decide +kernel, by decide +kernel⟩
abbrev s__law_right : Stmt := topS 21
abbrev N__law_right : List Str := ["state", "form", "count", "row", "last", "k", "number"]
theorem sc__law_right : FnScope N__law_right ["state", "form", "count"] (defScope s__law_right) := ⟨rfl, rfl, rfl, by decide +kernel, rfl, by decide +kernel, by decide +kernel⟩
abbrev s__law_are_truths : Stmt := topS 15
abbrev N__law_are_truths : List Str := ["told", "dues", "k"]
theorem sc__law_are_truths : FnScope N__law_are_truths ["told", "dues"] (defScope s__law_are_truths) := ⟨rfl, rfl, rfl, by decide +kernel, rfl, by decide +kernel, by decide +kernel⟩
abbrev s__law_are_integers : Stmt := topS 14
abbrev N__law_are_integers : List Str := ["told", "count", "number"]
theorem sc__law_are_integers : FnScope N__law_are_integers ["told", "count"] (defScope s__law_are_integers) := ⟨rfl, rfl, rfl, by decide +kernel, rfl, by decide +kernel, by decide +kernel⟩
abbrev s__law_are_points : Stmt := topS 24
abbrev N__law_are_points : List Str := ["value", "counts", "k"]
theorem sc__law_are_points : FnScope N__law_are_points ["value", "counts"] (defScope s__law_are_points) := ⟨rfl, rfl, rfl, by decide +kernel, rfl, by decide +kernel, by decide +kernel⟩
abbrev s_is_whole : Stmt := topS 1
abbrev N_is_whole : List Str := ["value"]
theorem sc_is_whole : FnScope N_is_whole ["value"] (defScope s_is_whole) := ⟨rfl, rfl, rfl, by decide +kernel, rfl, by decide +kernel, by decide +kernel⟩
abbrev s_is_wholes : Stmt := topS 2
abbrev N_is_wholes : List Str := ["value", "count", "item"]
theorem sc_is_wholes : FnScope N_is_wholes ["value", "count"] (defScope s_is_wholes) := ⟨rfl, rfl, rfl, by decide +kernel, rfl, by decide +kernel, by decide +kernel⟩
abbrev s_is_point : Stmt := topS 3
abbrev N_is_point : List Str := ["value", "count"]
theorem sc_is_point : FnScope N_is_point ["value", "count"] (defScope s_is_point) := ⟨rfl, rfl, rfl, by decide +kernel, rfl, by decide +kernel, by decide +kernel⟩
abbrev s_is_points : Stmt := topS 6
abbrev N_is_points : List Str := ["value", "counts", "k"]
theorem sc_is_points : FnScope N_is_points ["value", "counts"] (defScope s_is_points) := ⟨rfl, rfl, rfl, by decide +kernel, rfl, by decide +kernel, by decide +kernel⟩
abbrev s__law_spoilt : Stmt := topS 22
abbrev N__law_spoilt : List Str := ["state", "value", "row", "kind", "place"]
theorem sc__law_spoilt : FnScope N__law_spoilt ["state", "value"] (defScope s__law_spoilt) := ⟨rfl, rfl, rfl, by decide +kernel, rfl, by decide +kernel, by decide +kernel⟩
abbrev s__law_pointed : Stmt := topS 25
abbrev N__law_pointed : List Str := ["state", "counts", "rows", "cases", "k", "before", "behind", "row", "many", "due", "told"]
theorem sc__law_pointed : FnScope N__law_pointed ["state"] (defScope s__law_pointed) := ⟨rfl, rfl, rfl, by decide +kernel, rfl, by decide +kernel, by decide +kernel⟩
abbrev s_is_direction : Stmt := topS 4
abbrev N_is_direction : List Str := ["value", "count", "item"]
theorem sc_is_direction : FnScope N_is_direction ["value", "count"] (defScope s_is_direction) := ⟨rfl, rfl, rfl, by decide +kernel, rfl, by decide +kernel, by decide +kernel⟩
abbrev s__law_is_word : Stmt := topS 16
abbrev N__law_is_word : List Str := ["value", "char"]
theorem sc__law_is_word : FnScope N__law_is_word ["value"] (defScope s__law_is_word) := ⟨rfl, rfl, rfl, by decide +kernel, rfl, by decide +kernel, by decide +kernel⟩
abbrev s_is_weights : Stmt := topS 5
abbrev N_is_weights : List Str := ["value", "count", "item"]
theorem sc_is_weights : FnScope N_is_weights ["value", "count"] (defScope s_is_weights) := ⟨rfl, rfl, rfl, by decide +kernel, rfl, by decide +kernel, by decide +kernel⟩
abbrev s_is_signs : Stmt := topS 7
abbrev N_is_signs : List Str := ["value", "count", "item"]
theorem sc_is_signs : FnScope N_is_signs ["value", "count"] (defScope s_is_signs) := ⟨rfl, rfl, rfl, by decide +kernel, rfl, by decide +kernel, by decide +kernel⟩
abbrev s_is_word : Stmt := topS 10
abbrev N_is_word : List Str := ["value", "char"]
theorem sc_is_word : FnScope N_is_word ["value"] (defScope s_is_word) := ⟨rfl, rfl, rfl, by decide +kernel, rfl, by decide +kernel, by decide +kernel⟩
abbrev s_is_certificate : Stmt := topS 9
abbrev N_is_certificate : List Str := ["value", "level", "depth", "deeper", "item"]
theorem sc_is_certificate : FnScope N_is_certificate ["value"] (defScope s_is_certificate) := ⟨rfl, rfl, rfl, by decide +kernel, rfl, by decide +kernel, by decide +kernel⟩
abbrev s__law_asked : Stmt := topS 18
abbrev N__law_asked : List Str := ["value", "count", "longer", "dues", "told", "each"]
theorem sc__law_asked : FnScope N__law_asked ["value", "count"] (defScope s__law_asked) := ⟨rfl, rfl, rfl, by decide +kernel, rfl, by decide +kernel, by decide +kernel⟩
abbrev s__law_word : Stmt := topS 20
abbrev N__law_word : List Str := ["state", "longest", "word", "k"]
theorem sc__law_word : FnScope N__law_word ["state", "longest"] (defScope s__law_word) := ⟨rfl, rfl, rfl, by decide +kernel, rfl, by decide +kernel, by decide +kernel⟩
abbrev s__law_strings : Stmt := topS 26
abbrev N__law_strings : List Str := ["state", "word", "place", "odd", "cases", "told", "due"]
theorem sc__law_strings : FnScope N__law_strings ["state"] (defScope s__law_strings) := ⟨rfl, rfl, rfl, by decide +kernel, rfl, by decide +kernel, by decide +kernel⟩
abbrev s__law_parts : Stmt := topS 27
abbrev N__law_parts : List Str := ["state", "parts", "k"]
theorem sc__law_parts : FnScope N__law_parts ["state"] (defScope s__law_parts) := ⟨rfl, rfl, rfl, by decide +kernel, rfl, by decide +kernel, by decide +kernel⟩
abbrev s__law_wrapped : Stmt := topS 28
abbrev N__law_wrapped : List Str := ["state", "told", "deep", "k", "parts", "place"]
theorem sc__law_wrapped : FnScope N__law_wrapped ["state", "told", "deep"] (defScope s__law_wrapped) := ⟨rfl, rfl, rfl, by decide +kernel, rfl, by decide +kernel, by decide +kernel⟩
abbrev s__law_is_nested : Stmt := topS 17
abbrev N__law_is_nested : List Str := ["value", "items", "depth", "inner", "each"]
theorem sc__law_is_nested : FnScope N__law_is_nested ["value"] (defScope s__law_is_nested) := ⟨rfl, rfl, rfl, by decide +kernel, rfl, by decide +kernel, by decide +kernel⟩
abbrev s__law_nested : Stmt := topS 29
abbrev N__law_nested : List Str := ["state", "eight", "other", "told", "due"]
theorem sc__law_nested : FnScope N__law_nested ["state"] (defScope s__law_nested) := ⟨rfl, rfl, rfl, by decide +kernel, rfl, by decide +kernel, by decide +kernel⟩
abbrev s_is_headed : Stmt := topS 8
abbrev N_is_headed : List Str := ["value", "word", "count"]
theorem sc_is_headed : FnScope N_is_headed ["value", "word", "count"] (defScope s_is_headed) := ⟨rfl, rfl, rfl, by decide +kernel, rfl, by decide +kernel, by decide +kernel⟩
abbrev s__law_heads : Stmt := topS 23
abbrev N__law_heads : List Str := ["state", "value", "word", "place", "near", "told", "size", "cases", "handed", "head", "count", "due"]
theorem sc__law_heads : FnScope N__law_heads ["state", "value"] (defScope s__law_heads) := ⟨rfl, rfl, rfl, by decide +kernel, rfl, by decide +kernel, by decide +kernel⟩
abbrev s_law : Stmt := topS 30
abbrev N_law : List Str := ["script", "kept", "form", "state", "count", "value", "k"]
theorem sc_law : FnScope N_law ["script"] (defScope s_law) := ⟨rfl, rfl, rfl, by decide +kernel, rfl, by decide +kernel, by decide +kernel⟩
/-! ### mirrors -/
def b__law_state : MS :=
    (mSeq (mSet 2 (ofR (rc (.int 0))))
    (mSeq (mIfS (ofRB (rAndB (rb asB (r2 opLt (rv 1) (rN opLen (rcons (rv 0) rnil)))) (rb asB (r2 opLt (rv 1) (rc (.int 63))))))
    (mSet 2 (ofR (r2 opIx (rv 0) (rv 1))))
    mSkip)
    (mSeq (mSet 3 (ofR (rc (.int 0))))
    (mSeq (mIfS (ofRB (rb asB (r2 opGe (rv 2) (rc (.int 1000000000000000000)))))
    (mSet 3 (ofR (rv 2)))
    mSkip)
    (mRet (mlst (mcons (ofR (rv 3)) (mcons (ofR (r2 opMod (rN opInt (rcons (r2 opAdd (r2 opAdd (r2 opMul (rv 2) (rc (.int 48271))) (r2 opMul (rv 1) (rc (.int 69621)))) (rc (.int 5))) rnil)) (rc (.int 2147483647)))) mnil))))))))
def m__law_state : List T → FRes := mkFn 4 [] b__law_state
def b__law_pick : MS :=
    (mSeq (mIfS (ofRB (rb asB (r2 opGt (r2 opIx (rv 0) (rc (.int 0))) (rc (.int 0)))))
    (mSeq (mSet 2 (ofR (r2 opMod (rN opInt (rcons (r2 opIx (rv 0) (rc (.int 0))) rnil)) (rv 1))))
    (mSeq (mSetIx 0 (rc (.int 0)) (ofR (r2 opDiv (r2 opIx (rv 0) (rc (.int 0))) (rv 1))))
    (mRet (ofR (rv 2)))))
    mSkip)
    (mSeq (mSetIx 0 (rc (.int 1)) (ofR (r2 opMod (rN opInt (rcons (r2 opAdd (r2 opMul (r2 opIx (rv 0) (rc (.int 1))) (rc (.int 48271))) (rc (.int 11))) rnil)) (rc (.int 2147483647)))))
    (mRet (ofR (r2 opMod (rN opInt (rcons (r2 opAdd (r2 opMul (r2 opIx (rv 0) (rc (.int 1))) (rc (.int 65537))) (r2 opDiv (r2 opIx (rv 0) (rc (.int 1))) (rc (.int 8)))) rnil)) (rv 1))))))
def m__law_pick : List T → FRes := mkFn 3 [0] b__law_pick
def b__law_number : MS :=
    (mSeq (mSet 1 (mfz (mCall m__law_pick (pslot 0 (pval (ofR (rc (.int 6))) pnil)))))
    (mSeq (mIfS (ofRB (rb asB (r2 opLt (rv 1) (rc (.int 3)))))
    (mRet (ofR (r2 opSub (rv 1) (rc (.int 1)))))
    mSkip)
    (mSeq (mSet 2 (mfz (m2 opAdd (mCall m__law_pick (pslot 0 (pval (ofR (rc (.int 9))) pnil))) (ofR (rc (.int 1))))))
    (mSeq (mFor (stN 3) (mSrc rngD1 (mcons (m2 opIx (ofR (rlst (rcons (rc (.int 0)) (rcons (rc (.int 1)) (rcons (rc (.int 4)) (rcons (rc (.int 30)) rnil)))))) (mCall m__law_pick (pslot 0 (pval (ofR (rc (.int 4))) pnil)))) mnil))
    (mSet 2 (mfz (m2 opAdd (ofR (r2 opMul (rv 2) (rc (.int 1000000000)))) (mCall m__law_pick (pslot 0 (pval (ofR (rc (.int 1000000000))) pnil)))))))
    (mRet (m2 opMul (ofR (rv 2)) (m2 opSub (ofR (rc (.int 1))) (m2 opMul (ofR (rc (.int 2))) (mCall m__law_pick (pslot 0 (pval (ofR (rc (.int 2))) pnil)))))))))))
def m__law_number : List T → FRes := mkFn 4 [0] b__law_number
def b__law_right : MS :=
    (mSeq (mSet 3 (mComp [5] (stN 5) (mSrc rngD1 (mcons (ofR (rv 2)) mnil)) mYes (mCall m__law_number (pslot 0 pnil))))
    (mSeq (mSet 4 (mfz (mN opAbs (mcons (mCall m__law_number (pslot 0 pnil)) mnil))))
    (mSeq (mIfS (ofRB (rb asB (r2 (opEq false) (rv 1) (rc (.int 1)))))
    (mRet (ofR (rN opTuple (rcons (r2 opAdd (rv 3) (rlst (rcons (r2 opAdd (rv 4) (rc (.int 1))) rnil))) rnil))))
    mSkip)
    (mSeq (mIfS (ofRB (rb asB (r2 (opEq false) (rv 1) (rc (.int 2)))))
    (mSeq (mIfS (mb asB (m2 (opEq false) (mCall m__law_pick (pslot 0 (pval (ofR (rc (.int 2))) pnil))) (ofR (rc (.int 1)))))
    (mSet 3 (mComp [5] (stN 5) (mSrc rngD1 (mcons (ofR (rv 2)) mnil)) mYes (ofR (rc (.int 0)))))
    mSkip)
    (mSeq (mIfS (ofRB (rb asB (r2 opGt (rv 2) (rc (.int 0)))))
    (mSetIxM 3 (mCall m__law_pick (pslot 0 (pval (ofR (rv 2)) pnil))) (m2 opIx (ofR (rlst (rcons (rc (.int 1)) (rcons (rc (.int (-1))) (rcons (r2 opAdd (rv 4) (rc (.int 2))) rnil))))) (mCall m__law_pick (pslot 0 (pval (ofR (rc (.int 3))) pnil)))))
    mSkip)
    (mRet (ofR (rN opTuple (rcons (r2 opAdd (rv 3) (rlst (rcons (rc (.int 0)) rnil))) rnil))))))
    mSkip)
    (mSeq (mIfS (ofRB (rb asB (r2 (opEq false) (rv 1) (rc (.int 3)))))
    (mRet (ofR (rN opTuple (rcons (r2 opAdd (rComp [6] (stN 6) (rSeqS (rv 3)) rYes (rN opAbs (rcons (rv 6) rnil))) (rlst (rcons (rv 4) rnil))) rnil))))
    mSkip)
    (mSeq (mIfS (ofRB (rb asB (r2 (opEq false) (rv 1) (rc (.int 4)))))
    (mRet (mN opTuple (mcons (mComp [5] (stN 5) (mSrc rngD1 (mcons (ofR (rv 2)) mnil)) mYes (m2 opSub (ofR (rc (.int 1))) (m2 opMul (ofR (rc (.int 2))) (mCall m__law_pick (pslot 0 (pval (ofR (rc (.int 2))) pnil)))))) mnil)))
    mSkip)
    (mRet (ofR (rN opTuple (rcons (rv 3) rnil))))))))))
def m__law_right : List T → FRes := mkFn 7 [0] b__law_right
def b__law_are_truths : MS :=
    (mSeq (mFor (stN 2) (mSrc rngD1 (mcons (ofR (rN opLen (rcons (rv 1) rnil))) mnil))
    (mIfS (ofRB (rOrB (rNotB (rb asTru (rN opIsi (rcons (r2 opIx (rv 0) (rv 2)) (rcons (rc (.ty "bool")) rnil))))) (rb asB (r2 (opEq true) (r2 opIx (rv 0) (rv 2)) (r2 opIx (rv 1) (rv 2))))))
    (mRet (ofR (rc (.bl false))))
    mSkip))
    (mRet (ofR (r2 (opEq false) (rN opLen (rcons (rv 0) rnil)) (rN opLen (rcons (rv 1) rnil))))))
def m__law_are_truths : List T → FRes := mkFn 3 [] b__law_are_truths
def b__law_are_integers : MS :=
    (mSeq (mIfS (ofRB (rOrB (rNotB (rb asTru (rN opIsi (rcons (rv 0) (rcons (rc (.ty "tuple")) rnil))))) (rb asB (r2 (opEq true) (rN opLen (rcons (rv 0) rnil)) (rv 1)))))
    (mRet (ofR (rc (.bl false))))
    mSkip)
    (mSeq (mFor (stN 2) (mSeqS (ofR (rv 0)))
    (mIfS (ofRB (rOrB (rNotB (rb asTru (rN opIsi (rcons (rv 2) (rcons (rc (.ty "int")) rnil))))) (rb asTru (rN opIsi (rcons (rv 2) (rcons (rc (.ty "bool")) rnil))))))
    (mRet (ofR (rc (.bl false))))
    mSkip))
    (mRet (ofR (rc (.bl true))))))
def m__law_are_integers : List T → FRes := mkFn 3 [] b__law_are_integers
def b__law_are_points : MS :=
    (mSeq (mIfS (ofRB (rOrB (rNotB (rb asTru (rN opIsi (rcons (rv 0) (rcons (rc (.ty "tuple")) rnil))))) (rb asB (r2 (opEq true) (rN opLen (rcons (rv 0) rnil)) (rN opLen (rcons (rv 1) rnil))))))
    (mRet (ofR (rc (.bl false))))
    mSkip)
    (mSeq (mFor (stN 2) (mSrc rngD1 (mcons (ofR (rN opLen (rcons (rv 1) rnil))) mnil))
    (mIfS (ofRB (rOrB (rNotB (rb asTru (rCall m__law_are_integers (rcons (r2 opIx (rv 0) (rv 2)) (rcons (r2 opAdd (r2 opIx (rv 1) (rv 2)) (rc (.int 1))) rnil))))) (rb asB (r2 opLt (r2 opIx (r2 opIx (rv 0) (rv 2)) (r2 opIx (rv 1) (rv 2))) (rc (.int 1))))))
    (mRet (ofR (rc (.bl false))))
    mSkip))
    (mRet (ofR (rc (.bl true))))))
def m__law_are_points : List T → FRes := mkFn 3 [] b__law_are_points
def b_is_whole : MS :=
    (mRet (ofR (rAndV (rN opIsi (rcons (rv 0) (rcons (rc (.ty "int")) rnil))) (rNotV (rN opIsi (rcons (rv 0) (rcons (rc (.ty "bool")) rnil)))))))
def m_is_whole : List T → FRes := mkFn 1 [] b_is_whole
def b_is_wholes : MS :=
    (mSeq (mIfS (ofRB (rOrB (rNotB (rb asTru (rN opIsi (rcons (rv 0) (rcons (rc (.ty "tuple")) rnil))))) (rb asB (r2 (opEq true) (rN opLen (rcons (rv 0) rnil)) (rv 1)))))
    (mRet (ofR (rc (.bl false))))
    mSkip)
    (mSeq (mFor (stN 2) (mSeqS (ofR (rv 0)))
    (mIfS (ofRB (rNotB (rb asTru (rCall m_is_whole (rcons (rv 2) rnil)))))
    (mRet (ofR (rc (.bl false))))
    mSkip))
    (mRet (ofR (rc (.bl true))))))
def m_is_wholes : List T → FRes := mkFn 3 [] b_is_wholes
def b_is_point : MS :=
    (mRet (ofR (rAndV (rCall m_is_wholes (rcons (rv 0) (rcons (r2 opAdd (rv 1) (rc (.int 1))) rnil))) (r2 opGe (r2 opIx (rv 0) (rc (.int (-1)))) (rc (.int 1))))))
def m_is_point : List T → FRes := mkFn 2 [] b_is_point
def b_is_points : MS :=
    (mSeq (mIfS (ofRB (rOrB (rNotB (rb asTru (rN opIsi (rcons (rv 0) (rcons (rc (.ty "tuple")) rnil))))) (rb asB (r2 (opEq true) (rN opLen (rcons (rv 0) rnil)) (rN opLen (rcons (rv 1) rnil))))))
    (mRet (ofR (rc (.bl false))))
    mSkip)
    (mSeq (mFor (stN 2) (mSrc rngD1 (mcons (ofR (rN opLen (rcons (rv 1) rnil))) mnil))
    (mIfS (ofRB (rNotB (rb asTru (rCall m_is_point (rcons (r2 opIx (rv 0) (rv 2)) (rcons (r2 opIx (rv 1) (rv 2)) rnil))))))
    (mRet (ofR (rc (.bl false))))
    mSkip))
    (mRet (ofR (rc (.bl true))))))
def m_is_points : List T → FRes := mkFn 3 [] b_is_points
def b__law_spoilt : MS :=
    (mSeq (mSet 2 (mNr opList (rcons (rv 1) rnil)))
    (mSeq (mSet 3 (mfz (mCall m__law_pick (pslot 0 (pval (ofR (rc (.int 6))) pnil)))))
    (mSeq (mSet 4 (mfz (mCall m__law_pick (pslot 0 (pval (ofR (r2 opAdd (rN opLen (rcons (rv 2) rnil)) (rc (.int 1)))) pnil)))))
    (mSeq (mIfS (ofRB (rOrB (rb asB (r2 (opEq false) (rv 3) (rc (.int 0)))) (rb asB (r2 (opEq false) (rN opLen (rcons (rv 2) rnil)) (rc (.int 0))))))
    (mSeq (mDrop (mMut lInsert 2 (mcons (ofR (rv 4)) (mcons (mCall m__law_number (pslot 0 pnil)) mnil))))
    (mRet (ofR (rN opTuple (rcons (rv 2) rnil)))))
    mSkip)
    (mSeq (mSet 4 (ofR (r2 opMod (rN opInt (rcons (rv 4) rnil)) (rN opLen (rcons (rv 2) rnil)))))
    (mSeq (mIfS (ofRB (rb asB (r2 (opEq false) (rv 3) (rc (.int 1)))))
    (mDrop (mMut lPopAt 2 (mcons (ofR (rv 4)) mnil)))
    mSkip)
    (mSeq (mIfS (ofRB (rb asB (r2 (opEq false) (rv 3) (rc (.int 2)))))
    (mSetIx 2 (r2 opSub (rN opLen (rcons (rv 2) rnil)) (rc (.int 1))) (m2 opIx (ofR (rlst (rcons (rc (.int 0)) (rcons (rc (.int 1)) (rcons (rc (.int (-1))) rnil))))) (mCall m__law_pick (pslot 0 (pval (ofR (rc (.int 3))) pnil)))))
    mSkip)
    (mSeq (mIfS (ofRB (rb asB (r2 (opEq false) (rv 3) (rc (.int 3)))))
    (mSetIx 2 (rv 4) (m2 opIx (ofR (rlst (rcons (rc (.str "a")) (rcons (rc (.str "point")) (rcons (rtup rnil) (rcons (rtup (rcons (rc (.int 1)) rnil)) rnil)))))) (mCall m__law_pick (pslot 0 (pval (ofR (rc (.int 4))) pnil)))))
    mSkip)
    (mSeq (mIfS (ofRB (rb asB (r2 (opEq false) (rv 3) (rc (.int 4)))))
    (mSetIx 2 (rv 4) (ofR (r1 opNeg (r2 opIx (rv 2) (rv 4)))))
    mSkip)
    (mSeq (mIfS (ofRB (rb asB (r2 (opEq false) (rv 3) (rc (.int 5)))))
    (mSetIx 2 (rv 4) (m2 opIx (ofR (rlst (rcons (rc (.int 0)) (rcons (rc (.int 1)) (rcons (rc (.int (-1))) (rcons (rc (.int 2)) rnil)))))) (mCall m__law_pick (pslot 0 (pval (ofR (rc (.int 4))) pnil)))))
    mSkip)
    (mRet (ofR (rN opTuple (rcons (rv 2) rnil))))))))))))))
def m__law_spoilt : List T → FRes := mkFn 5 [0] b__law_spoilt
def b__law_pointed : MS :=
    (mSeq (mSet 1 (mfz (mComp [4] (stN 4) (mSrc rngD1 (mcons (mCall m__law_pick (pslot 0 (pval (ofR (rc (.int 5))) pnil))) mnil)) mYes (mCall m__law_pick (pslot 0 (pval (ofR (rc (.int 4))) pnil))))))
    (mSeq (mSet 2 (mfz (mComp [8] (stN 8) (mSeqS (ofR (rv 1))) mYes (mCall m__law_right (pslot 0 (pval (ofR (rc (.int 1))) (pval (ofR (rv 8)) pnil)))))))
    (mSeq (mSet 3 (mlst (mcons (ofR (rlst (rcons (rv 2) (rcons (rv 1) rnil)))) (mcons (ofR (rlst (rcons (r2 opAdd (rv 2) (rlst (rcons (rtup (rcons (rc (.int 1)) rnil)) rnil))) (rcons (rv 1) rnil)))) (mcons (ofR (rlst (rcons (rv 2) (rcons (r2 opAdd (rv 1) (rlst (rcons (rc (.int 0)) rnil))) rnil)))) (mcons (ofR (rlst (rcons (r2 opAdd (rv 2) (rlst (rcons (rtup (rcons (rc (.int 2)) rnil)) rnil))) (rcons (r2 opAdd (rv 1) (rlst (rcons (rc (.int 0)) rnil))) rnil)))) mnil))))))
    (mSeq (mFor (stN 4) (mSrc rngD1 (mcons (ofR (rN opLen (rcons (rv 2) rnil))) mnil))
    (mSeq (mSet 5 (ofR (r3 opSl (rv 2) rnone (rsome (rv 4)))))
    (mSeq (mSet 6 (ofR (r3 opSl (rv 2) (rsome (r2 opAdd (rv 4) (rc (.int 1)))) rnone)))
    (mSeq (mDrop (mMut lAppend 3 (mcons (ofR (rlst (rcons (r2 opAdd (rv 5) (rv 6)) (rcons (rv 1) rnil)))) mnil)))
    (mSeq (mDrop (mMut lAppend 3 (mcons (mlst (mcons (m2 opAdd (m2 opAdd (ofR (rv 5)) (mlst (mcons (mCall m__law_spoilt (pslot 0 (pval (ofR (r2 opIx (rv 2) (rv 4))) pnil))) mnil))) (ofR (rv 6))) (mcons (ofR (rv 1)) mnil))) mnil)))
    (mSeq (mDrop (mMut lAppend 3 (mcons (mlst (mcons (m2 opAdd (m2 opAdd (ofR (rv 5)) (mlst (mcons (m2 opIx (ofR (rlst (rcons (rc (.str "a")) (rcons (rc (.int 5)) (rcons (rtup rnil) rnil))))) (mCall m__law_pick (pslot 0 (pval (ofR (rc (.int 3))) pnil)))) mnil))) (ofR (rv 6))) (mcons (ofR (rv 1)) mnil))) mnil)))
    (mDrop (mMut lAppend 3 (mcons (ofR (rlst (rcons (rv 2) (rcons (r2 opAdd (r2 opAdd (r3 opSl (rv 1) rnone (rsome (rv 4))) (rlst (rcons (r2 opAdd (r2 opIx (rv 1) (rv 4)) (rc (.int 1))) rnil))) (r3 opSl (rv 1) (rsome (r2 opAdd (rv 4) (rc (.int 1)))) rnone)) rnil)))) mnil)))))))))
    (mSeq (mFor (stT 2 (stCons (stN 7) (stCons (stN 8) stNil))) (mSeqS (mv 3))
    (mSeq (mSet 9 (ofR (rCall m__law_are_points (rcons (rN opTuple (rcons (rv 7) rnil)) (rcons (rv 8) rnil)))))
    (mSeq (mSet 10 (ofR (rlst (rcons (rCall m_is_points (rcons (rN opTuple (rcons (rv 7) rnil)) (rcons (rN opList (rcons (rv 8) rnil)) rnil))) (rcons (rCall m_is_points (rcons (rN opTuple (rcons (rv 7) rnil)) (rcons (rN opTuple (rcons (rv 8) rnil)) rnil))) rnil)))))
    (mIfS (ofRB (rNotB (rb asTru (rCall m__law_are_truths (rcons (rv 10) (rcons (rlst (rcons (rv 9) (rcons (rv 9) rnil))) rnil))))))
    (mRet (ofR (rc (.bl false))))
    mSkip))))
    (mRet (ofR (rCall m__law_are_truths (rcons (rlst (rcons (rCall m_is_points (rcons (rc (.str "ab")) (rcons (rlst (rcons (rc (.int 0)) (rcons (rc (.int 0)) rnil))) rnil))) (rcons (rCall m_is_points (rcons (rc (.int 3)) (rcons (rlst rnil) rnil))) rnil))) (rcons (rlst (rcons (rc (.bl false)) (rcons (rc (.bl false)) rnil))) rnil))))))))))
def m__law_pointed : List T → FRes := mkFn 11 [0] b__law_pointed
def b_is_direction : MS :=
    (mSeq (mIfS (ofRB (rOrB (rNotB (rb asTru (rCall m_is_wholes (rcons (rv 0) (rcons (r2 opAdd (rv 1) (rc (.int 1))) rnil))))) (rb asB (r2 (opEq true) (r2 opIx (rv 0) (rc (.int (-1)))) (rc (.int 0))))))
    (mRet (ofR (rc (.bl false))))
    mSkip)
    (mSeq (mFor (stN 2) (mSeqS (ofR (rv 0)))
    (mIfS (ofRB (rb asB (r2 (opEq true) (rv 2) (rc (.int 0)))))
    (mRet (ofR (rc (.bl true))))
    mSkip))
    (mRet (ofR (rc (.bl false))))))
def m_is_direction : List T → FRes := mkFn 3 [] b_is_direction
def b__law_is_word : MS :=
    (mSeq (mIfS (ofRB (rOrB (rNotB (rb asTru (rN opIsi (rcons (rv 0) (rcons (rc (.ty "str")) rnil))))) (rOrB (rb asB (r2 opLt (rN opLen (rcons (rv 0) rnil)) (rc (.int 1)))) (rb asB (r2 opGt (rN opLen (rcons (rv 0) rnil)) (rc (.int 12)))))))
    (mRet (ofR (rc (.bl false))))
    mSkip)
    (mRet (ofR (r2 (opEq false) (rN opLen (rcons (rComp [1] (stN 1) (rSeqS (rv 0)) (rb asB (r2 (opIn true) (rv 1) (rc (.str "abcdefghijklmnopqrstuvwxyz")))) (rv 1)) rnil)) (rc (.int 0))))))
def m__law_is_word : List T → FRes := mkFn 2 [] b__law_is_word
def b_is_weights : MS :=
    (mSeq (mIfS (ofRB (rNotB (rb asTru (rCall m_is_wholes (rcons (rv 0) (rcons (r2 opAdd (rv 1) (rc (.int 1))) rnil))))))
    (mRet (ofR (rc (.bl false))))
    mSkip)
    (mSeq (mFor (stN 2) (mSeqS (ofR (rv 0)))
    (mIfS (ofRB (rb asB (r2 opLt (rv 2) (rc (.int 0)))))
    (mRet (ofR (rc (.bl false))))
    mSkip))
    (mRet (ofR (rc (.bl true))))))
def m_is_weights : List T → FRes := mkFn 3 [] b_is_weights
def b_is_signs : MS :=
    (mSeq (mIfS (ofRB (rNotB (rb asTru (rCall m_is_wholes (rcons (rv 0) (rcons (rv 1) rnil))))))
    (mRet (ofR (rc (.bl false))))
    mSkip)
    (mSeq (mFor (stN 2) (mSeqS (ofR (rv 0)))
    (mIfS (ofRB (rAndB (rb asB (r2 (opEq true) (rv 2) (rc (.int 1)))) (rb asB (r2 (opEq true) (rv 2) (rc (.int (-1)))))))
    (mRet (ofR (rc (.bl false))))
    mSkip))
    (mRet (ofR (rc (.bl true))))))
def m_is_signs : List T → FRes := mkFn 3 [] b_is_signs
def b_is_word : MS :=
    (mSeq (mIfS (ofRB (rOrB (rNotB (rb asTru (rN opIsi (rcons (rv 0) (rcons (rc (.ty "str")) rnil))))) (rNotB (rb asB (rChain opLe opLe (rc (.int 1)) (rN opLen (rcons (rv 0) rnil)) (rc (.int 12)))))))
    (mRet (ofR (rc (.bl false))))
    mSkip)
    (mSeq (mFor (stN 1) (mSeqS (ofR (rv 0)))
    (mIfS (ofRB (rb asB (r2 (opIn true) (rv 1) (rc (.str "abcdefghijklmnopqrstuvwxyz")))))
    (mRet (ofR (rc (.bl false))))
    mSkip))
    (mRet (ofR (rc (.bl true))))))
def m_is_word : List T → FRes := mkFn 2 [] b_is_word
def b_is_certificate : MS :=
    (mSeq (mSet 1 (ofR (rlst (rcons (rv 0) rnil))))
    (mSeq (mFor (stN 2) (mSrc rngD1 (mcons (ofR (rc (.int 9))) mnil))
    (mSeq (mSet 3 (mlst mnil))
    (mSeq (mFor (stN 4) (mSeqS (ofR (rv 1)))
    (mIfS (ofRB (rb asTru (rN opIsi (rcons (rv 4) (rcons (rc (.ty "tuple")) rnil)))))
    (mSeq (mIfS (ofRB (rb asB (r2 (opEq false) (rv 2) (rc (.int 8)))))
    (mRet (ofR (rc (.bl false))))
    mSkip)
    (mDrop (mMut lExtend 3 (mcons (ofR (rN opList (rcons (rv 4) rnil))) mnil))))
    (mIfS (ofRB (rAndB (rNotB (rb asTru (rCall m_is_whole (rcons (rv 4) rnil)))) (rNotB (rb asTru (rCall m_is_word (rcons (rv 4) rnil))))))
    (mRet (ofR (rc (.bl false))))
    mSkip)))
    (mSet 1 (ofR (rN opList (rcons (rv 3) rnil)))))))
    (mRet (ofR (rc (.bl true))))))
def m_is_certificate : List T → FRes := mkFn 5 [] b_is_certificate
def b__law_asked : MS :=
    (mSeq (mSet 2 (ofR (rCall m__law_are_integers (rcons (rv 0) (rcons (r2 opAdd (rv 1) (rc (.int 1))) rnil)))))
    (mSeq (mSet 3 (mlst (mcons (ofR (rCall m__law_are_integers (rcons (rtup (rcons (rv 0) rnil)) (rcons (rc (.int 1)) rnil)))) (mcons (ofR (rCall m__law_are_integers (rcons (rv 0) (rcons (rv 1) rnil)))) mnil))))
    (mSeq (mDrop (mMut lAppend 3 (mcons (ofR (rAndV (rv 2) (r2 opGe (r2 opIx (rv 0) (rv 1)) (rc (.int 1))))) mnil)))
    (mSeq (mDrop (mMut lAppend 3 (mcons (ofR (rAndV (rv 2) (rAndV (r2 (opEq false) (r2 opIx (rv 0) (rv 1)) (rc (.int 0))) (r2 opGt (rN opLen (rcons (rComp [5] (stN 5) (rSeqS (rv 0)) (rb asB (r2 (opEq true) (rv 5) (rc (.int 0)))) (rv 5)) rnil)) (rc (.int 0)))))) mnil)))
    (mSeq (mDrop (mMut lAppend 3 (mcons (ofR (rAndV (rv 2) (r2 (opEq false) (rN opLen (rcons (rComp [5] (stN 5) (rSeqS (rv 0)) (rb asB (r2 opLt (rv 5) (rc (.int 0)))) (rv 5)) rnil)) (rc (.int 0))))) mnil)))
    (mSeq (mDrop (mMut lAppend 3 (mcons (ofR (rAndV (r2 opIx (rv 3) (rc (.int 1))) (r2 (opEq false) (rN opLen (rcons (rComp [5] (stN 5) (rSeqS (rv 0)) (rb asB (r2 (opIn true) (rv 5) (rlst (rcons (rc (.int 1)) (rcons (rc (.int (-1))) rnil))))) (rv 5)) rnil)) (rc (.int 0))))) mnil)))
    (mSeq (mSet 3 (m2 opAdd (mv 3) (ofR (rlst (rcons (rCall m__law_is_word (rcons (rv 0) rnil)) (rcons (rc (.bl true)) rnil))))))
    (mSeq (mSet 4 (ofR (rlst (rcons (rCall m_is_whole (rcons (rv 0) rnil)) (rcons (rCall m_is_wholes (rcons (rv 0) (rcons (rv 1) rnil))) (rcons (rCall m_is_point (rcons (rv 0) (rcons (rv 1) rnil))) (rcons (rCall m_is_direction (rcons (rv 0) (rcons (rv 1) rnil))) rnil)))))))
    (mSeq (mSet 4 (ofR (r2 opAdd (rv 4) (rlst (rcons (rCall m_is_weights (rcons (rv 0) (rcons (rv 1) rnil))) (rcons (rCall m_is_signs (rcons (rv 0) (rcons (rv 1) rnil))) (rcons (rCall m_is_word (rcons (rv 0) rnil)) (rcons (rCall m_is_certificate (rcons (rv 0) rnil)) rnil))))))))
    (mRet (ofR (rCall m__law_are_truths (rcons (rv 4) (rcons (rv 3) rnil))))))))))))))
def m__law_asked : List T → FRes := mkFn 6 [] b__law_asked
def b__law_word : MS :=
    (mSeq (mSet 2 (ofR (rc (.str ""))))
    (mSeq (mFor (stN 3) (mSrc rngD1 (mcons (m2 opAdd (mCall m__law_pick (pslot 0 (pval (ofR (rv 1)) pnil))) (ofR (rc (.int 1)))) mnil))
    (mSet 2 (mfz (m2 opAdd (ofR (rv 2)) (m2 opIx (ofR (rc (.str "abcdefghijklmnopqrstuvwxyz"))) (mCall m__law_pick (pslot 0 (pval (ofR (rc (.int 26))) pnil))))))))
    (mRet (ofR (rv 2)))))
def m__law_word : List T → FRes := mkFn 4 [0] b__law_word
def b__law_strings : MS :=
    (mSeq (mSet 1 (mfz (mCall m__law_word (pslot 0 (pval (ofR (rc (.int 15))) pnil)))))
    (mSeq (mSet 2 (mfz (mCall m__law_pick (pslot 0 (pval (ofR (rN opLen (rcons (rv 1) rnil))) pnil)))))
    (mSeq (mSet 3 (mfz (m2 opIx (ofR (rc (.str "A Z`{_09-.\n("))) (mCall m__law_pick (pslot 0 (pval (ofR (rc (.int 12))) pnil))))))
    (mSeq (mSet 4 (ofR (rlst (rcons (rc (.str "")) (rcons (rv 1) (rcons (r2 opAdd (r2 opAdd (r3 opSl (rv 1) rnone (rsome (rv 2))) (rv 3)) (r3 opSl (rv 1) (rsome (r2 opAdd (rv 2) (rc (.int 1)))) rnone)) (rcons (r2 opAdd (rv 1) (rv 3)) (rcons (r2 opAdd (rv 3) (rv 1)) (rcons (r3 opSl (r2 opMul (rv 1) (rc (.int 13))) rnone (rsome (rc (.int 12)))) rnil)))))))))
    (mSeq (mSet 4 (ofR (r2 opAdd (rv 4) (rlst (rcons (r3 opSl (r2 opMul (rv 1) (rc (.int 13))) rnone (rsome (rc (.int 13)))) (rcons (r3 opSl (rv 1) rnone (rsome (r2 opAdd (rv 2) (rc (.int 1))))) (rcons (rv 3) rnil)))))))
    (mSeq (mFor (stN 5) (mSeqS (ofR (rv 4)))
    (mSeq (mSet 6 (ofR (rCall m__law_is_word (rcons (rv 5) rnil))))
    (mIfS (ofRB (rNotB (rb asTru (rCall m__law_are_truths (rcons (rlst (rcons (rCall m_is_word (rcons (rv 5) rnil)) (rcons (rCall m_is_certificate (rcons (rv 5) rnil)) (rcons (rCall m_is_certificate (rcons (rtup (rcons (rc (.int 4)) (rcons (rv 5) rnil))) rnil)) rnil)))) (rcons (rlst (rcons (rv 6) (rcons (rv 6) (rcons (rv 6) rnil)))) rnil))))))
    (mRet (ofR (rc (.bl false))))
    mSkip)))
    (mRet (ofR (rc (.bl true))))))))))
def m__law_strings : List T → FRes := mkFn 7 [0] b__law_strings
def b__law_parts : MS :=
    (mSeq (mSet 1 (mlst mnil))
    (mSeq (mFor (stN 2) (mSrc rngD1 (mcons (mCall m__law_pick (pslot 0 (pval (ofR (rc (.int 4))) pnil))) mnil))
    (mDrop (mMut lAppend 1 (mcons (m2 opIx (mlst (mcons (mCall m__law_number (pslot 0 pnil)) (mcons (mCall m__law_word (pslot 0 (pval (ofR (rc (.int 12))) pnil))) (mcons (ofR (rtup rnil)) (mcons (ofR (rc (.int 7))) mnil))))) (mCall m__law_pick (pslot 0 (pval (ofR (rc (.int 4))) pnil)))) mnil))))
    (mRet (mmove 1))))
def m__law_parts : List T → FRes := mkFn 3 [0] b__law_parts
def b__law_wrapped : MS :=
    (mSeq (mFor (stN 3) (mSrc rngD1 (mcons (ofR (rv 2)) mnil))
    (mSeq (mSet 4 (mfz (mCall m__law_parts (pslot 0 pnil))))
    (mSeq (mSet 5 (mfz (mCall m__law_pick (pslot 0 (pval (ofR (r2 opAdd (rN opLen (rcons (rv 4) rnil)) (rc (.int 1)))) pnil)))))
    (mSet 1 (ofR (rN opTuple (rcons (r2 opAdd (r2 opAdd (r3 opSl (rv 4) rnone (rsome (rv 5))) (rlst (rcons (rv 1) rnil))) (r3 opSl (rv 4) (rsome (rv 5)) rnone)) rnil)))))))
    (mRet (ofR (rv 1))))
def m__law_wrapped : List T → FRes := mkFn 6 [0] b__law_wrapped
def b__law_is_nested : MS :=
    (mSeq (mSet 1 (ofR (rlst (rcons (rv 0) rnil))))
    (mSeq (mFor (stN 2) (mSrc rngD1 (mcons (ofR (rc (.int 13))) mnil))
    (mSeq (mSet 3 (ofR (rlst rnil)))
    (mSeq (mFor (stN 4) (mSeqS (ofR (rv 1)))
    (mIfS (ofRB (rb asTru (rN opIsi (rcons (rv 4) (rcons (rc (.ty "tuple")) rnil)))))
    (mSeq (mIfS (ofRB (rb asB (r2 opGt (rv 2) (rc (.int 7)))))
    (mRet (ofR (rc (.bl false))))
    mSkip)
    (mSet 3 (ofR (r2 opAdd (rv 3) (rN opList (rcons (rv 4) rnil))))))
    (mIfS (ofRB (rAndB (rNotB (rb asTru (rCall m__law_are_integers (rcons (rtup (rcons (rv 4) rnil)) (rcons (rc (.int 1)) rnil))))) (rNotB (rb asTru (rCall m__law_is_word (rcons (rv 4) rnil))))))
    (mRet (ofR (rc (.bl false))))
    mSkip)))
    (mSet 1 (ofR (rN opList (rcons (rv 3) rnil)))))))
    (mRet (ofR (rc (.bl true))))))
def m__law_is_nested : List T → FRes := mkFn 5 [] b__law_is_nested
def b__law_nested : MS :=
    (mSeq (mSet 1 (mfz (mCall m__law_wrapped (pslot 0 (pval (mfz (m2 opIx (ofR (rlst (rcons (rtup rnil) (rcons (rtup (rcons (rc (.int 3)) rnil)) (rcons (rtup (rcons (rc (.str "box")) rnil)) rnil))))) (mCall m__law_pick (pslot 0 (pval (ofR (rc (.int 3))) pnil))))) (pval (ofR (rc (.int 7))) pnil))))))
    (mSeq (mSet 2 (mfz (mCall m__law_wrapped (pslot 0 (pval (mfz (m2 opIx (ofR (rlst (rcons (rc (.str "")) (rcons (rc (.str "Box")) (rcons (rc (.str "two words")) (rcons (rc (.str "abcdefghijklm")) (rcons (rc (.str "a")) (rcons (rc (.int 0)) rnil)))))))) (mCall m__law_pick (pslot 0 (pval (ofR (rc (.int 6))) pnil))))) (pval (mfz (mCall m__law_pick (pslot 0 (pval (ofR (rc (.int 9))) pnil)))) pnil))))))
    (mSeq (mFor (stN 3) (mSeqS (mfz (mlst (mcons (ofR (rv 1)) (mcons (mCall m__law_wrapped (pslot 0 (pval (ofR (rv 1)) (pval (ofR (rc (.int 1))) pnil)))) (mcons (mCall m__law_wrapped (pslot 0 (pval (ofR (rv 1)) (pval (ofR (rc (.int 2))) pnil)))) (mcons (ofR (rtup (rcons (rv 1) (rcons (rc (.int 1)) rnil)))) (mcons (ofR (rv 2)) (mcons (ofR (rtup (rcons (rc (.int 1)) (rcons (rv 2) rnil)))) mnil)))))))))
    (mSeq (mSet 4 (ofR (rCall m__law_is_nested (rcons (rv 3) rnil))))
    (mSeq (mIfS (ofRB (rNotB (rb asTru (rCall m__law_are_truths (rcons (rlst (rcons (rCall m_is_certificate (rcons (rv 3) rnil)) rnil)) (rcons (rlst (rcons (rv 4) rnil)) rnil))))))
    (mRet (ofR (rc (.bl false))))
    mSkip)
    (mIfS (ofRB (rAndB (rb asTru (rv 4)) (rAndB (rb asTru (rN opIsi (rcons (rv 3) (rcons (rc (.ty "tuple")) rnil)))) (rNotB (rb asTru (rCall m__law_asked (rcons (rv 3) (rcons (rN opLen (rcons (rv 3) rnil)) rnil))))))))
    (mRet (ofR (rc (.bl false))))
    mSkip))))
    (mRet (ofR (rCall m__law_is_nested (rcons (rv 1) rnil)))))))
def m__law_nested : List T → FRes := mkFn 5 [0] b__law_nested
def b_is_headed : MS :=
    (mRet (ofR (rAndV (rN opIsi (rcons (rv 0) (rcons (rc (.ty "tuple")) rnil))) (rAndV (r2 (opEq false) (rN opLen (rcons (rv 0) rnil)) (rv 2)) (rAndV (r2 opGt (rv 2) (rc (.int 0))) (r2 (opEq false) (r2 opIx (rv 0) (rc (.int 0))) (rv 1)))))))
def m_is_headed : List T → FRes := mkFn 3 [] b_is_headed
def b__law_heads : MS :=
    (mSeq (mSet 2 (mfz (mCall m__law_word (pslot 0 (pval (ofR (rc (.int 12))) pnil)))))
    (mSeq (mSet 3 (mfz (mCall m__law_pick (pslot 0 (pval (ofR (rN opLen (rcons (rv 2) rnil))) pnil)))))
    (mSeq (mSet 4 (mfz (m2 opAdd (m2 opAdd (ofR (r3 opSl (rv 2) rnone (rsome (rv 3)))) (m2 opIx (ofR (rc (.str "abcdefghijklmnopqrstuvwxyz"))) (mCall m__law_pick (pslot 0 (pval (ofR (rc (.int 26))) pnil))))) (ofR (r3 opSl (rv 2) (rsome (r2 opAdd (rv 3) (rc (.int 1)))) rnone)))))
    (mSeq (mSet 5 (ofR (r2 opAdd (rtup (rcons (rv 2) rnil)) (rv 1))))
    (mSeq (mSet 6 (ofR (rN opLen (rcons (rv 5) rnil))))
    (mSeq (mSet 7 (ofR (rlst (rcons (rtup (rcons (rv 5) (rcons (rv 2) (rcons (rv 6) rnil)))) (rcons (rtup (rcons (rv 5) (rcons (rv 2) (rcons (r2 opAdd (rv 6) (rc (.int 1))) rnil)))) (rcons (rtup (rcons (rv 5) (rcons (rv 2) (rcons (r2 opSub (rv 6) (rc (.int 1))) rnil)))) (rcons (rtup (rcons (rv 5) (rcons (rv 4) (rcons (rv 6) rnil)))) rnil)))))))
    (mSeq (mSet 7 (ofR (r2 opAdd (rv 7) (rlst (rcons (rtup (rcons (rv 5) (rcons (r2 opAdd (r3 opSl (rv 2) rnone (rsome (rv 3))) (rc (.str "z"))) (rcons (rv 6) rnil)))) (rcons (rtup (rcons (r2 opAdd (rtup (rcons (rv 5) rnil)) (rv 1)) (rcons (rv 2) (rcons (rv 6) rnil)))) (rcons (rtup (rcons (rv 2) (rcons (rv 2) (rcons (rN opLen (rcons (rv 2) rnil)) rnil)))) rnil)))))))
    (mSeq (mSet 7 (ofR (r2 opAdd (rv 7) (rlst (rcons (rtup (rcons (r3 opSl (rv 2) rnone (rsome (rc (.int 1)))) (rcons (r3 opSl (rv 2) rnone (rsome (rc (.int 1)))) (rcons (rc (.int 1)) rnil)))) (rcons (rtup (rcons (rc (.int 5)) (rcons (rv 2) (rcons (rc (.int 1)) rnil)))) (rcons (rtup (rcons (r2 opAdd (rv 1) (rtup (rcons (rv 2) rnil))) (rcons (rv 2) (rcons (rv 6) rnil)))) (rcons (rtup (rcons (rtup (rcons (rv 2) rnil)) (rcons (rv 2) (rcons (rc (.int 1)) rnil)))) rnil))))))))
    (mSeq (mFor (stT 3 (stCons (stN 8) (stCons (stN 9) (stCons (stN 10) stNil)))) (mSeqS (ofR (rv 7)))
    (mSeq (mSet 11 (ofR (rAndV (rN opIsi (rcons (rv 8) (rcons (rc (.ty "tuple")) rnil))) (rAndV (r2 (opEq false) (rN opLen (rcons (rv 8) rnil)) (rv 10)) (r2 opGt (rv 10) (rc (.int 0)))))))
    (mSeq (mIfS (ofRB (rb asTru (rv 11)))
    (mSet 11 (ofR (rAndV (rN opIsi (rcons (r2 opIx (rv 8) (rc (.int 0))) (rcons (rc (.ty "str")) rnil))) (r2 (opEq false) (r2 opIx (rv 8) (rc (.int 0))) (rv 9)))))
    mSkip)
    (mIfS (ofRB (rNotB (rb asTru (rCall m__law_are_truths (rcons (rlst (rcons (rCall m_is_headed (rcons (rv 8) (rcons (rv 9) (rcons (rv 10) rnil)))) rnil)) (rcons (rlst (rcons (rv 11) rnil)) rnil))))))
    (mRet (ofR (rc (.bl false))))
    mSkip))))
    (mRet (ofR (rAndV (rCall m__law_asked (rcons (rv 5) (rcons (rv 6) rnil))) (rAndV (rCall m__law_asked (rcons (rv 5) (rcons (r2 opSub (rv 6) (rc (.int 1))) rnil))) (rCall m__law_asked (rcons (r2 opAdd (rtup (rcons (rv 5) rnil)) (rv 1)) (rcons (rv 6) rnil))))))))))))))))
def m__law_heads : List T → FRes := mkFn 12 [0] b__law_heads
def b_law : MS :=
    (mSeq (mSet 1 (mlst mnil))
    (mSeq (mFor (stN 2) (mSrc rngD1 (mcons (ofR (rc (.int 5))) mnil))
    (mSeq (mSet 3 (mCall m__law_state (pval (ofR (rv 0)) (pval (ofR (rv 2)) pnil))))
    (mSeq (mSet 4 (mfz (m2 opIx (ofR (rlst (rcons (rc (.int 0)) (rcons (rc (.int 1)) (rcons (rc (.int 2)) (rcons (rc (.int 3)) (rcons (rc (.int 4)) (rcons (rc (.int 40)) rnil)))))))) (mCall m__law_pick (pslot 3 (pval (ofR (rc (.int 6))) pnil))))))
    (mSeq (mSet 5 (mfz (mCall m__law_right (pslot 3 (pval (ofR (rv 2)) (pval (ofR (rv 4)) pnil))))))
    (mSeq (mDrop (mMut lAppend 1 (mcons (ofR (rlst (rcons (rv 5) (rcons (rv 4) rnil)))) mnil)))
    (mSeq (mIfS (ofRB (rOrB (rNotB (rb asTru (rCall m__law_asked (rcons (rv 5) (rcons (rv 4) rnil))))) (rOrB (rNotB (rb asTru (rCall m__law_asked (rcons (rv 5) (rcons (r2 opAdd (rv 4) (rc (.int 1))) rnil))))) (rNotB (rb asTru (rCall m__law_asked (rcons (rv 5) (rcons (rN opMax2 (rcons (rc (.int 0)) (rcons (r2 opSub (rv 4) (rc (.int 1))) rnil))) rnil))))))))
    (mRet (ofR (rc (.bl false))))
    mSkip)
    (mSeq (mFor (stN 6) (mSrc rngD1 (mcons (ofR (rc (.int 3))) mnil))
    (mIfS (mNotB (mb asTru (mCall m__law_asked (pval (mfz (mCall m__law_spoilt (pslot 3 (pval (ofR (rv 5)) pnil)))) (pval (ofR (rv 4)) pnil)))))
    (mRet (ofR (rc (.bl false))))
    mSkip))
    (mIfS (mOrB (mNotB (mb asTru (mCall m__law_heads (pslot 3 (pval (ofR (rv 5)) pnil))))) (ofRB (rNotB (rb asTru (rCall m__law_asked (rcons (rN opTuple (rcons (rComp [6] (stN 6) (rSrc rngD1 (rcons (r2 opAdd (rv 4) (rc (.int 1))) rnil)) rYes (rc (.int 0))) rnil)) (rcons (rv 4) rnil)))))))
    (mRet (ofR (rc (.bl false))))
    mSkip))))))))
    (mSeq (mSet 3 (mCall m__law_state (pval (ofR (rv 0)) (pval (ofR (rc (.int 5))) pnil))))
    (mSeq (mIfS (mOrB (mNotB (mb asTru (mCall m__law_pointed (pslot 3 pnil)))) (mOrB (mNotB (mb asTru (mCall m__law_asked (pval (mfz (mCall m__law_number (pslot 3 pnil))) (pval (ofR (rc (.int 1))) pnil))))) (mNotB (mb asTru (mCall m__law_asked (pval (mfz (mCall m__law_word (pslot 3 (pval (ofR (rc (.int 12))) pnil)))) (pval (ofR (rc (.int 1))) pnil)))))))
    (mRet (ofR (rc (.bl false))))
    mSkip)
    (mSeq (mIfS (mOrB (mNotB (mb asTru (mCall m__law_strings (pval (mCall m__law_state (pval (ofR (rv 0)) (pval (ofR (rc (.int 6))) pnil))) pnil)))) (mNotB (mb asTru (mCall m__law_nested (pval (mCall m__law_state (pval (ofR (rv 0)) (pval (ofR (rc (.int 7))) pnil))) pnil)))))
    (mRet (ofR (rc (.bl false))))
    mSkip)
    (mSeq (mFor (stT 2 (stCons (stN 5) (stCons (stN 4) stNil))) (mSeqS (mv 1))
    (mIfS (ofRB (rNotB (rb asTru (rCall m__law_asked (rcons (rv 5) (rcons (rv 4) rnil))))))
    (mRet (ofR (rc (.bl false))))
    mSkip))
    (mRet (ofR (rc (.bl true))))))))))
def m_law : List T → FRes := mkFn 7 [] b_law
/-! ### what the top holds -/
structure Tx (K : PySem.W.Frag) (mg : Str → Option Value) where
  f__law_state : Addr
  d__law_state : FuncData
  F__law_state : Fun K "_law_state" "_law_state" s__law_state f__law_state d__law_state
  g__law_state : mg "_law_state" = some (.ref f__law_state)
  b__law_state : Binds K d__law_state ["script", "at"] []
  f__law_pick : Addr
  d__law_pick : FuncData
  F__law_pick : Fun K "_law_pick" "_law_pick" s__law_pick f__law_pick d__law_pick
  g__law_pick : mg "_law_pick" = some (.ref f__law_pick)
  b__law_pick : Binds K d__law_pick ["state", "size"] []
  f__law_number : Addr
  d__law_number : FuncData
  F__law_number : Fun K "_law_number" "_law_number" s__law_number f__law_number d__law_number
  g__law_number : mg "_law_number" = some (.ref f__law_number)
  b__law_number : Binds K d__law_number ["state"] []
  f__law_right : Addr
  d__law_right : FuncData
  F__law_right : Fun K "_law_right" "_law_right" s__law_right f__law_right d__law_right
  g__law_right : mg "_law_right" = some (.ref f__law_right)
  b__law_right : Binds K d__law_right ["state", "form", "count"] []
  f__law_are_truths : Addr
  d__law_are_truths : FuncData
  F__law_are_truths : Fun K "_law_are_truths" "_law_are_truths" s__law_are_truths f__law_are_truths d__law_are_truths
  g__law_are_truths : mg "_law_are_truths" = some (.ref f__law_are_truths)
  b__law_are_truths : Binds K d__law_are_truths ["told", "dues"] []
  f__law_are_integers : Addr
  d__law_are_integers : FuncData
  F__law_are_integers : Fun K "_law_are_integers" "_law_are_integers" s__law_are_integers f__law_are_integers d__law_are_integers
  g__law_are_integers : mg "_law_are_integers" = some (.ref f__law_are_integers)
  b__law_are_integers : Binds K d__law_are_integers ["told", "count"] []
  f__law_are_points : Addr
  d__law_are_points : FuncData
  F__law_are_points : Fun K "_law_are_points" "_law_are_points" s__law_are_points f__law_are_points d__law_are_points
  g__law_are_points : mg "_law_are_points" = some (.ref f__law_are_points)
  b__law_are_points : Binds K d__law_are_points ["value", "counts"] []
  f_is_whole : Addr
  d_is_whole : FuncData
  F_is_whole : Fun K "is_whole" "is_whole" s_is_whole f_is_whole d_is_whole
  g_is_whole : mg "is_whole" = some (.ref f_is_whole)
  b_is_whole : Binds K d_is_whole ["value"] []
  f_is_wholes : Addr
  d_is_wholes : FuncData
  F_is_wholes : Fun K "is_wholes" "is_wholes" s_is_wholes f_is_wholes d_is_wholes
  g_is_wholes : mg "is_wholes" = some (.ref f_is_wholes)
  b_is_wholes : Binds K d_is_wholes ["value", "count"] []
  f_is_point : Addr
  d_is_point : FuncData
  F_is_point : Fun K "is_point" "is_point" s_is_point f_is_point d_is_point
  g_is_point : mg "is_point" = some (.ref f_is_point)
  b_is_point : Binds K d_is_point ["value", "count"] []
  f_is_points : Addr
  d_is_points : FuncData
  F_is_points : Fun K "is_points" "is_points" s_is_points f_is_points d_is_points
  g_is_points : mg "is_points" = some (.ref f_is_points)
  b_is_points : Binds K d_is_points ["value", "counts"] []
  f__law_spoilt : Addr
  d__law_spoilt : FuncData
  F__law_spoilt : Fun K "_law_spoilt" "_law_spoilt" s__law_spoilt f__law_spoilt d__law_spoilt
  g__law_spoilt : mg "_law_spoilt" = some (.ref f__law_spoilt)
  b__law_spoilt : Binds K d__law_spoilt ["state", "value"] []
  f__law_pointed : Addr
  d__law_pointed : FuncData
  F__law_pointed : Fun K "_law_pointed" "_law_pointed" s__law_pointed f__law_pointed d__law_pointed
  g__law_pointed : mg "_law_pointed" = some (.ref f__law_pointed)
  b__law_pointed : Binds K d__law_pointed ["state"] []
  f_is_direction : Addr
  d_is_direction : FuncData
  F_is_direction : Fun K "is_direction" "is_direction" s_is_direction f_is_direction d_is_direction
  g_is_direction : mg "is_direction" = some (.ref f_is_direction)
  b_is_direction : Binds K d_is_direction ["value", "count"] []
  f__law_is_word : Addr
  d__law_is_word : FuncData
  F__law_is_word : Fun K "_law_is_word" "_law_is_word" s__law_is_word f__law_is_word d__law_is_word
  g__law_is_word : mg "_law_is_word" = some (.ref f__law_is_word)
  b__law_is_word : Binds K d__law_is_word ["value"] []
  f_is_weights : Addr
  d_is_weights : FuncData
  F_is_weights : Fun K "is_weights" "is_weights" s_is_weights f_is_weights d_is_weights
  g_is_weights : mg "is_weights" = some (.ref f_is_weights)
  b_is_weights : Binds K d_is_weights ["value", "count"] []
  f_is_signs : Addr
  d_is_signs : FuncData
  F_is_signs : Fun K "is_signs" "is_signs" s_is_signs f_is_signs d_is_signs
  g_is_signs : mg "is_signs" = some (.ref f_is_signs)
  b_is_signs : Binds K d_is_signs ["value", "count"] []
  f_is_word : Addr
  d_is_word : FuncData
  F_is_word : Fun K "is_word" "is_word" s_is_word f_is_word d_is_word
  g_is_word : mg "is_word" = some (.ref f_is_word)
  b_is_word : Binds K d_is_word ["value"] []
  f_is_certificate : Addr
  d_is_certificate : FuncData
  F_is_certificate : Fun K "is_certificate" "is_certificate" s_is_certificate f_is_certificate d_is_certificate
  g_is_certificate : mg "is_certificate" = some (.ref f_is_certificate)
  b_is_certificate : Binds K d_is_certificate ["value"] []
  f__law_asked : Addr
  d__law_asked : FuncData
  F__law_asked : Fun K "_law_asked" "_law_asked" s__law_asked f__law_asked d__law_asked
  g__law_asked : mg "_law_asked" = some (.ref f__law_asked)
  b__law_asked : Binds K d__law_asked ["value", "count"] []
  f__law_word : Addr
  d__law_word : FuncData
  F__law_word : Fun K "_law_word" "_law_word" s__law_word f__law_word d__law_word
  g__law_word : mg "_law_word" = some (.ref f__law_word)
  b__law_word : Binds K d__law_word ["state", "longest"] []
  f__law_strings : Addr
  d__law_strings : FuncData
  F__law_strings : Fun K "_law_strings" "_law_strings" s__law_strings f__law_strings d__law_strings
  g__law_strings : mg "_law_strings" = some (.ref f__law_strings)
  b__law_strings : Binds K d__law_strings ["state"] []
  f__law_parts : Addr
  d__law_parts : FuncData
  F__law_parts : Fun K "_law_parts" "_law_parts" s__law_parts f__law_parts d__law_parts
  g__law_parts : mg "_law_parts" = some (.ref f__law_parts)
  b__law_parts : Binds K d__law_parts ["state"] []
  f__law_wrapped : Addr
  d__law_wrapped : FuncData
  F__law_wrapped : Fun K "_law_wrapped" "_law_wrapped" s__law_wrapped f__law_wrapped d__law_wrapped
  g__law_wrapped : mg "_law_wrapped" = some (.ref f__law_wrapped)
  b__law_wrapped : Binds K d__law_wrapped ["state", "told", "deep"] []
  f__law_is_nested : Addr
  d__law_is_nested : FuncData
  F__law_is_nested : Fun K "_law_is_nested" "_law_is_nested" s__law_is_nested f__law_is_nested d__law_is_nested
  g__law_is_nested : mg "_law_is_nested" = some (.ref f__law_is_nested)
  b__law_is_nested : Binds K d__law_is_nested ["value"] []
  f__law_nested : Addr
  d__law_nested : FuncData
  F__law_nested : Fun K "_law_nested" "_law_nested" s__law_nested f__law_nested d__law_nested
  g__law_nested : mg "_law_nested" = some (.ref f__law_nested)
  b__law_nested : Binds K d__law_nested ["state"] []
  f_is_headed : Addr
  d_is_headed : FuncData
  F_is_headed : Fun K "is_headed" "is_headed" s_is_headed f_is_headed d_is_headed
  g_is_headed : mg "is_headed" = some (.ref f_is_headed)
  b_is_headed : Binds K d_is_headed ["value", "word", "count"] []
  f__law_heads : Addr
  d__law_heads : FuncData
  F__law_heads : Fun K "_law_heads" "_law_heads" s__law_heads f__law_heads d__law_heads
  g__law_heads : mg "_law_heads" = some (.ref f__law_heads)
  b__law_heads : Binds K d__law_heads ["state", "value"] []
  f_law : Addr
  d_law : FuncData
  F_law : Fun K "law" "law" s_law f_law d_law
  g_law : mg "law" = some (.ref f_law)
  b_law : Binds K d_law ["script"] []
  z_abs : mg "abs" = none
  z_bool : mg "bool" = none
  z_int : mg "int" = none
  z_isinstance : mg "isinstance" = none
  z_len : mg "len" = none
  z_list : mg "list" = none
  z_max : mg "max" = none
  z_range : mg "range" = none
  z_str : mg "str" = none
  z_tuple : mg "tuple" = none
/-! ### each def keeps its mirror's promise -/
section
variable {P : Program} {w : World} {K : PySem.W.Frag} {mg : Str → Option Value} {base : Heap}
set_option maxHeartbeats 4000000 in
theorem ok__law_state (T : Tx K mg) : FnOk P w K mg base CX0 1 T.f__law_state T.d__law_state ["script", "at"] (spM K mg 2 m__law_state) :=
  fn_mir (N := N__law_state) (ps := ["script", "at"]) (k := 0) (body := b__law_state) (fx := []) T.F__law_state sc__law_state (fun cdv A outer s H E hr =>
    (mss_cons (ms_set (i := 2) (ps_set (i := 2) sc__law_state.nd rfl (by first | exact .inl rfl | exact .inr rfl) (me_r re_int)) (by decide))
    (mss_cons (ms_if (mt_r ((rw_and (rt_2 bin_cmp (pt_cmpR op_lt (re_var (pv 1)) (reN na_len (pe_callB call_len (by rfl) T.z_len bb_len (ra_cons (re_var (pv 0)) ra_nil))) (nomark _))) (rw_and1 (rt_2 bin_cmp (pt_cmpR op_lt (re_var (pv 1)) re_int (nomark _)))))).pt) (mss_one (ms_set (i := 2) (ps_set (i := 2) sc__law_state.nd rfl (by first | exact .inl rfl | exact .inr rfl) (me_r (re2 bin_ix (pe_ix ix_seq (re_var (pv 0)) (re_var (pv 1)) (fun _ _ => rfl))))) (by decide))) mss_nil)
    (mss_cons (ms_set (i := 3) (ps_set (i := 3) sc__law_state.nd rfl (by first | exact .inl rfl | exact .inr rfl) (me_r re_int)) (by decide))
    (mss_cons (ms_if (mt_r (rt_2 bin_cmp (pt_cmpR op_ge (re_var (pv 2)) (re_konst (d := .int 1000000000000000000) (fun _ => rfl) (re2 bin_pow (pe_op op_pow re_int re_int))) (nomark _)))) (mss_one (ms_set (i := 3) (ps_set (i := 3) sc__law_state.nd rfl (by first | exact .inl rfl | exact .inr rfl) (me_r (re_var (pv 2)))) (by decide))) mss_nil)
    (mss_one (ms_ret (me_lst (ma_cons (me_r (re_var (pv 3))) (ma_cons (me_r (re2 bin_mod (pe_op op_modN (reN na_intC (pe_callTy call_int1 (by rfl) T.z_int bb_int (ra_cons (re2 bin_add (pe_op op_addM (re2 bin_add (pe_op op_addM (re2 bin_mul (pe_op op_mulM (re_var (pv 2)) re_int)) (re2 bin_mul (pe_op op_mulM (re_var (pv 1)) re_int)))) re_int)) ra_nil))) re_int))) ma_nil))))))))))
set_option maxHeartbeats 4000000 in
theorem ok__law_pick (T : Tx K mg) : FnOk P w K mg base CX0 1 T.f__law_pick T.d__law_pick ["state", "size"] (spM K mg 2 m__law_pick) :=
  fn_mir (N := N__law_pick) (ps := ["state", "size"]) (k := 0) (body := b__law_pick) (fx := [0]) T.F__law_pick sc__law_pick (fun cdv A outer s H E hr =>
    (mss_cons (ms_if (mt_r (rt_2 bin_cmp (pt_cmpR op_gt (re2 bin_ix (pe_ix ix_seq (re_var (pv 0)) re_int (fun _ _ => rfl))) re_int (nomark _)))) (mss_cons (ms_set (i := 2) (ps_set (i := 2) sc__law_pick.nd rfl (by first | exact .inl rfl | exact .inr rfl) (me_r (re2 bin_mod (pe_op op_modN (reN na_intC (pe_callTy call_int1 (by rfl) T.z_int bb_int (ra_cons (re2 bin_ix (pe_ix ix_seq (re_var (pv 0)) re_int (fun _ _ => rfl))) ra_nil))) (re_var (pv 1)))))) (by decide))
    (mss_cons (ms_setix (j := 0) (ps_asg (me_r (re2 bin_div (pe_op op_divM (re2 bin_ix (pe_ix ix_seq (re_var (pv 0)) re_int (fun _ _ => rfl))) (re_var (pv 1))))) (pg_sub (pv 0) re_int set_list)))
    (mss_one (ms_ret (me_r (re_var (pv 2))))))) mss_nil)
    (mss_cons (ms_setix (j := 0) (ps_asg (me_r (re2 bin_mod (pe_op op_modN (reN na_intC (pe_callTy call_int1 (by rfl) T.z_int bb_int (ra_cons (re2 bin_add (pe_op op_addM (re2 bin_mul (pe_op op_mulM (re2 bin_ix (pe_ix ix_seq (re_var (pv 0)) re_int (fun _ _ => rfl))) re_int)) re_int)) ra_nil))) re_int))) (pg_sub (pv 0) re_int set_list)))
    (mss_one (ms_ret (me_r (re2 bin_mod (pe_op op_modN (reN na_intC (pe_callTy call_int1 (by rfl) T.z_int bb_int (ra_cons (re2 bin_add (pe_op op_addM (re2 bin_mul (pe_op op_mulM (re2 bin_ix (pe_ix ix_seq (re_var (pv 0)) re_int (fun _ _ => rfl))) re_int)) (re2 bin_div (pe_op op_divM (re2 bin_ix (pe_ix ix_seq (re_var (pv 0)) re_int (fun _ _ => rfl))) re_int)))) ra_nil))) (re_var (pv 1))))))))))
set_option maxHeartbeats 4000000 in
theorem ok__law_number (T : Tx K mg) : FnOk P w K mg base CX0 2 T.f__law_number T.d__law_number ["state"] (spM K mg 1 m__law_number) :=
  fn_mir (N := N__law_number) (ps := ["state"]) (k := 1) (body := b__law_number) (fx := [0]) T.F__law_number sc__law_number (fun cdv A outer s H E hr =>
    (mss_cons (ms_set (i := 1) (ps_set (i := 1) sc__law_number.nd rfl (by first | exact .inl rfl | exact .inr rfl) (me_fz (me_call (pe_call (ok__law_pick T) (hr.mono (by decide)) (by rfl) T.g__law_pick T.F__law_pick.kp T.b__law_pick .nil pass0 (mp_slot (pv 0) (mp_val (me_r re_int) mp_nil))) (PLen.slot (PLen.val PLen.nil))))) (by decide))
    (mss_cons (ms_if (mt_r (rt_2 bin_cmp (pt_cmpR op_lt (re_var (pv 1)) re_int (nomark _)))) (mss_one (ms_ret (me_r (re2 bin_sub (pe_op op_sub (re_var (pv 1)) re_int))))) mss_nil)
    (mss_cons (ms_set (i := 2) (ps_set (i := 2) sc__law_number.nd rfl (by first | exact .inl rfl | exact .inr rfl) (me_fz (me2 bin_add (pe_op op_addM (me_call (pe_call (ok__law_pick T) (hr.mono (by decide)) (by rfl) T.g__law_pick T.F__law_pick.kp T.b__law_pick .nil pass0 (mp_slot (pv 0) (mp_val (me_r re_int) mp_nil))) (PLen.slot (PLen.val PLen.nil))) (me_r re_int))))) (by decide))
    (mss_cons (ms_for (ps_for PassesOwn.never rfl (mi_src src_rng1 (pi_range1 (by rfl) T.z_range (ma_cons (me2 bin_ix (pe_ix ix_seq (me_r (re_lst (ra_cons re_int (ra_cons re_int (ra_cons re_int (ra_cons re_int ra_nil)))))) (me_call (pe_call (ok__law_pick T) (hr.mono (by decide)) (by rfl) T.g__law_pick T.F__law_pick.kp T.b__law_pick .nil pass0 (mp_slot (pv 0) (mp_val (me_r re_int) mp_nil))) (PLen.slot (PLen.val PLen.nil))) (fun _ _ => rfl))) ma_nil))) (pg_name (i := 3) sc__law_number.nd rfl (by first | exact .inl rfl | exact .inr rfl)) (mss_one (ms_set (i := 2) (ps_set (i := 2) sc__law_number.nd rfl (by first | exact .inl rfl | exact .inr rfl) (me_fz (me2 bin_add (pe_op op_addM (me_r (re2 bin_mul (pe_op op_mulM (re_var (pv 2)) (re_konst (d := .int 1000000000) (fun _ => rfl) (re2 bin_pow (pe_op op_pow re_int re_int)))))) (me_call (pe_call (ok__law_pick T) (hr.mono (by decide)) (by rfl) T.g__law_pick T.F__law_pick.kp T.b__law_pick .nil pass0 (mp_slot (pv 0) (mp_val (me_r (re_konst (d := .int 1000000000) (fun _ => rfl) (re2 bin_pow (pe_op op_pow re_int re_int)))) mp_nil))) (PLen.slot (PLen.val PLen.nil))))))) (by decide)))) (gok_name (i := 3) (by decide)))
    (mss_one (ms_ret (me2 bin_mul (pe_op op_mulM (me_r (re_var (pv 2))) (me2 bin_sub (pe_op op_sub (me_r re_int) (me2 bin_mul (pe_op op_mulM (me_r re_int) (me_call (pe_call (ok__law_pick T) (hr.mono (by decide)) (by rfl) T.g__law_pick T.F__law_pick.kp T.b__law_pick .nil pass0 (mp_slot (pv 0) (mp_val (me_r re_int) mp_nil))) (PLen.slot (PLen.val PLen.nil))))))))))))))))
set_option maxHeartbeats 4000000 in
theorem ok__law_right (T : Tx K mg) : FnOk P w K mg base CX0 3 T.f__law_right T.d__law_right ["state", "form", "count"] (spM K mg 3 m__law_right) :=
  fn_mir (N := N__law_right) (ps := ["state", "form", "count"]) (k := 2) (body := b__law_right) (fx := [0]) T.F__law_right sc__law_right (fun cdv A outer s H E hr =>
    (mss_cons (ms_set (i := 3) (asg_imp (ps_setLc (i := 3) (own := [("k", 5)]) (g := (gName 5)) rfl sc__law_right.nd rfl rfl (sw_true rfl rfl rfl (by decide +kernel)) (mi_src src_rng1 (pi_range1 (by rfl) T.z_range (ma_cons (me_r (re_var (pv 2))) ma_nil))) (blkOk_by (own := [("k", 5)]) (N := N__law_right) (sc := defScope s__law_right) (by decide +kernel)) (fun _ _ _ _ _ => (pg_name (i := 5) sc__law_right.nd rfl (by first | exact .inl rfl | exact .inr rfl))) (fun _ _ _ _ _ => mts_nil) (fun _ _ _ _ _ => (me_call (pe_call (ok__law_number T) (hr.mono (by decide)) (by rfl) T.g__law_number T.F__law_number.kp T.b__law_number .nil pass0 (mp_slot (pv 0) mp_nil)) (PLen.slot PLen.nil)))) (fun q => mlc (by decide) (fun fx h => (gok_name (h 5 (by decide)))) q (fun _ _ _ h => h))) (by decide))
    (mss_cons (ms_set (i := 4) (ps_set (i := 4) sc__law_right.nd rfl (by first | exact .inl rfl | exact .inr rfl) (me_fz (meN na_abs (pe_callB call_abs (by rfl) T.z_abs bb_abs (ma_cons (me_call (pe_call (ok__law_number T) (hr.mono (by decide)) (by rfl) T.g__law_number T.F__law_number.kp T.b__law_number .nil pass0 (mp_slot (pv 0) mp_nil)) (PLen.slot PLen.nil)) ma_nil))))) (by decide))
    (mss_cons (ms_if (mt_r (rt_2 bin_eq (pt_cmpR (op_eqD hr.units) (re_var (pv 1)) re_int (nomark _)))) (mss_one (ms_ret (me_r (reN na_tuple (pe_callTy call_tuple_of (by rfl) T.z_tuple bb_tuple (ra_cons (re2 bin_add (pe_op op_addM (re_var (pv 3)) (re_lst (ra_cons (re2 bin_add (pe_op op_addM (re_var (pv 4)) re_int)) ra_nil)))) ra_nil)))))) mss_nil)
    (mss_cons (ms_if (mt_r (rt_2 bin_eq (pt_cmpR (op_eqD hr.units) (re_var (pv 1)) re_int (nomark _)))) (mss_cons (ms_if (mt_2 bin_eq (pt_cmpR (op_eqD hr.units) (me_call (pe_call (ok__law_pick T) (hr.mono (by decide)) (by rfl) T.g__law_pick T.F__law_pick.kp T.b__law_pick .nil pass0 (mp_slot (pv 0) (mp_val (me_r re_int) mp_nil))) (PLen.slot (PLen.val PLen.nil))) (me_r re_int) (nomark _))) (mss_one (ms_set (i := 3) (asg_imp (ps_setLc (i := 3) (own := [("k", 5)]) (g := (gName 5)) rfl sc__law_right.nd rfl rfl (sw_true rfl rfl rfl (by decide +kernel)) (mi_src src_rng1 (pi_range1 (by rfl) T.z_range (ma_cons (me_r (re_var (pv 2))) ma_nil))) (blkOk_by (own := [("k", 5)]) (N := N__law_right) (sc := defScope s__law_right) (by decide +kernel)) (fun _ _ _ _ _ => (pg_name (i := 5) sc__law_right.nd rfl (by first | exact .inl rfl | exact .inr rfl))) (fun _ _ _ _ _ => mts_nil) (fun _ _ _ _ _ => (me_r (W := W0) re_int))) (fun q => mlc (by decide) (fun fx h => (gok_name (h 5 (by decide)))) q (fun _ _ _ h => h))) (by decide))) mss_nil)
    (mss_cons (ms_if (mt_r (rt_2 bin_cmp (pt_cmpR op_gt (re_var (pv 2)) re_int (nomark _)))) (mss_one (ms_setixM (j := 3) (ps_asg (me2 bin_ix (pe_ix ix_seq (me_r (re_lst (ra_cons re_int (ra_cons (re_konst (d := .int (-1)) (fun _ => rfl) (re1 un_negM (pe_un un_neg re_int))) (ra_cons (re2 bin_add (pe_op op_addM (re_var (pv 4)) re_int)) ra_nil))))) (me_call (pe_call (ok__law_pick T) (hr.mono (by decide)) (by rfl) T.g__law_pick T.F__law_pick.kp T.b__law_pick .nil pass0 (mp_slot (pv 0) (mp_val (me_r re_int) mp_nil))) (PLen.slot (PLen.val PLen.nil))) (fun _ _ => rfl))) (pg_sub (pv 3) (me_call (pe_call (ok__law_pick T) (hr.mono (by decide)) (by rfl) T.g__law_pick T.F__law_pick.kp T.b__law_pick .nil pass0 (mp_slot (pv 0) (mp_val (me_r (re_var (pv 2))) mp_nil))) (PLen.slot (PLen.val PLen.nil))) set_list)))) mss_nil)
    (mss_one (ms_ret (me_r (reN na_tuple (pe_callTy call_tuple_of (by rfl) T.z_tuple bb_tuple (ra_cons (re2 bin_add (pe_op op_addM (re_var (pv 3)) (re_lst (ra_cons re_int ra_nil)))) ra_nil)))))))) mss_nil)
    (mss_cons (ms_if (mt_r (rt_2 bin_eq (pt_cmpR (op_eqD hr.units) (re_var (pv 1)) re_int (nomark _)))) (mss_one (ms_ret (me_r (reN na_tuple (pe_callTy call_tuple_of (by rfl) T.z_tuple bb_tuple (ra_cons (re2 bin_add (pe_op op_addM (re_lc (pe_lc (own := [("number", 6)]) (g := (gName 6)) rfl sc__law_right.nd (ri_seq (re_var (pv 3))) (blkOk_by (own := [("number", 6)]) (N := N__law_right) (sc := defScope s__law_right) (by decide +kernel)) (fun _ _ _ _ _ => (pg_name (i := 6) sc__law_right.nd rfl (by first | exact .inl rfl | exact .inr rfl))) (fun _ _ _ _ _ => rts_nil) (fun _ _ _ _ _ => (reN na_abs (pe_callB call_abs (by rfl) T.z_abs bb_abs (ra_cons (re_var (pv 6)) ra_nil))))) (fun fx h => (gok_name (h 6 (by decide))))) (re_lst (ra_cons (re_var (pv 4)) ra_nil)))) ra_nil)))))) mss_nil)
    (mss_cons (ms_if (mt_r (rt_2 bin_eq (pt_cmpR (op_eqD hr.units) (re_var (pv 1)) re_int (nomark _)))) (mss_one (ms_ret (meN na_tuple (pe_callTy call_tuple_of (by rfl) T.z_tuple bb_tuple (ma_cons (me_lc (pe_lc (own := [("k", 5)]) (g := (gName 5)) rfl sc__law_right.nd (mi_src src_rng1 (pi_range1 (by rfl) T.z_range (ma_cons (me_r (re_var (pv 2))) ma_nil))) (blkOk_by (own := [("k", 5)]) (N := N__law_right) (sc := defScope s__law_right) (by decide +kernel)) (fun _ _ _ _ _ => (pg_name (i := 5) sc__law_right.nd rfl (by first | exact .inl rfl | exact .inr rfl))) (fun _ _ _ _ _ => mts_nil) (fun _ _ _ _ _ => (me2 bin_sub (pe_op op_sub (me_r (W := W0) re_int) (me2 bin_mul (pe_op op_mulM (me_r (W := W0) re_int) (me_call (pe_call (ok__law_pick T) (hr.mono (by decide)) (by rfl) T.g__law_pick T.F__law_pick.kp T.b__law_pick .nil pass0 (mp_slot (pv 0) (mp_val (me_r (W := W0) re_int) mp_nil))) (PLen.slot (PLen.val PLen.nil))))))))) (fun fx h => (gok_name (h 5 (by decide))))) ma_nil))))) mss_nil)
    (mss_one (ms_ret (me_r (reN na_tuple (pe_callTy call_tuple_of (by rfl) T.z_tuple bb_tuple (ra_cons (re_var (pv 3)) ra_nil)))))))))))))
set_option maxHeartbeats 4000000 in
theorem ok__law_are_truths (T : Tx K mg) : FnOk P w K mg base CX0 1 T.f__law_are_truths T.d__law_are_truths ["told", "dues"] (spM K mg 2 m__law_are_truths) :=
  fn_mir (N := N__law_are_truths) (ps := ["told", "dues"]) (k := 0) (body := b__law_are_truths) (fx := []) T.F__law_are_truths sc__law_are_truths (fun cdv A outer s H E hr =>
    (mss_cons (ms_for (ps_for PassesOwn.never rfl (mi_src src_rng1 (pi_range1 (by rfl) T.z_range (ma_cons (me_r (reN na_len (pe_callB call_len (by rfl) T.z_len bb_len (ra_cons (re_var (pv 1)) ra_nil)))) ma_nil))) (pg_name (i := 2) sc__law_are_truths.nd rfl (by first | exact .inl rfl | exact .inr rfl)) (mss_one (ms_if (mt_r ((rw_or (rt_not (rt_tru (reN na_isi (pe_callB call_isi (by rfl) T.z_isinstance bb_isinstance (ra_cons (re2 bin_ix (pe_ix ix_seq (re_var (pv 0)) (re_var (pv 2)) (fun _ _ => rfl))) (ra_cons (re_ty bb_bool (by rfl) T.z_bool) ra_nil)))))) (rw_or1 (rt_2 bin_ne (pt_cmpR (op_neD hr.units) (re2 bin_ix (pe_ix ix_seq (re_var (pv 0)) (re_var (pv 2)) (fun _ _ => rfl))) (re2 bin_ix (pe_ix ix_seq (re_var (pv 1)) (re_var (pv 2)) (fun _ _ => rfl))) (nomark _)))))).pt) (mss_one (ms_ret (me_r re_bl))) mss_nil))) (gok_name (i := 2) (by decide)))
    (mss_one (ms_ret (me_r (re2 bin_eq (pe_cmpR (op_eqD hr.units) (reN na_len (pe_callB call_len (by rfl) T.z_len bb_len (ra_cons (re_var (pv 0)) ra_nil))) (reN na_len (pe_callB call_len (by rfl) T.z_len bb_len (ra_cons (re_var (pv 1)) ra_nil))) (nomark _))))))))
set_option maxHeartbeats 4000000 in
theorem ok__law_are_integers (T : Tx K mg) : FnOk P w K mg base CX0 1 T.f__law_are_integers T.d__law_are_integers ["told", "count"] (spM K mg 2 m__law_are_integers) :=
  fn_mir (N := N__law_are_integers) (ps := ["told", "count"]) (k := 0) (body := b__law_are_integers) (fx := []) T.F__law_are_integers sc__law_are_integers (fun cdv A outer s H E hr =>
    (mss_cons (ms_if (mt_r ((rw_or (rt_not (rt_tru (reN na_isi (pe_callB call_isi (by rfl) T.z_isinstance bb_isinstance (ra_cons (re_var (pv 0)) (ra_cons (re_ty bb_tuple (by rfl) T.z_tuple) ra_nil)))))) (rw_or1 (rt_2 bin_ne (pt_cmpR (op_neD hr.units) (reN na_len (pe_callB call_len (by rfl) T.z_len bb_len (ra_cons (re_var (pv 0)) ra_nil))) (re_var (pv 1)) (nomark _)))))).pt) (mss_one (ms_ret (me_r re_bl))) mss_nil)
    (mss_cons (ms_for (ps_for PassesOwn.never rfl (mi_seq (me_r (re_var (pv 0)))) (pg_name (i := 2) sc__law_are_integers.nd rfl (by first | exact .inl rfl | exact .inr rfl)) (mss_one (ms_if (mt_r ((rw_or (rt_not (rt_tru (reN na_isi (pe_callB call_isi (by rfl) T.z_isinstance bb_isinstance (ra_cons (re_var (pv 2)) (ra_cons (re_ty bb_int (by rfl) T.z_int) ra_nil)))))) (rw_or1 (rt_tru (reN na_isi (pe_callB call_isi (by rfl) T.z_isinstance bb_isinstance (ra_cons (re_var (pv 2)) (ra_cons (re_ty bb_bool (by rfl) T.z_bool) ra_nil)))))))).pt) (mss_one (ms_ret (me_r re_bl))) mss_nil))) (gok_name (i := 2) (by decide)))
    (mss_one (ms_ret (me_r re_bl))))))
set_option maxHeartbeats 4000000 in
theorem ok__law_are_points (T : Tx K mg) : FnOk P w K mg base CX0 2 T.f__law_are_points T.d__law_are_points ["value", "counts"] (spM K mg 2 m__law_are_points) :=
  fn_mir (N := N__law_are_points) (ps := ["value", "counts"]) (k := 1) (body := b__law_are_points) (fx := []) T.F__law_are_points sc__law_are_points (fun cdv A outer s H E hr =>
    (mss_cons (ms_if (mt_r ((rw_or (rt_not (rt_tru (reN na_isi (pe_callB call_isi (by rfl) T.z_isinstance bb_isinstance (ra_cons (re_var (pv 0)) (ra_cons (re_ty bb_tuple (by rfl) T.z_tuple) ra_nil)))))) (rw_or1 (rt_2 bin_ne (pt_cmpR (op_neD hr.units) (reN na_len (pe_callB call_len (by rfl) T.z_len bb_len (ra_cons (re_var (pv 0)) ra_nil))) (reN na_len (pe_callB call_len (by rfl) T.z_len bb_len (ra_cons (re_var (pv 1)) ra_nil))) (nomark _)))))).pt) (mss_one (ms_ret (me_r re_bl))) mss_nil)
    (mss_cons (ms_for (ps_for PassesOwn.never rfl (mi_src src_rng1 (pi_range1 (by rfl) T.z_range (ma_cons (me_r (reN na_len (pe_callB call_len (by rfl) T.z_len bb_len (ra_cons (re_var (pv 1)) ra_nil)))) ma_nil))) (pg_name (i := 2) sc__law_are_points.nd rfl (by first | exact .inl rfl | exact .inr rfl)) (mss_one (ms_if (mt_r ((rw_or (rt_not (rt_tru (re_call (pe_call (ok__law_are_integers T) (hr.mono (by decide)) (by rfl) T.g__law_are_integers T.F__law_are_integers.kp T.b__law_are_integers .nil pass0 (ra_cons (re2 bin_ix (pe_ix ix_seq (re_var (pv 0)) (re_var (pv 2)) (fun _ _ => rfl))) (ra_cons (re2 bin_add (pe_op op_addM (re2 bin_ix (pe_ix ix_seq (re_var (pv 1)) (re_var (pv 2)) (fun _ _ => rfl))) re_int)) ra_nil))) (.cons (.cons .nil))))) (rw_or1 (rt_2 bin_cmp (pt_cmpR op_lt (re2 bin_ix (pe_ix ix_seq (re2 bin_ix (pe_ix ix_seq (re_var (pv 0)) (re_var (pv 2)) (fun _ _ => rfl))) (re2 bin_ix (pe_ix ix_seq (re_var (pv 1)) (re_var (pv 2)) (fun _ _ => rfl))) (fun _ _ => rfl))) re_int (nomark _)))))).pt) (mss_one (ms_ret (me_r re_bl))) mss_nil))) (gok_name (i := 2) (by decide)))
    (mss_one (ms_ret (me_r re_bl))))))
set_option maxHeartbeats 4000000 in
theorem ok_is_whole (T : Tx K mg) : FnOk P w K mg base CX0 1 T.f_is_whole T.d_is_whole ["value"] (spM K mg 1 m_is_whole) :=
  fn_mir (N := N_is_whole) (ps := ["value"]) (k := 0) (body := b_is_whole) (fx := []) T.F_is_whole sc_is_whole (fun cdv A outer s H E hr =>
    (mss_one (ms_ret (me_r (re_and (reN na_isi (pe_callB call_isi (by rfl) T.z_isinstance bb_isinstance (ra_cons (re_var (pv 0)) (ra_cons (re_ty bb_int (by rfl) T.z_int) ra_nil)))) (re_one (re_not (reN na_isi (pe_callB call_isi (by rfl) T.z_isinstance bb_isinstance (ra_cons (re_var (pv 0)) (ra_cons (re_ty bb_bool (by rfl) T.z_bool) ra_nil)))))))))))
set_option maxHeartbeats 4000000 in
theorem ok_is_wholes (T : Tx K mg) : FnOk P w K mg base CX0 2 T.f_is_wholes T.d_is_wholes ["value", "count"] (spM K mg 2 m_is_wholes) :=
  fn_mir (N := N_is_wholes) (ps := ["value", "count"]) (k := 1) (body := b_is_wholes) (fx := []) T.F_is_wholes sc_is_wholes (fun cdv A outer s H E hr =>
    (mss_cons (ms_if (mt_r ((rw_or (rt_not (rt_tru (reN na_isi (pe_callB call_isi (by rfl) T.z_isinstance bb_isinstance (ra_cons (re_var (pv 0)) (ra_cons (re_ty bb_tuple (by rfl) T.z_tuple) ra_nil)))))) (rw_or1 (rt_2 bin_ne (pt_cmpR (op_neD hr.units) (reN na_len (pe_callB call_len (by rfl) T.z_len bb_len (ra_cons (re_var (pv 0)) ra_nil))) (re_var (pv 1)) (nomark _)))))).pt) (mss_one (ms_ret (me_r re_bl))) mss_nil)
    (mss_cons (ms_for (ps_for PassesOwn.never rfl (mi_seq (me_r (re_var (pv 0)))) (pg_name (i := 2) sc_is_wholes.nd rfl (by first | exact .inl rfl | exact .inr rfl)) (mss_one (ms_if (mt_r (rt_not (rt_tru (re_call (pe_call (ok_is_whole T) (hr.mono (by decide)) (by rfl) T.g_is_whole T.F_is_whole.kp T.b_is_whole .nil pass0 (ra_cons (re_var (pv 2)) ra_nil)) (.cons .nil))))) (mss_one (ms_ret (me_r re_bl))) mss_nil))) (gok_name (i := 2) (by decide)))
    (mss_one (ms_ret (me_r re_bl))))))
set_option maxHeartbeats 4000000 in
theorem ok_is_point (T : Tx K mg) : FnOk P w K mg base CX0 3 T.f_is_point T.d_is_point ["value", "count"] (spM K mg 2 m_is_point) :=
  fn_mir (N := N_is_point) (ps := ["value", "count"]) (k := 2) (body := b_is_point) (fx := []) T.F_is_point sc_is_point (fun cdv A outer s H E hr =>
    (mss_one (ms_ret (me_r (re_and (re_call (pe_call (ok_is_wholes T) (hr.mono (by decide)) (by rfl) T.g_is_wholes T.F_is_wholes.kp T.b_is_wholes .nil pass0 (ra_cons (re_var (pv 0)) (ra_cons (re2 bin_add (pe_op op_addM (re_var (pv 1)) re_int)) ra_nil))) (.cons (.cons .nil))) (re_one (re2 bin_cmp (pe_cmpR op_ge (re2 bin_ix (pe_ix ix_seq (re_var (pv 0)) (re_konst (d := .int (-1)) (fun _ => rfl) (re1 un_negM (pe_un un_neg re_int))) (fun _ _ => rfl))) re_int (nomark _)))))))))
set_option maxHeartbeats 4000000 in
theorem ok_is_points (T : Tx K mg) : FnOk P w K mg base CX0 4 T.f_is_points T.d_is_points ["value", "counts"] (spM K mg 2 m_is_points) :=
  fn_mir (N := N_is_points) (ps := ["value", "counts"]) (k := 3) (body := b_is_points) (fx := []) T.F_is_points sc_is_points (fun cdv A outer s H E hr =>
    (mss_cons (ms_if (mt_r ((rw_or (rt_not (rt_tru (reN na_isi (pe_callB call_isi (by rfl) T.z_isinstance bb_isinstance (ra_cons (re_var (pv 0)) (ra_cons (re_ty bb_tuple (by rfl) T.z_tuple) ra_nil)))))) (rw_or1 (rt_2 bin_ne (pt_cmpR (op_neD hr.units) (reN na_len (pe_callB call_len (by rfl) T.z_len bb_len (ra_cons (re_var (pv 0)) ra_nil))) (reN na_len (pe_callB call_len (by rfl) T.z_len bb_len (ra_cons (re_var (pv 1)) ra_nil))) (nomark _)))))).pt) (mss_one (ms_ret (me_r re_bl))) mss_nil)
    (mss_cons (ms_for (ps_for PassesOwn.never rfl (mi_src src_rng1 (pi_range1 (by rfl) T.z_range (ma_cons (me_r (reN na_len (pe_callB call_len (by rfl) T.z_len bb_len (ra_cons (re_var (pv 1)) ra_nil)))) ma_nil))) (pg_name (i := 2) sc_is_points.nd rfl (by first | exact .inl rfl | exact .inr rfl)) (mss_one (ms_if (mt_r (rt_not (rt_tru (re_call (pe_call (ok_is_point T) (hr.mono (by decide)) (by rfl) T.g_is_point T.F_is_point.kp T.b_is_point .nil pass0 (ra_cons (re2 bin_ix (pe_ix ix_seq (re_var (pv 0)) (re_var (pv 2)) (fun _ _ => rfl))) (ra_cons (re2 bin_ix (pe_ix ix_seq (re_var (pv 1)) (re_var (pv 2)) (fun _ _ => rfl))) ra_nil))) (.cons (.cons .nil)))))) (mss_one (ms_ret (me_r re_bl))) mss_nil))) (gok_name (i := 2) (by decide)))
    (mss_one (ms_ret (me_r re_bl))))))
set_option maxHeartbeats 4000000 in
theorem ok__law_spoilt (T : Tx K mg) : FnOk P w K mg base CX0 3 T.f__law_spoilt T.d__law_spoilt ["state", "value"] (spM K mg 2 m__law_spoilt) :=
  fn_mir (N := N__law_spoilt) (ps := ["state", "value"]) (k := 2) (body := b__law_spoilt) (fx := [0]) T.F__law_spoilt sc__law_spoilt (fun cdv A outer s H E hr =>
    (mss_cons (ms_set (i := 2) (ps_set (i := 2) sc__law_spoilt.nd rfl (by first | exact .inl rfl | exact .inr rfl) (meNr na_list (pe_callTy call_list_of (by rfl) T.z_list bb_list (ra_cons (re_var (pv 1)) ra_nil)))) (by decide))
    (mss_cons (ms_set (i := 3) (ps_set (i := 3) sc__law_spoilt.nd rfl (by first | exact .inl rfl | exact .inr rfl) (me_fz (me_call (pe_call (ok__law_pick T) (hr.mono (by decide)) (by rfl) T.g__law_pick T.F__law_pick.kp T.b__law_pick .nil pass0 (mp_slot (pv 0) (mp_val (me_r re_int) mp_nil))) (PLen.slot (PLen.val PLen.nil))))) (by decide))
    (mss_cons (ms_set (i := 4) (ps_set (i := 4) sc__law_spoilt.nd rfl (by first | exact .inl rfl | exact .inr rfl) (me_fz (me_call (pe_call (ok__law_pick T) (hr.mono (by decide)) (by rfl) T.g__law_pick T.F__law_pick.kp T.b__law_pick .nil pass0 (mp_slot (pv 0) (mp_val (me_r (re2 bin_add (pe_op op_addM (reN na_len (pe_callB call_len (by rfl) T.z_len bb_len (ra_cons (re_var (pv 2)) ra_nil))) re_int))) mp_nil))) (PLen.slot (PLen.val PLen.nil))))) (by decide))
    (mss_cons (ms_if (mt_r ((rw_or (rt_2 bin_eq (pt_cmpR (op_eqD hr.units) (re_var (pv 3)) re_int (nomark _))) (rw_or1 (rt_2 bin_eq (pt_cmpR (op_eqD hr.units) (reN na_len (pe_callB call_len (by rfl) T.z_len bb_len (ra_cons (re_var (pv 2)) ra_nil))) re_int (nomark _)))))).pt) (mss_cons (ms_expr (me_mut lm_insert (pe_bm PySem.F.plainAttrs_list PySem.F.slot_list_insert PySem.F.type_list_insert mt_insertM (pv 2) (ma_cons (me_r (re_var (pv 4))) (ma_cons (me_call (pe_call (ok__law_number T) (hr.mono (by decide)) (by rfl) T.g__law_number T.F__law_number.kp T.b__law_number .nil pass0 (mp_slot (pv 0) mp_nil)) (PLen.slot PLen.nil)) ma_nil)))))
    (mss_one (ms_ret (me_r (reN na_tuple (pe_callTy call_tuple_of (by rfl) T.z_tuple bb_tuple (ra_cons (re_var (pv 2)) ra_nil))))))) mss_nil)
    (mss_cons (ms_set (i := 4) (ps_set (i := 4) sc__law_spoilt.nd rfl (by first | exact .inl rfl | exact .inr rfl) (me_r (re2 bin_mod (pe_op op_modN (reN na_intC (pe_callTy call_int1 (by rfl) T.z_int bb_int (ra_cons (re_var (pv 4)) ra_nil))) (reN na_len (pe_callB call_len (by rfl) T.z_len bb_len (ra_cons (re_var (pv 2)) ra_nil))))))) (by decide))
    (mss_cons (ms_if (mt_r (rt_2 bin_eq (pt_cmpR (op_eqD hr.units) (re_var (pv 3)) re_int (nomark _)))) (mss_one (ms_expr (me_mut lm_popAt (pe_bm PySem.F.plainAttrs_list PySem.F.slot_list_pop PySem.F.type_list_pop mt_popAt (pv 2) (ma_cons (me_r (re_var (pv 4))) ma_nil))))) mss_nil)
    (mss_cons (ms_if (mt_r (rt_2 bin_eq (pt_cmpR (op_eqD hr.units) (re_var (pv 3)) re_int (nomark _)))) (mss_one (ms_setix (j := 2) (ps_asg (me2 bin_ix (pe_ix ix_seq (me_r (re_lst (ra_cons re_int (ra_cons re_int (ra_cons (re_konst (d := .int (-1)) (fun _ => rfl) (re1 un_negM (pe_un un_neg re_int))) ra_nil))))) (me_call (pe_call (ok__law_pick T) (hr.mono (by decide)) (by rfl) T.g__law_pick T.F__law_pick.kp T.b__law_pick .nil pass0 (mp_slot (pv 0) (mp_val (me_r re_int) mp_nil))) (PLen.slot (PLen.val PLen.nil))) (fun _ _ => rfl))) (pg_sub (pv 2) (re2 bin_sub (pe_op op_sub (reN na_len (pe_callB call_len (by rfl) T.z_len bb_len (ra_cons (re_var (pv 2)) ra_nil))) re_int)) set_list)))) mss_nil)
    (mss_cons (ms_if (mt_r (rt_2 bin_eq (pt_cmpR (op_eqD hr.units) (re_var (pv 3)) re_int (nomark _)))) (mss_one (ms_setix (j := 2) (ps_asg (me2 bin_ix (pe_ix ix_seq (me_r (re_lst (ra_cons re_str (ra_cons re_str (ra_cons (re_tup ra_nil) (ra_cons (re_tup (ra_cons re_int ra_nil)) ra_nil)))))) (me_call (pe_call (ok__law_pick T) (hr.mono (by decide)) (by rfl) T.g__law_pick T.F__law_pick.kp T.b__law_pick .nil pass0 (mp_slot (pv 0) (mp_val (me_r re_int) mp_nil))) (PLen.slot (PLen.val PLen.nil))) (fun _ _ => rfl))) (pg_sub (pv 2) (re_var (pv 4)) set_list)))) mss_nil)
    (mss_cons (ms_if (mt_r (rt_2 bin_eq (pt_cmpR (op_eqD hr.units) (re_var (pv 3)) re_int (nomark _)))) (mss_one (ms_setix (j := 2) (ps_asg (me_r (re1 un_negM (pe_un un_neg (re2 bin_ix (pe_ix ix_seq (re_var (pv 2)) (re_var (pv 4)) (fun _ _ => rfl)))))) (pg_sub (pv 2) (re_var (pv 4)) set_list)))) mss_nil)
    (mss_cons (ms_if (mt_r (rt_2 bin_eq (pt_cmpR (op_eqD hr.units) (re_var (pv 3)) re_int (nomark _)))) (mss_one (ms_setix (j := 2) (ps_asg (me2 bin_ix (pe_ix ix_seq (me_r (re_lst (ra_cons re_int (ra_cons re_int (ra_cons (re_konst (d := .int (-1)) (fun _ => rfl) (re1 un_negM (pe_un un_neg re_int))) (ra_cons re_int ra_nil)))))) (me_call (pe_call (ok__law_pick T) (hr.mono (by decide)) (by rfl) T.g__law_pick T.F__law_pick.kp T.b__law_pick .nil pass0 (mp_slot (pv 0) (mp_val (me_r re_int) mp_nil))) (PLen.slot (PLen.val PLen.nil))) (fun _ _ => rfl))) (pg_sub (pv 2) (re_var (pv 4)) set_list)))) mss_nil)
    (mss_one (ms_ret (me_r (reN na_tuple (pe_callTy call_tuple_of (by rfl) T.z_tuple bb_tuple (ra_cons (re_var (pv 2)) ra_nil)))))))))))))))))
set_option maxHeartbeats 4000000 in
theorem ok__law_pointed (T : Tx K mg) : FnOk P w K mg base CX0 5 T.f__law_pointed T.d__law_pointed ["state"] (spM K mg 1 m__law_pointed) :=
  fn_mir (N := N__law_pointed) (ps := ["state"]) (k := 4) (body := b__law_pointed) (fx := [0]) T.F__law_pointed sc__law_pointed (fun cdv A outer s H E hr =>
    (mss_cons (ms_set (i := 1) (asg_imp (ps_setLc (i := 1) (own := [("k", 4)]) (g := (gName 4)) rfl sc__law_pointed.nd rfl rfl (sw_true rfl rfl rfl (by decide +kernel)) (mi_src src_rng1 (pi_range1 (by rfl) T.z_range (ma_cons (me_call (pe_call (ok__law_pick T) (hr.mono (by decide)) (by rfl) T.g__law_pick T.F__law_pick.kp T.b__law_pick .nil pass0 (mp_slot (pv 0) (mp_val (me_r re_int) mp_nil))) (PLen.slot (PLen.val PLen.nil))) ma_nil))) (blkOk_by (own := [("k", 4)]) (N := N__law_pointed) (sc := defScope s__law_pointed) (by decide +kernel)) (fun _ _ _ _ _ => (pg_name (i := 4) sc__law_pointed.nd rfl (by first | exact .inl rfl | exact .inr rfl))) (fun _ _ _ _ _ => mts_nil) (fun _ _ _ _ _ => (me_call (pe_call (ok__law_pick T) (hr.mono (by decide)) (by rfl) T.g__law_pick T.F__law_pick.kp T.b__law_pick .nil pass0 (mp_slot (pv 0) (mp_val (me_r (W := W0) re_int) mp_nil))) (PLen.slot (PLen.val PLen.nil))))) (fun q => mlc (by decide) (fun fx h => (gok_name (h 4 (by decide)))) (tE_fz q) (fun _ _ _ h => h))) (by decide))
    (mss_cons (ms_set (i := 2) (asg_imp (ps_setLc (i := 2) (own := [("many", 8)]) (g := (gName 8)) rfl sc__law_pointed.nd rfl rfl (sw_true rfl rfl rfl (by decide +kernel)) (mi_seq (me_r (re_var (pv 1)))) (blkOk_by (own := [("many", 8)]) (N := N__law_pointed) (sc := defScope s__law_pointed) (by decide +kernel)) (fun _ _ _ _ _ => (pg_name (i := 8) sc__law_pointed.nd rfl (by first | exact .inl rfl | exact .inr rfl))) (fun _ _ _ _ _ => mts_nil) (fun _ _ _ _ _ => (me_call (pe_call (ok__law_right T) (hr.mono (by decide)) (by rfl) T.g__law_right T.F__law_right.kp T.b__law_right .nil pass0 (mp_slot (pv 0) (mp_val (me_r (W := W0) re_int) (mp_val (me_r (W := W0) (re_var (pv 8))) mp_nil)))) (PLen.slot (PLen.val (PLen.val PLen.nil)))))) (fun q => mlc (by decide) (fun fx h => (gok_name (h 8 (by decide)))) (tE_fz q) (fun _ _ _ h => h))) (by decide))
    (mss_cons (ms_set (i := 3) (ps_set (i := 3) sc__law_pointed.nd rfl (by first | exact .inl rfl | exact .inr rfl) (me_lst (ma_cons (me_r (re_lst (ra_cons (re_var (pv 2)) (ra_cons (re_var (pv 1)) ra_nil)))) (ma_cons (me_r (re_lst (ra_cons (re2 bin_add (pe_op op_addM (re_var (pv 2)) (re_lst (ra_cons (re_tup (ra_cons re_int ra_nil)) ra_nil)))) (ra_cons (re_var (pv 1)) ra_nil)))) (ma_cons (me_r (re_lst (ra_cons (re_var (pv 2)) (ra_cons (re2 bin_add (pe_op op_addM (re_var (pv 1)) (re_lst (ra_cons re_int ra_nil)))) ra_nil)))) (ma_cons (me_r (re_lst (ra_cons (re2 bin_add (pe_op op_addM (re_var (pv 2)) (re_lst (ra_cons (re_tup (ra_cons re_int ra_nil)) ra_nil)))) (ra_cons (re2 bin_add (pe_op op_addM (re_var (pv 1)) (re_lst (ra_cons re_int ra_nil)))) ra_nil)))) ma_nil)))))) (by decide))
    (mss_cons (ms_for (ps_for PassesOwn.never rfl (mi_src src_rng1 (pi_range1 (by rfl) T.z_range (ma_cons (me_r (reN na_len (pe_callB call_len (by rfl) T.z_len bb_len (ra_cons (re_var (pv 2)) ra_nil)))) ma_nil))) (pg_name (i := 4) sc__law_pointed.nd rfl (by first | exact .inl rfl | exact .inr rfl)) (mss_cons (ms_set (i := 5) (ps_set (i := 5) sc__law_pointed.nd rfl (by first | exact .inl rfl | exact .inr rfl) (me_r (re_sl (re_var (pv 2)) ro_none (ro_some (re_var (pv 4)))))) (by decide))
    (mss_cons (ms_set (i := 6) (ps_set (i := 6) sc__law_pointed.nd rfl (by first | exact .inl rfl | exact .inr rfl) (me_r (re_sl (re_var (pv 2)) (ro_some (re2 bin_add (pe_op op_addM (re_var (pv 4)) re_int))) ro_none))) (by decide))
    (mss_cons (ms_expr (me_mut lm_append (pe_bm PySem.F.plainAttrs_list PySem.F.slot_list_append PySem.F.type_list_append mt_append (pv 3) (ma_cons (me_r (re_lst (ra_cons (re2 bin_add (pe_op op_addM (re_var (pv 5)) (re_var (pv 6)))) (ra_cons (re_var (pv 1)) ra_nil)))) ma_nil))))
    (mss_cons (ms_expr (me_mut lm_append (pe_bm PySem.F.plainAttrs_list PySem.F.slot_list_append PySem.F.type_list_append mt_append (pv 3) (ma_cons (me_lst (ma_cons (me2 bin_add (pe_op op_addM (me2 bin_add (pe_op op_addM (me_r (re_var (pv 5))) (me_lst (ma_cons (me_call (pe_call (ok__law_spoilt T) (hr.mono (by decide)) (by rfl) T.g__law_spoilt T.F__law_spoilt.kp T.b__law_spoilt .nil pass0 (mp_slot (pv 0) (mp_val (me_r (re2 bin_ix (pe_ix ix_seq (re_var (pv 2)) (re_var (pv 4)) (fun _ _ => rfl)))) mp_nil))) (PLen.slot (PLen.val PLen.nil))) ma_nil)))) (me_r (re_var (pv 6))))) (ma_cons (me_r (re_var (pv 1))) ma_nil))) ma_nil))))
    (mss_cons (ms_expr (me_mut lm_append (pe_bm PySem.F.plainAttrs_list PySem.F.slot_list_append PySem.F.type_list_append mt_append (pv 3) (ma_cons (me_lst (ma_cons (me2 bin_add (pe_op op_addM (me2 bin_add (pe_op op_addM (me_r (re_var (pv 5))) (me_lst (ma_cons (me2 bin_ix (pe_ix ix_seq (me_r (re_lst (ra_cons re_str (ra_cons re_int (ra_cons (re_tup ra_nil) ra_nil))))) (me_call (pe_call (ok__law_pick T) (hr.mono (by decide)) (by rfl) T.g__law_pick T.F__law_pick.kp T.b__law_pick .nil pass0 (mp_slot (pv 0) (mp_val (me_r re_int) mp_nil))) (PLen.slot (PLen.val PLen.nil))) (fun _ _ => rfl))) ma_nil)))) (me_r (re_var (pv 6))))) (ma_cons (me_r (re_var (pv 1))) ma_nil))) ma_nil))))
    (mss_one (ms_expr (me_mut lm_append (pe_bm PySem.F.plainAttrs_list PySem.F.slot_list_append PySem.F.type_list_append mt_append (pv 3) (ma_cons (me_r (re_lst (ra_cons (re_var (pv 2)) (ra_cons (re2 bin_add (pe_op op_addM (re2 bin_add (pe_op op_addM (re_sl (re_var (pv 1)) ro_none (ro_some (re_var (pv 4)))) (re_lst (ra_cons (re2 bin_add (pe_op op_addM (re2 bin_ix (pe_ix ix_seq (re_var (pv 1)) (re_var (pv 4)) (fun _ _ => rfl))) re_int)) ra_nil)))) (re_sl (re_var (pv 1)) (ro_some (re2 bin_add (pe_op op_addM (re_var (pv 4)) re_int))) ro_none))) ra_nil)))) ma_nil))))))))))) (gok_name (i := 4) (by decide)))
    (mss_cons (ms_for (ps_for PassesOwn.never rfl (mi_seq (me_var (pv 3))) (pg_tl rfl (pgs_cons (pg_name (i := 7) sc__law_pointed.nd rfl (by first | exact .inl rfl | exact .inr rfl)) (pgs_cons (pg_name (i := 8) sc__law_pointed.nd rfl (by first | exact .inl rfl | exact .inr rfl)) pgs_nil))) (mss_cons (ms_set (i := 9) (ps_set (i := 9) sc__law_pointed.nd rfl (by first | exact .inl rfl | exact .inr rfl) (me_r (re_call (pe_call (ok__law_are_points T) (hr.mono (by decide)) (by rfl) T.g__law_are_points T.F__law_are_points.kp T.b__law_are_points .nil pass0 (ra_cons (reN na_tuple (pe_callTy call_tuple_of (by rfl) T.z_tuple bb_tuple (ra_cons (re_var (pv 7)) ra_nil))) (ra_cons (re_var (pv 8)) ra_nil))) (.cons (.cons .nil))))) (by decide))
    (mss_cons (ms_set (i := 10) (ps_set (i := 10) sc__law_pointed.nd rfl (by first | exact .inl rfl | exact .inr rfl) (me_r (re_lst (ra_cons (re_call (pe_call (ok_is_points T) (hr.mono (by decide)) (by rfl) T.g_is_points T.F_is_points.kp T.b_is_points .nil pass0 (ra_cons (reN na_tuple (pe_callTy call_tuple_of (by rfl) T.z_tuple bb_tuple (ra_cons (re_var (pv 7)) ra_nil))) (ra_cons (reN na_list (pe_callTy call_list_of (by rfl) T.z_list bb_list (ra_cons (re_var (pv 8)) ra_nil))) ra_nil))) (.cons (.cons .nil))) (ra_cons (re_call (pe_call (ok_is_points T) (hr.mono (by decide)) (by rfl) T.g_is_points T.F_is_points.kp T.b_is_points .nil pass0 (ra_cons (reN na_tuple (pe_callTy call_tuple_of (by rfl) T.z_tuple bb_tuple (ra_cons (re_var (pv 7)) ra_nil))) (ra_cons (reN na_tuple (pe_callTy call_tuple_of (by rfl) T.z_tuple bb_tuple (ra_cons (re_var (pv 8)) ra_nil))) ra_nil))) (.cons (.cons .nil))) ra_nil))))) (by decide))
    (mss_one (ms_if (mt_r (rt_not (rt_tru (re_call (pe_call (ok__law_are_truths T) (hr.mono (by decide)) (by rfl) T.g__law_are_truths T.F__law_are_truths.kp T.b__law_are_truths .nil pass0 (ra_cons (re_var (pv 10)) (ra_cons (re_lst (ra_cons (re_var (pv 9)) (ra_cons (re_var (pv 9)) ra_nil))) ra_nil))) (.cons (.cons .nil)))))) (mss_one (ms_ret (me_r re_bl))) mss_nil))))) (gok_tup (n := 2) (gsok_cons (gok_name (i := 7) (by decide)) (gsok_cons (gok_name (i := 8) (by decide)) gsok_nil))))
    (mss_one (ms_ret (me_r (re_call (pe_call (ok__law_are_truths T) (hr.mono (by decide)) (by rfl) T.g__law_are_truths T.F__law_are_truths.kp T.b__law_are_truths .nil pass0 (ra_cons (re_lst (ra_cons (re_call (pe_call (ok_is_points T) (hr.mono (by decide)) (by rfl) T.g_is_points T.F_is_points.kp T.b_is_points .nil pass0 (ra_cons re_str (ra_cons (re_lst (ra_cons re_int (ra_cons re_int ra_nil))) ra_nil))) (.cons (.cons .nil))) (ra_cons (re_call (pe_call (ok_is_points T) (hr.mono (by decide)) (by rfl) T.g_is_points T.F_is_points.kp T.b_is_points .nil pass0 (ra_cons re_int (ra_cons (re_lst ra_nil) ra_nil))) (.cons (.cons .nil))) ra_nil))) (ra_cons (re_lst (ra_cons re_bl (ra_cons re_bl ra_nil))) ra_nil))) (.cons (.cons .nil))))))))))))
set_option maxHeartbeats 4000000 in
theorem ok_is_direction (T : Tx K mg) : FnOk P w K mg base CX0 3 T.f_is_direction T.d_is_direction ["value", "count"] (spM K mg 2 m_is_direction) :=
  fn_mir (N := N_is_direction) (ps := ["value", "count"]) (k := 2) (body := b_is_direction) (fx := []) T.F_is_direction sc_is_direction (fun cdv A outer s H E hr =>
    (mss_cons (ms_if (mt_r ((rw_or (rt_not (rt_tru (re_call (pe_call (ok_is_wholes T) (hr.mono (by decide)) (by rfl) T.g_is_wholes T.F_is_wholes.kp T.b_is_wholes .nil pass0 (ra_cons (re_var (pv 0)) (ra_cons (re2 bin_add (pe_op op_addM (re_var (pv 1)) re_int)) ra_nil))) (.cons (.cons .nil))))) (rw_or1 (rt_2 bin_ne (pt_cmpR (op_neD hr.units) (re2 bin_ix (pe_ix ix_seq (re_var (pv 0)) (re_konst (d := .int (-1)) (fun _ => rfl) (re1 un_negM (pe_un un_neg re_int))) (fun _ _ => rfl))) re_int (nomark _)))))).pt) (mss_one (ms_ret (me_r re_bl))) mss_nil)
    (mss_cons (ms_for (ps_for PassesOwn.never rfl (mi_seq (me_r (re_var (pv 0)))) (pg_name (i := 2) sc_is_direction.nd rfl (by first | exact .inl rfl | exact .inr rfl)) (mss_one (ms_if (mt_r (rt_2 bin_ne (pt_cmpR (op_neD hr.units) (re_var (pv 2)) re_int (nomark _)))) (mss_one (ms_ret (me_r re_bl))) mss_nil))) (gok_name (i := 2) (by decide)))
    (mss_one (ms_ret (me_r re_bl))))))
set_option maxHeartbeats 4000000 in
theorem ok__law_is_word (T : Tx K mg) : FnOk P w K mg base CX0 1 T.f__law_is_word T.d__law_is_word ["value"] (spM K mg 1 m__law_is_word) :=
  fn_mir (N := N__law_is_word) (ps := ["value"]) (k := 0) (body := b__law_is_word) (fx := []) T.F__law_is_word sc__law_is_word (fun cdv A outer s H E hr =>
    (mss_cons (ms_if (mt_r ((rw_or (rt_not (rt_tru (reN na_isi (pe_callB call_isi (by rfl) T.z_isinstance bb_isinstance (ra_cons (re_var (pv 0)) (ra_cons (re_ty bb_str (by rfl) T.z_str) ra_nil)))))) (rw_or (rt_2 bin_cmp (pt_cmpR op_lt (reN na_len (pe_callB call_len (by rfl) T.z_len bb_len (ra_cons (re_var (pv 0)) ra_nil))) re_int (nomark _))) (rw_or1 (rt_2 bin_cmp (pt_cmpR op_gt (reN na_len (pe_callB call_len (by rfl) T.z_len bb_len (ra_cons (re_var (pv 0)) ra_nil))) re_int (nomark _))))))).pt) (mss_one (ms_ret (me_r re_bl))) mss_nil)
    (mss_one (ms_ret (me_r (re2 bin_eq (pe_cmpR (op_eqD hr.units) (reN na_len (pe_callB call_len (by rfl) T.z_len bb_len (ra_cons (re_lc (pe_lc (own := [("char", 1)]) (g := (gName 1)) rfl sc__law_is_word.nd (ri_seq (re_var (pv 0))) (blkOk_by (own := [("char", 1)]) (N := N__law_is_word) (sc := defScope s__law_is_word) (by decide +kernel)) (fun _ _ _ _ _ => (pg_name (i := 1) sc__law_is_word.nd rfl (by first | exact .inl rfl | exact .inr rfl))) (fun _ _ _ _ _ => (pts_one (rt_2 bin_in (pt_cmpR (op_ninM (u65 hr)) (re_var (pv 1)) re_str rfl)))) (fun _ _ _ _ _ => (re_var (pv 1)))) (fun fx h => (gok_name (h 1 (by decide))))) ra_nil))) re_int (nomark _))))))))
set_option maxHeartbeats 4000000 in
theorem ok_is_weights (T : Tx K mg) : FnOk P w K mg base CX0 3 T.f_is_weights T.d_is_weights ["value", "count"] (spM K mg 2 m_is_weights) :=
  fn_mir (N := N_is_weights) (ps := ["value", "count"]) (k := 2) (body := b_is_weights) (fx := []) T.F_is_weights sc_is_weights (fun cdv A outer s H E hr =>
    (mss_cons (ms_if (mt_r (rt_not (rt_tru (re_call (pe_call (ok_is_wholes T) (hr.mono (by decide)) (by rfl) T.g_is_wholes T.F_is_wholes.kp T.b_is_wholes .nil pass0 (ra_cons (re_var (pv 0)) (ra_cons (re2 bin_add (pe_op op_addM (re_var (pv 1)) re_int)) ra_nil))) (.cons (.cons .nil)))))) (mss_one (ms_ret (me_r re_bl))) mss_nil)
    (mss_cons (ms_for (ps_for PassesOwn.never rfl (mi_seq (me_r (re_var (pv 0)))) (pg_name (i := 2) sc_is_weights.nd rfl (by first | exact .inl rfl | exact .inr rfl)) (mss_one (ms_if (mt_r (rt_2 bin_cmp (pt_cmpR op_lt (re_var (pv 2)) re_int (nomark _)))) (mss_one (ms_ret (me_r re_bl))) mss_nil))) (gok_name (i := 2) (by decide)))
    (mss_one (ms_ret (me_r re_bl))))))
set_option maxHeartbeats 4000000 in
theorem ok_is_signs (T : Tx K mg) : FnOk P w K mg base CX0 3 T.f_is_signs T.d_is_signs ["value", "count"] (spM K mg 2 m_is_signs) :=
  fn_mir (N := N_is_signs) (ps := ["value", "count"]) (k := 2) (body := b_is_signs) (fx := []) T.F_is_signs sc_is_signs (fun cdv A outer s H E hr =>
    (mss_cons (ms_if (mt_r (rt_not (rt_tru (re_call (pe_call (ok_is_wholes T) (hr.mono (by decide)) (by rfl) T.g_is_wholes T.F_is_wholes.kp T.b_is_wholes .nil pass0 (ra_cons (re_var (pv 0)) (ra_cons (re_var (pv 1)) ra_nil))) (.cons (.cons .nil)))))) (mss_one (ms_ret (me_r re_bl))) mss_nil)
    (mss_cons (ms_for (ps_for PassesOwn.never rfl (mi_seq (me_r (re_var (pv 0)))) (pg_name (i := 2) sc_is_signs.nd rfl (by first | exact .inl rfl | exact .inr rfl)) (mss_one (ms_if (mt_r ((rw_and (rt_2 bin_ne (pt_cmpR (op_neD hr.units) (re_var (pv 2)) re_int (nomark _))) (rw_and1 (rt_2 bin_ne (pt_cmpR (op_neD hr.units) (re_var (pv 2)) (re_konst (d := .int (-1)) (fun _ => rfl) (re1 un_negM (pe_un un_neg re_int))) (nomark _)))))).pt) (mss_one (ms_ret (me_r re_bl))) mss_nil))) (gok_name (i := 2) (by decide)))
    (mss_one (ms_ret (me_r re_bl))))))
set_option maxHeartbeats 4000000 in
theorem ok_is_word (T : Tx K mg) : FnOk P w K mg base CX0 1 T.f_is_word T.d_is_word ["value"] (spM K mg 1 m_is_word) :=
  fn_mir (N := N_is_word) (ps := ["value"]) (k := 0) (body := b_is_word) (fx := []) T.F_is_word sc_is_word (fun cdv A outer s H E hr =>
    (mss_cons (ms_if (mt_r ((rw_or (rt_not (rt_tru (reN na_isi (pe_callB call_isi (by rfl) T.z_isinstance bb_isinstance (ra_cons (re_var (pv 0)) (ra_cons (re_ty bb_str (by rfl) T.z_str) ra_nil)))))) (rw_or1 (rt_not (rt_chain bin_cmp bin_cmp (pt_chain op_le op_le re_int (reN na_len (pe_callB call_len (by rfl) T.z_len bb_len (ra_cons (re_var (pv 0)) ra_nil))) re_int)))))).pt) (mss_one (ms_ret (me_r re_bl))) mss_nil)
    (mss_cons (ms_for (ps_for PassesOwn.never rfl (mi_seq (me_r (re_var (pv 0)))) (pg_name (i := 1) sc_is_word.nd rfl (by first | exact .inl rfl | exact .inr rfl)) (mss_one (ms_if (mt_r (rt_2 bin_in (pt_cmpR (op_ninM (u65 hr)) (re_var (pv 1)) re_str rfl))) (mss_one (ms_ret (me_r re_bl))) mss_nil))) (gok_name (i := 1) (by decide)))
    (mss_one (ms_ret (me_r re_bl))))))
set_option maxHeartbeats 4000000 in
theorem ok_is_certificate (T : Tx K mg) : FnOk P w K mg base CX0 2 T.f_is_certificate T.d_is_certificate ["value"] (spM K mg 1 m_is_certificate) :=
  fn_mir (N := N_is_certificate) (ps := ["value"]) (k := 1) (body := b_is_certificate) (fx := []) T.F_is_certificate sc_is_certificate (fun cdv A outer s H E hr =>
    (mss_cons (ms_set (i := 1) (ps_set (i := 1) sc_is_certificate.nd rfl (by first | exact .inl rfl | exact .inr rfl) (me_r (re_lst (ra_cons (re_var (pv 0)) ra_nil)))) (by decide))
    (mss_cons (ms_for (ps_for PassesOwn.never rfl (mi_src src_rng1 (pi_range1 (by rfl) T.z_range (ma_cons (me_r re_int) ma_nil))) (pg_name (i := 2) sc_is_certificate.nd rfl (by first | exact .inl rfl | exact .inr rfl)) (mss_cons (ms_set (i := 3) (ps_set (i := 3) sc_is_certificate.nd rfl (by first | exact .inl rfl | exact .inr rfl) (me_lst ma_nil)) (by decide))
    (mss_cons (ms_for (ps_for PassesOwn.never rfl (mi_seq (me_r (re_var (pv 1)))) (pg_name (i := 4) sc_is_certificate.nd rfl (by first | exact .inl rfl | exact .inr rfl)) (mss_one (ms_if (mt_r (rt_tru (reN na_isi (pe_callB call_isi (by rfl) T.z_isinstance bb_isinstance (ra_cons (re_var (pv 4)) (ra_cons (re_ty bb_tuple (by rfl) T.z_tuple) ra_nil)))))) (mss_cons (ms_if (mt_r (rt_2 bin_eq (pt_cmpR (op_eqD hr.units) (re_var (pv 2)) re_int (nomark _)))) (mss_one (ms_ret (me_r re_bl))) mss_nil)
    (mss_one (ms_expr (me_mut lm_extend (pe_bm PySem.F.plainAttrs_list PySem.F.slot_list_extend PySem.F.type_list_extend mt_extendG (pv 3) (ma_cons (me_r (reN na_list (pe_callTy call_list_of (by rfl) T.z_list bb_list (ra_cons (re_var (pv 4)) ra_nil)))) ma_nil)))))) (mss_one (ms_if (mt_r ((rw_and (rt_not (rt_tru (re_call (pe_call (ok_is_whole T) (hr.mono (by decide)) (by rfl) T.g_is_whole T.F_is_whole.kp T.b_is_whole .nil pass0 (ra_cons (re_var (pv 4)) ra_nil)) (.cons .nil)))) (rw_and1 (rt_not (rt_tru (re_call (pe_call (ok_is_word T) (hr.mono (by decide)) (by rfl) T.g_is_word T.F_is_word.kp T.b_is_word .nil pass0 (ra_cons (re_var (pv 4)) ra_nil)) (.cons .nil))))))).pt) (mss_one (ms_ret (me_r re_bl))) mss_nil))))) (gok_name (i := 4) (by decide)))
    (mss_one (ms_set (i := 1) (ps_set (i := 1) sc_is_certificate.nd rfl (by first | exact .inl rfl | exact .inr rfl) (me_r (reN na_list (pe_callTy call_list_of (by rfl) T.z_list bb_list (ra_cons (re_var (pv 3)) ra_nil))))) (by decide)))))) (gok_name (i := 2) (by decide)))
    (mss_one (ms_ret (me_r re_bl))))))
set_option maxHeartbeats 4000000 in
theorem ok__law_asked (T : Tx K mg) : FnOk P w K mg base CX0 4 T.f__law_asked T.d__law_asked ["value", "count"] (spM K mg 2 m__law_asked) :=
  fn_mir (N := N__law_asked) (ps := ["value", "count"]) (k := 3) (body := b__law_asked) (fx := []) T.F__law_asked sc__law_asked (fun cdv A outer s H E hr =>
    (mss_cons (ms_set (i := 2) (ps_set (i := 2) sc__law_asked.nd rfl (by first | exact .inl rfl | exact .inr rfl) (me_r (re_call (pe_call (ok__law_are_integers T) (hr.mono (by decide)) (by rfl) T.g__law_are_integers T.F__law_are_integers.kp T.b__law_are_integers .nil pass0 (ra_cons (re_var (pv 0)) (ra_cons (re2 bin_add (pe_op op_addM (re_var (pv 1)) re_int)) ra_nil))) (.cons (.cons .nil))))) (by decide))
    (mss_cons (ms_set (i := 3) (ps_set (i := 3) sc__law_asked.nd rfl (by first | exact .inl rfl | exact .inr rfl) (me_lst (ma_cons (me_r (re_call (pe_call (ok__law_are_integers T) (hr.mono (by decide)) (by rfl) T.g__law_are_integers T.F__law_are_integers.kp T.b__law_are_integers .nil pass0 (ra_cons (re_tup (ra_cons (re_var (pv 0)) ra_nil)) (ra_cons re_int ra_nil))) (.cons (.cons .nil)))) (ma_cons (me_r (re_call (pe_call (ok__law_are_integers T) (hr.mono (by decide)) (by rfl) T.g__law_are_integers T.F__law_are_integers.kp T.b__law_are_integers .nil pass0 (ra_cons (re_var (pv 0)) (ra_cons (re_var (pv 1)) ra_nil))) (.cons (.cons .nil)))) ma_nil)))) (by decide))
    (mss_cons (ms_expr (me_mut lm_append (pe_bm PySem.F.plainAttrs_list PySem.F.slot_list_append PySem.F.type_list_append mt_append (pv 3) (ma_cons (me_r (re_and (re_var (pv 2)) (re_one (re2 bin_cmp (pe_cmpR op_ge (re2 bin_ix (pe_ix ix_seq (re_var (pv 0)) (re_var (pv 1)) (fun _ _ => rfl))) re_int (nomark _)))))) ma_nil))))
    (mss_cons (ms_expr (me_mut lm_append (pe_bm PySem.F.plainAttrs_list PySem.F.slot_list_append PySem.F.type_list_append mt_append (pv 3) (ma_cons (me_r (re_and (re_var (pv 2)) (re_and (re2 bin_eq (pe_cmpR (op_eqD hr.units) (re2 bin_ix (pe_ix ix_seq (re_var (pv 0)) (re_var (pv 1)) (fun _ _ => rfl))) re_int (nomark _))) (re_one (re2 bin_cmp (pe_cmpR op_gt (reN na_len (pe_callB call_len (by rfl) T.z_len bb_len (ra_cons (re_lc (pe_lc (own := [("each", 5)]) (g := (gName 5)) rfl sc__law_asked.nd (ri_seq (re_var (pv 0))) (blkOk_by (own := [("each", 5)]) (N := N__law_asked) (sc := defScope s__law_asked) (by decide +kernel)) (fun _ _ _ _ _ => (pg_name (i := 5) sc__law_asked.nd rfl (by first | exact .inl rfl | exact .inr rfl))) (fun _ _ _ _ _ => (pts_one (rt_2 bin_ne (pt_cmpR (op_neD hr.units) (re_var (pv 5)) re_int (nomark _))))) (fun _ _ _ _ _ => (re_var (pv 5)))) (fun fx h => (gok_name (h 5 (by decide))))) ra_nil))) re_int (nomark _))))))) ma_nil))))
    (mss_cons (ms_expr (me_mut lm_append (pe_bm PySem.F.plainAttrs_list PySem.F.slot_list_append PySem.F.type_list_append mt_append (pv 3) (ma_cons (me_r (re_and (re_var (pv 2)) (re_one (re2 bin_eq (pe_cmpR (op_eqD hr.units) (reN na_len (pe_callB call_len (by rfl) T.z_len bb_len (ra_cons (re_lc (pe_lc (own := [("each", 5)]) (g := (gName 5)) rfl sc__law_asked.nd (ri_seq (re_var (pv 0))) (blkOk_by (own := [("each", 5)]) (N := N__law_asked) (sc := defScope s__law_asked) (by decide +kernel)) (fun _ _ _ _ _ => (pg_name (i := 5) sc__law_asked.nd rfl (by first | exact .inl rfl | exact .inr rfl))) (fun _ _ _ _ _ => (pts_one (rt_2 bin_cmp (pt_cmpR op_lt (re_var (pv 5)) re_int (nomark _))))) (fun _ _ _ _ _ => (re_var (pv 5)))) (fun fx h => (gok_name (h 5 (by decide))))) ra_nil))) re_int (nomark _)))))) ma_nil))))
    (mss_cons (ms_expr (me_mut lm_append (pe_bm PySem.F.plainAttrs_list PySem.F.slot_list_append PySem.F.type_list_append mt_append (pv 3) (ma_cons (me_r (re_and (re2 bin_ix (pe_ix ix_seq (re_var (pv 3)) re_int (fun _ _ => rfl))) (re_one (re2 bin_eq (pe_cmpR (op_eqD hr.units) (reN na_len (pe_callB call_len (by rfl) T.z_len bb_len (ra_cons (re_lc (pe_lc (own := [("each", 5)]) (g := (gName 5)) rfl sc__law_asked.nd (ri_seq (re_var (pv 0))) (blkOk_by (own := [("each", 5)]) (N := N__law_asked) (sc := defScope s__law_asked) (by decide +kernel)) (fun _ _ _ _ _ => (pg_name (i := 5) sc__law_asked.nd rfl (by first | exact .inl rfl | exact .inr rfl))) (fun _ _ _ _ _ => (pts_one (rt_2 bin_in (pt_cmpR (op_ninM (u65 hr)) (re_var (pv 5)) (re_lst (ra_cons re_int (ra_cons (re_konst (d := .int (-1)) (fun _ => rfl) (re1 un_negM (pe_un un_neg re_int))) ra_nil))) rfl)))) (fun _ _ _ _ _ => (re_var (pv 5)))) (fun fx h => (gok_name (h 5 (by decide))))) ra_nil))) re_int (nomark _)))))) ma_nil))))
    (mss_cons (ms_set (i := 3) (ps_set (i := 3) sc__law_asked.nd rfl (by first | exact .inl rfl | exact .inr rfl) (me2 bin_add (pe_op op_addM (me_var (pv 3)) (me_r (re_lst (ra_cons (re_call (pe_call (ok__law_is_word T) (hr.mono (by decide)) (by rfl) T.g__law_is_word T.F__law_is_word.kp T.b__law_is_word .nil pass0 (ra_cons (re_var (pv 0)) ra_nil)) (.cons .nil)) (ra_cons re_bl ra_nil))))))) (by decide))
    (mss_cons (ms_set (i := 4) (ps_set (i := 4) sc__law_asked.nd rfl (by first | exact .inl rfl | exact .inr rfl) (me_r (re_lst (ra_cons (re_call (pe_call (ok_is_whole T) (hr.mono (by decide)) (by rfl) T.g_is_whole T.F_is_whole.kp T.b_is_whole .nil pass0 (ra_cons (re_var (pv 0)) ra_nil)) (.cons .nil)) (ra_cons (re_call (pe_call (ok_is_wholes T) (hr.mono (by decide)) (by rfl) T.g_is_wholes T.F_is_wholes.kp T.b_is_wholes .nil pass0 (ra_cons (re_var (pv 0)) (ra_cons (re_var (pv 1)) ra_nil))) (.cons (.cons .nil))) (ra_cons (re_call (pe_call (ok_is_point T) (hr.mono (by decide)) (by rfl) T.g_is_point T.F_is_point.kp T.b_is_point .nil pass0 (ra_cons (re_var (pv 0)) (ra_cons (re_var (pv 1)) ra_nil))) (.cons (.cons .nil))) (ra_cons (re_call (pe_call (ok_is_direction T) (hr.mono (by decide)) (by rfl) T.g_is_direction T.F_is_direction.kp T.b_is_direction .nil pass0 (ra_cons (re_var (pv 0)) (ra_cons (re_var (pv 1)) ra_nil))) (.cons (.cons .nil))) ra_nil))))))) (by decide))
    (mss_cons (ms_set (i := 4) (ps_set (i := 4) sc__law_asked.nd rfl (by first | exact .inl rfl | exact .inr rfl) (me_r (re2 bin_add (pe_op op_addM (re_var (pv 4)) (re_lst (ra_cons (re_call (pe_call (ok_is_weights T) (hr.mono (by decide)) (by rfl) T.g_is_weights T.F_is_weights.kp T.b_is_weights .nil pass0 (ra_cons (re_var (pv 0)) (ra_cons (re_var (pv 1)) ra_nil))) (.cons (.cons .nil))) (ra_cons (re_call (pe_call (ok_is_signs T) (hr.mono (by decide)) (by rfl) T.g_is_signs T.F_is_signs.kp T.b_is_signs .nil pass0 (ra_cons (re_var (pv 0)) (ra_cons (re_var (pv 1)) ra_nil))) (.cons (.cons .nil))) (ra_cons (re_call (pe_call (ok_is_word T) (hr.mono (by decide)) (by rfl) T.g_is_word T.F_is_word.kp T.b_is_word .nil pass0 (ra_cons (re_var (pv 0)) ra_nil)) (.cons .nil)) (ra_cons (re_call (pe_call (ok_is_certificate T) (hr.mono (by decide)) (by rfl) T.g_is_certificate T.F_is_certificate.kp T.b_is_certificate .nil pass0 (ra_cons (re_var (pv 0)) ra_nil)) (.cons .nil)) ra_nil))))))))) (by decide))
    (mss_one (ms_ret (me_r (re_call (pe_call (ok__law_are_truths T) (hr.mono (by decide)) (by rfl) T.g__law_are_truths T.F__law_are_truths.kp T.b__law_are_truths .nil pass0 (ra_cons (re_var (pv 4)) (ra_cons (re_var (pv 3)) ra_nil))) (.cons (.cons .nil))))))))))))))))
set_option maxHeartbeats 4000000 in
theorem ok__law_word (T : Tx K mg) : FnOk P w K mg base CX0 2 T.f__law_word T.d__law_word ["state", "longest"] (spM K mg 2 m__law_word) :=
  fn_mir (N := N__law_word) (ps := ["state", "longest"]) (k := 1) (body := b__law_word) (fx := [0]) T.F__law_word sc__law_word (fun cdv A outer s H E hr =>
    (mss_cons (ms_set (i := 2) (ps_set (i := 2) sc__law_word.nd rfl (by first | exact .inl rfl | exact .inr rfl) (me_r re_str)) (by decide))
    (mss_cons (ms_for (ps_for PassesOwn.never rfl (mi_src src_rng1 (pi_range1 (by rfl) T.z_range (ma_cons (me2 bin_add (pe_op op_addM (me_call (pe_call (ok__law_pick T) (hr.mono (by decide)) (by rfl) T.g__law_pick T.F__law_pick.kp T.b__law_pick .nil pass0 (mp_slot (pv 0) (mp_val (me_r (re_var (pv 1))) mp_nil))) (PLen.slot (PLen.val PLen.nil))) (me_r re_int))) ma_nil))) (pg_name (i := 3) sc__law_word.nd rfl (by first | exact .inl rfl | exact .inr rfl)) (mss_one (ms_set (i := 2) (ps_set (i := 2) sc__law_word.nd rfl (by first | exact .inl rfl | exact .inr rfl) (me_fz (me2 bin_add (pe_op op_addM (me_r (re_var (pv 2))) (me2 bin_ix (pe_ix ix_seq (me_r re_str) (me_call (pe_call (ok__law_pick T) (hr.mono (by decide)) (by rfl) T.g__law_pick T.F__law_pick.kp T.b__law_pick .nil pass0 (mp_slot (pv 0) (mp_val (me_r re_int) mp_nil))) (PLen.slot (PLen.val PLen.nil))) (fun _ _ => rfl))))))) (by decide)))) (gok_name (i := 3) (by decide)))
    (mss_one (ms_ret (me_r (re_var (pv 2))))))))
set_option maxHeartbeats 4000000 in
theorem ok__law_strings (T : Tx K mg) : FnOk P w K mg base CX0 3 T.f__law_strings T.d__law_strings ["state"] (spM K mg 1 m__law_strings) :=
  fn_mir (N := N__law_strings) (ps := ["state"]) (k := 2) (body := b__law_strings) (fx := [0]) T.F__law_strings sc__law_strings (fun cdv A outer s H E hr =>
    (mss_cons (ms_set (i := 1) (ps_set (i := 1) sc__law_strings.nd rfl (by first | exact .inl rfl | exact .inr rfl) (me_fz (me_call (pe_call (ok__law_word T) (hr.mono (by decide)) (by rfl) T.g__law_word T.F__law_word.kp T.b__law_word .nil pass0 (mp_slot (pv 0) (mp_val (me_r re_int) mp_nil))) (PLen.slot (PLen.val PLen.nil))))) (by decide))
    (mss_cons (ms_set (i := 2) (ps_set (i := 2) sc__law_strings.nd rfl (by first | exact .inl rfl | exact .inr rfl) (me_fz (me_call (pe_call (ok__law_pick T) (hr.mono (by decide)) (by rfl) T.g__law_pick T.F__law_pick.kp T.b__law_pick .nil pass0 (mp_slot (pv 0) (mp_val (me_r (reN na_len (pe_callB call_len (by rfl) T.z_len bb_len (ra_cons (re_var (pv 1)) ra_nil)))) mp_nil))) (PLen.slot (PLen.val PLen.nil))))) (by decide))
    (mss_cons (ms_set (i := 3) (ps_set (i := 3) sc__law_strings.nd rfl (by first | exact .inl rfl | exact .inr rfl) (me_fz (me2 bin_ix (pe_ix ix_seq (me_r re_str) (me_call (pe_call (ok__law_pick T) (hr.mono (by decide)) (by rfl) T.g__law_pick T.F__law_pick.kp T.b__law_pick .nil pass0 (mp_slot (pv 0) (mp_val (me_r re_int) mp_nil))) (PLen.slot (PLen.val PLen.nil))) (fun _ _ => rfl))))) (by decide))
    (mss_cons (ms_set (i := 4) (ps_set (i := 4) sc__law_strings.nd rfl (by first | exact .inl rfl | exact .inr rfl) (me_r (re_lst (ra_cons re_str (ra_cons (re_var (pv 1)) (ra_cons (re2 bin_add (pe_op op_addM (re2 bin_add (pe_op op_addM (re_sl (re_var (pv 1)) ro_none (ro_some (re_var (pv 2)))) (re_var (pv 3)))) (re_sl (re_var (pv 1)) (ro_some (re2 bin_add (pe_op op_addM (re_var (pv 2)) re_int))) ro_none))) (ra_cons (re2 bin_add (pe_op op_addM (re_var (pv 1)) (re_var (pv 3)))) (ra_cons (re2 bin_add (pe_op op_addM (re_var (pv 3)) (re_var (pv 1)))) (ra_cons (re_sl (re2 bin_mul (pe_op op_mulM (re_var (pv 1)) re_int)) ro_none (ro_some re_int)) ra_nil))))))))) (by decide))
    (mss_cons (ms_set (i := 4) (ps_set (i := 4) sc__law_strings.nd rfl (by first | exact .inl rfl | exact .inr rfl) (me_r (re2 bin_add (pe_op op_addM (re_var (pv 4)) (re_lst (ra_cons (re_sl (re2 bin_mul (pe_op op_mulM (re_var (pv 1)) re_int)) ro_none (ro_some re_int)) (ra_cons (re_sl (re_var (pv 1)) ro_none (ro_some (re2 bin_add (pe_op op_addM (re_var (pv 2)) re_int)))) (ra_cons (re_var (pv 3)) ra_nil)))))))) (by decide))
    (mss_cons (ms_for (ps_for PassesOwn.never rfl (mi_seq (me_r (re_var (pv 4)))) (pg_name (i := 5) sc__law_strings.nd rfl (by first | exact .inl rfl | exact .inr rfl)) (mss_cons (ms_set (i := 6) (ps_set (i := 6) sc__law_strings.nd rfl (by first | exact .inl rfl | exact .inr rfl) (me_r (re_call (pe_call (ok__law_is_word T) (hr.mono (by decide)) (by rfl) T.g__law_is_word T.F__law_is_word.kp T.b__law_is_word .nil pass0 (ra_cons (re_var (pv 5)) ra_nil)) (.cons .nil)))) (by decide))
    (mss_one (ms_if (mt_r (rt_not (rt_tru (re_call (pe_call (ok__law_are_truths T) (hr.mono (by decide)) (by rfl) T.g__law_are_truths T.F__law_are_truths.kp T.b__law_are_truths .nil pass0 (ra_cons (re_lst (ra_cons (re_call (pe_call (ok_is_word T) (hr.mono (by decide)) (by rfl) T.g_is_word T.F_is_word.kp T.b_is_word .nil pass0 (ra_cons (re_var (pv 5)) ra_nil)) (.cons .nil)) (ra_cons (re_call (pe_call (ok_is_certificate T) (hr.mono (by decide)) (by rfl) T.g_is_certificate T.F_is_certificate.kp T.b_is_certificate .nil pass0 (ra_cons (re_var (pv 5)) ra_nil)) (.cons .nil)) (ra_cons (re_call (pe_call (ok_is_certificate T) (hr.mono (by decide)) (by rfl) T.g_is_certificate T.F_is_certificate.kp T.b_is_certificate .nil pass0 (ra_cons (re_tup (ra_cons re_int (ra_cons (re_var (pv 5)) ra_nil))) ra_nil)) (.cons .nil)) ra_nil)))) (ra_cons (re_lst (ra_cons (re_var (pv 6)) (ra_cons (re_var (pv 6)) (ra_cons (re_var (pv 6)) ra_nil)))) ra_nil))) (.cons (.cons .nil)))))) (mss_one (ms_ret (me_r re_bl))) mss_nil)))) (gok_name (i := 5) (by decide)))
    (mss_one (ms_ret (me_r re_bl))))))))))
set_option maxHeartbeats 4000000 in
theorem ok__law_parts (T : Tx K mg) : FnOk P w K mg base CX0 3 T.f__law_parts T.d__law_parts ["state"] (spM K mg 1 m__law_parts) :=
  fn_mir (N := N__law_parts) (ps := ["state"]) (k := 2) (body := b__law_parts) (fx := [0]) T.F__law_parts sc__law_parts (fun cdv A outer s H E hr =>
    (mss_cons (ms_set (i := 1) (ps_set (i := 1) sc__law_parts.nd rfl (by first | exact .inl rfl | exact .inr rfl) (me_lst ma_nil)) (by decide))
    (mss_cons (ms_for (ps_for PassesOwn.never rfl (mi_src src_rng1 (pi_range1 (by rfl) T.z_range (ma_cons (me_call (pe_call (ok__law_pick T) (hr.mono (by decide)) (by rfl) T.g__law_pick T.F__law_pick.kp T.b__law_pick .nil pass0 (mp_slot (pv 0) (mp_val (me_r re_int) mp_nil))) (PLen.slot (PLen.val PLen.nil))) ma_nil))) (pg_name (i := 2) sc__law_parts.nd rfl (by first | exact .inl rfl | exact .inr rfl)) (mss_one (ms_expr (me_mut lm_append (pe_bm PySem.F.plainAttrs_list PySem.F.slot_list_append PySem.F.type_list_append mt_append (pv 1) (ma_cons (me2 bin_ix (pe_ix ix_seq (me_lst (ma_cons (me_call (pe_call (ok__law_number T) (hr.mono (by decide)) (by rfl) T.g__law_number T.F__law_number.kp T.b__law_number .nil pass0 (mp_slot (pv 0) mp_nil)) (PLen.slot PLen.nil)) (ma_cons (me_call (pe_call (ok__law_word T) (hr.mono (by decide)) (by rfl) T.g__law_word T.F__law_word.kp T.b__law_word .nil pass0 (mp_slot (pv 0) (mp_val (me_r re_int) mp_nil))) (PLen.slot (PLen.val PLen.nil))) (ma_cons (me_r (re_tup ra_nil)) (ma_cons (me_r re_int) ma_nil))))) (me_call (pe_call (ok__law_pick T) (hr.mono (by decide)) (by rfl) T.g__law_pick T.F__law_pick.kp T.b__law_pick .nil pass0 (mp_slot (pv 0) (mp_val (me_r re_int) mp_nil))) (PLen.slot (PLen.val PLen.nil))) (fun _ _ => rfl))) ma_nil)))))) (gok_name (i := 2) (by decide)))
    (mss_one (ms_ret (me_move (pv 1)))))))
set_option maxHeartbeats 4000000 in
theorem ok__law_wrapped (T : Tx K mg) : FnOk P w K mg base CX0 4 T.f__law_wrapped T.d__law_wrapped ["state", "told", "deep"] (spM K mg 3 m__law_wrapped) :=
  fn_mir (N := N__law_wrapped) (ps := ["state", "told", "deep"]) (k := 3) (body := b__law_wrapped) (fx := [0]) T.F__law_wrapped sc__law_wrapped (fun cdv A outer s H E hr =>
    (mss_cons (ms_for (ps_for PassesOwn.never rfl (mi_src src_rng1 (pi_range1 (by rfl) T.z_range (ma_cons (me_r (re_var (pv 2))) ma_nil))) (pg_name (i := 3) sc__law_wrapped.nd rfl (by first | exact .inl rfl | exact .inr rfl)) (mss_cons (ms_set (i := 4) (ps_set (i := 4) sc__law_wrapped.nd rfl (by first | exact .inl rfl | exact .inr rfl) (me_fz (me_call (pe_call (ok__law_parts T) (hr.mono (by decide)) (by rfl) T.g__law_parts T.F__law_parts.kp T.b__law_parts .nil pass0 (mp_slot (pv 0) mp_nil)) (PLen.slot PLen.nil)))) (by decide))
    (mss_cons (ms_set (i := 5) (ps_set (i := 5) sc__law_wrapped.nd rfl (by first | exact .inl rfl | exact .inr rfl) (me_fz (me_call (pe_call (ok__law_pick T) (hr.mono (by decide)) (by rfl) T.g__law_pick T.F__law_pick.kp T.b__law_pick .nil pass0 (mp_slot (pv 0) (mp_val (me_r (re2 bin_add (pe_op op_addM (reN na_len (pe_callB call_len (by rfl) T.z_len bb_len (ra_cons (re_var (pv 4)) ra_nil))) re_int))) mp_nil))) (PLen.slot (PLen.val PLen.nil))))) (by decide))
    (mss_one (ms_set (i := 1) (ps_set (i := 1) sc__law_wrapped.nd rfl (by first | exact .inl rfl | exact .inr rfl) (me_r (reN na_tuple (pe_callTy call_tuple_of (by rfl) T.z_tuple bb_tuple (ra_cons (re2 bin_add (pe_op op_addM (re2 bin_add (pe_op op_addM (re_sl (re_var (pv 4)) ro_none (ro_some (re_var (pv 5)))) (re_lst (ra_cons (re_var (pv 1)) ra_nil)))) (re_sl (re_var (pv 4)) (ro_some (re_var (pv 5))) ro_none))) ra_nil))))) (by decide)))))) (gok_name (i := 3) (by decide)))
    (mss_one (ms_ret (me_r (re_var (pv 1)))))))
set_option maxHeartbeats 4000000 in
theorem ok__law_is_nested (T : Tx K mg) : FnOk P w K mg base CX0 2 T.f__law_is_nested T.d__law_is_nested ["value"] (spM K mg 1 m__law_is_nested) :=
  fn_mir (N := N__law_is_nested) (ps := ["value"]) (k := 1) (body := b__law_is_nested) (fx := []) T.F__law_is_nested sc__law_is_nested (fun cdv A outer s H E hr =>
    (mss_cons (ms_set (i := 1) (ps_set (i := 1) sc__law_is_nested.nd rfl (by first | exact .inl rfl | exact .inr rfl) (me_r (re_lst (ra_cons (re_var (pv 0)) ra_nil)))) (by decide))
    (mss_cons (ms_for (ps_for PassesOwn.never rfl (mi_src src_rng1 (pi_range1 (by rfl) T.z_range (ma_cons (me_r re_int) ma_nil))) (pg_name (i := 2) sc__law_is_nested.nd rfl (by first | exact .inl rfl | exact .inr rfl)) (mss_cons (ms_set (i := 3) (ps_set (i := 3) sc__law_is_nested.nd rfl (by first | exact .inl rfl | exact .inr rfl) (me_r (re_lst ra_nil))) (by decide))
    (mss_cons (ms_for (ps_for PassesOwn.never rfl (mi_seq (me_r (re_var (pv 1)))) (pg_name (i := 4) sc__law_is_nested.nd rfl (by first | exact .inl rfl | exact .inr rfl)) (mss_one (ms_if (mt_r (rt_tru (reN na_isi (pe_callB call_isi (by rfl) T.z_isinstance bb_isinstance (ra_cons (re_var (pv 4)) (ra_cons (re_ty bb_tuple (by rfl) T.z_tuple) ra_nil)))))) (mss_cons (ms_if (mt_r (rt_2 bin_cmp (pt_cmpR op_gt (re_var (pv 2)) re_int (nomark _)))) (mss_one (ms_ret (me_r re_bl))) mss_nil)
    (mss_one (ms_set (i := 3) (ps_set (i := 3) sc__law_is_nested.nd rfl (by first | exact .inl rfl | exact .inr rfl) (me_r (re2 bin_add (pe_op op_addM (re_var (pv 3)) (reN na_list (pe_callTy call_list_of (by rfl) T.z_list bb_list (ra_cons (re_var (pv 4)) ra_nil))))))) (by decide)))) (mss_one (ms_if (mt_r ((rw_and (rt_not (rt_tru (re_call (pe_call (ok__law_are_integers T) (hr.mono (by decide)) (by rfl) T.g__law_are_integers T.F__law_are_integers.kp T.b__law_are_integers .nil pass0 (ra_cons (re_tup (ra_cons (re_var (pv 4)) ra_nil)) (ra_cons re_int ra_nil))) (.cons (.cons .nil))))) (rw_and1 (rt_not (rt_tru (re_call (pe_call (ok__law_is_word T) (hr.mono (by decide)) (by rfl) T.g__law_is_word T.F__law_is_word.kp T.b__law_is_word .nil pass0 (ra_cons (re_var (pv 4)) ra_nil)) (.cons .nil))))))).pt) (mss_one (ms_ret (me_r re_bl))) mss_nil))))) (gok_name (i := 4) (by decide)))
    (mss_one (ms_set (i := 1) (ps_set (i := 1) sc__law_is_nested.nd rfl (by first | exact .inl rfl | exact .inr rfl) (me_r (reN na_list (pe_callTy call_list_of (by rfl) T.z_list bb_list (ra_cons (re_var (pv 3)) ra_nil))))) (by decide)))))) (gok_name (i := 2) (by decide)))
    (mss_one (ms_ret (me_r re_bl))))))
set_option maxHeartbeats 4000000 in
theorem ok__law_nested (T : Tx K mg) : FnOk P w K mg base CX0 5 T.f__law_nested T.d__law_nested ["state"] (spM K mg 1 m__law_nested) :=
  fn_mir (N := N__law_nested) (ps := ["state"]) (k := 4) (body := b__law_nested) (fx := [0]) T.F__law_nested sc__law_nested (fun cdv A outer s H E hr =>
    (mss_cons (ms_set (i := 1) (ps_set (i := 1) sc__law_nested.nd rfl (by first | exact .inl rfl | exact .inr rfl) (me_fz (me_call (pe_call (ok__law_wrapped T) (hr.mono (by decide)) (by rfl) T.g__law_wrapped T.F__law_wrapped.kp T.b__law_wrapped .nil pass0 (mp_slot (pv 0) (mp_val (me_fz (me2 bin_ix (pe_ix ix_seq (me_r (re_lst (ra_cons (re_tup ra_nil) (ra_cons (re_tup (ra_cons re_int ra_nil)) (ra_cons (re_tup (ra_cons re_str ra_nil)) ra_nil))))) (me_call (pe_call (ok__law_pick T) (hr.mono (by decide)) (by rfl) T.g__law_pick T.F__law_pick.kp T.b__law_pick .nil pass0 (mp_slot (pv 0) (mp_val (me_r re_int) mp_nil))) (PLen.slot (PLen.val PLen.nil))) (fun _ _ => rfl)))) (mp_val (me_r re_int) mp_nil)))) (PLen.slot (PLen.val (PLen.val PLen.nil)))))) (by decide))
    (mss_cons (ms_set (i := 2) (ps_set (i := 2) sc__law_nested.nd rfl (by first | exact .inl rfl | exact .inr rfl) (me_fz (me_call (pe_call (ok__law_wrapped T) (hr.mono (by decide)) (by rfl) T.g__law_wrapped T.F__law_wrapped.kp T.b__law_wrapped .nil pass0 (mp_slot (pv 0) (mp_val (me_fz (me2 bin_ix (pe_ix ix_seq (me_r (re_lst (ra_cons re_str (ra_cons re_str (ra_cons re_str (ra_cons re_str (ra_cons re_str (ra_cons re_int ra_nil)))))))) (me_call (pe_call (ok__law_pick T) (hr.mono (by decide)) (by rfl) T.g__law_pick T.F__law_pick.kp T.b__law_pick .nil pass0 (mp_slot (pv 0) (mp_val (me_r re_int) mp_nil))) (PLen.slot (PLen.val PLen.nil))) (fun _ _ => rfl)))) (mp_val (me_fz (me_call (pe_call (ok__law_pick T) (hr.mono (by decide)) (by rfl) T.g__law_pick T.F__law_pick.kp T.b__law_pick .nil pass0 (mp_slot (pv 0) (mp_val (me_r re_int) mp_nil))) (PLen.slot (PLen.val PLen.nil)))) mp_nil)))) (PLen.slot (PLen.val (PLen.val PLen.nil)))))) (by decide))
    (mss_cons (ms_for (ps_for PassesOwn.never rfl (mi_seq (me_fz (me_lst (ma_cons (me_r (re_var (pv 1))) (ma_cons (me_call (pe_call (ok__law_wrapped T) (hr.mono (by decide)) (by rfl) T.g__law_wrapped T.F__law_wrapped.kp T.b__law_wrapped .nil pass0 (mp_slot (pv 0) (mp_val (me_r (re_var (pv 1))) (mp_val (me_r re_int) mp_nil)))) (PLen.slot (PLen.val (PLen.val PLen.nil)))) (ma_cons (me_call (pe_call (ok__law_wrapped T) (hr.mono (by decide)) (by rfl) T.g__law_wrapped T.F__law_wrapped.kp T.b__law_wrapped .nil pass0 (mp_slot (pv 0) (mp_val (me_r (re_var (pv 1))) (mp_val (me_r re_int) mp_nil)))) (PLen.slot (PLen.val (PLen.val PLen.nil)))) (ma_cons (me_r (re_tup (ra_cons (re_var (pv 1)) (ra_cons re_int ra_nil)))) (ma_cons (me_r (re_var (pv 2))) (ma_cons (me_r (re_tup (ra_cons re_int (ra_cons (re_var (pv 2)) ra_nil)))) ma_nil))))))))) (pg_name (i := 3) sc__law_nested.nd rfl (by first | exact .inl rfl | exact .inr rfl)) (mss_cons (ms_set (i := 4) (ps_set (i := 4) sc__law_nested.nd rfl (by first | exact .inl rfl | exact .inr rfl) (me_r (re_call (pe_call (ok__law_is_nested T) (hr.mono (by decide)) (by rfl) T.g__law_is_nested T.F__law_is_nested.kp T.b__law_is_nested .nil pass0 (ra_cons (re_var (pv 3)) ra_nil)) (.cons .nil)))) (by decide))
    (mss_cons (ms_if (mt_r (rt_not (rt_tru (re_call (pe_call (ok__law_are_truths T) (hr.mono (by decide)) (by rfl) T.g__law_are_truths T.F__law_are_truths.kp T.b__law_are_truths .nil pass0 (ra_cons (re_lst (ra_cons (re_call (pe_call (ok_is_certificate T) (hr.mono (by decide)) (by rfl) T.g_is_certificate T.F_is_certificate.kp T.b_is_certificate .nil pass0 (ra_cons (re_var (pv 3)) ra_nil)) (.cons .nil)) ra_nil)) (ra_cons (re_lst (ra_cons (re_var (pv 4)) ra_nil)) ra_nil))) (.cons (.cons .nil)))))) (mss_one (ms_ret (me_r re_bl))) mss_nil)
    (mss_one (ms_if (mt_r ((rw_and (rt_tru (re_var (pv 4))) (rw_and (rt_tru (reN na_isi (pe_callB call_isi (by rfl) T.z_isinstance bb_isinstance (ra_cons (re_var (pv 3)) (ra_cons (re_ty bb_tuple (by rfl) T.z_tuple) ra_nil))))) (rw_and1 (rt_not (rt_tru (re_call (pe_call (ok__law_asked T) (hr.mono (by decide)) (by rfl) T.g__law_asked T.F__law_asked.kp T.b__law_asked .nil pass0 (ra_cons (re_var (pv 3)) (ra_cons (reN na_len (pe_callB call_len (by rfl) T.z_len bb_len (ra_cons (re_var (pv 3)) ra_nil))) ra_nil))) (.cons (.cons .nil))))))))).pt) (mss_one (ms_ret (me_r re_bl))) mss_nil))))) (gok_name (i := 3) (by decide)))
    (mss_one (ms_ret (me_r (re_call (pe_call (ok__law_is_nested T) (hr.mono (by decide)) (by rfl) T.g__law_is_nested T.F__law_is_nested.kp T.b__law_is_nested .nil pass0 (ra_cons (re_var (pv 1)) ra_nil)) (.cons .nil)))))))))
set_option maxHeartbeats 4000000 in
theorem ok_is_headed (T : Tx K mg) : FnOk P w K mg base CX0 1 T.f_is_headed T.d_is_headed ["value", "word", "count"] (spM K mg 3 m_is_headed) :=
  fn_mir (N := N_is_headed) (ps := ["value", "word", "count"]) (k := 0) (body := b_is_headed) (fx := []) T.F_is_headed sc_is_headed (fun cdv A outer s H E hr =>
    (mss_one (ms_ret (me_r (re_and (reN na_isi (pe_callB call_isi (by rfl) T.z_isinstance bb_isinstance (ra_cons (re_var (pv 0)) (ra_cons (re_ty bb_tuple (by rfl) T.z_tuple) ra_nil)))) (re_and (re2 bin_eq (pe_cmpR (op_eqD hr.units) (reN na_len (pe_callB call_len (by rfl) T.z_len bb_len (ra_cons (re_var (pv 0)) ra_nil))) (re_var (pv 2)) (nomark _))) (re_and (re2 bin_cmp (pe_cmpR op_gt (re_var (pv 2)) re_int (nomark _))) (re_one (re2 bin_eq (pe_cmpR (op_eqD hr.units) (re2 bin_ix (pe_ix ix_seq (re_var (pv 0)) re_int (fun _ _ => rfl))) (re_var (pv 1)) (nomark _)))))))))))
set_option maxHeartbeats 4000000 in
theorem ok__law_heads (T : Tx K mg) : FnOk P w K mg base CX0 5 T.f__law_heads T.d__law_heads ["state", "value"] (spM K mg 2 m__law_heads) :=
  fn_mir (N := N__law_heads) (ps := ["state", "value"]) (k := 4) (body := b__law_heads) (fx := [0]) T.F__law_heads sc__law_heads (fun cdv A outer s H E hr =>
    (mss_cons (ms_set (i := 2) (ps_set (i := 2) sc__law_heads.nd rfl (by first | exact .inl rfl | exact .inr rfl) (me_fz (me_call (pe_call (ok__law_word T) (hr.mono (by decide)) (by rfl) T.g__law_word T.F__law_word.kp T.b__law_word .nil pass0 (mp_slot (pv 0) (mp_val (me_r re_int) mp_nil))) (PLen.slot (PLen.val PLen.nil))))) (by decide))
    (mss_cons (ms_set (i := 3) (ps_set (i := 3) sc__law_heads.nd rfl (by first | exact .inl rfl | exact .inr rfl) (me_fz (me_call (pe_call (ok__law_pick T) (hr.mono (by decide)) (by rfl) T.g__law_pick T.F__law_pick.kp T.b__law_pick .nil pass0 (mp_slot (pv 0) (mp_val (me_r (reN na_len (pe_callB call_len (by rfl) T.z_len bb_len (ra_cons (re_var (pv 2)) ra_nil)))) mp_nil))) (PLen.slot (PLen.val PLen.nil))))) (by decide))
    (mss_cons (ms_set (i := 4) (ps_set (i := 4) sc__law_heads.nd rfl (by first | exact .inl rfl | exact .inr rfl) (me_fz (me2 bin_add (pe_op op_addM (me2 bin_add (pe_op op_addM (me_r (re_sl (re_var (pv 2)) ro_none (ro_some (re_var (pv 3))))) (me2 bin_ix (pe_ix ix_seq (me_r re_str) (me_call (pe_call (ok__law_pick T) (hr.mono (by decide)) (by rfl) T.g__law_pick T.F__law_pick.kp T.b__law_pick .nil pass0 (mp_slot (pv 0) (mp_val (me_r re_int) mp_nil))) (PLen.slot (PLen.val PLen.nil))) (fun _ _ => rfl))))) (me_r (re_sl (re_var (pv 2)) (ro_some (re2 bin_add (pe_op op_addM (re_var (pv 3)) re_int))) ro_none)))))) (by decide))
    (mss_cons (ms_set (i := 5) (ps_set (i := 5) sc__law_heads.nd rfl (by first | exact .inl rfl | exact .inr rfl) (me_r (re2 bin_add (pe_op op_addM (re_tup (ra_cons (re_var (pv 2)) ra_nil)) (re_var (pv 1)))))) (by decide))
    (mss_cons (ms_set (i := 6) (ps_set (i := 6) sc__law_heads.nd rfl (by first | exact .inl rfl | exact .inr rfl) (me_r (reN na_len (pe_callB call_len (by rfl) T.z_len bb_len (ra_cons (re_var (pv 5)) ra_nil))))) (by decide))
    (mss_cons (ms_set (i := 7) (ps_set (i := 7) sc__law_heads.nd rfl (by first | exact .inl rfl | exact .inr rfl) (me_r (re_lst (ra_cons (re_tup (ra_cons (re_var (pv 5)) (ra_cons (re_var (pv 2)) (ra_cons (re_var (pv 6)) ra_nil)))) (ra_cons (re_tup (ra_cons (re_var (pv 5)) (ra_cons (re_var (pv 2)) (ra_cons (re2 bin_add (pe_op op_addM (re_var (pv 6)) re_int)) ra_nil)))) (ra_cons (re_tup (ra_cons (re_var (pv 5)) (ra_cons (re_var (pv 2)) (ra_cons (re2 bin_sub (pe_op op_sub (re_var (pv 6)) re_int)) ra_nil)))) (ra_cons (re_tup (ra_cons (re_var (pv 5)) (ra_cons (re_var (pv 4)) (ra_cons (re_var (pv 6)) ra_nil)))) ra_nil))))))) (by decide))
    (mss_cons (ms_set (i := 7) (ps_set (i := 7) sc__law_heads.nd rfl (by first | exact .inl rfl | exact .inr rfl) (me_r (re2 bin_add (pe_op op_addM (re_var (pv 7)) (re_lst (ra_cons (re_tup (ra_cons (re_var (pv 5)) (ra_cons (re2 bin_add (pe_op op_addM (re_sl (re_var (pv 2)) ro_none (ro_some (re_var (pv 3)))) re_str)) (ra_cons (re_var (pv 6)) ra_nil)))) (ra_cons (re_tup (ra_cons (re2 bin_add (pe_op op_addM (re_tup (ra_cons (re_var (pv 5)) ra_nil)) (re_var (pv 1)))) (ra_cons (re_var (pv 2)) (ra_cons (re_var (pv 6)) ra_nil)))) (ra_cons (re_tup (ra_cons (re_var (pv 2)) (ra_cons (re_var (pv 2)) (ra_cons (reN na_len (pe_callB call_len (by rfl) T.z_len bb_len (ra_cons (re_var (pv 2)) ra_nil))) ra_nil)))) ra_nil)))))))) (by decide))
    (mss_cons (ms_set (i := 7) (ps_set (i := 7) sc__law_heads.nd rfl (by first | exact .inl rfl | exact .inr rfl) (me_r (re2 bin_add (pe_op op_addM (re_var (pv 7)) (re_lst (ra_cons (re_tup (ra_cons (re_sl (re_var (pv 2)) ro_none (ro_some re_int)) (ra_cons (re_sl (re_var (pv 2)) ro_none (ro_some re_int)) (ra_cons re_int ra_nil)))) (ra_cons (re_tup (ra_cons re_int (ra_cons (re_var (pv 2)) (ra_cons re_int ra_nil)))) (ra_cons (re_tup (ra_cons (re2 bin_add (pe_op op_addM (re_var (pv 1)) (re_tup (ra_cons (re_var (pv 2)) ra_nil)))) (ra_cons (re_var (pv 2)) (ra_cons (re_var (pv 6)) ra_nil)))) (ra_cons (re_tup (ra_cons (re_tup (ra_cons (re_var (pv 2)) ra_nil)) (ra_cons (re_var (pv 2)) (ra_cons re_int ra_nil)))) ra_nil))))))))) (by decide))
    (mss_cons (ms_for (ps_for PassesOwn.never rfl (mi_seq (me_r (re_var (pv 7)))) (pg_tl rfl (pgs_cons (pg_name (i := 8) sc__law_heads.nd rfl (by first | exact .inl rfl | exact .inr rfl)) (pgs_cons (pg_name (i := 9) sc__law_heads.nd rfl (by first | exact .inl rfl | exact .inr rfl)) (pgs_cons (pg_name (i := 10) sc__law_heads.nd rfl (by first | exact .inl rfl | exact .inr rfl)) pgs_nil)))) (mss_cons (ms_set (i := 11) (ps_set (i := 11) sc__law_heads.nd rfl (by first | exact .inl rfl | exact .inr rfl) (me_r (re_and (reN na_isi (pe_callB call_isi (by rfl) T.z_isinstance bb_isinstance (ra_cons (re_var (pv 8)) (ra_cons (re_ty bb_tuple (by rfl) T.z_tuple) ra_nil)))) (re_and (re2 bin_eq (pe_cmpR (op_eqD hr.units) (reN na_len (pe_callB call_len (by rfl) T.z_len bb_len (ra_cons (re_var (pv 8)) ra_nil))) (re_var (pv 10)) (nomark _))) (re_one (re2 bin_cmp (pe_cmpR op_gt (re_var (pv 10)) re_int (nomark _)))))))) (by decide))
    (mss_cons (ms_if (mt_r (rt_tru (re_var (pv 11)))) (mss_one (ms_set (i := 11) (ps_set (i := 11) sc__law_heads.nd rfl (by first | exact .inl rfl | exact .inr rfl) (me_r (re_and (reN na_isi (pe_callB call_isi (by rfl) T.z_isinstance bb_isinstance (ra_cons (re2 bin_ix (pe_ix ix_seq (re_var (pv 8)) re_int (fun _ _ => rfl))) (ra_cons (re_ty bb_str (by rfl) T.z_str) ra_nil)))) (re_one (re2 bin_eq (pe_cmpR (op_eqD hr.units) (re2 bin_ix (pe_ix ix_seq (re_var (pv 8)) re_int (fun _ _ => rfl))) (re_var (pv 9)) (nomark _))))))) (by decide))) mss_nil)
    (mss_one (ms_if (mt_r (rt_not (rt_tru (re_call (pe_call (ok__law_are_truths T) (hr.mono (by decide)) (by rfl) T.g__law_are_truths T.F__law_are_truths.kp T.b__law_are_truths .nil pass0 (ra_cons (re_lst (ra_cons (re_call (pe_call (ok_is_headed T) (hr.mono (by decide)) (by rfl) T.g_is_headed T.F_is_headed.kp T.b_is_headed .nil pass0 (ra_cons (re_var (pv 8)) (ra_cons (re_var (pv 9)) (ra_cons (re_var (pv 10)) ra_nil)))) (.cons (.cons (.cons .nil)))) ra_nil)) (ra_cons (re_lst (ra_cons (re_var (pv 11)) ra_nil)) ra_nil))) (.cons (.cons .nil)))))) (mss_one (ms_ret (me_r re_bl))) mss_nil))))) (gok_tup (n := 3) (gsok_cons (gok_name (i := 8) (by decide)) (gsok_cons (gok_name (i := 9) (by decide)) (gsok_cons (gok_name (i := 10) (by decide)) gsok_nil)))))
    (mss_one (ms_ret (me_r (re_and (re_call (pe_call (ok__law_asked T) (hr.mono (by decide)) (by rfl) T.g__law_asked T.F__law_asked.kp T.b__law_asked .nil pass0 (ra_cons (re_var (pv 5)) (ra_cons (re_var (pv 6)) ra_nil))) (.cons (.cons .nil))) (re_and (re_call (pe_call (ok__law_asked T) (hr.mono (by decide)) (by rfl) T.g__law_asked T.F__law_asked.kp T.b__law_asked .nil pass0 (ra_cons (re_var (pv 5)) (ra_cons (re2 bin_sub (pe_op op_sub (re_var (pv 6)) re_int)) ra_nil))) (.cons (.cons .nil))) (re_one (re_call (pe_call (ok__law_asked T) (hr.mono (by decide)) (by rfl) T.g__law_asked T.F__law_asked.kp T.b__law_asked .nil pass0 (ra_cons (re2 bin_add (pe_op op_addM (re_tup (ra_cons (re_var (pv 5)) ra_nil)) (re_var (pv 1)))) (ra_cons (re_var (pv 6)) ra_nil))) (.cons (.cons .nil)))))))))))))))))))
set_option maxHeartbeats 4000000 in
theorem ok_law (T : Tx K mg) : FnOk P w K mg base CX0 6 T.f_law T.d_law ["script"] (spM K mg 1 m_law) :=
  fn_mir (N := N_law) (ps := ["script"]) (k := 5) (body := b_law) (fx := []) T.F_law sc_law (fun cdv A outer s H E hr =>
    (mss_cons (ms_set (i := 1) (ps_set (i := 1) sc_law.nd rfl (by first | exact .inl rfl | exact .inr rfl) (me_lst ma_nil)) (by decide))
    (mss_cons (ms_for (ps_for PassesOwn.never rfl (mi_src src_rng1 (pi_range1 (by rfl) T.z_range (ma_cons (me_r re_int) ma_nil))) (pg_name (i := 2) sc_law.nd rfl (by first | exact .inl rfl | exact .inr rfl)) (mss_cons (ms_set (i := 3) (ps_set (i := 3) sc_law.nd rfl (by first | exact .inl rfl | exact .inr rfl) (me_call (pe_call (ok__law_state T) (hr.mono (by decide)) (by rfl) T.g__law_state T.F__law_state.kp T.b__law_state .nil pass0 (mp_val (me_r (re_var (pv 0))) (mp_val (me_r (re_var (pv 2))) mp_nil))) (PLen.val (PLen.val PLen.nil)))) (by decide))
    (mss_cons (ms_set (i := 4) (ps_set (i := 4) sc_law.nd rfl (by first | exact .inl rfl | exact .inr rfl) (me_fz (me2 bin_ix (pe_ix ix_seq (me_r (re_lst (ra_cons re_int (ra_cons re_int (ra_cons re_int (ra_cons re_int (ra_cons re_int (ra_cons re_int ra_nil)))))))) (me_call (pe_call (ok__law_pick T) (hr.mono (by decide)) (by rfl) T.g__law_pick T.F__law_pick.kp T.b__law_pick .nil pass0 (mp_slot (pv 3) (mp_val (me_r re_int) mp_nil))) (PLen.slot (PLen.val PLen.nil))) (fun _ _ => rfl))))) (by decide))
    (mss_cons (ms_set (i := 5) (ps_set (i := 5) sc_law.nd rfl (by first | exact .inl rfl | exact .inr rfl) (me_fz (me_call (pe_call (ok__law_right T) (hr.mono (by decide)) (by rfl) T.g__law_right T.F__law_right.kp T.b__law_right .nil pass0 (mp_slot (pv 3) (mp_val (me_r (re_var (pv 2))) (mp_val (me_r (re_var (pv 4))) mp_nil)))) (PLen.slot (PLen.val (PLen.val PLen.nil)))))) (by decide))
    (mss_cons (ms_expr (me_mut lm_append (pe_bm PySem.F.plainAttrs_list PySem.F.slot_list_append PySem.F.type_list_append mt_append (pv 1) (ma_cons (me_r (re_lst (ra_cons (re_var (pv 5)) (ra_cons (re_var (pv 4)) ra_nil)))) ma_nil))))
    (mss_cons (ms_if (mt_r ((rw_or (rt_not (rt_tru (re_call (pe_call (ok__law_asked T) (hr.mono (by decide)) (by rfl) T.g__law_asked T.F__law_asked.kp T.b__law_asked .nil pass0 (ra_cons (re_var (pv 5)) (ra_cons (re_var (pv 4)) ra_nil))) (.cons (.cons .nil))))) (rw_or (rt_not (rt_tru (re_call (pe_call (ok__law_asked T) (hr.mono (by decide)) (by rfl) T.g__law_asked T.F__law_asked.kp T.b__law_asked .nil pass0 (ra_cons (re_var (pv 5)) (ra_cons (re2 bin_add (pe_op op_addM (re_var (pv 4)) re_int)) ra_nil))) (.cons (.cons .nil))))) (rw_or1 (rt_not (rt_tru (re_call (pe_call (ok__law_asked T) (hr.mono (by decide)) (by rfl) T.g__law_asked T.F__law_asked.kp T.b__law_asked .nil pass0 (ra_cons (re_var (pv 5)) (ra_cons (reN na_max2 (pe_callB (call_max2 rfl) (by rfl) T.z_max bb_max (ra_cons re_int (ra_cons (re2 bin_sub (pe_op op_sub (re_var (pv 4)) re_int)) ra_nil)))) ra_nil))) (.cons (.cons .nil))))))))).pt) (mss_one (ms_ret (me_r re_bl))) mss_nil)
    (mss_cons (ms_for (ps_for PassesOwn.never rfl (mi_src src_rng1 (pi_range1 (by rfl) T.z_range (ma_cons (me_r re_int) ma_nil))) (pg_name (i := 6) sc_law.nd rfl (by first | exact .inl rfl | exact .inr rfl)) (mss_one (ms_if (mt_not (mt_tru (me_call (pe_call (ok__law_asked T) (hr.mono (by decide)) (by rfl) T.g__law_asked T.F__law_asked.kp T.b__law_asked .nil pass0 (mp_val (me_fz (me_call (pe_call (ok__law_spoilt T) (hr.mono (by decide)) (by rfl) T.g__law_spoilt T.F__law_spoilt.kp T.b__law_spoilt .nil pass0 (mp_slot (pv 3) (mp_val (me_r (re_var (pv 5))) mp_nil))) (PLen.slot (PLen.val PLen.nil)))) (mp_val (me_r (re_var (pv 4))) mp_nil))) (PLen.val (PLen.val PLen.nil))))) (mss_one (ms_ret (me_r re_bl))) mss_nil))) (gok_name (i := 6) (by decide)))
    (mss_one (ms_if ((mw_or (mt_not (mt_tru (me_call (pe_call (ok__law_heads T) (hr.mono (by decide)) (by rfl) T.g__law_heads T.F__law_heads.kp T.b__law_heads .nil pass0 (mp_slot (pv 3) (mp_val (me_r (re_var (pv 5))) mp_nil))) (PLen.slot (PLen.val PLen.nil))))) (mw_or1 (mt_r (rt_not (rt_tru (re_call (pe_call (ok__law_asked T) (hr.mono (by decide)) (by rfl) T.g__law_asked T.F__law_asked.kp T.b__law_asked .nil pass0 (ra_cons (reN na_tuple (pe_callTy call_tuple_of (by rfl) T.z_tuple bb_tuple (ra_cons (re_lc (pe_lc (own := [("k", 6)]) (g := (gName 6)) rfl sc_law.nd (ri_src src_rng1 (pi_range1 (by rfl) T.z_range (ra_cons (re2 bin_add (pe_op op_addM (re_var (pv 4)) re_int)) ra_nil))) (blkOk_by (own := [("k", 6)]) (N := N_law) (sc := defScope s_law) (by decide +kernel)) (fun _ _ _ _ _ => (pg_name (i := 6) sc_law.nd rfl (by first | exact .inl rfl | exact .inr rfl))) (fun _ _ _ _ _ => rts_nil) (fun _ _ _ _ _ => re_int)) (fun fx h => (gok_name (h 6 (by decide))))) ra_nil))) (ra_cons (re_var (pv 4)) ra_nil))) (.cons (.cons .nil))))))))).pt (mss_one (ms_ret (me_r re_bl))) mss_nil))))))))) (gok_name (i := 2) (by decide)))
    (mss_cons (ms_set (i := 3) (ps_set (i := 3) sc_law.nd rfl (by first | exact .inl rfl | exact .inr rfl) (me_call (pe_call (ok__law_state T) (hr.mono (by decide)) (by rfl) T.g__law_state T.F__law_state.kp T.b__law_state .nil pass0 (mp_val (me_r (re_var (pv 0))) (mp_val (me_r re_int) mp_nil))) (PLen.val (PLen.val PLen.nil)))) (by decide))
    (mss_cons (ms_if ((mw_or (mt_not (mt_tru (me_call (pe_call (ok__law_pointed T) (hr.mono (by decide)) (by rfl) T.g__law_pointed T.F__law_pointed.kp T.b__law_pointed .nil pass0 (mp_slot (pv 3) mp_nil)) (PLen.slot PLen.nil)))) (mw_or (mt_not (mt_tru (me_call (pe_call (ok__law_asked T) (hr.mono (by decide)) (by rfl) T.g__law_asked T.F__law_asked.kp T.b__law_asked .nil pass0 (mp_val (me_fz (me_call (pe_call (ok__law_number T) (hr.mono (by decide)) (by rfl) T.g__law_number T.F__law_number.kp T.b__law_number .nil pass0 (mp_slot (pv 3) mp_nil)) (PLen.slot PLen.nil))) (mp_val (me_r re_int) mp_nil))) (PLen.val (PLen.val PLen.nil))))) (mw_or1 (mt_not (mt_tru (me_call (pe_call (ok__law_asked T) (hr.mono (by decide)) (by rfl) T.g__law_asked T.F__law_asked.kp T.b__law_asked .nil pass0 (mp_val (me_fz (me_call (pe_call (ok__law_word T) (hr.mono (by decide)) (by rfl) T.g__law_word T.F__law_word.kp T.b__law_word .nil pass0 (mp_slot (pv 3) (mp_val (me_r re_int) mp_nil))) (PLen.slot (PLen.val PLen.nil)))) (mp_val (me_r re_int) mp_nil))) (PLen.val (PLen.val PLen.nil))))))))).pt (mss_one (ms_ret (me_r re_bl))) mss_nil)
    (mss_cons (ms_if ((mw_or (mt_not (mt_tru (me_call (pe_call (ok__law_strings T) (hr.mono (by decide)) (by rfl) T.g__law_strings T.F__law_strings.kp T.b__law_strings .nil pass0 (mp_val (me_call (pe_call (ok__law_state T) (hr.mono (by decide)) (by rfl) T.g__law_state T.F__law_state.kp T.b__law_state .nil pass0 (mp_val (me_r (re_var (pv 0))) (mp_val (me_r re_int) mp_nil))) (PLen.val (PLen.val PLen.nil))) mp_nil)) (PLen.val PLen.nil)))) (mw_or1 (mt_not (mt_tru (me_call (pe_call (ok__law_nested T) (hr.mono (by decide)) (by rfl) T.g__law_nested T.F__law_nested.kp T.b__law_nested .nil pass0 (mp_val (me_call (pe_call (ok__law_state T) (hr.mono (by decide)) (by rfl) T.g__law_state T.F__law_state.kp T.b__law_state .nil pass0 (mp_val (me_r (re_var (pv 0))) (mp_val (me_r re_int) mp_nil))) (PLen.val (PLen.val PLen.nil))) mp_nil)) (PLen.val PLen.nil))))))).pt (mss_one (ms_ret (me_r re_bl))) mss_nil)
    (mss_cons (ms_for (ps_for PassesOwn.never rfl (mi_seq (me_var (pv 1))) (pg_tl rfl (pgs_cons (pg_name (i := 5) sc_law.nd rfl (by first | exact .inl rfl | exact .inr rfl)) (pgs_cons (pg_name (i := 4) sc_law.nd rfl (by first | exact .inl rfl | exact .inr rfl)) pgs_nil))) (mss_one (ms_if (mt_r (rt_not (rt_tru (re_call (pe_call (ok__law_asked T) (hr.mono (by decide)) (by rfl) T.g__law_asked T.F__law_asked.kp T.b__law_asked .nil pass0 (ra_cons (re_var (pv 5)) (ra_cons (re_var (pv 4)) ra_nil))) (.cons (.cons .nil)))))) (mss_one (ms_ret (me_r re_bl))) mss_nil))) (gok_tup (n := 2) (gsok_cons (gok_name (i := 5) (by decide)) (gsok_cons (gok_name (i := 4) (by decide)) gsok_nil))))
    (mss_one (ms_ret (me_r re_bl))))))))))
end
/-! ### the top -/
theorem all_mk (hm : ∀ ns : List Int, ns.length ≤ 63 → (∀ z ∈ ns, Builtin.Int.intBits z ≤ 1048576) → ∃ outs, m_law [.pl (.scr (ns.map D.int))] = .ok (.pl (.bl true)) outs)
    {l : PySem.W.OpenLaw} {w : World} {K : PySem.W.Frag} {h : Heap} {mg : Str → Option Value} {fa : Addr} (X : K.In h) (G : h.Ns mainGlobals mg) (hfa : mg "law" = some (.ref fa))
    {f0 f1 f2 f3 f4 f5 f6 f7 f8 f9 f10 f11 f12 f13 f14 f15 f16 f17 f18 f19 f20 f21 f22 f23 f24 f25 f26 f27 f28 : Addr}
    {od0 an0 od1 an1 od2 an2 od3 an3 od4 an4 od5 an5 od6 an6 od7 an7 od8 an8 od9 an9 od10 an10 od11 an11 od12 an12 od13 an13 od14 an14 od15 an15 od16 an16 od17 an17 od18 an18 od19 an19 od20 an20 od21 an21 od22 an22 od23 an23 od24 an24 od25 an25 od26 an26 od27 an27 od28 an28 : Option Addr}
    {sl0 sl1 sl2 sl3 sl4 sl5 sl6 sl7 sl8 sl9 sl10 sl11 sl12 sl13 sl14 sl15 sl16 sl17 sl18 sl19 sl20 sl21 sl22 sl23 sl24 sl25 sl26 sl27 sl28 : Array (Option Value)}
    {oc0 kV0 dc0 pm0 cd0 ct0 oc1 kV1 dc1 pm1 cd1 ct1 oc2 kV2 dc2 pm2 cd2 ct2 oc3 kV3 dc3 pm3 cd3 ct3 oc4 kV4 dc4 pm4 cd4 ct4 oc5 kV5 dc5 pm5 cd5 ct5 oc6 kV6 dc6 pm6 cd6 ct6 oc7 kV7 dc7 pm7 cd7 ct7 oc8 kV8 dc8 pm8 cd8 ct8 oc9 kV9 dc9 pm9 cd9 ct9 oc10 kV10 dc10 pm10 cd10 ct10 oc11 kV11 dc11 pm11 cd11 ct11 oc12 kV12 dc12 pm12 cd12 ct12 oc13 kV13 dc13 pm13 cd13 ct13 oc14 kV14 dc14 pm14 cd14 ct14 oc15 kV15 dc15 pm15 cd15 ct15 oc16 kV16 dc16 pm16 cd16 ct16 oc17 kV17 dc17 pm17 cd17 ct17 oc18 kV18 dc18 pm18 cd18 ct18 oc19 kV19 dc19 pm19 cd19 ct19 oc20 kV20 dc20 pm20 cd20 ct20 oc21 kV21 dc21 pm21 cd21 ct21 oc22 kV22 dc22 pm22 cd22 ct22 oc23 kV23 dc23 pm23 cd23 ct23 oc24 kV24 dc24 pm24 cd24 ct24 oc25 kV25 dc25 pm25 cd25 ct25 oc26 kV26 dc26 pm26 cd26 ct26 oc27 kV27 dc27 pm27 cd27 ct27 oc28 kV28 dc28 pm28 cd28 ct28 : Value}
    (a0 : PySem.W.nsIn K mainGlobals "_law_state" = some (some (.ref f0))) (l0 : K.lookup f0 = some ⟨oc0, od0, .func (PySem.W.fnOf "_law_state" "_law_state" (defArgs s__law_state) (defBody s__law_state) (defScope s__law_state) .none kV0 dc0 pm0 an0 cd0 ct0), sl0⟩) (c0 : PySem.W.codeIn K cd0 "_law_state" = true) (k0 : PySem.W.keepIn K (.ref f0) = true)
    (a1 : PySem.W.nsIn K mainGlobals "_law_pick" = some (some (.ref f1))) (l1 : K.lookup f1 = some ⟨oc1, od1, .func (PySem.W.fnOf "_law_pick" "_law_pick" (defArgs s__law_pick) (defBody s__law_pick) (defScope s__law_pick) .none kV1 dc1 pm1 an1 cd1 ct1), sl1⟩) (c1 : PySem.W.codeIn K cd1 "_law_pick" = true) (k1 : PySem.W.keepIn K (.ref f1) = true)
    (a2 : PySem.W.nsIn K mainGlobals "_law_number" = some (some (.ref f2))) (l2 : K.lookup f2 = some ⟨oc2, od2, .func (PySem.W.fnOf "_law_number" "_law_number" (defArgs s__law_number) (defBody s__law_number) (defScope s__law_number) .none kV2 dc2 pm2 an2 cd2 ct2), sl2⟩) (c2 : PySem.W.codeIn K cd2 "_law_number" = true) (k2 : PySem.W.keepIn K (.ref f2) = true)
    (a3 : PySem.W.nsIn K mainGlobals "_law_right" = some (some (.ref f3))) (l3 : K.lookup f3 = some ⟨oc3, od3, .func (PySem.W.fnOf "_law_right" "_law_right" (defArgs s__law_right) (defBody s__law_right) (defScope s__law_right) .none kV3 dc3 pm3 an3 cd3 ct3), sl3⟩) (c3 : PySem.W.codeIn K cd3 "_law_right" = true) (k3 : PySem.W.keepIn K (.ref f3) = true)
    (a4 : PySem.W.nsIn K mainGlobals "_law_are_truths" = some (some (.ref f4))) (l4 : K.lookup f4 = some ⟨oc4, od4, .func (PySem.W.fnOf "_law_are_truths" "_law_are_truths" (defArgs s__law_are_truths) (defBody s__law_are_truths) (defScope s__law_are_truths) .none kV4 dc4 pm4 an4 cd4 ct4), sl4⟩) (c4 : PySem.W.codeIn K cd4 "_law_are_truths" = true) (k4 : PySem.W.keepIn K (.ref f4) = true)
    (a5 : PySem.W.nsIn K mainGlobals "_law_are_integers" = some (some (.ref f5))) (l5 : K.lookup f5 = some ⟨oc5, od5, .func (PySem.W.fnOf "_law_are_integers" "_law_are_integers" (defArgs s__law_are_integers) (defBody s__law_are_integers) (defScope s__law_are_integers) .none kV5 dc5 pm5 an5 cd5 ct5), sl5⟩) (c5 : PySem.W.codeIn K cd5 "_law_are_integers" = true) (k5 : PySem.W.keepIn K (.ref f5) = true)
    (a6 : PySem.W.nsIn K mainGlobals "_law_are_points" = some (some (.ref f6))) (l6 : K.lookup f6 = some ⟨oc6, od6, .func (PySem.W.fnOf "_law_are_points" "_law_are_points" (defArgs s__law_are_points) (defBody s__law_are_points) (defScope s__law_are_points) .none kV6 dc6 pm6 an6 cd6 ct6), sl6⟩) (c6 : PySem.W.codeIn K cd6 "_law_are_points" = true) (k6 : PySem.W.keepIn K (.ref f6) = true)
    (a7 : PySem.W.nsIn K mainGlobals "is_whole" = some (some (.ref f7))) (l7 : K.lookup f7 = some ⟨oc7, od7, .func (PySem.W.fnOf "is_whole" "is_whole" (defArgs s_is_whole) (defBody s_is_whole) (defScope s_is_whole) .none kV7 dc7 pm7 an7 cd7 ct7), sl7⟩) (c7 : PySem.W.codeIn K cd7 "is_whole" = true) (k7 : PySem.W.keepIn K (.ref f7) = true)
    (a8 : PySem.W.nsIn K mainGlobals "is_wholes" = some (some (.ref f8))) (l8 : K.lookup f8 = some ⟨oc8, od8, .func (PySem.W.fnOf "is_wholes" "is_wholes" (defArgs s_is_wholes) (defBody s_is_wholes) (defScope s_is_wholes) .none kV8 dc8 pm8 an8 cd8 ct8), sl8⟩) (c8 : PySem.W.codeIn K cd8 "is_wholes" = true) (k8 : PySem.W.keepIn K (.ref f8) = true)
    (a9 : PySem.W.nsIn K mainGlobals "is_point" = some (some (.ref f9))) (l9 : K.lookup f9 = some ⟨oc9, od9, .func (PySem.W.fnOf "is_point" "is_point" (defArgs s_is_point) (defBody s_is_point) (defScope s_is_point) .none kV9 dc9 pm9 an9 cd9 ct9), sl9⟩) (c9 : PySem.W.codeIn K cd9 "is_point" = true) (k9 : PySem.W.keepIn K (.ref f9) = true)
    (a10 : PySem.W.nsIn K mainGlobals "is_points" = some (some (.ref f10))) (l10 : K.lookup f10 = some ⟨oc10, od10, .func (PySem.W.fnOf "is_points" "is_points" (defArgs s_is_points) (defBody s_is_points) (defScope s_is_points) .none kV10 dc10 pm10 an10 cd10 ct10), sl10⟩) (c10 : PySem.W.codeIn K cd10 "is_points" = true) (k10 : PySem.W.keepIn K (.ref f10) = true)
    (a11 : PySem.W.nsIn K mainGlobals "_law_spoilt" = some (some (.ref f11))) (l11 : K.lookup f11 = some ⟨oc11, od11, .func (PySem.W.fnOf "_law_spoilt" "_law_spoilt" (defArgs s__law_spoilt) (defBody s__law_spoilt) (defScope s__law_spoilt) .none kV11 dc11 pm11 an11 cd11 ct11), sl11⟩) (c11 : PySem.W.codeIn K cd11 "_law_spoilt" = true) (k11 : PySem.W.keepIn K (.ref f11) = true)
    (a12 : PySem.W.nsIn K mainGlobals "_law_pointed" = some (some (.ref f12))) (l12 : K.lookup f12 = some ⟨oc12, od12, .func (PySem.W.fnOf "_law_pointed" "_law_pointed" (defArgs s__law_pointed) (defBody s__law_pointed) (defScope s__law_pointed) .none kV12 dc12 pm12 an12 cd12 ct12), sl12⟩) (c12 : PySem.W.codeIn K cd12 "_law_pointed" = true) (k12 : PySem.W.keepIn K (.ref f12) = true)
    (a13 : PySem.W.nsIn K mainGlobals "is_direction" = some (some (.ref f13))) (l13 : K.lookup f13 = some ⟨oc13, od13, .func (PySem.W.fnOf "is_direction" "is_direction" (defArgs s_is_direction) (defBody s_is_direction) (defScope s_is_direction) .none kV13 dc13 pm13 an13 cd13 ct13), sl13⟩) (c13 : PySem.W.codeIn K cd13 "is_direction" = true) (k13 : PySem.W.keepIn K (.ref f13) = true)
    (a14 : PySem.W.nsIn K mainGlobals "_law_is_word" = some (some (.ref f14))) (l14 : K.lookup f14 = some ⟨oc14, od14, .func (PySem.W.fnOf "_law_is_word" "_law_is_word" (defArgs s__law_is_word) (defBody s__law_is_word) (defScope s__law_is_word) .none kV14 dc14 pm14 an14 cd14 ct14), sl14⟩) (c14 : PySem.W.codeIn K cd14 "_law_is_word" = true) (k14 : PySem.W.keepIn K (.ref f14) = true)
    (a15 : PySem.W.nsIn K mainGlobals "is_weights" = some (some (.ref f15))) (l15 : K.lookup f15 = some ⟨oc15, od15, .func (PySem.W.fnOf "is_weights" "is_weights" (defArgs s_is_weights) (defBody s_is_weights) (defScope s_is_weights) .none kV15 dc15 pm15 an15 cd15 ct15), sl15⟩) (c15 : PySem.W.codeIn K cd15 "is_weights" = true) (k15 : PySem.W.keepIn K (.ref f15) = true)
    (a16 : PySem.W.nsIn K mainGlobals "is_signs" = some (some (.ref f16))) (l16 : K.lookup f16 = some ⟨oc16, od16, .func (PySem.W.fnOf "is_signs" "is_signs" (defArgs s_is_signs) (defBody s_is_signs) (defScope s_is_signs) .none kV16 dc16 pm16 an16 cd16 ct16), sl16⟩) (c16 : PySem.W.codeIn K cd16 "is_signs" = true) (k16 : PySem.W.keepIn K (.ref f16) = true)
    (a17 : PySem.W.nsIn K mainGlobals "is_word" = some (some (.ref f17))) (l17 : K.lookup f17 = some ⟨oc17, od17, .func (PySem.W.fnOf "is_word" "is_word" (defArgs s_is_word) (defBody s_is_word) (defScope s_is_word) .none kV17 dc17 pm17 an17 cd17 ct17), sl17⟩) (c17 : PySem.W.codeIn K cd17 "is_word" = true) (k17 : PySem.W.keepIn K (.ref f17) = true)
    (a18 : PySem.W.nsIn K mainGlobals "is_certificate" = some (some (.ref f18))) (l18 : K.lookup f18 = some ⟨oc18, od18, .func (PySem.W.fnOf "is_certificate" "is_certificate" (defArgs s_is_certificate) (defBody s_is_certificate) (defScope s_is_certificate) .none kV18 dc18 pm18 an18 cd18 ct18), sl18⟩) (c18 : PySem.W.codeIn K cd18 "is_certificate" = true) (k18 : PySem.W.keepIn K (.ref f18) = true)
    (a19 : PySem.W.nsIn K mainGlobals "_law_asked" = some (some (.ref f19))) (l19 : K.lookup f19 = some ⟨oc19, od19, .func (PySem.W.fnOf "_law_asked" "_law_asked" (defArgs s__law_asked) (defBody s__law_asked) (defScope s__law_asked) .none kV19 dc19 pm19 an19 cd19 ct19), sl19⟩) (c19 : PySem.W.codeIn K cd19 "_law_asked" = true) (k19 : PySem.W.keepIn K (.ref f19) = true)
    (a20 : PySem.W.nsIn K mainGlobals "_law_word" = some (some (.ref f20))) (l20 : K.lookup f20 = some ⟨oc20, od20, .func (PySem.W.fnOf "_law_word" "_law_word" (defArgs s__law_word) (defBody s__law_word) (defScope s__law_word) .none kV20 dc20 pm20 an20 cd20 ct20), sl20⟩) (c20 : PySem.W.codeIn K cd20 "_law_word" = true) (k20 : PySem.W.keepIn K (.ref f20) = true)
    (a21 : PySem.W.nsIn K mainGlobals "_law_strings" = some (some (.ref f21))) (l21 : K.lookup f21 = some ⟨oc21, od21, .func (PySem.W.fnOf "_law_strings" "_law_strings" (defArgs s__law_strings) (defBody s__law_strings) (defScope s__law_strings) .none kV21 dc21 pm21 an21 cd21 ct21), sl21⟩) (c21 : PySem.W.codeIn K cd21 "_law_strings" = true) (k21 : PySem.W.keepIn K (.ref f21) = true)
    (a22 : PySem.W.nsIn K mainGlobals "_law_parts" = some (some (.ref f22))) (l22 : K.lookup f22 = some ⟨oc22, od22, .func (PySem.W.fnOf "_law_parts" "_law_parts" (defArgs s__law_parts) (defBody s__law_parts) (defScope s__law_parts) .none kV22 dc22 pm22 an22 cd22 ct22), sl22⟩) (c22 : PySem.W.codeIn K cd22 "_law_parts" = true) (k22 : PySem.W.keepIn K (.ref f22) = true)
    (a23 : PySem.W.nsIn K mainGlobals "_law_wrapped" = some (some (.ref f23))) (l23 : K.lookup f23 = some ⟨oc23, od23, .func (PySem.W.fnOf "_law_wrapped" "_law_wrapped" (defArgs s__law_wrapped) (defBody s__law_wrapped) (defScope s__law_wrapped) .none kV23 dc23 pm23 an23 cd23 ct23), sl23⟩) (c23 : PySem.W.codeIn K cd23 "_law_wrapped" = true) (k23 : PySem.W.keepIn K (.ref f23) = true)
    (a24 : PySem.W.nsIn K mainGlobals "_law_is_nested" = some (some (.ref f24))) (l24 : K.lookup f24 = some ⟨oc24, od24, .func (PySem.W.fnOf "_law_is_nested" "_law_is_nested" (defArgs s__law_is_nested) (defBody s__law_is_nested) (defScope s__law_is_nested) .none kV24 dc24 pm24 an24 cd24 ct24), sl24⟩) (c24 : PySem.W.codeIn K cd24 "_law_is_nested" = true) (k24 : PySem.W.keepIn K (.ref f24) = true)
    (a25 : PySem.W.nsIn K mainGlobals "_law_nested" = some (some (.ref f25))) (l25 : K.lookup f25 = some ⟨oc25, od25, .func (PySem.W.fnOf "_law_nested" "_law_nested" (defArgs s__law_nested) (defBody s__law_nested) (defScope s__law_nested) .none kV25 dc25 pm25 an25 cd25 ct25), sl25⟩) (c25 : PySem.W.codeIn K cd25 "_law_nested" = true) (k25 : PySem.W.keepIn K (.ref f25) = true)
    (a26 : PySem.W.nsIn K mainGlobals "is_headed" = some (some (.ref f26))) (l26 : K.lookup f26 = some ⟨oc26, od26, .func (PySem.W.fnOf "is_headed" "is_headed" (defArgs s_is_headed) (defBody s_is_headed) (defScope s_is_headed) .none kV26 dc26 pm26 an26 cd26 ct26), sl26⟩) (c26 : PySem.W.codeIn K cd26 "is_headed" = true) (k26 : PySem.W.keepIn K (.ref f26) = true)
    (a27 : PySem.W.nsIn K mainGlobals "_law_heads" = some (some (.ref f27))) (l27 : K.lookup f27 = some ⟨oc27, od27, .func (PySem.W.fnOf "_law_heads" "_law_heads" (defArgs s__law_heads) (defBody s__law_heads) (defScope s__law_heads) .none kV27 dc27 pm27 an27 cd27 ct27), sl27⟩) (c27 : PySem.W.codeIn K cd27 "_law_heads" = true) (k27 : PySem.W.keepIn K (.ref f27) = true)
    (a28 : PySem.W.nsIn K mainGlobals "law" = some (some (.ref f28))) (l28 : K.lookup f28 = some ⟨oc28, od28, .func (PySem.W.fnOf "law" "law" (defArgs s_law) (defBody s_law) (defScope s_law) .none kV28 dc28 pm28 an28 cd28 ct28), sl28⟩) (c28 : PySem.W.codeIn K cd28 "law" = true) (k28 : PySem.W.keepIn K (.ref f28) = true)
    (z_abs : PySem.W.nsIn K mainGlobals "abs" = some none)
    (z_bool : PySem.W.nsIn K mainGlobals "bool" = some none)
    (z_int : PySem.W.nsIn K mainGlobals "int" = some none)
    (z_isinstance : PySem.W.nsIn K mainGlobals "isinstance" = some none)
    (z_len : PySem.W.nsIn K mainGlobals "len" = some none)
    (z_list : PySem.W.nsIn K mainGlobals "list" = some none)
    (z_max : PySem.W.nsIn K mainGlobals "max" = some none)
    (z_range : PySem.W.nsIn K mainGlobals "range" = some none)
    (z_str : PySem.W.nsIn K mainGlobals "str" = some none)
    (z_tuple : PySem.W.nsIn K mainGlobals "tuple" = some none)
    : ∃ fd : FuncData, (∀ (s : Shared) (v : Value), BindsTo s fd ⟨[v], []⟩ [("script", v)]) ∧ ∀ base : Heap, K.In base → base.Ns mainGlobals mg → FnOk l.prog w K mg base CX0 6 fa fd ["script"] (spLaw K) := by
  have e := hfa.symm.trans (PySem.W.mg_of X G a28)
  cases e
  have F0 := fun_mk (st := s__law_state) l0 c0 k0
  have b0 := F0.binds (ps := ["script", "at"]) fun _ _ _ _ _ _ us hl => match us, hl with | [_, _], _ => rfl
  have F1 := fun_mk (st := s__law_pick) l1 c1 k1
  have b1 := F1.binds (ps := ["state", "size"]) fun _ _ _ _ _ _ us hl => match us, hl with | [_, _], _ => rfl
  have F2 := fun_mk (st := s__law_number) l2 c2 k2
  have b2 := F2.binds (ps := ["state"]) fun _ _ _ _ _ _ us hl => match us, hl with | [_], _ => rfl
  have F3 := fun_mk (st := s__law_right) l3 c3 k3
  have b3 := F3.binds (ps := ["state", "form", "count"]) fun _ _ _ _ _ _ us hl => match us, hl with | [_, _, _], _ => rfl
  have F4 := fun_mk (st := s__law_are_truths) l4 c4 k4
  have b4 := F4.binds (ps := ["told", "dues"]) fun _ _ _ _ _ _ us hl => match us, hl with | [_, _], _ => rfl
  have F5 := fun_mk (st := s__law_are_integers) l5 c5 k5
  have b5 := F5.binds (ps := ["told", "count"]) fun _ _ _ _ _ _ us hl => match us, hl with | [_, _], _ => rfl
  have F6 := fun_mk (st := s__law_are_points) l6 c6 k6
  have b6 := F6.binds (ps := ["value", "counts"]) fun _ _ _ _ _ _ us hl => match us, hl with | [_, _], _ => rfl
  have F7 := fun_mk (st := s_is_whole) l7 c7 k7
  have b7 := F7.binds (ps := ["value"]) fun _ _ _ _ _ _ us hl => match us, hl with | [_], _ => rfl
  have F8 := fun_mk (st := s_is_wholes) l8 c8 k8
  have b8 := F8.binds (ps := ["value", "count"]) fun _ _ _ _ _ _ us hl => match us, hl with | [_, _], _ => rfl
  have F9 := fun_mk (st := s_is_point) l9 c9 k9
  have b9 := F9.binds (ps := ["value", "count"]) fun _ _ _ _ _ _ us hl => match us, hl with | [_, _], _ => rfl
  have F10 := fun_mk (st := s_is_points) l10 c10 k10
  have b10 := F10.binds (ps := ["value", "counts"]) fun _ _ _ _ _ _ us hl => match us, hl with | [_, _], _ => rfl
  have F11 := fun_mk (st := s__law_spoilt) l11 c11 k11
  have b11 := F11.binds (ps := ["state", "value"]) fun _ _ _ _ _ _ us hl => match us, hl with | [_, _], _ => rfl
  have F12 := fun_mk (st := s__law_pointed) l12 c12 k12
  have b12 := F12.binds (ps := ["state"]) fun _ _ _ _ _ _ us hl => match us, hl with | [_], _ => rfl
  have F13 := fun_mk (st := s_is_direction) l13 c13 k13
  have b13 := F13.binds (ps := ["value", "count"]) fun _ _ _ _ _ _ us hl => match us, hl with | [_, _], _ => rfl
  have F14 := fun_mk (st := s__law_is_word) l14 c14 k14
  have b14 := F14.binds (ps := ["value"]) fun _ _ _ _ _ _ us hl => match us, hl with | [_], _ => rfl
  have F15 := fun_mk (st := s_is_weights) l15 c15 k15
  have b15 := F15.binds (ps := ["value", "count"]) fun _ _ _ _ _ _ us hl => match us, hl with | [_, _], _ => rfl
  have F16 := fun_mk (st := s_is_signs) l16 c16 k16
  have b16 := F16.binds (ps := ["value", "count"]) fun _ _ _ _ _ _ us hl => match us, hl with | [_, _], _ => rfl
  have F17 := fun_mk (st := s_is_word) l17 c17 k17
  have b17 := F17.binds (ps := ["value"]) fun _ _ _ _ _ _ us hl => match us, hl with | [_], _ => rfl
  have F18 := fun_mk (st := s_is_certificate) l18 c18 k18
  have b18 := F18.binds (ps := ["value"]) fun _ _ _ _ _ _ us hl => match us, hl with | [_], _ => rfl
  have F19 := fun_mk (st := s__law_asked) l19 c19 k19
  have b19 := F19.binds (ps := ["value", "count"]) fun _ _ _ _ _ _ us hl => match us, hl with | [_, _], _ => rfl
  have F20 := fun_mk (st := s__law_word) l20 c20 k20
  have b20 := F20.binds (ps := ["state", "longest"]) fun _ _ _ _ _ _ us hl => match us, hl with | [_, _], _ => rfl
  have F21 := fun_mk (st := s__law_strings) l21 c21 k21
  have b21 := F21.binds (ps := ["state"]) fun _ _ _ _ _ _ us hl => match us, hl with | [_], _ => rfl
  have F22 := fun_mk (st := s__law_parts) l22 c22 k22
  have b22 := F22.binds (ps := ["state"]) fun _ _ _ _ _ _ us hl => match us, hl with | [_], _ => rfl
  have F23 := fun_mk (st := s__law_wrapped) l23 c23 k23
  have b23 := F23.binds (ps := ["state", "told", "deep"]) fun _ _ _ _ _ _ us hl => match us, hl with | [_, _, _], _ => rfl
  have F24 := fun_mk (st := s__law_is_nested) l24 c24 k24
  have b24 := F24.binds (ps := ["value"]) fun _ _ _ _ _ _ us hl => match us, hl with | [_], _ => rfl
  have F25 := fun_mk (st := s__law_nested) l25 c25 k25
  have b25 := F25.binds (ps := ["state"]) fun _ _ _ _ _ _ us hl => match us, hl with | [_], _ => rfl
  have F26 := fun_mk (st := s_is_headed) l26 c26 k26
  have b26 := F26.binds (ps := ["value", "word", "count"]) fun _ _ _ _ _ _ us hl => match us, hl with | [_, _, _], _ => rfl
  have F27 := fun_mk (st := s__law_heads) l27 c27 k27
  have b27 := F27.binds (ps := ["state", "value"]) fun _ _ _ _ _ _ us hl => match us, hl with | [_, _], _ => rfl
  have F28 := fun_mk (st := s_law) l28 c28 k28
  have b28 := F28.binds (ps := ["script"]) fun _ _ _ _ _ _ us hl => match us, hl with | [_], _ => rfl
  let T : Tx K mg := ⟨f0, _, F0, PySem.W.mg_of X G a0, b0, f1, _, F1, PySem.W.mg_of X G a1, b1, f2, _, F2, PySem.W.mg_of X G a2, b2, f3, _, F3, PySem.W.mg_of X G a3, b3, f4, _, F4, PySem.W.mg_of X G a4, b4, f5, _, F5, PySem.W.mg_of X G a5, b5, f6, _, F6, PySem.W.mg_of X G a6, b6, f7, _, F7, PySem.W.mg_of X G a7, b7, f8, _, F8, PySem.W.mg_of X G a8, b8, f9, _, F9, PySem.W.mg_of X G a9, b9, f10, _, F10, PySem.W.mg_of X G a10, b10, f11, _, F11, PySem.W.mg_of X G a11, b11, f12, _, F12, PySem.W.mg_of X G a12, b12, f13, _, F13, PySem.W.mg_of X G a13, b13, f14, _, F14, PySem.W.mg_of X G a14, b14, f15, _, F15, PySem.W.mg_of X G a15, b15, f16, _, F16, PySem.W.mg_of X G a16, b16, f17, _, F17, PySem.W.mg_of X G a17, b17, f18, _, F18, PySem.W.mg_of X G a18, b18, f19, _, F19, PySem.W.mg_of X G a19, b19, f20, _, F20, PySem.W.mg_of X G a20, b20, f21, _, F21, PySem.W.mg_of X G a21, b21, f22, _, F22, PySem.W.mg_of X G a22, b22, f23, _, F23, PySem.W.mg_of X G a23, b23, f24, _, F24, PySem.W.mg_of X G a24, b24, f25, _, F25, PySem.W.mg_of X G a25, b25, f26, _, F26, PySem.W.mg_of X G a26, b26, f27, _, F27, PySem.W.mg_of X G a27, b27, fa, _, F28, PySem.W.mg_of X G a28, b28, PySem.W.mg_none_of X G z_abs, PySem.W.mg_none_of X G z_bool, PySem.W.mg_none_of X G z_int, PySem.W.mg_none_of X G z_isinstance, PySem.W.mg_none_of X G z_len, PySem.W.mg_none_of X G z_list, PySem.W.mg_none_of X G z_max, PySem.W.mg_none_of X G z_range, PySem.W.mg_none_of X G z_str, PySem.W.mg_none_of X G z_tuple⟩
  exact ⟨_, fun s v => .of_eq rfl, fun base _ _ => (ok_law T).imp (law_sp hm)⟩
end Law

set_option maxHeartbeats 4000000
namespace Law
open PySem PySem.Spec L2 Mir
local macro_rules
  | `(tactic| walk_at "env") => `(tactic| first | exact EnvOf.nil | (apply EnvOf.some; walk_at "env") | (apply EnvOf.none; walk_at "env"))
local macro_rules
  | `(tactic| walk_at "fn") => `(tactic| (apply x_fn; (focus exact rfl); (focus walk_at "env")))
local macro_rules
  | `(tactic| walk_at "side") => `(tactic| first | with_reducible assumption | omega | decide)
local macro_rules
  | `(tactic| walk_at "put") => `(tactic| first | with_reducible exact put0 | ((with_reducible apply putS); walk_at "put") | exact put0 | (apply putS; walk_at "put"))
local macro_rules
  | `(tactic| walk_at "pl") => `(tactic| first | with_reducible exact pl_n | ((with_reducible apply pl_c); walk_at "pl"))
local macro_rules
  | `(tactic| walk_at "out") => `(tactic| first | with_reducible exact out_n | ((with_reducible apply out_p); walk_at "out") | ((with_reducible apply out_o); walk_at "out"))
local macro_rules
  | `(tactic| walk_at "tgt") => `(tactic| first
      | with_reducible exact tg_nil
      | ((with_reducible apply tg_n); walk_at "put")
      | ((with_reducible apply tg_cons); (focus walk_at "tgt"); (focus walk_at "tgt"))
      | ((with_reducible apply tg_tup); (focus exact rfl); walk_at "tgt")
      | ((with_reducible apply tg_lst); (focus exact rfl); walk_at "tgt")
      | exact rfl)
local macro_rules
  | `(tactic| walk_at "set") => `(tactic| first | with_reducible exact set0 | ((with_reducible apply setS); walk_at "set") | exact set0 | (apply setS; walk_at "set"))
local macro_rules
  | `(tactic| walk_at "take") => `(tactic| first | exact take_nil | (apply take_v; walk_at "take") | (apply take_s; (focus exact rfl); (focus walk_at "set"); walk_at "take"))
local macro_rules
  | `(tactic| walk_at "back") => `(tactic| first | exact back_nil | (apply back_v; walk_at "back") | (apply back_s; (focus walk_at "back"); walk_at "set"))
local macro_rules
  | `(tactic| walk_at "rest") => `(tactic| first | exact rest_nil | (apply rest_c; (focus exact rfl); (focus walk_at "set"); walk_at "rest"))
local macro_rules
  | `(tactic| walk_at "cT") => `(tactic| first | exact rfl | with_reducible assumption | decide | exact decide_eq_true (by first | with_reducible assumption | omega) | (simp; done))
local macro_rules
  | `(tactic| walk_at "cF") => `(tactic| first | exact rfl | with_reducible assumption | decide | exact decide_eq_false (by first | with_reducible assumption | omega) | (simp; done))
local macro_rules
  | `(tactic| walk_at "nat") => `(tactic| first | with_reducible exact rfl | with_reducible exact lit_nat | with_reducible exact nat_sub1 | with_reducible exact nat_add1 | with_reducible exact nat_add | with_reducible exact nat_sub2 | with_reducible exact nat_add2 | exact rfl)
local macro_rules
  | `(tactic| walk_at "bnd") => `(tactic| first | with_reducible assumption | omega | exact Nat.lt_of_lt_of_le Below.lt (by omega) | (simp; done) | (simp; omega))
local macro_rules
  | `(tactic| walk_at "at") => `(tactic| first
      | with_reducible assumption
      | ((with_reducible apply at_back); (focus with_reducible exact neg_lit); (focus decide); walk_at "bnd")
      | ((with_reducible apply at_fun); (focus walk_at "nat"); walk_at "bnd")
      | ((with_reducible apply at_fun1); (focus walk_at "nat"); walk_at "bnd")
      | ((with_reducible apply at_getD); (focus walk_at "nat"); walk_at "bnd")
      | walk_at "atx"
      | exact rfl)
local macro_rules
  | `(tactic| walk_at "atx") => `(tactic| fail)
local macro_rules
  | `(tactic| walk_at "opx") => `(tactic| fail)
local macro_rules
  | `(tactic| walk_at "op") => `(tactic| first | ((with_reducible apply R1.pl); walk_at "eq") | ((with_reducible apply R1.ol); walk_at "eq"))
local macro_rules
  | `(tactic| walk_at "eq") => `(tactic| first
      | (with_reducible assumption)
      | with_reducible exact opAdd_int _ _
      | with_reducible exact opSub_int _ _
      | ((with_reducible refine opMul_sz ?_); walk_at "side")
      | with_reducible exact oEq _ _
      | with_reducible exact oNe _ _
      | with_reducible exact opCmp_int _ _ _
      | with_reducible exact opNeg_int _
      | ((with_reducible refine opMod_pos ?_); walk_at "side")
      | ((with_reducible refine opDiv_sz ?_ ?_); (focus walk_at "side"); (focus walk_at "side"))
      | ((with_reducible apply ixL); (focus walk_at "at"))
      | ((with_reducible apply ixT); (focus walk_at "at"))
      | ((with_reducible apply ixO); (focus walk_at "at"))
      | ((with_reducible apply ixS); (focus walk_at "at"))
      | walk_at "opx"
      | (with_reducible exact oLenV)
      | (with_reducible exact oLenVT)
      | (with_reducible exact oLenVO)
      | (with_reducible exact oLenF)
      | (with_reducible exact oLenFT)
      | (with_reducible exact oLenFO)
      | (with_reducible exact oLenI)
      | (with_reducible exact oLenIT)
      | (with_reducible exact oLenIO)
      | (with_reducible exact oLenM)
      | (with_reducible exact oLenMT)
      | (with_reducible exact oLenMO)
      | ((with_reducible apply eq_len); exact rfl)
      | with_reducible exact oIntI
      | with_reducible exact oIntB
      | with_reducible exact oAbs
      | with_reducible exact oMax
      | with_reducible exact oMin
      | ((with_reducible apply eq_ix); exact rfl)
      | ((with_reducible apply eq_isi); walk_at "isi")
      | ((with_reducible apply eq_is); walk_at "is")
      | ((with_reducible apply eq_tuple); exact rfl)
      | ((with_reducible apply eq_list); exact rfl)
      | ((with_reducible apply eq_gcd); exact rfl)
      | ((with_reducible apply pAddL); (focus walk_at "len"); walk_at "app")
      | ((with_reducible apply pAddOL); (focus walk_at "len"); walk_at "app")
      | ((with_reducible apply pAddLO); (focus walk_at "len"); walk_at "app")
      | ((with_reducible apply pAddOO); (focus walk_at "len"); walk_at "app")
      | ((with_reducible apply pAddT); (focus walk_at "len"); walk_at "app")
      | ((with_reducible apply oAddS); walk_at "len")
      | ((with_reducible refine oEqS ?_ ?_); (focus walk_at "str"); (focus walk_at "str"))
      | ((with_reducible refine oNeS ?_ ?_); (focus walk_at "str"); (focus walk_at "str"))
      | with_reducible exact bInL
      | with_reducible exact bInT
      | with_reducible exact bNiL
      | with_reducible exact bNiT
      | with_reducible exact oInL
      | with_reducible exact oInT
      | with_reducible exact oNiL
      | with_reducible exact oNiT
      | with_reducible exact oEqB _ _
      | with_reducible exact oNeB _ _
      | ((with_reducible apply eq_inn); exact rfl)
      | ((with_reducible apply eq_sl); exact rfl)
      | ((with_reducible apply eq_slL); exact rfl))
local macro_rules
  | `(tactic| walk_at "isi") => `(tactic| first | with_reducible exact isi_non_int | with_reducible exact isi_non_bool | with_reducible exact isi_non_str | with_reducible exact isi_non_tuple | with_reducible exact isi_non_list | with_reducible exact isi_bl_int | with_reducible exact isi_bl_bool | with_reducible exact isi_bl_str | with_reducible exact isi_bl_tuple | with_reducible exact isi_bl_list | with_reducible exact isi_int_int | with_reducible exact isi_int_bool | with_reducible exact isi_int_str | with_reducible exact isi_int_tuple | with_reducible exact isi_int_list | with_reducible exact isi_str_int | with_reducible exact isi_str_bool | with_reducible exact isi_str_str | with_reducible exact isi_str_tuple | with_reducible exact isi_str_list | with_reducible exact isi_tup_int | with_reducible exact isi_tup_bool | with_reducible exact isi_tup_str | with_reducible exact isi_tup_tuple | with_reducible exact isi_tup_list | with_reducible exact isi_lst_int | with_reducible exact isi_lst_bool | with_reducible exact isi_lst_str | with_reducible exact isi_lst_tuple | with_reducible exact isi_lst_list | with_reducible exact isi_ol_int | with_reducible exact isi_ol_bool | with_reducible exact isi_ol_str | with_reducible exact isi_ol_tuple | with_reducible exact isi_ol_list)
local macro_rules
  | `(tactic| walk_at "is") => `(tactic| first | with_reducible exact is_non | with_reducible exact ns_non | with_reducible exact is_bl | with_reducible exact ns_bl | with_reducible exact is_int | with_reducible exact ns_int | with_reducible exact is_str | with_reducible exact ns_str | with_reducible exact is_tup | with_reducible exact ns_tup | with_reducible exact is_lst | with_reducible exact ns_lst | with_reducible exact is_ol | with_reducible exact ns_ol)
local macro_rules
  | `(tactic| walk_at "tru") => `(tactic| first | with_reducible exact asB_b | with_reducible exact oTru _ | with_reducible exact tru_b | with_reducible exact tru_l | with_reducible exact tru_t | with_reducible exact tru_n | exact rfl)
local macro_rules
  | `(tactic| walk_at "str") => `(tactic| first | with_reducible assumption | decide +kernel | exact rfl)
local macro_rules
  | `(tactic| walk_at "call") => `(tactic| first | ((with_reducible apply gives_p); with_reducible assumption) | ((with_reducible apply gives_o); with_reducible assumption))
local macro_rules
  | `(tactic| walk_at "fz") => `(tactic| first | with_reducible exact fz_n | ((with_reducible apply fz_c); walk_at "fz") | ((with_reducible apply fz_o); walk_at "fz"))
local macro_rules
  | `(tactic| walk_at "ev") => `(tactic| first
      | with_reducible exact e_rnil
      | ((with_reducible apply e_rcons); (focus walk_at "ev"); (focus walk_at "ev"))
      | with_reducible exact x_rc
      | with_reducible exact e_rnone
      | ((with_reducible apply x_rv); exact rfl)
      | ((with_reducible apply x_r2); (focus walk_at "ev"); (focus walk_at "ev"); (focus walk_at "op"))
      | ((with_reducible apply x_r1); (focus walk_at "ev"); (focus walk_at "op"))
      | ((with_reducible apply x_rN); (focus walk_at "ev"); (focus walk_at "op"))
      | ((with_reducible apply y_rcall); (focus walk_at "ev"); (focus walk_at "fz"); (focus walk_at "call"); exact rfl)
      | ((with_reducible apply e_rb); (focus walk_at "ev"); walk_at "tru")
      | ((with_reducible apply e_not_t); (focus walk_at "ev"))
      | ((with_reducible apply e_not_f); (focus walk_at "ev"))
      | ((with_reducible apply e_not); (focus walk_at "ev"))
      | ((with_reducible apply e_notV); (focus walk_at "ev"))
      | ((with_reducible apply e_and_f); (focus walk_at "ev"))
      | ((with_reducible apply e_and_t); (focus walk_at "ev"); (focus walk_at "ev"))
      | ((with_reducible apply e_and_fx); (focus walk_at "ev"); (focus decide))
      | ((with_reducible apply e_and); (focus walk_at "ev"); (intro hc; try simp only [Bool.and_eq_true, Bool.or_eq_true, Bool.not_eq_true', decide_eq_true_eq, decide_eq_false_iff_not, tv_iff, tv_not] at hc); walk_at "ev")
      | ((with_reducible apply e_or_t); (focus walk_at "ev"))
      | ((with_reducible apply e_or_f); (focus walk_at "ev"); (focus walk_at "ev"))
      | ((with_reducible apply e_or_tx); (focus walk_at "ev"); (focus decide))
      | ((with_reducible apply e_or); (focus walk_at "ev"); (intro hc; try simp only [Bool.and_eq_true, Bool.or_eq_true, Bool.or_eq_false_iff, Bool.not_eq_false', decide_eq_true_eq, decide_eq_false_iff_not, tv_iff, tv_not] at hc); walk_at "ev")
      | ((with_reducible apply e_andV_f); (focus walk_at "ev"))
      | ((with_reducible apply e_andV_t); (focus walk_at "ev"); (focus walk_at "ev"))
      | ((with_reducible apply e_andV_fx); (focus walk_at "ev"); (focus decide))
      | ((with_reducible apply e_andV); (focus walk_at "ev"); (intro hc; try simp only [Bool.and_eq_true, Bool.or_eq_true, Bool.not_eq_true', decide_eq_true_eq, decide_eq_false_iff_not, tv_iff, tv_not] at hc); walk_at "ev")
      | ((with_reducible apply e_orV_t); (focus walk_at "ev"))
      | ((with_reducible apply e_orV_f); (focus walk_at "ev"); (focus walk_at "ev"))
      | ((with_reducible apply e_orV_tx); (focus walk_at "ev"); (focus decide))
      | ((with_reducible apply e_orV); (focus walk_at "ev"); (intro hc; try simp only [Bool.and_eq_true, Bool.or_eq_true, Bool.or_eq_false_iff, Bool.not_eq_false', decide_eq_true_eq, decide_eq_false_iff_not, tv_iff, tv_not] at hc); walk_at "ev")
      | ((with_reducible apply x_rtup); (focus walk_at "ev"); (focus walk_at "pl"); (focus walk_at "len"))
      | ((with_reducible apply x_rlst); (focus walk_at "ev"); (focus walk_at "pl"); (focus walk_at "len"))
      | ((with_reducible apply x_if); (focus walk_at "ev"); focus first | refine IfV.yes (by walk_at "cT") (by walk_at "ev") | refine IfV.no (by walk_at "cF") (by walk_at "ev") | refine IfV.both (fun hc => by walk_at "ev") (fun hc => by walk_at "ev"))
      | ((with_reducible apply x_r3); (focus walk_at "ev"); (focus walk_at "ev"); (focus walk_at "ev"); (focus walk_at "op"))
      | ((with_reducible apply e_rsome); (focus walk_at "ev"))
      | ((with_reducible apply e_seqS); (focus walk_at "ev"); walk_at "src")
      | ((with_reducible apply e_src); (focus walk_at "ev"); (focus walk_at "src"))
      | ((with_reducible apply x_comp); (focus walk_at "ev"); (focus walk_at "comp"); (focus walk_at "len"))
      | with_reducible assumption
      | walk_at "evx")
local macro_rules
  | `(tactic| walk_at "evx") => `(tactic| fail)
local macro_rules
  | `(tactic| walk_at "len") => `(tactic| first | with_reducible assumption | (simp only [List.length_map, List.length_range, List.length_cons, List.length_nil, List.length_append]; first | omega | (show _ < 1000000; omega) | (show _ ≤ 1000000; omega)) | (simp [iL, big]; done) | (simp [iL, big]; omega) | walk_at "lenx")
local macro_rules
  | `(tactic| walk_at "lenx") => `(tactic| fail)
local macro_rules
  | `(tactic| walk_at "src") => `(tactic| first
      | with_reducible assumption
      | with_reducible exact sq_l
      | with_reducible exact sq_t
      | with_reducible exact sq_o
      | ((with_reducible apply rngR); walk_at "bnd")
      | ((with_reducible apply rngL); (focus walk_at "nat"); walk_at "bnd")
      | ((with_reducible apply rngK); (focus walk_at "bnd"); walk_at "bnd")
      | with_reducible exact zx_tt
      | with_reducible exact zx_tl
      | with_reducible exact zx_lt
      | with_reducible exact zx_ll
      | with_reducible exact zx_ol
      | with_reducible exact zx_lo
      | walk_at "srcx")
local macro_rules
  | `(tactic| walk_at "srcx") => `(tactic| fail)
local macro_rules
  | `(tactic| walk_at "comp") => `(tactic| first
      | exact CompOk.nil
      | (apply CompOk.cons; (focus walk_at "tgt"); (focus exact rfl); (focus walk_at "ev"); (focus walk_at "comp"))
      | (apply CompOk.mapI; intro a ha; (try have hm := List.mem_range.mp ha); refine ⟨_, by walk_at "tgt", ?_⟩; walk_at "ev")
      | (apply CompOk.filt; intro a ha; (try have hm := List.mem_range.mp ha); refine ⟨_, by walk_at "tgt", ?_, ?_⟩; (focus walk_at "ev"); (intro hc; walk_at "ev"))
      | (apply CompOk.map; intro a ha; (try have hm := List.mem_range.mp ha); refine ⟨_, by walk_at "tgt", ?_⟩; walk_at "ev"))
local macro_rules
  | `(tactic| walk_at "if") => `(tactic| ((with_reducible apply x_ifr); (focus walk_at "ev"); first
      | refine IfG.yes (by walk_at "cT") ?_
      | refine IfG.no (by walk_at "cF") ?_))
local macro_rules
  | `(tactic| walk_at "ifg") => `(tactic| ((with_reducible apply x_ifr); (focus walk_at "ev")))
local macro_rules
  | `(tactic| walk_at "hc") => `(tactic| (intro hc; try simp only [Bool.and_eq_true, Bool.or_eq_true, Bool.and_eq_false_iff, Bool.or_eq_false_iff, Bool.not_eq_true', Bool.not_eq_false', decide_eq_true_eq, decide_eq_false_iff_not, tv_iff, tv_not] at hc))
local macro_rules
  | `(tactic| walk_at "sp") => `(tactic| first | ((with_reducible apply x_ifr); (focus walk_at "ev"); walk_at "split") | walk_at "split")
local macro_rules
  | `(tactic| walk_at "split") => `(tactic| ((with_reducible apply x_ifr); (focus walk_at "ev"); (refine IfG.both ?_ ?_ <;> (intro hc; try simp only [Bool.and_eq_true, Bool.or_eq_true, Bool.and_eq_false_iff, Bool.or_eq_false_iff, Bool.not_eq_true', Bool.not_eq_false', decide_eq_true_eq, decide_eq_false_iff_not, tv_iff, tv_not] at hc))))
local macro_rules
  | `(tactic| walk_at "st") => `(tactic| first
      | with_reducible apply w_seq
      | with_reducible apply w_nx
      | with_reducible apply c_nxp
      | with_reducible apply f_nx
      | with_reducible apply w_rt
      | with_reducible apply f_rt
      | with_reducible apply w_bk
      | with_reducible apply f_bk
      | with_reducible apply w_ct
      | with_reducible apply f_ct
      | ((with_reducible apply y_fnrt); (focus walk_at "out"))
      | ((with_reducible apply y_fnnx); (focus walk_at "out"))
      | with_reducible apply w_skip
      | with_reducible apply w_brk
      | with_reducible apply w_cnt
      | ((with_reducible apply w_setR); (focus walk_at "ev"); (focus walk_at "put"))
      | with_reducible apply y_set
      | ((with_reducible apply w_retR); (focus walk_at "ev"))
      | with_reducible apply w_ret
      | with_reducible apply w_retN
      | with_reducible apply w_drop
      | ((with_reducible apply w_r); (focus walk_at "ev"))
      | with_reducible apply z_mfz
      | ((with_reducible apply c_fz); (focus walk_at "frz"))
      | with_reducible apply y_m2
      | with_reducible apply y_m1
      | with_reducible apply y_mN
      | ((with_reducible apply x_mNr); (focus walk_at "ev"); (focus walk_at "op0"))
      | with_reducible apply w_mnil
      | with_reducible apply w_mcons
      | with_reducible apply z_mlst
      | with_reducible apply z_mtup
      | ((with_reducible apply c_dis); (focus walk_at "frzs"); (focus walk_at "len"))
      | ((with_reducible apply c_op); (focus walk_at "op0"))
      | ((with_reducible apply c_len); (focus walk_at "len"))
      | ((with_reducible apply c_put); (focus walk_at "put"))
      | walk_at "if"
      | with_reducible apply y_asg
      | ((with_reducible apply c_asg); (focus walk_at "tgt"))
      | ((with_reducible apply c_st); (focus walk_at "tgt"))
      | with_reducible apply y_call
      | with_reducible apply w_pnil
      | with_reducible apply w_pval
      | ((with_reducible apply w_pslot); (focus exact rfl))
      | ((with_reducible apply c_call); (focus walk_at "take"))
      | ((with_reducible apply c_back); (focus walk_at "back"))
      | ((with_reducible apply y_mut); (focus exact rfl))
      | ((with_reducible apply c_mut); (focus exact rfl); (focus walk_at "frzs"); (focus walk_at "mut"); (focus walk_at "set"))
      | with_reducible apply y_setix
      | ((with_reducible apply c_ix); (focus exact rfl); (focus walk_at "ev"); (focus walk_at "ixn"); (focus walk_at "frz"); (focus walk_at "lset"); (focus walk_at "set"))
      | with_reducible apply y_setixM
      | ((with_reducible apply c_has); (focus exact rfl))
      | ((with_reducible apply c_iy); (focus exact rfl); (focus walk_at "ixn"); (focus walk_at "frz"); (focus walk_at "lset"); (focus walk_at "set"))
      | ((with_reducible apply z_mv); (focus exact rfl); (focus walk_at "frz"); (focus walk_at "set"))
      | ((with_reducible apply x_move); (focus exact rfl); (focus walk_at "set"))
      | with_reducible apply z_mcomp
      | ((with_reducible apply c_rest); (focus walk_at "rest"))
      | with_reducible apply w_for
      | with_reducible apply y_seqS
      | with_reducible apply y_src
      | ((with_reducible apply c_src); (focus walk_at "src"))
      | with_reducible apply y_if1
      | with_reducible apply y_if2
      | with_reducible apply y_if3
      | with_reducible apply y_if4
      | with_reducible apply w_mNotB
      | with_reducible apply y_mAndB
      | with_reducible apply y_mOrB
      | with_reducible apply y_mIf
      | with_reducible apply y_mb
      | ((with_reducible apply c_bol); (focus walk_at "bol"))
      | ((with_reducible apply w_rB); (focus walk_at "ev"))
      | ((with_reducible apply IfG.yes); (focus walk_at "cT"))
      | ((with_reducible apply IfG.no); (focus walk_at "cF"))
      | ((with_reducible apply x_par); (focus walk_at "ev"); (focus walk_at "put"); (focus walk_at "put"))
      | with_reducible apply x_forNil
      | walk_at "ext")
local macro_rules
  | `(tactic| walk_at "bol") => `(tactic| walk_at "tru")
local macro_rules
  | `(tactic| walk_at "ext") => `(tactic| fail)
local macro_rules
  | `(tactic| walk_at "ifg") => `(tactic| ((with_reducible apply x_ifr); (focus walk_at "ev")))
local macro_rules
  | `(tactic| walk_at "hc") => `(tactic| (intro hc; try simp only [Bool.and_eq_true, Bool.or_eq_true, Bool.and_eq_false_iff, Bool.or_eq_false_iff, Bool.not_eq_true', Bool.not_eq_false', decide_eq_true_eq, decide_eq_false_iff_not, tv_iff, tv_not] at hc))
local macro_rules
  | `(tactic| walk_at "sp") => `(tactic| first | ((with_reducible apply x_ifr); (focus walk_at "ev"); walk_at "split") | walk_at "split")
local macro_rules
  | `(tactic| walk_at "split") => `(tactic| ((with_reducible apply IfG.both) <;> (intro hc; try simp only [Bool.and_eq_true, Bool.or_eq_true, Bool.and_eq_false_iff, Bool.or_eq_false_iff, Bool.not_eq_true', Bool.not_eq_false', decide_eq_true_eq, decide_eq_false_iff_not, tv_iff, tv_not] at hc)))
local macro_rules
  | `(tactic| walk_at "frz") => `(tactic| first | with_reducible exact frz_pl | with_reducible exact frz_ol | exact ⟨rfl⟩)
local macro_rules
  | `(tactic| walk_at "frzs") => `(tactic| first | with_reducible exact frzs_n | ((with_reducible apply frzs_c); (focus walk_at "frz"); (focus walk_at "frzs")))
local macro_rules
  | `(tactic| walk_at "app") => `(tactic| first | with_reducible exact ap_n | with_reducible exact ap_e | ((with_reducible apply ap_c); walk_at "app") | with_reducible exact ap_i | with_reducible exact ap_i1 | exact ap_g)
local macro_rules
  | `(tactic| walk_at "lset") => `(tactic| first | with_reducible exact ls0 | ((with_reducible apply lsS); walk_at "lset") | with_reducible exact ls_i | exact lsG)
local macro_rules
  | `(tactic| walk_at "ixn") => `(tactic| first | with_reducible assumption | exact ixN_lit (by decide) | exact ixN_nat rfl (by first | with_reducible assumption | (simp; done) | (simp; omega) | omega))
local macro_rules
  | `(tactic| walk_at "mut") => `(tactic| first | with_reducible assumption | ((with_reducible apply papp); (focus walk_at "len"); walk_at "app") | ((with_reducible apply pext); (focus walk_at "len"); walk_at "app") | exact rfl)
local macro_rules
  | `(tactic| walk_at "op0") => `(tactic| ((with_reducible apply R0.mk); walk_at "eq"))
local macro_rules
  | `(tactic| walk_at "op0x") => `(tactic| fail)
local macro_rules
  | `(tactic| walk_at "run") => `(tactic| repeat (walk_at "st"))
local macro_rules
  | `(tactic| walk_at "runu") => `(tactic| repeat (first | walk_at "st" | ((with_reducible apply x_forCons); (focus walk_at "tgt"))))
local macro_rules
  | `(tactic| walk_at "go") => `(tactic| repeat' (first | walk_at "st" | walk_at "sp" | walk_at "split"))
local macro_rules
  | `(tactic| walk_at "atx") => `(tactic| first
      | with_reducible exact at_c0
      | with_reducible exact at_c1
      | with_reducible exact at_c2
      | ((with_reducible apply at_D); (focus walk_at "nat"); walk_at "bnd")
      | ((with_reducible apply at_I); (focus first | with_reducible assumption | omega); walk_at "bnd"))
local macro_rules
  | `(tactic| walk_at "opx") => `(tactic| first
      | with_reducible exact oSlL
      | with_reducible exact oSlO
      | with_reducible exact oSlT
      | with_reducible exact oNi2
      | with_reducible exact oIn2
      | with_reducible exact oLenNT
      | with_reducible exact oLenNL
      | with_reducible exact oLenCT
      | with_reducible exact oInC
      | with_reducible exact oNiC
      | ((with_reducible apply qAddS); walk_at "side")
      | ((with_reducible apply qSlS); walk_at "side")
      | ((with_reducible apply qLenS); walk_at "side")
      | ((with_reducible apply qRepS); (focus walk_at "side"); (focus walk_at "side"); (focus walk_at "side"); (focus walk_at "side"))
      | ((with_reducible apply oLenS); walk_at "len")
      | ((with_reducible apply oSlS); walk_at "len"))
local macro_rules
  | `(tactic| walk_at "srcx") => `(tactic| with_reducible exact sq_s)
local macro_rules
  | `(tactic| walk_at "evx") => `(tactic| ((with_reducible apply x_chain); (focus walk_at "ev"); (focus walk_at "ev"); (focus walk_at "op"); (focus (intro hc; walk_at "ev")); (focus (intro hc; walk_at "op"))))
local macro_rules
  | `(tactic| walk_at "lenx") => `(tactic| ((with_reducible apply filt_len); with_reducible assumption))
local macro_rules
  | `(tactic| walk_at "lenx") => `(tactic| ((with_reducible apply iL_filt); (focus with_reducible assumption); decide))
local macro_rules
  | `(tactic| walk_at "lenx") => `(tactic| first | ((with_reducible apply ll_add); walk_at "side") | ((with_reducible apply ll_lt); walk_at "side") | ((with_reducible apply ll_le); walk_at "side"))
local macro_rules
  | `(tactic| walk_at "ext") => `(tactic| ((with_reducible apply st_eq); (focus with_reducible assumption)))

section
theorem are_integers_ok {v : D} {n : Int} (hk : K3 v) (hs : K3s v) : m__law_are_integers [.pl v, .pl (.int n)] = .ok (.pl (.bl (tv (isW v n)))) [.pl v, .pl (.int n)] := by
  refine says_call ?_
  cases hk with
  | int i =>
    walk_at "fn"
    unfold b__law_are_integers
    walk_at "run"
    exact ⟨says_f fun ⟨_, h, _⟩ => (by cases h), rfl⟩
  | str x =>
    walk_at "fn"
    unfold b__law_are_integers
    walk_at "run"
    exact ⟨says_f fun ⟨_, h, _⟩ => (by cases h), rfl⟩
  | tup ds =>
    obtain ⟨hl, hs⟩ := hs ds rfl
    walk_at "fn"
    unfold b__law_are_integers
    walk_at "run"
    walk_at "sp"
    · rename_i hc
      walk_at "run"
      exact ⟨says_f fun ⟨xs, h, e⟩ => hc (by injection h with h; rw [h, List.length_map]; exact e), rfl⟩
    · rename_i hc
      walk_at "run"
      refine x_forPD (E := fun s => [_, _, s]) (fun d => ∃ i, d = D.int i) none (fun d hd s0 => ?_) fun h s1 => ?_
      · cases hs d hd with
        | int i => walk_at "run"; exact ⟨⟨i, rfl⟩, _, rfl⟩
        | str x => walk_at "run"; exact ⟨says_f fun ⟨xs, h, e⟩ => (by injection h with h; rw [h] at hd; obtain ⟨i, hi⟩ := iL_mem hd; cases hi), rfl⟩
        | tup x => walk_at "run"; exact ⟨says_f fun ⟨xs, h, e⟩ => (by injection h with h; rw [h] at hd; obtain ⟨i, hi⟩ := iL_mem hd; cases hi), rfl⟩
      · obtain ⟨xs, rfl⟩ := ints_of h
        walk_at "run"
        exact ⟨says_t ⟨xs, rfl, by rw [List.length_map] at hc; simpa using hc⟩, rfl⟩

theorem is_whole_ok {v : D} (hk : K3 v) : m_is_whole [.pl v] = .ok (.pl (.bl (tv (∃ i, v = D.int i)))) [.pl v] := by
  refine says_call ?_
  cases hk with
  | int i =>
    walk_at "fn"
    unfold b_is_whole
    walk_at "run"
    exact ⟨says_t ⟨i, rfl⟩, rfl⟩
  | str x =>
    walk_at "fn"
    unfold b_is_whole
    walk_at "run"
    exact ⟨says_f fun ⟨_, h⟩ => (by cases h), rfl⟩
  | tup ds =>
    walk_at "fn"
    unfold b_is_whole
    walk_at "run"
    exact ⟨says_f fun ⟨_, h⟩ => (by cases h), rfl⟩
theorem is_whole_int {i : Int} : m_is_whole [.pl (.int i)] = .ok (.pl (.bl true)) [.pl (.int i)] := by
  rw [is_whole_ok (.int i), tv_t ⟨i, rfl⟩]
theorem is_whole_str {x : Str} : m_is_whole [.pl (.str x)] = .ok (.pl (.bl false)) [.pl (.str x)] := by
  rw [is_whole_ok (.str x), tv_f fun ⟨_, h⟩ => (by cases h)]
theorem is_whole_tup {x : List D} : m_is_whole [.pl (.tup x)] = .ok (.pl (.bl false)) [.pl (.tup x)] := by
  rw [is_whole_ok (.tup x), tv_f fun ⟨_, h⟩ => (by cases h)]
local macro_rules
  | `(tactic| walk_at "call") => `(tactic| ((with_reducible apply gives_p); with_reducible exact is_whole_int))
local macro_rules
  | `(tactic| walk_at "call") => `(tactic| ((with_reducible apply gives_p); with_reducible exact is_whole_str))
local macro_rules
  | `(tactic| walk_at "call") => `(tactic| ((with_reducible apply gives_p); with_reducible exact is_whole_tup))
theorem is_wholes_ok {v : D} {n : Int} (hk : K3 v) (hs : K3s v) : m_is_wholes [.pl v, .pl (.int n)] = .ok (.pl (.bl (tv (isW v n)))) [.pl v, .pl (.int n)] := by
  refine says_call ?_
  cases hk with
  | int i =>
    walk_at "fn"
    unfold b_is_wholes
    walk_at "run"
    exact ⟨says_f fun ⟨_, h, _⟩ => (by cases h), rfl⟩
  | str x =>
    walk_at "fn"
    unfold b_is_wholes
    walk_at "run"
    exact ⟨says_f fun ⟨_, h, _⟩ => (by cases h), rfl⟩
  | tup ds =>
    obtain ⟨hl, hs⟩ := hs ds rfl
    walk_at "fn"
    unfold b_is_wholes
    walk_at "run"
    walk_at "sp"
    · rename_i hc
      walk_at "run"
      exact ⟨says_f fun ⟨xs, h, e⟩ => hc (by injection h with h; rw [h, List.length_map]; exact e), rfl⟩
    · rename_i hc
      walk_at "run"
      refine x_forPD (E := fun s => [_, _, s]) (fun d => ∃ i, d = D.int i) none (fun d hd s0 => ?_) fun h s1 => ?_
      · cases hs d hd with
        | int i => walk_at "run"; exact ⟨⟨i, rfl⟩, _, rfl⟩
        | str x => walk_at "run"; exact ⟨says_f fun ⟨xs, h, e⟩ => (by injection h with h; rw [h] at hd; obtain ⟨i, hi⟩ := iL_mem hd; cases hi), rfl⟩
        | tup x => walk_at "run"; exact ⟨says_f fun ⟨xs, h, e⟩ => (by injection h with h; rw [h] at hd; obtain ⟨i, hi⟩ := iL_mem hd; cases hi), rfl⟩
      · obtain ⟨xs, rfl⟩ := ints_of h
        walk_at "run"
        exact ⟨says_t ⟨xs, rfl, by rw [List.length_map] at hc; simpa using hc⟩, rfl⟩

end
section
/-- the forms of shapes.py -/
def isPt (v : D) (n : Int) : Prop := ∃ xs : List Int, v = .tup (iL xs) ∧ (xs.length : Int) = n + 1 ∧ 1 ≤ xs.getD (xs.length - 1) 0
def isDir (v : D) (n : Int) : Prop := ∃ xs : List Int, v = .tup (iL xs) ∧ (xs.length : Int) = n + 1 ∧ xs.getD (xs.length - 1) 0 = 0 ∧ ∃ x ∈ xs, x ≠ 0
def isWt (v : D) (n : Int) : Prop := ∃ xs : List Int, v = .tup (iL xs) ∧ (xs.length : Int) = n + 1 ∧ ∀ x ∈ xs, 0 ≤ x
def isSg (v : D) (n : Int) : Prop := ∃ xs : List Int, v = .tup (iL xs) ∧ (xs.length : Int) = n ∧ ∀ x ∈ xs, x = 1 ∨ x = -1
theorem tup_iL {xs ys : List Int} (h : D.tup (iL xs) = .tup (iL ys)) : xs = ys := by
  injection h with h
  exact iL_inj h
theorem is_point_ok {v : D} {n : Int} (hk : K3 v) (hs : K3s v) (hn : 0 ≤ n) : m_is_point [.pl v, .pl (.int n)] = .ok (.pl (.bl (tv (isPt v n)))) [.pl v, .pl (.int n)] := by
  refine says_call ?_
  have he := is_wholes_ok (n := n + 1) hk hs
  by_cases h : isW v (n + 1)
  · rw [tv_t h] at he
    obtain ⟨xs, rfl, hl⟩ := h
    have hx := ix_lastT (xs := xs) (by intro e; rw [e] at hl; simp at hl; omega)
    walk_at "fn"
    unfold b_is_point
    walk_at "run"
    refine ⟨says_b ?_, rfl⟩
    rw [decide_eq_true_eq]
    exact ⟨fun h => ⟨xs, rfl, hl, h⟩, fun ⟨ys, e, _, h⟩ => by rw [tup_iL e]; exact h⟩
  · rw [tv_f h] at he
    walk_at "fn"
    unfold b_is_point
    walk_at "run"
    exact ⟨says_f fun ⟨xs, e, hl, _⟩ => h ⟨xs, e, hl⟩, rfl⟩
theorem is_direction_ok {v : D} {n : Int} (hk : K3 v) (hs : K3s v) (hn : 0 ≤ n) : m_is_direction [.pl v, .pl (.int n)] = .ok (.pl (.bl (tv (isDir v n)))) [.pl v, .pl (.int n)] := by
  refine says_call ?_
  have he := is_wholes_ok (n := n + 1) hk hs
  by_cases h : isW v (n + 1)
  · rw [tv_t h] at he
    obtain ⟨xs, rfl, hl⟩ := h
    have hx := ix_lastT (xs := xs) (by intro e; rw [e] at hl; simp at hl; omega)
    walk_at "fn"
    unfold b_is_direction
    walk_at "run"
    walk_at "sp"
    · rename_i hc
      walk_at "run"
      exact ⟨says_f fun ⟨ys, e, _, h, _⟩ => hc (by rw [tup_iL e]; exact h), rfl⟩
    · rename_i hc
      walk_at "run"
      refine x_forP (emb := D.int) (E := fun s => [_, _, s]) (fun x => x = 0) none (fun x hx s0 => ?_) fun h s1 => ?_
      · walk_at "run"
        walk_at "sp"
        · rename_i hx0
          walk_at "run"
          exact ⟨says_t ⟨xs, rfl, hl, by simpa using hc, x, hx, hx0⟩, rfl⟩
        · rename_i hx0
          walk_at "run"
          exact ⟨by simpa using hx0, _, rfl⟩
      · walk_at "run"
        exact ⟨says_f fun ⟨ys, e, _, _, x, hx, h0⟩ => h0 (h x (by rw [tup_iL e]; exact hx)), rfl⟩
  · rw [tv_f h] at he
    walk_at "fn"
    unfold b_is_direction
    walk_at "run"
    exact ⟨says_f fun ⟨xs, e, hl, _⟩ => h ⟨xs, e, hl⟩, rfl⟩
theorem is_weights_ok {v : D} {n : Int} (hk : K3 v) (hs : K3s v) : m_is_weights [.pl v, .pl (.int n)] = .ok (.pl (.bl (tv (isWt v n)))) [.pl v, .pl (.int n)] := by
  refine says_call ?_
  have he := is_wholes_ok (n := n + 1) hk hs
  by_cases h : isW v (n + 1)
  · rw [tv_t h] at he
    obtain ⟨xs, rfl, hl⟩ := h
    walk_at "fn"
    unfold b_is_weights
    walk_at "run"
    refine x_forP (emb := D.int) (E := fun s => [_, _, s]) (fun x => 0 ≤ x) none (fun x hx s0 => ?_) fun h s1 => ?_
    · walk_at "run"
      walk_at "sp"
      · rename_i hx0
        walk_at "run"
        exact ⟨says_f fun ⟨ys, e, _, h⟩ => by rw [tup_iL e] at hx; have := h x hx; omega, rfl⟩
      · rename_i hx0
        walk_at "run"
        exact ⟨by omega, _, rfl⟩
    · walk_at "run"
      exact ⟨says_t ⟨xs, rfl, hl, h⟩, rfl⟩
  · rw [tv_f h] at he
    walk_at "fn"
    unfold b_is_weights
    walk_at "run"
    exact ⟨says_f fun ⟨xs, e, hl, _⟩ => h ⟨xs, e, hl⟩, rfl⟩
theorem is_signs_ok {v : D} {n : Int} (hk : K3 v) (hs : K3s v) : m_is_signs [.pl v, .pl (.int n)] = .ok (.pl (.bl (tv (isSg v n)))) [.pl v, .pl (.int n)] := by
  refine says_call ?_
  have he := is_wholes_ok (n := n) hk hs
  by_cases h : isW v n
  · rw [tv_t h] at he
    obtain ⟨xs, rfl, hl⟩ := h
    walk_at "fn"
    unfold b_is_signs
    walk_at "run"
    refine x_forP (emb := D.int) (E := fun s => [_, _, s]) (fun x => x = 1 ∨ x = -1) none (fun x hx s0 => ?_) fun h s1 => ?_
    · walk_at "run"
      walk_at "sp"
      · rename_i hx0
        walk_at "run"
        exact ⟨says_f fun ⟨ys, e, _, h⟩ => by rw [tup_iL e] at hx; have := h x hx; omega, rfl⟩
      · rename_i hx0
        walk_at "run"
        exact ⟨by omega, _, rfl⟩
    · walk_at "run"
      exact ⟨says_t ⟨xs, rfl, hl, h⟩, rfl⟩
  · rw [tv_f h] at he
    walk_at "fn"
    unfold b_is_signs
    walk_at "run"
    exact ⟨says_f fun ⟨xs, e, hl, _⟩ => h ⟨xs, e, hl⟩, rfl⟩

end
section
def isPts (v : D) (cs : List Int) : Prop := ∃ ds, v = .tup ds ∧ ds.length = cs.length ∧ ∀ k, k < cs.length → isPt (ds.getD k .non) (cs.getD k 0)
/-- a value whose items are values of these kinds too -/
def K4 (v : D) : Prop := K3 v ∧ K3s v ∧ ∀ ds, v = .tup ds → ∀ d ∈ ds, K3s d
theorem is_points_ok {v dc : D} {cs : List Int} (hv : K4 v) (hc : SeqI dc cs) (h0 : ∀ c ∈ cs, 0 ≤ c) (hl : cs.length < 1000000) : m_is_points [.pl v, .pl dc] = .ok (.pl (.bl (tv (isPts v cs)))) [.pl v, .pl dc] := by
  refine says_call ?_
  obtain ⟨hk, hs, hd⟩ := hv
  cases hk with
  | int i =>
    rcases hc with rfl | rfl <;>
    · walk_at "fn"
      unfold b_is_points
      walk_at "run"
      exact ⟨says_f fun ⟨_, h, _⟩ => (by cases h), rfl⟩
  | str x =>
    rcases hc with rfl | rfl <;>
    · walk_at "fn"
      unfold b_is_points
      walk_at "run"
      exact ⟨says_f fun ⟨_, h, _⟩ => (by cases h), rfl⟩
  | tup ds =>
    obtain ⟨hl', hs⟩ := hs ds rfl
    have hd := hd ds rfl
    rcases hc with rfl | rfl <;>
    · walk_at "fn"
      unfold b_is_points
      walk_at "run"
      walk_at "sp"
      · rename_i hn
        walk_at "run"
        exact ⟨says_f fun ⟨es, h, e, _⟩ => hn (by injection h with h; rw [h]; omega), rfl⟩
      · rename_i hn
        have hn : ds.length = cs.length := by omega
        walk_at "run"
        refine x_forPR (E := fun s => [_, _, s]) (fun k => isPt (ds.getD k .non) (cs.getD k 0)) none (fun k hk s0 => ?_) fun h s1 => ?_
        · have hm := getD_mm (d := .non) (show k < ds.length by omega)
          have t := is_point_ok (v := ds.getD k .non) (n := cs.getD k 0) (hs _ hm) (hd _ hm) (h0 _ (getD_mm hk))
          walk_at "run"
          walk_at "sp"
          · rename_i hx
            walk_at "run"
            exact ⟨says_f fun ⟨es, h, e, q⟩ => hx (by injection h with h; rw [h]; exact q k hk), rfl⟩
          · rename_i hx
            walk_at "run"
            exact ⟨hx, _, rfl⟩
        · walk_at "run"
          exact ⟨says_t ⟨ds, rfl, hn, h⟩, rfl⟩
theorem law_points_ok {v dc : D} {cs : List Int} (hv : K4 v) (hc : SeqI dc cs) (h0 : ∀ c ∈ cs, 0 ≤ c) (hl : cs.length < 1000000) : m__law_are_points [.pl v, .pl dc] = .ok (.pl (.bl (tv (isPts v cs)))) [.pl v, .pl dc] := by
  refine says_call ?_
  obtain ⟨hk, hs, hd⟩ := hv
  cases hk with
  | int i =>
    rcases hc with rfl | rfl <;>
    · walk_at "fn"
      unfold b__law_are_points
      walk_at "run"
      exact ⟨says_f fun ⟨_, h, _⟩ => (by cases h), rfl⟩
  | str x =>
    rcases hc with rfl | rfl <;>
    · walk_at "fn"
      unfold b__law_are_points
      walk_at "run"
      exact ⟨says_f fun ⟨_, h, _⟩ => (by cases h), rfl⟩
  | tup ds =>
    obtain ⟨hl', hs⟩ := hs ds rfl
    have hd := hd ds rfl
    rcases hc with rfl | rfl <;>
    · walk_at "fn"
      unfold b__law_are_points
      walk_at "run"
      walk_at "sp"
      · rename_i hn
        walk_at "run"
        exact ⟨says_f fun ⟨es, h, e, _⟩ => hn (by injection h with h; rw [h]; omega), rfl⟩
      · rename_i hn
        have hn : ds.length = cs.length := by omega
        walk_at "run"
        refine x_forPR (E := fun s => [_, _, s]) (fun k => isPt (ds.getD k .non) (cs.getD k 0)) none (fun k hk s0 => ?_) fun h s1 => ?_
        · have hm := getD_mm (d := .non) (show k < ds.length by omega)
          have h0 := h0 _ (getD_mm (d := 0) hk)
          have t := are_integers_ok (v := ds.getD k .non) (n := cs.getD k 0 + 1) (hs _ hm) (hd _ hm)
          by_cases hw : isW (ds.getD k .non) (cs.getD k 0 + 1)
          · rw [tv_t hw] at t
            obtain ⟨xs, hx, hl⟩ := hw
            have x1 : opIx (.pl (.tup ds)) (.pl (.int (k : Int))) = some (.pl (.tup (iL xs))) := by
              rw [ixT (at_D rfl (show k < ds.length by omega)), hx]
            rw [hx] at t
            have el : xs.getD (cs.getD k 0).toNat 0 = xs.getD (xs.length - 1) 0 := by congr 1; omega
            walk_at "run"
            walk_at "sp"
            · rename_i hx1
              walk_at "run"
              exact ⟨says_f fun ⟨es, h, e, q⟩ => (by
                injection h with h
                obtain ⟨ys, q1, q2, q3⟩ := q k hk
                rw [← h, hx] at q1
                rw [tup_iL q1] at hx1 el
                omega), rfl⟩
            · rename_i hx1
              walk_at "run"
              exact ⟨⟨xs, hx, hl, by omega⟩, _, rfl⟩
          · rw [tv_f hw] at t
            walk_at "run"
            exact ⟨says_f fun ⟨es, h, e, q⟩ => (by injection h with h; obtain ⟨ys, q1, q2, q3⟩ := q k hk; exact hw ⟨ys, by rw [h]; exact q1, q2⟩), rfl⟩
        · walk_at "run"
          exact ⟨says_t ⟨ds, rfl, hn, h⟩, rfl⟩

end
section
/-- a headed value -/
def hdP (v : D) (w : Str) (n : Int) : Prop := ∃ r, v = .tup (.str w :: r) ∧ ((r.length + 1 : Nat) : Int) = n
theorem is_word_ok {v : D} (hk : K3 v) (hl : ∀ x, v = .str x → x.length < 1000) : m_is_word [.pl v] = .ok (.pl (.bl (tv (wordV v)))) [.pl v] := by
  refine says_call ?_
  cases hk with
  | int i =>
    walk_at "fn"
    unfold b_is_word
    walk_at "run"
    exact ⟨says_f fun ⟨_, h, _⟩ => (by cases h), rfl⟩
  | tup i =>
    walk_at "fn"
    unfold b_is_word
    walk_at "run"
    exact ⟨says_f fun ⟨_, h, _⟩ => (by cases h), rfl⟩
  | str x =>
    have hl := hl x rfl
    walk_at "fn"
    unfold b_is_word
    walk_at "run"
    walk_at "sp"
    · rename_i hc
      walk_at "run"
      exact ⟨says_f fun ⟨y, h, h1, h2, _⟩ => (by injection h with h; subst h; omega), rfl⟩
    · rename_i hc
      walk_at "run"
      refine x_forP (emb := fun c => D.str ⟨#[c]⟩) (E := fun s => [_, s]) (fun c => c ∈ abc.cps.toList) none (fun c hm s0 => ?_) fun h s1 => ?_
      · walk_at "run"
        walk_at "sp"
        · rename_i hx
          walk_at "run"
          exact ⟨says_f fun ⟨y, h, _, _, h3⟩ => hx (by injection h with h; subst h; exact h3 c hm), rfl⟩
        · rename_i hx
          walk_at "run"
          exact ⟨hx, _, rfl⟩
      · walk_at "run"
        exact ⟨says_t ⟨x, rfl, by omega, by omega, h⟩, rfl⟩
theorem law_word_ok {v : D} (hk : K3 v) (hl : ∀ x, v = .str x → x.length < 1000) : m__law_is_word [.pl v] = .ok (.pl (.bl (tv (wordV v)))) [.pl v] := by
  refine says_call ?_
  cases hk with
  | int i =>
    walk_at "fn"
    unfold b__law_is_word
    walk_at "run"
    exact ⟨says_f fun ⟨_, h, _⟩ => (by cases h), rfl⟩
  | tup i =>
    walk_at "fn"
    unfold b__law_is_word
    walk_at "run"
    exact ⟨says_f fun ⟨_, h, _⟩ => (by cases h), rfl⟩
  | str x =>
    have hl := hl x rfl
    walk_at "fn"
    unfold b__law_is_word
    walk_at "run"
    walk_at "sp"
    · rename_i hc
      walk_at "run"
      exact ⟨says_f fun ⟨y, h, h1, h2, _⟩ => (by injection h with h; subst h; omega), rfl⟩
    · rename_i hc
      walk_at "run"
      refine ⟨says_b ?_, rfl⟩
      rw [decide_eq_true_eq]
      constructor
      · intro h
        have h : (x.cps.toList.filter fun c => !decide (c ∈ (Str.ofString "abcdefghijklmnopqrstuvwxyz").cps.toList)).length = 0 := by omega
        rw [List.length_eq_zero_iff, List.filter_eq_nil_iff] at h
        exact ⟨x, rfl, by omega, by omega, fun c hm => by have := h c hm; simpa using this⟩
      · rintro ⟨y, h, _, _, h3⟩
        injection h with h
        subst h
        have : (x.cps.toList.filter fun c => !decide (c ∈ (Str.ofString "abcdefghijklmnopqrstuvwxyz").cps.toList)).length = 0 := by
          rw [List.length_eq_zero_iff, List.filter_eq_nil_iff]
          intro c hm
          have := h3 c hm
          simpa using this
        omega
theorem is_headed_ok {v : D} {w : Str} {n : Int} (hk : K3 v) (hs : K3s v) (hf : ∀ ds, v = .tup ds → ∀ d ∈ ds, D.flat 40 d = true) (hw : PyData.strOk w = true) : m_is_headed [.pl v, .pl (.str w), .pl (.int n)] = .ok (.pl (.bl (tv (hdP v w n)))) [.pl v, .pl (.str w), .pl (.int n)] := by
  refine says_call ?_
  cases hk with
  | int i =>
    walk_at "fn"
    unfold b_is_headed
    walk_at "run"
    exact ⟨says_f fun ⟨_, h, _⟩ => (by cases h), rfl⟩
  | str i =>
    walk_at "fn"
    unfold b_is_headed
    walk_at "run"
    exact ⟨says_f fun ⟨_, h, _⟩ => (by cases h), rfl⟩
  | tup ds =>
    obtain ⟨hl, hs⟩ := hs ds rfl
    have hf := hf ds rfl
    cases ds with
    | nil =>
      by_cases hn : n = 0
      · subst hn
        walk_at "fn"
        unfold b_is_headed
        walk_at "run"
        exact ⟨says_f fun ⟨_, h, _⟩ => (by cases h), rfl⟩
      · have hn : ¬ (0 : Int) = n := fun h => hn h.symm
        have c1 : opEq false (.pl (.int 0)) (.pl (.int n)) = some (.pl (.bl false)) := by rw [oEq, decide_eq_false hn]
        walk_at "fn"
        unfold b_is_headed
        walk_at "run"
        exact ⟨says_f fun ⟨_, h, _⟩ => (by cases h), rfl⟩
    | cons d r =>
      have hd := hs d (by simp)
      have fd := hf d (by simp)
      have e1 : opEq false (.pl d) (.pl (.str w)) = some (.pl (.bl (D.eqv d (.str w)))) := oEqD fd hw
      have e2 : D.eqv d (.str w) = tv (d = .str w) := by
        cases hd with
        | int i => rw [tv_f (fun h => by cases h)]; rfl
        | tup i => rw [tv_f (fun h => by cases h)]; rfl
        | str y =>
          by_cases h : y = w
          · subst h; rw [tv_t rfl]; simp [D.eqv]
          · rw [tv_f (fun e => by injection e with e; exact h e)]; simpa [D.eqv] using h
      rw [e2] at e1
      walk_at "fn"
      unfold b_is_headed
      walk_at "run"
      refine ⟨says_b ?_, rfl⟩
      simp only [Bool.and_eq_true, decide_eq_true_eq, tv_iff]
      constructor
      · rintro ⟨h1, h2, rfl⟩; exact ⟨r, rfl, h1⟩
      · rintro ⟨r', h, h1⟩
        injection h with h
        injection h with h h'
        subst h h'
        exact ⟨h1, by omega, rfl⟩

end
section
theorem isW_one {d : D} (hk : K3 d) : isW (.tup [d]) 1 ↔ ∃ i, d = .int i := by
  constructor
  · rintro ⟨xs, h, e⟩
    injection h with h
    have : d ∈ iL xs := by rw [← h]; simp
    exact iL_mem this
  · rintro ⟨i, rfl⟩
    exact ⟨[i], rfl, rfl⟩
theorem certificate_ok {v : D} (hg : Good v) (hn : nodes v < 100000) : m_is_certificate [.pl v] = .ok (.pl (.bl (tv (certP 8 v)))) [.pl v] := by
  refine says_call ?_
  walk_at "fn"
  unfold b_is_certificate
  walk_at "run"
  refine x_forR (n := 9) (E := fun s : List D × Option T × Option T × Option T => [_, some (.pl (.lst s.1)), s.2.1, s.2.2.1, s.2.2.2]) (fun k s => CI v k s.1 []) ([v], none, none, none) (CI.start hg hn) (fun k s hk hi => ?_) fun s hi => ?_
  · walk_at "run"
    refine x_forID (ds := s.1) (E := fun t : List D × Option T => [_, _, _, some (.ol t.1), t.2]) (fun j t => CI v k (s.1.drop j) t.1) ([], s.2.2.2) (by simpa using hi) (fun j d t hj hi => ?_) fun t hi => ?_
    · rw [List.drop_eq_getElem_cons (List.getElem?_eq_some_iff.mp hj).1, (List.getElem?_eq_some_iff.mp hj).2] at hi
      have hd := hi.gr d (by simp)
      cases hd with
      | int i =>
        have tw := is_whole_int (i := i)
        walk_at "run"
        exact ⟨(_, some _), hi.leaf fun n => certP_int, rfl⟩
      | str x hx hx' =>
        have tv := is_whole_str (x := x)
        have tw := is_word_ok (v := .str x) (.str x) (fun y h => by injection h with h; subst h; exact hx)
        walk_at "run"
        walk_at "sp"
        · rename_i hw
          walk_at "run"
          have nw : ¬ wordP 12 x := fun h => hw ⟨x, rfl, h⟩
          exact ⟨says_f (hi.bad (fun _ h => nw (certP_str.mp h)) fun _ h => nw (certP_str.mp h)), rfl⟩
        · rename_i hw
          walk_at "run"
          obtain ⟨y, h, hw⟩ := hw
          injection h with h
          subst h
          exact ⟨(_, some _), hi.leaf fun n => certP_str.mpr hw, rfl⟩
      | tup ds hds =>
        have hl := hi.len
        have hz := hi.sz
        rw [nodes.nodess, nodes] at hz
        have hl2 := nodess_len ds
        have hx : lExtend t.1 [.lst ds] = some (.non, t.1 ++ ds) := ext_ok (by omega)
        walk_at "run"
        walk_at "sp"
        · rename_i h8
          have h8 : k = 8 := by omega
          walk_at "run"
          exact ⟨says_f (hi.bad (fun h => by omega) fun _ h => h.elim), rfl⟩
        · rename_i h8
          have h8 : k ≠ 8 := by omega
          walk_at "run"
          exact ⟨(_, some _), hi.tup h8, rfl⟩
    · rw [List.drop_length] at hi
      walk_at "run"
      exact ⟨(_, _, _, _), hi.next, rfl⟩
  · walk_at "run"
    exact ⟨says_t (hi.hi (by decide)).2.2, rfl⟩
theorem nested_ok {v : D} (hg : Good v) (hn : nodes v < 100000) : m__law_is_nested [.pl v] = .ok (.pl (.bl (tv (certP 8 v)))) [.pl v] := by
  refine says_call ?_
  walk_at "fn"
  unfold b__law_is_nested
  walk_at "run"
  refine x_forR (n := 13) (E := fun s : List D × Option T × Option T × Option T => [_, some (.pl (.lst s.1)), s.2.1, s.2.2.1, s.2.2.2]) (fun k s => CI v k s.1 []) ([v], none, none, none) (CI.start hg hn) (fun k s hk hi => ?_) fun s hi => ?_
  · walk_at "run"
    refine x_forID (ds := s.1) (E := fun t : List D × Option T => [_, _, _, some (.pl (.lst t.1)), t.2]) (fun j t => CI v k (s.1.drop j) t.1) ([], s.2.2.2) (by simpa using hi) (fun j d t hj hi => ?_) fun t hi => ?_
    · rw [List.drop_eq_getElem_cons (List.getElem?_eq_some_iff.mp hj).1, (List.getElem?_eq_some_iff.mp hj).2] at hi
      have hd := hi.gr d (by simp)
      have k3 := hd.k3
      have ti := are_integers_ok (v := .tup [d]) (n := 1) (.tup _) (fun ds h => by injection h with h; subst h; exact ⟨by simp, fun e he => by simp at he; subst he; exact k3⟩)
      cases hd with
      | int i =>
        rw [tv_t ((isW_one (.int i)).mpr ⟨i, rfl⟩)] at ti
        walk_at "run"
        exact ⟨(_, some _), hi.leaf fun n => certP_int, rfl⟩
      | str x hx hx' =>
        rw [tv_f fun h => (by obtain ⟨i, h⟩ := (isW_one (.str x)).mp h; cases h)] at ti
        have tw := law_word_ok (v := .str x) (.str x) (fun y h => by injection h with h; subst h; exact hx)
        walk_at "run"
        walk_at "sp"
        · rename_i hw
          walk_at "run"
          have nw : ¬ wordP 12 x := fun h => hw ⟨x, rfl, h⟩
          exact ⟨says_f (hi.bad (fun _ h => nw (certP_str.mp h)) fun _ h => nw (certP_str.mp h)), rfl⟩
        · rename_i hw
          walk_at "run"
          obtain ⟨y, h, hw⟩ := hw
          injection h with h
          subst h
          exact ⟨(_, some _), hi.leaf fun n => certP_str.mpr hw, rfl⟩
      | tup ds hds =>
        have hl := hi.len
        have hz := hi.sz
        rw [nodes.nodess, nodes] at hz
        have hl2 := nodess_len ds
        walk_at "run"
        walk_at "sp"
        · rename_i h8
          walk_at "run"
          exact ⟨says_f (hi.bad (fun h => by omega) fun _ h => h.elim), rfl⟩
        · rename_i h8
          have h8 : k ≠ 8 := by omega
          walk_at "run"
          exact ⟨(_, some _), hi.tup h8, rfl⟩
    · rw [List.drop_length] at hi
      walk_at "run"
      exact ⟨(_, _, _, _), hi.next, rfl⟩
  · walk_at "run"
    exact ⟨says_t (hi.hi (by decide)).2.2, rfl⟩

end
section
theorem truths_ok {bs : List Bool} (hl : bs.length < 1000) : m__law_are_truths [.pl (.lst (bs.map D.bl)), .pl (.lst (bs.map D.bl))] = .ok (.pl (.bl true)) [.pl (.lst (bs.map D.bl)), .pl (.lst (bs.map D.bl))] := by
  refine WF.is ?_
  walk_at "fn"
  unfold b__law_are_truths
  walk_at "run"
  refine x_forPR (E := fun s => [_, _, s]) (fun k => True) none (fun k hk s0 => ?_) fun h s1 => ?_
  · have x : opIx (.pl (.lst (bs.map D.bl))) (.pl (.int (k : Int))) = some (.pl (.bl (bs.getD k false))) := by
      rw [ixL (at_map rfl (List.getElem?_eq_getElem hk)), List.getD_eq_getElem?_getD, List.getElem?_eq_getElem hk]; rfl
    walk_at "run"
    exact ⟨trivial, _, rfl⟩
  · walk_at "run"
    exact ⟨by simp, rfl⟩

end
section
theorem asked_ok {v : D} {n : Int} (hg : Good v) (hz : nodes v < 10000) (hc : certP 8 v) (hn : 0 ≤ n) : m__law_asked [.pl v, .pl (.int n)] = .ok (.pl (.bl true)) [.pl v, .pl (.int n)] := by
  refine WF.is ?_
  have k3 := hg.k3
  have ks := hg.k3s (by omega)
  have hw : ∀ x, v = .str x → x.length < 1000 := fun x e => by subst e; cases hg; assumption
  have l1 := are_integers_ok (n := n + 1) k3 ks
  have l2 := are_integers_ok (n := n) k3 ks
  have l3 := are_integers_ok (v := .tup [v]) (n := 1) (.tup _) (fun ds h => by injection h with h; subst h; exact ⟨by simp, fun e he => by simp at he; subst he; exact k3⟩)
  rw [tv_congr (isW_one k3)] at l3
  have l4 := law_word_ok k3 hw
  have t1 := is_whole_ok k3
  have t2 := is_wholes_ok (n := n) k3 ks
  have t3 := is_point_ok k3 ks hn
  have t4 := is_direction_ok k3 ks hn
  have t5 := is_weights_ok (n := n) k3 ks
  have t6 := is_signs_ok (n := n) k3 ks
  have t7 := is_word_ok k3 hw
  have t8 := certificate_ok hg (by omega)
  rw [tv_t hc] at t8
  by_cases hi : ∃ xs, v = .tup (iL xs)
  · obtain ⟨xs, rfl⟩ := hi
    have hl : xs.length < 10000 := by
      have := nodess_len (iL xs)
      rw [nodes] at hz
      rw [List.length_map] at this
      omega
    by_cases ha : (xs.length : Int) = n + 1
    · -- longer
      rw [tv_t (isW_iL.mpr ha)] at l1
      rw [tv_f fun h => (by have := isW_iL.mp h; omega)] at l2 t2
      have e3 : tv (isPt (.tup (iL xs)) n) = decide (1 ≤ xs.getD n.toNat 0) := by
        have e : xs.length - 1 = n.toNat := by omega
        rw [← tv_dec]
        refine tv_congr ⟨fun ⟨ys, h, _, q⟩ => ?_, fun h => ⟨xs, rfl, ha, by rw [e]; exact h⟩⟩
        rw [← tup_iL h, e] at q; exact q
      have e4 : tv (isDir (.tup (iL xs)) n) = (decide (xs.getD n.toNat 0 = 0) && decide ((0 : Int) < ((xs.filter fun x => !decide (x = 0)).length : Nat))) := by
        have e : xs.length - 1 = n.toNat := by omega
        rw [← tv_dec, ← tv_dec, tv_and]
        refine tv_congr ⟨fun ⟨ys, h, _, q, x, hx, h0⟩ => ?_, fun ⟨h, h'⟩ => ⟨xs, rfl, ha, by rw [e]; exact h, ?_⟩⟩
        · rw [← tup_iL h] at q hx
          rw [e] at q
          refine ⟨q, ?_⟩
          have : 0 < (xs.filter fun x => !decide (x = 0)).length := List.length_pos_of_mem (List.mem_filter.mpr ⟨hx, by simpa using h0⟩)
          omega
        · have h' : 0 < (xs.filter fun x => !decide (x = 0)).length := by omega
          obtain ⟨x, hx⟩ := List.exists_mem_of_length_pos h'
          have := List.mem_filter.mp hx
          exact ⟨x, this.1, by simpa using this.2⟩
      have e5 : tv (isWt (.tup (iL xs)) n) = decide ((((xs.filter fun x => decide (x < 0)).length : Nat) : Int) = 0) := by
        rw [← tv_dec]
        refine tv_congr ⟨fun ⟨ys, h, _, q⟩ => ?_, fun h => ⟨xs, rfl, ha, fun x hx => ?_⟩⟩
        · rw [← tup_iL h] at q
          have : (xs.filter fun x => decide (x < 0)) = [] := List.filter_eq_nil_iff.mpr fun x hx => by have := q x hx; simp; omega
          rw [this]; rfl
        · have h : (xs.filter fun x => decide (x < 0)).length = 0 := by omega
          have := List.filter_eq_nil_iff.mp (List.length_eq_zero_iff.mp h) x hx
          simp at this; exact this
      rw [e3] at t3
      rw [e4] at t4
      rw [e5] at t5
      rw [tv_f fun ⟨ys, h, q, _⟩ => (by rw [← tup_iL h] at q; omega)] at t6
      rw [tv_f fun ⟨_, h⟩ => (by cases h)] at t1 l3
      rw [tv_f fun ⟨_, h, _⟩ => (by cases h)] at t7 l4
      have tr := truths_ok (bs := [false, false, decide (1 ≤ xs.getD n.toNat 0), decide (xs.getD n.toNat 0 = 0) && decide ((0 : Int) < ((xs.filter fun x => !decide (x = 0)).length : Nat)), decide ((((xs.filter fun x => decide (x < 0)).length : Nat) : Int) = 0), false, false, true]) (by simp)
      simp only [List.map_cons, List.map_nil] at tr
      walk_at "fn"
      unfold b__law_asked
      walk_at "run"
      exact ⟨rfl, rfl⟩
    · by_cases hb : (xs.length : Int) = n
      · -- just
        rw [tv_f fun h => (by have := isW_iL.mp h; omega)] at l1
        rw [tv_t (isW_iL.mpr hb)] at l2 t2
        have e6 : tv (isSg (.tup (iL xs)) n) = decide ((((xs.filter fun x => !(decide (x = 1) || decide (x = -1))).length : Nat) : Int) = 0) := by
          rw [← tv_dec]
          refine tv_congr ⟨fun ⟨ys, h, _, q⟩ => ?_, fun h => ⟨xs, rfl, hb, fun x hx => ?_⟩⟩
          · rw [← tup_iL h] at q
            have : (xs.filter fun x => !(decide (x = 1) || decide (x = -1))) = [] := List.filter_eq_nil_iff.mpr fun x hx => by have := q x hx; simp; omega
            rw [this]; rfl
          · have h : (xs.filter fun x => !(decide (x = 1) || decide (x = -1))).length = 0 := by omega
            have := List.filter_eq_nil_iff.mp (List.length_eq_zero_iff.mp h) x hx
            simp at this; omega
        rw [tv_f fun ⟨ys, h, q, _⟩ => (by rw [← tup_iL h] at q; omega)] at t3 t4 t5
        rw [e6] at t6
        rw [tv_f fun ⟨_, h⟩ => (by cases h)] at t1 l3
        rw [tv_f fun ⟨_, h, _⟩ => (by cases h)] at t7 l4
        have tr := truths_ok (bs := [false, true, false, false, false, decide ((((xs.filter fun x => !(decide (x = 1) || decide (x = -1))).length : Nat) : Int) = 0), false, true]) (by simp)
        simp only [List.map_cons, List.map_nil] at tr
        walk_at "fn"
        unfold b__law_asked
        walk_at "run"
        exact ⟨rfl, rfl⟩
      · rw [tv_f fun h => (by have := isW_iL.mp h; omega)] at l1
        rw [tv_f fun h => (by have := isW_iL.mp h; omega)] at l2 t2
        rw [tv_f fun ⟨ys, h, q, _⟩ => (by rw [← tup_iL h] at q; omega)] at t3 t4 t5 t6
        rw [tv_f fun ⟨_, h⟩ => (by cases h)] at t1 l3
        rw [tv_f fun ⟨_, h, _⟩ => (by cases h)] at t7 l4
        have tr := truths_ok (bs := [false, false, false, false, false, false, false, true]) (by simp)
        simp only [List.map_cons, List.map_nil] at tr
        walk_at "fn"
        unfold b__law_asked
        walk_at "run"
        exact ⟨rfl, rfl⟩
  · have hi' : ∀ m, ¬ isW v m := fun m ⟨xs, h, _⟩ => hi ⟨xs, h⟩
    rw [tv_f (hi' _)] at l1
    rw [tv_f (hi' _)] at l2 t2
    rw [tv_f fun ⟨ys, h, _⟩ => hi ⟨ys, h⟩] at t3 t4 t5 t6
    have tr := truths_ok (bs := [tv (∃ i, v = D.int i), false, false, false, false, false, tv (wordV v), true]) (by simp)
    simp only [List.map_cons, List.map_nil] at tr
    walk_at "fn"
    unfold b__law_asked
    walk_at "run"
    exact ⟨rfl, rfl⟩

end
section
theorem pick_ok {a b n : Int} {N : Nat} [hs : Sz n N] (hN : N < 9000) (hn : 0 < n) (hb : OkB b) : WF (m__law_pick [.ol [.int a, .int b], .pl (.int n)]) fun t o => ∃ r a' b', t = .pl (.int r) ∧ 0 ≤ r ∧ r < n ∧ o = [.ol [.int a', .int b'], .pl (.int n)] ∧ OkB b' := by
  have m0 := Int.emod_nonneg a (show n ≠ 0 by omega)
  have m1 := Int.emod_lt_of_pos a hn
  have sb : Sz b 31 := ⟨by have := hb.1; have := hb.2; omega⟩
  have q0 := Int.emod_nonneg (b * 48271 + 11) (show (2147483647 : Int) ≠ 0 by decide)
  have q1 := Int.emod_lt_of_pos (b * 48271 + 11) (show (0 : Int) < 2147483647 by decide)
  have sc : Sz ((b * 48271 + 11) % 2147483647) 31 := ⟨by omega⟩
  walk_at "fn"
  unfold b__law_pick
  walk_at "go"
  · exact ⟨_, _, _, rfl, m0, m1, rfl, hb⟩
  · exact ⟨_, _, _, rfl, Int.emod_nonneg _ (by omega), Int.emod_lt_of_pos _ hn, rfl, q0, q1⟩
theorem st_pick {a b n : Int} {N : Nat} {Q : T → List T → Prop} [hs : Sz n N] (hN : N < 9000) (hn : 0 < n) (hb : OkB b) (h : ∀ r a' b', 0 ≤ r → r < n → Sz r N → OkB b' → Q (.pl (.int r)) [.ol [.int a', .int b'], .pl (.int n)]) : WF (m__law_pick [.ol [.int a, .int b], .pl (.int n)]) Q :=
  (pick_ok hN hn hb).mono fun t o ⟨r, a', b', h1, h2, h3, h4, h5⟩ => by rw [h1, h4]; exact h r a' b' h2 h3 (sz_lt hs h2 h3) h5
local macro_rules
  | `(tactic| walk_at "ext") => `(tactic| ((with_reducible apply st_pick); (focus decide); (focus first | assumption | decide | omega); (focus assumption); intro r a b h0 h1 hs hb))

theorem number_ok : Drw m__law_number [] fun t => ∃ i, t = .pl (.int i) ∧ Sz i 1100 := by
  intro a b hb
  walk_at "fn"
  unfold b__law_number
  walk_at "run"
  rename_i r a b h0 h1 hs hb
  walk_at "sp"
  · walk_at "run"
    exact ⟨⟨_, rfl, Sz.mono inferInstance (by decide)⟩, a, b, hb, rfl⟩
  · walk_at "run"
    rename_i r1 _ _ p0 p1 ps _ r2 a b q0 q1 qs hb
    obtain ⟨d, hd, x, rfl, x0, x1⟩ := lit_ix (ds := [.int 0, .int 1, .int 4, .int 30]) (P := fun d => ∃ x : Int, d = .int x ∧ 0 ≤ x ∧ x ≤ 30) q0 q1 (by simp)
    have hr := rngI x0 (by omega)
    walk_at "run"
    refine x_forR (n := x.toNat) (E := fun s : Int × Int × Int × Option T => [some (.ol [.int s.1, .int s.2.1]), _, some (.pl (.int s.2.2.1)), s.2.2.2]) (fun k s => OkB s.2.1 ∧ Sz s.2.2.1 (10 + 32 * k)) (a, b, r1 + 1, none) ⟨hb, (show Sz (r1 + 1) (10 + 32 * 0) from Sz.mono inferInstance (by decide))⟩ (fun k s hk hi => ?_) fun s hi => ?_
    · obtain ⟨a, b, n, s3⟩ := s
      obtain ⟨hb, hn⟩ := hi
      have hn : Sz n (10 + 32 * k) := hn
      have hk : k < 30 := by omega
      walk_at "run"
      rename_i r _ _ _ _ hr _
      refine ⟨(_, _, _, some _), ⟨by assumption, ?_⟩, rfl⟩
      have hr : Sz r 30 := hr
      exact Sz.mono (inferInstance : Sz (n * 1000000000 + r) _) (by omega)
    · obtain ⟨a, b, n, s3⟩ := s
      obtain ⟨hb, hn⟩ := hi
      have hn : Sz n 1000 := hn.mono (by omega)
      have hb : OkB b := hb
      walk_at "run"
      exact ⟨⟨_, rfl, Sz.mono inferInstance (by decide)⟩, _, _, by assumption, rfl⟩
theorem st_number {a b : Int} {Q : T → List T → Prop} (hb : OkB b) (h : ∀ i a' b', Sz i 1100 → OkB b' → Q (.pl (.int i)) [.ol [.int a', .int b']]) : WF (m__law_number [.ol [.int a, .int b]]) Q :=
  st_drw number_ok hb fun t a' b' ⟨i, h1, h2⟩ h3 => by rw [h1]; exact h i a' b' h2 h3
local macro_rules
  | `(tactic| walk_at "ext") => `(tactic| ((with_reducible apply st_number); (focus assumption); intro i a b hi hb))

/-- small letters, few of them -/
def wd (n : Nat) (x : Str) : Prop := 1 ≤ x.length ∧ x.length ≤ n ∧ ∀ c ∈ x.cps.toList, c ∈ abc.cps.toList
theorem word_ok {n : Int} (hn : 0 < n) (hs : n < 100) : Drw m__law_word [.pl (.int n)] fun t => ∃ x, t = .pl (.str x) ∧ wd n.toNat x := by
  intro a b hb
  have sn : Sz n 7 := ⟨by omega⟩
  walk_at "fn"
  unfold b__law_word
  walk_at "run"
  rename_i r a b h0 h1 hs hb
  have hr := rngI (i := r + 1) (by omega) (by omega)
  walk_at "run"
  refine x_forR (n := (r + 1).toNat) (E := fun s : Int × Int × Str × Option T => [some (.ol [.int s.1, .int s.2.1]), _, some (.pl (.str s.2.2.1)), s.2.2.2]) (fun k s => OkB s.2.1 ∧ s.2.2.1.length = k ∧ ∀ c ∈ s.2.2.1.cps.toList, c ∈ abc.cps.toList) (a, b, _, none) ⟨hb, rfl, by intro c hc; cases hc⟩ (fun k s hk hi => ?_) fun s hi => ?_
  · obtain ⟨a, b, x, s3⟩ := s
    obtain ⟨hb, hl, hx⟩ := hi
    have hb : OkB b := hb
    have hl : x.length = k := hl
    walk_at "run"
    rename_i q _ _ q0 q1 _ hb'
    obtain ⟨c, hc, ix⟩ := abc_ix q0 q1
    have hz : x.length + (⟨#[c]⟩ : Str).length ≤ big := by
      show x.length + 1 ≤ 1000000
      omega
    walk_at "run"
    refine ⟨(_, _, _, some _), ⟨by assumption, ?_, ?_⟩, rfl⟩
    · show (x ++ (⟨#[c]⟩ : Str)).length = k + 1
      rw [str_len_append, hl]; rfl
    · intro e he
      rcases str_mem_append.mp he with he | he
      · exact hx e he
      · simp at he; subst he; exact hc
  · obtain ⟨a, b, x, s3⟩ := s
    obtain ⟨hb, hl, hx⟩ := hi
    have hl : x.length = (r + 1).toNat := hl
    walk_at "run"
    exact ⟨⟨x, rfl, by omega, by omega, hx⟩, a, b, hb, rfl⟩

end
section
local macro_rules
  | `(tactic| walk_at "ext") => `(tactic| ((with_reducible apply st_pick); (focus decide); (focus first | assumption | decide | omega); (focus assumption); intro r a b h0 h1 hs hb))

local macro_rules
  | `(tactic| walk_at "ext") => `(tactic| ((with_reducible apply st_number); (focus assumption); intro i a b hi hb))

theorem right_ok {f n : Int} (hn : 0 ≤ n) (hs : n < 100) : Drw m__law_right [.pl (.int f), .pl (.int n)] fun t => ∃ xs, t = .pl (.tup (iL xs)) ∧ Szs xs 1200 ∧ xs.length < 200 := by
  intro a b hb
  have hr := rngI hn (by omega)
  have sn : Sz n 8 := ⟨by omega⟩
  walk_at "fn"
  unfold b__law_right
  walk_at "run"
  refine x_mdraw (emb := fun k : Nat => D.int (k : Int)) (E := fun s : Int × Int => [some (.ol [.int s.1, .int s.2]), _, _, none, none, none, none]) (fun d => ∃ i, d = .int i ∧ Sz i 1100) (fun s => OkB s.2) (a, b) rfl hb (fun k hk s hi => ?_) fun acc s hl hp hi => ?_
  · have hb : OkB s.2 := hi
    walk_at "run"
    rename_i i a b si hb
    exact ⟨⟨i, rfl, si⟩, c_one (a, b) hb rfl⟩
  · obtain ⟨xs, rfl, sx, xl⟩ := ints_sz hp
    have hb : OkB s.2 := hi
    rw [List.length_range] at hl
    have xl : xs.length = n.toNat := by rw [xl]; exact hl
    walk_at "run"
    rename_i last a b sl hb
    walk_at "sp"
    · walk_at "run"
      exact ⟨⟨_, rfl, (sx.mono (by decide)).app (Szs.one (inferInstance : Sz ((last.natAbs : Int) + 1) _) (by decide)), by simp; omega⟩, a, b, hb, rfl⟩
    · walk_at "run"
      walk_at "sp"
      · walk_at "run"
        refine IfG.join (fun e => ∃ (ys : List Int) (a b : Int), Szs ys 1150 ∧ ys.length = n.toNat ∧ OkB b ∧ e = [some (.ol [.int a, .int b]), some (.pl (.int f)), some (.pl (.int n)), some (.ol (iL ys)), some (.pl (.int (last.natAbs : Int))), none, none]) ?_ ?_ ?_
        · walk_at "hc"
          walk_at "run"
          refine x_mdraw (emb := fun k : Nat => D.int (k : Int)) (E := fun s : Unit => [some (.ol [.int _, .int _]), _, _, _, _, none, none]) (fun d => ∃ i, d = .int i ∧ Sz i 1150) (fun s => True) () rfl trivial (fun k hk s _ => ?_) fun acc s hl hp _ => ?_
          · walk_at "run"
            exact ⟨⟨0, rfl, ⟨by decide⟩⟩, c_one () trivial rfl⟩
          · obtain ⟨ys, rfl, sy, yl⟩ := ints_sz hp
            rw [List.length_range] at hl
            walk_at "run"
            exact ⟨ys, _, _, sy, by rw [yl]; exact hl, by assumption, rfl⟩
        · walk_at "hc"
          walk_at "run"
          exact ⟨xs, _, _, sx.mono (by decide), xl, by assumption, rfl⟩
        rintro e ⟨ys, a, b, sy, ly, hb, rfl⟩
        have tl : ∀ (zs : List Int), Szs zs 1150 → zs.length = n.toNat → Szs (zs ++ [0]) 1200 ∧ (zs ++ [0]).length < 200 := fun zs sz lz => ⟨(sz.mono (by decide)).app (Szs.one (inferInstance : Sz (0 : Int) _) (by decide)), by simp; omega⟩
        walk_at "run"
        walk_at "ifg"
        refine IfG.join (fun e => ∃ (ys : List Int) (a b : Int), Szs ys 1150 ∧ ys.length = n.toNat ∧ OkB b ∧ e = [some (.ol [.int a, .int b]), some (.pl (.int f)), some (.pl (.int n)), some (.ol (iL ys)), some (.pl (.int (last.natAbs : Int))), none, none]) ?_ ?_ ?_
        · walk_at "hc"
          walk_at "run"
          rename_i r a b q0 q1 qs hb
          obtain ⟨d, hd, x, rfl, sx⟩ := lit_ix (ds := [.int 1, .int (-1), .int ((last.natAbs : Int) + 2)]) (P := fun d => ∃ x : Int, d = .int x ∧ Sz x 1150) q0 q1 (by
            simp only [List.mem_cons, List.not_mem_nil, or_false, forall_eq_or_imp, forall_eq]
            exact ⟨⟨_, rfl, ⟨by decide⟩⟩, ⟨_, rfl, ⟨by decide⟩⟩, ⟨_, rfl, Sz.mono inferInstance (by decide)⟩⟩)
          walk_at "run"
          rename_i r a b q0 q1 qs hb
          have ixn : L2.ixN (iL ys).length r = some r.toNat := ixN_nat (by omega) (by rw [List.length_map]; omega)
          walk_at "run"
          exact ⟨_, _, _, sy.set sx, by rw [List.length_set]; exact ly, hb, rfl⟩
        · walk_at "hc"
          walk_at "run"
          exact ⟨ys, a, b, sy, ly, hb, rfl⟩
        rintro e ⟨zs, a, b, sz, lz, hb, rfl⟩
        obtain ⟨t1, t2⟩ := tl zs sz lz
        walk_at "run"
        exact ⟨⟨_, rfl, t1, t2⟩, a, b, hb, rfl⟩
      · walk_at "run"
        walk_at "sp"
        · walk_at "run"
          have sm : Szs (xs.map fun x => (x.natAbs : Int)) 1200 := sx.map fun x hx => Sz.mono (inferInstance : Sz (x.natAbs : Int) 1100) (by decide)
          exact ⟨⟨_, rfl, sm.app (Szs.one (inferInstance : Sz (last.natAbs : Int) _) (by decide)), by simp; omega⟩, a, b, hb, rfl⟩
        · walk_at "run"
          walk_at "sp"
          · walk_at "run"
            refine x_mdraw (emb := fun k : Nat => D.int (k : Int)) (E := fun s : Int × Int => [some (.ol [.int s.1, .int s.2]), _, _, some (.ol (iL xs)), _, none, none]) (fun d => ∃ i, d = .int i ∧ Sz i 1200) (fun s => OkB s.2) (_, _) rfl hb (fun k hk s hi => ?_) fun acc s hl hp hi => ?_
            · have hb : OkB s.2 := hi
              walk_at "run"
              rename_i r a b q0 q1 qs hb
              have s1 : Sz (2 * r) 4 := ⟨by omega⟩
              walk_at "run"
              exact ⟨⟨_, rfl, Sz.mono inferInstance (by decide)⟩, c_one (a, b) hb rfl⟩
            · obtain ⟨ys, rfl, sy, yl⟩ := ints_sz hp
              rw [List.length_range] at hl
              walk_at "run"
              exact ⟨⟨ys, rfl, sy, by omega⟩, _, _, hi, rfl⟩
          · walk_at "run"
            exact ⟨⟨xs, rfl, sx.mono (by decide), by omega⟩, a, b, hb, rfl⟩

end
section
local macro_rules
  | `(tactic| walk_at "ext") => `(tactic| ((with_reducible apply st_pick); (focus decide); (focus first | assumption | decide | omega); (focus assumption); intro r a b h0 h1 hs hb))

local macro_rules
  | `(tactic| walk_at "ext") => `(tactic| ((with_reducible apply st_number); (focus assumption); intro i a b hi hb))

theorem spoilt_ok {xs : List Int} {n : Nat} (hl : xs.length < n) (hn : n ≤ 1000) : Drw m__law_spoilt [.pl (.tup (iL xs))] fun t => ∃ ds, t = .pl (.tup ds) ∧ Leaves ds n := by
  intro a b hb
  have sx : Sz ((xs.length : Int) + 1) 11 := ⟨by omega⟩
  walk_at "fn"
  unfold b__law_spoilt
  walk_at "run"
  rename_i kind _ _ k0 k1 _ _ p a b p0 p1 _ hb
  walk_at "sp"
  · walk_at "run"
    rename_i i a b _ hb
    have hx : lInsert (iL xs) [.int p, .int i] = some (.non, (iL xs).take p.toNat ++ [.int i] ++ (iL xs).drop p.toNat) := ins_ok p0 (by omega) (by rw [List.length_map]; show _ < 1000000; omega)
    walk_at "run"
    refine ⟨⟨_, rfl, ⟨fun d hd => ?_, ?_⟩⟩, a, b, hb, rfl⟩
    · rcases List.mem_append.mp hd with hd | hd
      · rcases List.mem_append.mp hd with hd | hd
        · obtain ⟨j, rfl⟩ := iL_mem (List.mem_of_mem_take hd); exact .int
        · simp at hd; subst hd; exact .int
      · obtain ⟨j, rfl⟩ := iL_mem (List.mem_of_mem_drop hd); exact .int
    · simp [iL]; omega
  · rename_i hc
    walk_at "run"
    have q0 := Int.emod_nonneg p (show (xs.length : Int) ≠ 0 by omega)
    have q1 := Int.emod_lt_of_pos p (show 0 < (xs.length : Int) by omega)
    generalize p % (xs.length : Int) = q at q0 q1 ⊢
    have lx : Leaves (iL xs) n := Leaves.ints (by omega)
    have ixq : L2.ixN (iL xs).length q = some q.toNat := ixN_nat (by omega) (by rw [List.length_map]; omega)
    have ixl : L2.ixN (iL xs).length ((xs.length : Int) - 1) = some (xs.length - 1) := ixN_nat (by omega) (by rw [List.length_map]; omega)
    walk_at "sp"
    · have hx := pop_ok (xs := iL xs) q0 (by omega) (by rw [List.length_map]; omega)
      walk_at "run"
      exact ⟨⟨_, rfl, lx.sub (fun e he => List.mem_of_mem_eraseIdx he) (by rw [List.length_eraseIdx, List.length_map]; split <;> omega)⟩, a, b, hb, rfl⟩
    walk_at "run"
    walk_at "sp"
    · walk_at "run"
      rename_i r a b r0 r1 _ hb
      obtain ⟨d, hd, x, rfl⟩ := lit_ix (ds := [.int 0, .int 1, .int (-1)]) (P := fun d => ∃ x : Int, d = .int x) r0 r1 (by simp)
      walk_at "run"
      exact ⟨⟨_, rfl, Leaves.ints (by rw [List.length_set]; omega)⟩, a, b, hb, rfl⟩
    walk_at "run"
    walk_at "sp"
    · walk_at "run"
      rename_i r a b r0 r1 _ hb
      obtain ⟨d, hd, ld⟩ := lit_ix (ds := [.str "a", .str "point", .tup [], .tup [.int 1]]) (P := Leaf) r0 r1 (by
        simp only [List.mem_cons, List.not_mem_nil, or_false, forall_eq_or_imp, forall_eq]
        exact ⟨Leaf.a, Leaf.point, Leaf.nil, Leaf.unit⟩)
      walk_at "run"
      exact ⟨⟨_, rfl, lx.set ld⟩, a, b, hb, rfl⟩
    walk_at "run"
    walk_at "sp"
    · walk_at "run"
      exact ⟨⟨_, rfl, Leaves.ints (by rw [List.length_set]; omega)⟩, a, b, hb, rfl⟩
    walk_at "run"
    rename_i r a b r0 r1 _ hb
    obtain ⟨d, hd, x, rfl⟩ := lit_ix (ds := [.int 0, .int 1, .int (-1), .int 2]) (P := fun d => ∃ x : Int, d = .int x) r0 r1 (by simp)
    walk_at "run"
    exact ⟨⟨_, rfl, Leaves.ints (by rw [List.length_set]; omega)⟩, a, b, hb, rfl⟩

end
section
local macro_rules
  | `(tactic| walk_at "ext") => `(tactic| ((with_reducible apply st_pick); (focus decide); (focus first | assumption | decide | omega); (focus assumption); intro r a b h0 h1 hs hb))

local macro_rules
  | `(tactic| walk_at "ext") => `(tactic| ((with_reducible apply st_number); (focus assumption); intro i a b hi hb))

/-- a case of the heads -/
structure Case (d : D) : Prop where
  ex : ∃ h w n, d = .tup [h, .str w, .int n] ∧ K3 h ∧ K3s h ∧ (∀ ds, h = .tup ds → ∀ d ∈ ds, D.flat 40 d = true) ∧ PyData.strOk w = true
theorem st_word {n a b : Int} {Q : T → List T → Prop} (hn : 0 < n) (hs : n < 100) (hb : OkB b) (h : ∀ x a' b', wd n.toNat x → OkB b' → Q (.pl (.str x)) [.ol [.int a', .int b'], .pl (.int n)]) : WF (m__law_word [.ol [.int a, .int b], .pl (.int n)]) Q :=
  st_drw (word_ok hn hs) hb fun t a' b' ⟨x, h1, h2⟩ h3 => by rw [h1]; exact h x a' b' h2 h3
local macro_rules
  | `(tactic| walk_at "ext") => `(tactic| ((with_reducible apply st_word); (focus decide); (focus decide); (focus assumption); intro x a b hx hb))
theorem heads_ok {xs : List Int} (hl : xs.length < 500) : Drw m__law_heads [.pl (.tup (iL xs))] fun t => t = .pl (.bl true) := by
  intro a b hb
  walk_at "fn"
  unfold b__law_heads
  walk_at "run"
  rename_i x a b hx hb
  obtain ⟨x1, x2, hx⟩ := hx
  have hx : ab x := hx
  have lx : Ln x 12 := ⟨x2⟩
  have sx : Sz (x.length : Int) 5 := ⟨by have : (12 : Int).toNat = 12 := rfl; omega⟩
  walk_at "run"
  rename_i p _ _ p0 p1 ps _ r a b r0 r1 rs hb
  obtain ⟨c, hc, ix⟩ := abc_ix r0 r1
  have hc : ab ⟨#[c]⟩ := ab.one hc
  walk_at "run"
  have fi : ∀ d ∈ iL xs, D.flat 40 d = true := fun d hd => by obtain ⟨i, rfl⟩ := iL_mem hd; exact flat_int
  have ki : ∀ d ∈ iL xs, K3 d := fun d hd => by obtain ⟨i, rfl⟩ := iL_mem hd; exact .int i
  have f39 : ∀ d ∈ D.str x :: iL xs, D.flat 39 d = true := fun d hd => (List.mem_cons.mp hd).elim (fun e => e ▸ flat_str hx.ok) fun hd => by obtain ⟨i, rfl⟩ := iL_mem hd; exact flat_int
  have li : (iL xs).length = xs.length := List.length_map ..
  have mk : ∀ (ds : List D) (w : Str) (n : Int), ds.length < 1000 → (∀ d ∈ ds, K3 d ∧ D.flat 40 d = true) → PyData.strOk w = true → Case (.tup [.tup ds, .str w, .int n]) := fun ds w n h1 h2 h3 =>
    ⟨_, w, n, rfl, .tup _, fun es h => by injection h with h; subst h; exact ⟨by omega, fun d hd => (h2 d hd).1⟩, fun es h => by injection h with h; subst h; exact fun d hd => (h2 d hd).2, h3⟩
  have mz : ∀ (h : D) (w : Str) (n : Int), K3 h → (∀ ds, h ≠ .tup ds) → PyData.strOk w = true → Case (.tup [h, .str w, .int n]) := fun h w n h1 h2 h3 =>
    ⟨h, w, n, rfl, h1, fun ds e => absurd e (h2 ds), fun ds e => absurd e (h2 ds), h3⟩
  have t1 : ∀ d ∈ D.str x :: iL xs, K3 d ∧ D.flat 40 d = true := fun d hd => (List.mem_cons.mp hd).elim (fun e => e ▸ ⟨.str x, flat_str hx.ok⟩) fun hd => ⟨ki d hd, fi d hd⟩
  have t2 : ∀ d ∈ D.tup (D.str x :: iL xs) :: iL xs, K3 d ∧ D.flat 40 d = true := fun d hd => (List.mem_cons.mp hd).elim (fun e => e ▸ ⟨.tup _, flat_tup f39⟩) fun hd => ⟨ki d hd, fi d hd⟩
  have t3 : ∀ d ∈ iL xs ++ [D.str x], K3 d ∧ D.flat 40 d = true := fun d hd => (List.mem_append.mp hd).elim (fun hd => ⟨ki d hd, fi d hd⟩) fun hd => by simp at hd; subst hd; exact ⟨.str x, flat_str hx.ok⟩
  have t4 : ∀ d ∈ [D.str x], K3 d ∧ D.flat 40 d = true := fun d hd => by simp at hd; subst hd; exact ⟨.str x, flat_str hx.ok⟩
  have oz : ab (Str.ofString "z") := by unfold ab; decide
  refine x_forPD (E := fun s : Option T × Option T × Option T × Option T => [_, _, _, _, _, _, _, _, s.1, s.2.1, s.2.2.1, s.2.2.2]) (fun d => True) (none, none, none, none) (fun d hd s0 => ?_) fun h s1 => ?_
  · have hc : Case d := by
      simp only [List.mem_cons, List.not_mem_nil, or_false] at hd
      rcases hd with rfl | rfl | rfl | rfl | rfl | rfl | rfl | rfl | rfl | rfl | rfl
      · exact mk _ _ _ (by simp; omega) t1 hx.ok
      · exact mk _ _ _ (by simp; omega) t1 hx.ok
      · exact mk _ _ _ (by simp; omega) t1 hx.ok
      · exact mk _ _ _ (by simp; omega) t1 ((hx.cut.append hc).append hx.cut).ok
      · exact mk _ _ _ (by simp; omega) t1 (hx.cut.append oz).ok
      · exact mk _ _ _ (by simp; omega) t2 hx.ok
      · exact mz _ _ _ (.str _) (fun _ h => by cases h) hx.ok
      · exact mz _ _ _ (.str _) (fun _ h => by cases h) hx.cut.ok
      · exact mz _ _ _ (.int _) (fun _ h => by cases h) hx.ok
      · exact mk _ _ _ (by simp; omega) t3 hx.ok
      · exact mk _ _ _ (by simp) t4 hx.ok
    obtain ⟨h, w, n, rfl, hk, hs, hf, hw⟩ := hc
    have th := is_headed_ok (n := n) hk hs hf hw
    clear hd
    cases hk with
    | int i =>
      rw [tv_f fun ⟨_, h, _⟩ => (by cases h)] at th
      have tr := truths_ok (bs := [false]) (by simp)
      simp only [List.map_cons, List.map_nil] at tr
      walk_at "run"
      exact ⟨trivial, (_, _, _, _), rfl⟩
    | str i =>
      rw [tv_f fun ⟨_, h, _⟩ => (by cases h)] at th
      have tr := truths_ok (bs := [false]) (by simp)
      simp only [List.map_cons, List.map_nil] at tr
      walk_at "run"
      exact ⟨trivial, (_, _, _, _), rfl⟩
    | tup ds =>
      obtain ⟨hl, hs⟩ := hs ds rfl
      have hf := hf ds rfl
      by_cases q1 : (ds.length : Int) = n
      · have o1 : opEq false (.pl (.int (ds.length : Nat))) (.pl (.int n)) = some (.pl (.bl true)) := by rw [oEq, decide_eq_true q1]
        by_cases q2 : 0 < n
        · have o2 : opGt (.pl (.int n)) (.pl (.int 0)) = some (.pl (.bl true)) := by show some (T.pl (D.bl (decide ((0 : Int) < n)))) = _; rw [decide_eq_true q2]
          cases ds with
          | nil => simp at q1; omega
          | cons d r =>
            have fd := hf d (by simp)
            have ln : opLen [.pl (.tup (d :: r))] = some (.pl (.int ((d :: r).length : Nat))) := rfl
            cases hs d (by simp) with
            | int i =>
              rw [tv_f fun ⟨_, h, _⟩ => (by cases h)] at th
              have tr := truths_ok (bs := [false]) (by simp)
              simp only [List.map_cons, List.map_nil] at tr
              walk_at "run"
              exact ⟨trivial, (_, _, _, _), rfl⟩
            | tup i =>
              rw [tv_f fun ⟨_, h, _⟩ => (by cases h)] at th
              have tr := truths_ok (bs := [false]) (by simp)
              simp only [List.map_cons, List.map_nil] at tr
              walk_at "run"
              exact ⟨trivial, (_, _, _, _), rfl⟩
            | str y =>
              have oy : PyData.strOk y = true := fd
              have e1 : tv (hdP (.tup (.str y :: r)) w n) = decide (y = w) := by
                rw [← tv_dec]
                refine tv_congr ⟨fun ⟨r', h, _⟩ => ?_, fun h => ⟨r, by rw [h], by rw [← q1]; rfl⟩⟩
                injection h with h; injection h with h h'; injection h with h
              rw [e1] at th
              have tr := truths_ok (bs := [decide (y = w)]) (by simp)
              simp only [List.map_cons, List.map_nil] at tr
              walk_at "run"
              exact ⟨trivial, (_, _, _, _), rfl⟩
        · have o2 : opGt (.pl (.int n)) (.pl (.int 0)) = some (.pl (.bl false)) := by show some (T.pl (D.bl (decide ((0 : Int) < n)))) = _; rw [decide_eq_false q2]
          have ln : opLen [.pl (.tup ds)] = some (.pl (.int (ds.length : Nat))) := rfl
          rw [tv_f fun ⟨_, h, h'⟩ => q2 (by omega)] at th
          have tr := truths_ok (bs := [false]) (by simp)
          simp only [List.map_cons, List.map_nil] at tr
          walk_at "run"
          exact ⟨trivial, (_, _, _, _), rfl⟩
      · have o1 : opEq false (.pl (.int (ds.length : Nat))) (.pl (.int n)) = some (.pl (.bl false)) := by rw [oEq, decide_eq_false q1]
        have ln : opLen [.pl (.tup ds)] = some (.pl (.int (ds.length : Nat))) := rfl
        rw [tv_f fun ⟨r, h, h'⟩ => q1 (by injection h with h; rw [h, ← h']; rfl)] at th
        have tr := truths_ok (bs := [false]) (by simp)
        simp only [List.map_cons, List.map_nil] at tr
        walk_at "run"
        exact ⟨trivial, (_, _, _, _), rfl⟩
  · have lf : ∀ d ∈ D.str x :: iL xs, Leaf d := fun d hd => (List.mem_cons.mp hd).elim (fun e => e ▸ ⟨.str x (by have : (12 : Int).toNat = 12 := rfl; omega) hx.ok, by simp [nodes], certP_str.mpr ⟨x1, x2, hx⟩⟩) fun hd => by obtain ⟨i, rfl⟩ := iL_mem hd; exact .int
    have l1 : Leaves (D.str x :: iL xs) 501 := ⟨lf, by rw [List.length_cons]; omega⟩
    have n1 := l1.nodes
    have l2 := Leaves.ints (show xs.length ≤ 500 by omega)
    have g2 : Good (.tup (D.tup (D.str x :: iL xs) :: iL xs)) := .tup _ fun d hd => (List.mem_cons.mp hd).elim (fun e => e ▸ l1.good) fun hd => (l2.all d hd).good
    have n2 : nodes (.tup (D.tup (D.str x :: iL xs) :: iL xs)) < 10000 := by
      have h2 := l2.nodes
      rw [nodes] at h2
      rw [nodes, nodes.nodess]; omega
    have c1 : certP 7 (.tup (D.str x :: iL xs)) := fun d hd => (List.mem_cons.mp hd).elim (fun e => e ▸ certP_str.mpr ⟨x1, x2, hx⟩) fun hd => by obtain ⟨i, rfl⟩ := iL_mem hd; exact certP_int
    have c2 : certP 8 (.tup (D.tup (D.str x :: iL xs) :: iL xs)) := fun d hd => (List.mem_cons.mp hd).elim (fun e => e ▸ c1) fun hd => by obtain ⟨i, rfl⟩ := iL_mem hd; exact certP_int
    have a1 := asked_ok (n := ((iL xs).length + 1 : Nat)) l1.good (by omega) l1.cert (by omega)
    have a2 := asked_ok (n := ((iL xs).length + 1 : Nat) - 1) l1.good (by omega) l1.cert (by omega)
    have a3 := asked_ok (n := ((iL xs).length + 1 : Nat)) g2 n2 c2 (by omega)
    walk_at "run"
    exact ⟨rfl, _, _, hb, rfl⟩

end
section
local macro_rules
  | `(tactic| walk_at "ext") => `(tactic| ((with_reducible apply st_pick); (focus decide); (focus first | assumption | decide | omega); (focus assumption); intro r a b h0 h1 hs hb))

local macro_rules
  | `(tactic| walk_at "ext") => `(tactic| ((with_reducible apply st_number); (focus assumption); intro i a b hi hb))

/-- a case of the rows of points -/
structure PCase (d : D) : Prop where
  ex : ∃ ds cs, d = .lst [.lst ds, .lst (iL cs)] ∧ (∀ e ∈ ds, K3 e ∧ K3s e) ∧ ds.length < 100 ∧ (∀ c ∈ cs, 0 ≤ c) ∧ cs.length < 100
/-- counts -/
def Cnt (d : D) : Prop := ∃ c : Int, d = .int c ∧ 0 ≤ c
theorem cnts {ds : List D} (h : ∀ d ∈ ds, Cnt d) : ∃ cs : List Int, ds = iL cs ∧ (∀ c ∈ cs, 0 ≤ c) := by
  obtain ⟨cs, rfl⟩ := ints_of fun d hd => (h d hd).imp fun c hc => hc.1
  exact ⟨cs, rfl, fun c hc => by obtain ⟨e, h1, h2⟩ := h _ (List.mem_map_of_mem hc); injection h1 with h1; rw [h1]; exact h2⟩
theorem PCase.mk' {ds es : List D} (h1 : ∀ e ∈ ds, K3 e ∧ K3s e) (h2 : ds.length < 100) (h3 : ∀ d ∈ es, Cnt d) (h4 : es.length < 100) : PCase (.lst [.lst ds, .lst es]) := by
  obtain ⟨cs, rfl, h5⟩ := cnts h3
  exact ⟨ds, cs, rfl, h1, h2, h5, by rw [List.length_map] at h4; exact h4⟩
theorem Leaves.kk {ds : List D} {n : Nat} (h : Leaves ds n) (hn : n ≤ 1000) : K3 (.tup ds) ∧ K3s (.tup ds) := ⟨.tup _, fun es e => by injection e with e; subst e; exact ⟨by have := h.len; omega, fun d hd => (h.all d hd).good.k3⟩⟩
theorem st_spoilt {xs : List Int} {n : Nat} {a b : Int} {Q : T → List T → Prop} (hl : xs.length < n) (hn : n ≤ 1000) (hb : OkB b) (h : ∀ ds a' b', Leaves ds n → OkB b' → Q (.pl (.tup ds)) [.ol [.int a', .int b'], .pl (.tup (iL xs))]) : WF (m__law_spoilt [.ol [.int a, .int b], .pl (.tup (iL xs))]) Q :=
  st_drw (spoilt_ok hl hn) hb fun t a' b' ⟨ds, h1, h2⟩ h3 => by rw [h1]; exact h ds a' b' h2 h3
theorem st_right {f n a b : Int} {Q : T → List T → Prop} (hn : 0 ≤ n) (hs : n < 100) (hb : OkB b) (h : ∀ xs a' b', xs.length < 200 → OkB b' → Q (.pl (.tup (iL xs))) [.ol [.int a', .int b'], .pl (.int f), .pl (.int n)]) : WF (m__law_right [.ol [.int a, .int b], .pl (.int f), .pl (.int n)]) Q :=
  st_drw (right_ok hn hs) hb fun t a' b' ⟨xs, h1, _, h2⟩ h3 => by rw [h1]; exact h xs a' b' h2 h3
/-- a row of a drawn table -/
def RowP (d : D) : Prop := ∃ xs : List Int, d = .tup (iL xs) ∧ xs.length < 200
theorem RowP.kk {d : D} (h : RowP d) : K3 d ∧ K3s d := by
  obtain ⟨xs, rfl, h⟩ := h
  exact ⟨.tup _, K3s.iL (by omega)⟩
theorem iL_app1 {xs : List Int} {y : Int} : iL (xs ++ [y]) = iL xs ++ [.int y] := by simp [iL]
theorem pointed_ok : Drw m__law_pointed [] fun t => t = .pl (.bl true) := by
  intro a b hb
  walk_at "fn"
  unfold b__law_pointed
  walk_at "run"
  rename_i r a b r0 r1 rs hb
  have hr := rngI (i := r) r0 (by omega)
  walk_at "run"
  refine x_mdraw (emb := fun k : Nat => D.int (k : Int)) (E := fun s : Int × Int => [some (.ol [.int s.1, .int s.2]), none, none, none, none, none, none, none, none, none, none]) (fun d => ∃ c : Int, d = .int c ∧ 0 ≤ c ∧ c < 4) (fun s => OkB s.2) (a, b) rfl hb (fun k hk s hi => ?_) fun acc s hl hp hi => ?_
  · have hb : OkB s.2 := hi
    walk_at "run"
    rename_i c a b c0 c1 _ hb
    exact ⟨⟨c, rfl, c0, c1⟩, c_one (a, b) hb rfl⟩
  · obtain ⟨cs, rfl⟩ := ints_of fun d hd => (hp d hd).imp fun c hc => hc.1
    have hc : ∀ c ∈ cs, 0 ≤ c ∧ c < 4 := fun c hc => by obtain ⟨e, h1, h2⟩ := hp _ (List.mem_map_of_mem hc); injection h1 with h1; rw [h1]; exact h2
    clear hp
    rw [List.length_map, List.length_range] at hl
    have hb : OkB s.2 := hi
    walk_at "run"
    refine x_mdraw (emb := D.int) (E := fun s : Int × Int => [some (.ol [.int s.1, .int s.2]), _, none, none, none, none, none, none, none, none, none]) RowP (fun s => OkB s.2) (_, _) rfl hb (fun c hcm s hi => ?_) fun rows s hl2 hr hi => ?_
    · have hb : OkB s.2 := hi
      obtain ⟨c0, c1⟩ := hc c hcm
      walk_at "run"
      refine st_right c0 (by omega) hb fun xs a b hx hb => ?_
      walk_at "run"
      exact ⟨⟨xs, rfl, hx⟩, c_one (a, b) hb rfl⟩
    have hb : OkB s.2 := hi
    have lr : Ll rows 5 := ⟨by omega⟩
    have lc : Ll (iL cs) 5 := ⟨by rw [List.length_map]; omega⟩
    have kr : ∀ e ∈ rows, K3 e ∧ K3s e := fun e he => (hr e he).kk
    have kc : ∀ d ∈ iL cs, Cnt d := fun d hd => by obtain ⟨i, hi, rfl⟩ := List.mem_map.mp hd; exact ⟨i, rfl, (hc i hi).1⟩
    have one : ∀ i : Int, ∀ e ∈ [D.tup [.int i]], K3 e ∧ K3s e := fun i e he => by simp at he; subst he; exact ⟨.tup _, K3s.iL (xs := [i]) (by simp)⟩
    have zero : ∀ i : Int, 0 ≤ i → ∀ d ∈ [D.int i], Cnt d := fun i hi d hd => by simp at hd; subst hd; exact ⟨i, rfl, hi⟩
    have app : ∀ {P : D → Prop} {xs ys : List D}, (∀ d ∈ xs, P d) → (∀ d ∈ ys, P d) → ∀ d ∈ xs ++ ys, P d := fun h h' d hd => (List.mem_append.mp hd).elim (h d) (h' d)
    have sub : ∀ {P : D → Prop} {xs : List D} {lo hi : Option Int}, (∀ d ∈ xs, P d) → ∀ d ∈ cutD xs lo hi, P d := fun h d hd => h d (cutD_mem hd)
    walk_at "run"
    refine x_forR (n := rows.length) (E := fun s : Int × Int × List D × Option T × Option T × Option T => [some (.ol [.int s.1, .int s.2.1]), _, _, some (.ol s.2.2.1), s.2.2.2.1, s.2.2.2.2.1, s.2.2.2.2.2, none, none, none, none]) (fun k s => OkB s.2.1 ∧ (∀ d ∈ s.2.2.1, PCase d) ∧ s.2.2.1.length = 4 + 4 * k) (_, _, _, none, none, none) ⟨hb, ?_, rfl⟩ (fun k s hk hi => ?_) fun s hi => ?_
    · intro d hd
      simp only [List.mem_cons, List.not_mem_nil, or_false] at hd
      rcases hd with rfl | rfl | rfl | rfl
      · exact .mk' kr (by omega) kc (by rw [List.length_map]; omega)
      · exact .mk' (app kr (one 1)) (by simp; omega) kc (by rw [List.length_map]; omega)
      · exact .mk' kr (by omega) (by rw [iL_app1]; exact app kc (zero 0 (by decide))) (by simp; omega)
      · exact .mk' (app kr (one 2)) (by simp; omega) (by rw [iL_app1]; exact app kc (zero 0 (by decide))) (by simp; omega)
    · obtain ⟨a, b, cases, s4, s5, s6⟩ := s
      obtain ⟨hb, hd, hn⟩ := hi
      dsimp only at hb hd hn ⊢
      have hlr := lr.le
      obtain ⟨xs, hx, lx⟩ := hr _ (getD_mm (d := .non) hk)
      have ix : opIx (.pl (.lst rows)) (.pl (.int (k : Int))) = some (.pl (.tup (iL xs))) := by rw [ixL (at_D rfl hk), hx]
      have cl : k < cs.length := by omega
      have ll : Ll cases 40 := ⟨by omega⟩
      walk_at "run"
      refine st_spoilt (n := 200) lx (by decide) hb fun ds a b hds hb => ?_
      walk_at "run"
      rename_i q a b q0 q1 _ hb
      obtain ⟨d, hd', ld⟩ := lit_ix (ds := [.str "a", .int 5, .tup []]) (P := Leaf) q0 q1 (by
        simp only [List.mem_cons, List.not_mem_nil, or_false, forall_eq_or_imp, forall_eq]
        exact ⟨Leaf.a, Leaf.int, Leaf.nil⟩)
      walk_at "run"
      have p1 : PCase (.lst [.lst (cutD rows none (some (k : Int)) ++ cutD rows (some ((k : Int) + 1)) none), .lst (iL cs)]) := .mk' (app (sub kr) (sub kr)) (Nat.lt_of_le_of_lt (Ll.le (n := 10)) (by decide)) kc (by rw [List.length_map]; omega)
      have p2 : ∀ e, K3 e ∧ K3s e → PCase (.lst [.lst (cutD rows none (some (k : Int)) ++ [e] ++ cutD rows (some ((k : Int) + 1)) none), .lst (iL cs)]) := fun e he => .mk' (app (app (sub kr) (fun d hd => by simp at hd; subst hd; exact he)) (sub kr)) (Nat.lt_of_le_of_lt (Ll.le (n := 11)) (by decide)) kc (by rw [List.length_map]; omega)
      have p4 : PCase (.lst [.lst rows, .lst (cutD (iL cs) none (some (k : Int)) ++ [.int (cs.getD k 0 + 1)] ++ cutD (iL cs) (some ((k : Int) + 1)) none)]) := .mk' kr (by omega) (app (app (sub kc) (zero _ (by have := hc _ (getD_mm (d := 0) cl); omega))) (sub kc)) (Nat.lt_of_le_of_lt (Ll.le (n := 11)) (by decide))
      exact ⟨(_, _, _, _, _, _), ⟨hb, app (app (app (app hd (fun d hd => by rw [List.mem_singleton.mp hd]; exact p1)) (fun d hd => by rw [List.mem_singleton.mp hd]; exact p2 _ (Leaves.kk hds (by decide)))) (fun d hd => by rw [List.mem_singleton.mp hd]; exact p2 _ ⟨ld.good.k3, ld.good.k3s (by have := ld.few; omega)⟩)) (fun d hd => by rw [List.mem_singleton.mp hd]; exact p4), by simp; omega⟩, rfl⟩
    · obtain ⟨a, b, cases, s4, s5, s6⟩ := s
      obtain ⟨hb, hd, hn⟩ := hi
      dsimp only at hb hd hn ⊢
      walk_at "run"
      refine x_forPD (E := fun s : Option T × Option T × Option T × Option T => [_, _, _, _, _, _, _, s.1, s.2.1, s.2.2.1, s.2.2.2]) (fun d => True) (none, none, none, none) (fun d hdm s0 => ?_) fun h s1 => ?_
      · obtain ⟨ds, es, rfl, h1, h2, h3, h4⟩ := hd d hdm
        have k4 : K4 (.tup ds) := ⟨.tup _, fun fs e => by injection e with e; subst e; exact ⟨by omega, fun d hd => (h1 d hd).1⟩, fun fs e => by injection e with e; subst e; exact fun d hd => (h1 d hd).2⟩
        have u1 := law_points_ok (dc := .lst (iL es)) k4 seqI_l h3 (by omega)
        have u2 := is_points_ok (dc := .lst (iL es)) k4 seqI_l h3 (by omega)
        have u3 := is_points_ok (dc := .tup (iL es)) k4 seqI_t h3 (by omega)
        have tr := truths_ok (bs := [tv (isPts (.tup ds) es), tv (isPts (.tup ds) es)]) (by simp)
        simp only [List.map_cons, List.map_nil] at tr
        walk_at "run"
        exact ⟨trivial, (_, _, _, _), rfl⟩
      · have u1 := is_points_ok (v := .str "ab") (dc := .lst (iL [0, 0])) ⟨.str _, K3s.str, fun ds e => by cases e⟩ seqI_l (by simp) (by simp)
        have u2 := is_points_ok (v := .int 3) (dc := .lst (iL [])) ⟨.int _, K3s.int, fun ds e => by cases e⟩ seqI_l (by simp) (by simp)
        rw [tv_f fun ⟨_, h, _⟩ => (by cases h)] at u1 u2
        have tr := truths_ok (bs := [false, false]) (by simp)
        simp only [iL, List.map_cons, List.map_nil] at tr u1 u2
        walk_at "run"
        exact ⟨rfl, _, _, hb, rfl⟩

end
section
local macro_rules
  | `(tactic| walk_at "ext") => `(tactic| ((with_reducible apply st_pick); (focus decide); (focus first | assumption | decide | omega); (focus assumption); intro r a b h0 h1 hs hb))

local macro_rules
  | `(tactic| walk_at "ext") => `(tactic| ((with_reducible apply st_number); (focus assumption); intro i a b hi hb))

local macro_rules
  | `(tactic| walk_at "ext") => `(tactic| ((with_reducible apply st_word); (focus decide); (focus decide); (focus assumption); intro x a b hx hb))

theorem strings_ok : Drw m__law_strings [] fun t => t = .pl (.bl true) := by
  intro a b hb
  walk_at "fn"
  unfold b__law_strings
  walk_at "run"
  rename_i x a b hx hb
  obtain ⟨x1, x2, hx⟩ := hx
  have hx : ab x := hx
  have e15 : (15 : Int).toNat = 15 := rfl
  have lx : Ln x 15 := ⟨x2⟩
  have sx : Sz (x.length : Int) 5 := ⟨by omega⟩
  walk_at "run"
  rename_i p _ _ p0 p1 ps _ r a b r0 r1 rs hb
  obtain ⟨c, hc, ix⟩ := str_ix (z := Str.ofString "A Z`{_09-.\n(") (by decide) r0 r1
  have hc : okS ⟨#[c]⟩ := okS.one ((by decide : ∀ c ∈ (Str.ofString "A Z`{_09-.\n(").cps.toList, c < 0x110000) c hc)
  have hx := hx.okS
  walk_at "run"
  refine x_forPD (E := fun s : Option T × Option T => [_, _, _, _, _, s.1, s.2]) (fun d => True) (none, none) (fun d hd s0 => ?_) fun h s1 => ?_
  · have ok : ∃ y, d = .str y ∧ y.length < 1000 ∧ okS y := by
      simp only [List.mem_cons, List.not_mem_nil, or_false] at hd
      rcases hd with rfl | rfl | rfl | rfl | rfl | rfl | rfl | rfl | rfl
      · exact ⟨_, rfl, by decide, by intro c hc; cases hc⟩
      · exact ⟨_, rfl, by omega, hx⟩
      · exact ⟨_, rfl, Nat.lt_of_le_of_lt (Ln.le (n := 15 + 1 + 15)) (by decide), (hx.cut.append hc).append hx.cut⟩
      · exact ⟨_, rfl, Nat.lt_of_le_of_lt (Ln.le (n := 15 + 1)) (by decide), hx.append hc⟩
      · exact ⟨_, rfl, Nat.lt_of_le_of_lt (Ln.le (n := 1 + 15)) (by decide), hc.append hx⟩
      · exact ⟨_, rfl, Nat.lt_of_le_of_lt (Ln.le (n := (13 : Int).toNat * 15)) (by decide), hx.rep.cut⟩
      · exact ⟨_, rfl, Nat.lt_of_le_of_lt (Ln.le (n := (13 : Int).toNat * 15)) (by decide), hx.rep.cut⟩
      · exact ⟨_, rfl, Nat.lt_of_le_of_lt (Ln.le (n := 15)) (by decide), hx.cut⟩
      · exact ⟨_, rfl, Nat.lt_of_le_of_lt (Ln.le (n := 1)) (by decide), hc⟩
    obtain ⟨y, rfl, hl, ho⟩ := ok
    clear hd
    have u1 := law_word_ok (v := .str y) (.str y) fun z e => by injection e with e; subst e; exact hl
    have u2 := is_word_ok (v := .str y) (.str y) fun z e => by injection e with e; subst e; exact hl
    have gy : Good (.str y) := .str y hl ho.ok
    have u3 := certificate_ok gy (by simp [nodes])
    have u4 := certificate_ok (v := .tup [.int 4, .str y]) (.tup _ fun d hd => by
      simp only [List.mem_cons, List.not_mem_nil, or_false] at hd
      rcases hd with rfl | rfl
      · exact .int 4
      · exact gy) (by simp [nodes, nodes.nodess])
    have e1 : wordV (.str y) ↔ wordP 12 y := ⟨fun ⟨z, h, w⟩ => by injection h with h; rw [h]; exact w, fun h => ⟨y, rfl, h⟩⟩
    have e2 : certP 8 (.tup [.int 4, .str y]) ↔ wordP 12 y := ⟨fun h => certP_str.mp (h (.str y) (by simp)), fun h d hd => by
      simp only [List.mem_cons, List.not_mem_nil, or_false] at hd
      rcases hd with rfl | rfl
      · exact certP_int
      · exact certP_str.mpr h⟩
    rw [tv_congr e1] at u1 u2
    rw [tv_congr certP_str] at u3
    rw [tv_congr e2] at u4
    have tr := truths_ok (bs := [tv (wordP 12 y), tv (wordP 12 y), tv (wordP 12 y)]) (by simp)
    simp only [List.map_cons, List.map_nil] at tr
    walk_at "run"
    exact ⟨trivial, (_, _), rfl⟩
  · walk_at "run"
    exact ⟨rfl, _, _, hb, rfl⟩

end
section
local macro_rules
  | `(tactic| walk_at "ext") => `(tactic| ((with_reducible apply st_pick); (focus decide); (focus first | assumption | decide | omega); (focus assumption); intro r a b h0 h1 hs hb))

local macro_rules
  | `(tactic| walk_at "ext") => `(tactic| ((with_reducible apply st_number); (focus assumption); intro i a b hi hb))

local macro_rules
  | `(tactic| walk_at "ext") => `(tactic| ((with_reducible apply st_word); (focus decide); (focus decide); (focus assumption); intro x a b hx hb))

theorem parts_ok : Drw m__law_parts [] fun t => ∃ ds, t = .ol ds ∧ (∀ d ∈ ds, Part d) ∧ ds.length ≤ 3 := by
  intro a b hb
  walk_at "fn"
  unfold b__law_parts
  walk_at "run"
  rename_i r a b r0 r1 _ hb
  have hr := rngI r0 (by omega)
  walk_at "run"
  refine x_forR (n := r.toNat) (E := fun s : Int × Int × List D × Option T => [some (.ol [.int s.1, .int s.2.1]), some (.ol s.2.2.1), s.2.2.2]) (fun k s => OkB s.2.1 ∧ (∀ d ∈ s.2.2.1, Part d) ∧ s.2.2.1.length = k) (a, b, [], none) ⟨hb, by simp, rfl⟩ (fun k s hk hi => ?_) fun s hi => ?_
  · obtain ⟨a, b, ds, s3⟩ := s
    obtain ⟨hb, hd, hl⟩ := hi
    dsimp only at hb hd hl ⊢
    have ll : Ll ds 5 := ⟨by omega⟩
    walk_at "run"
    rename_i i _ _ _ _ x _ _ hx _ q a b q0 q1 _ hb
    obtain ⟨x1, x2, hx⟩ := hx
    have e12 : (12 : Int).toNat = 12 := rfl
    obtain ⟨d, hd', pd⟩ := lit_ixO (ds := [.int i, .str x, .tup [], .int 7]) (P := Part) q0 q1 (by
      simp only [List.mem_cons, List.not_mem_nil, or_false, forall_eq_or_imp, forall_eq]
      refine ⟨⟨.int i, by simp [nodes], certP_int⟩, ⟨.str x (by omega) (show ab x from hx).ok, by simp [nodes], certP_str.mpr ⟨x1, by omega, hx⟩⟩, ⟨.tup _ (by simp), by simp [nodes, nodes.nodess], fun e he => by cases he⟩, ⟨.int 7, by simp [nodes], certP_int⟩⟩)
    walk_at "run"
    exact ⟨(_, _, _, some _), ⟨hb, fun e he => (List.mem_append.mp he).elim (hd e) fun he => by rw [List.mem_singleton.mp he]; exact pd, by simp; omega⟩, rfl⟩
  · obtain ⟨a, b, ds, s3⟩ := s
    obtain ⟨hb, hd, hl⟩ := hi
    dsimp only at hb hd hl ⊢
    walk_at "run"
    exact ⟨⟨_, rfl, hd, by omega⟩, a, b, hb, rfl⟩
theorem st_parts {a b : Int} {Q : T → List T → Prop} (hb : OkB b) (h : ∀ ds a' b', (∀ d ∈ ds, Part d) → ds.length ≤ 3 → OkB b' → Q (.ol ds) [.ol [.int a', .int b']]) : WF (m__law_parts [.ol [.int a, .int b]]) Q :=
  st_drw parts_ok hb fun t a' b' ⟨ds, h1, h2, h3⟩ h4 => by rw [h1]; exact h ds a' b' h2 h3 h4
theorem wrapped_ok {v : D} {n : Int} (hg : Good v) (hn0 : 0 ≤ n) (hn : n < 100) : Drw m__law_wrapped [.pl v, .pl (.int n)] fun t => ∃ w, t = .pl w ∧ Good w ∧ nodes w ≤ nodes v + 4 * n.toNat ∧ (certP 1 v → certP (1 + n.toNat) w) := by
  intro a b hb
  have hr := rngI hn0 (by omega)
  walk_at "fn"
  unfold b__law_wrapped
  walk_at "run"
  refine x_forR (n := n.toNat) (E := fun s : Int × Int × D × Option T × Option T × Option T => [some (.ol [.int s.1, .int s.2.1]), some (.pl s.2.2.1), _, s.2.2.2.1, s.2.2.2.2.1, s.2.2.2.2.2]) (fun k s => OkB s.2.1 ∧ Good s.2.2.1 ∧ nodes s.2.2.1 ≤ nodes v + 4 * k ∧ (certP 1 v → certP (1 + k) s.2.2.1)) (a, b, v, none, none, none) ⟨hb, hg, by simp, fun h => h⟩ (fun k s hk hi => ?_) fun s hi => ?_
  · obtain ⟨a, b, w, s3, s4, s5⟩ := s
    obtain ⟨hb, hw, hz, hc⟩ := hi
    dsimp only at hb hw hz hc ⊢
    walk_at "run"
    refine st_parts hb fun ds a b hd hl hb => ?_
    have ll : Ll ds 3 := ⟨hl⟩
    have sl : Sz ((ds.length : Int) + 1) 4 := ⟨by omega⟩
    walk_at "run"
    rename_i p a b p0 p1 _ hb
    walk_at "run"
    refine ⟨(_, _, _, some _, some _, some _), ⟨hb, .tup _ fun e he => ?_, ?_, fun h => ?_⟩, rfl⟩
    · rcases List.mem_append.mp he with he | he
      · rcases List.mem_append.mp he with he | he
        · exact (hd e (cutD_mem he)).good
        · rw [List.mem_singleton.mp he]; exact hw
      · exact (hd e (cutD_mem he)).good
    · have h1 := nodess_le (ds := cutD ds none (some p)) (m := 1) fun d h => Nat.le_of_eq (hd d (cutD_mem h)).few
      have h2 := nodess_le (ds := cutD ds (some p) none) (m := 1) fun d h => Nat.le_of_eq (hd d (cutD_mem h)).few
      have h3 : (cutD ds none (some p)).length + (cutD ds (some p) none).length ≤ 3 := by
        unfold cutD
        rw [List.length_take, List.length_drop, List.length_take, List.length_drop]
        have e1 : HT.sIx ds.length 0 (some p) = HT.sIx ds.length ds.length (some p) := rfl
        have e2 : HT.sIx ds.length 0 none = 0 := rfl
        have e3 : HT.sIx ds.length ds.length none = ds.length := rfl
        omega
      show nodes (.tup (cutD ds none (some p) ++ [w] ++ cutD ds (some p) none)) ≤ _
      rw [nodes, nodess_append, nodess_append, nodes.nodess, nodes.nodess]; omega
    · have hc := hc h
      show certP (1 + (k + 1)) (.tup (cutD ds none (some p) ++ [w] ++ cutD ds (some p) none))
      rw [show 1 + (k + 1) = (k + 1) + 1 by omega]
      intro e he
      rcases List.mem_append.mp he with he | he
      · rcases List.mem_append.mp he with he | he
        · exact certP_mono (by omega) (hd e (cutD_mem he)).cert
        · rw [List.mem_singleton.mp he]; rw [show 1 + k = k + 1 by omega] at hc; exact certP_mono (by omega) hc
      · exact certP_mono (by omega) (hd e (cutD_mem he)).cert
  · obtain ⟨a, b, w, s3, s4, s5⟩ := s
    obtain ⟨hb, hw, hz, hc⟩ := hi
    dsimp only at hb hw hz hc ⊢
    walk_at "run"
    exact ⟨⟨w, rfl, hw, hz, hc⟩, a, b, hb, rfl⟩
theorem st_wrapped {v : D} {n a b : Int} {Q : T → List T → Prop} (hg : Good v) (hn0 : 0 ≤ n) (hn : n < 100) (hb : OkB b) (h : ∀ w a' b', Good w → nodes w ≤ nodes v + 4 * n.toNat → (certP 1 v → certP (1 + n.toNat) w) → OkB b' → Q (.pl w) [.ol [.int a', .int b'], .pl v, .pl (.int n)]) : WF (m__law_wrapped [.ol [.int a, .int b], .pl v, .pl (.int n)]) Q :=
  st_drw (wrapped_ok hg hn0 hn) hb fun t a' b' ⟨w, h1, h2, h3, h4⟩ h5 => by rw [h1]; exact h w a' b' h2 h3 h4 h5
theorem law_nested_ok : Drw m__law_nested [] fun t => t = .pl (.bl true) := by
  intro a b hb
  walk_at "fn"
  unfold b__law_nested
  walk_at "run"
  rename_i r a b r0 r1 _ hb
  obtain ⟨d, hd, gd, nd, cd⟩ := lit_ix (ds := [.tup [], .tup [.int 3], .tup [.str "box"]]) (P := fun d => Good d ∧ nodes d ≤ 2 ∧ certP 1 d) r0 r1 (by
    simp only [List.mem_cons, List.not_mem_nil, or_false, forall_eq_or_imp, forall_eq]
    refine ⟨⟨.tup _ (by simp), by simp [nodes, nodes.nodess], fun e he => by cases he⟩, ⟨.tup _ (by simp; exact .int 3), by simp [nodes, nodes.nodess], fun e he => by rw [List.mem_singleton.mp he]; exact certP_int⟩, ⟨.tup _ (by simp; exact .str _ (by decide) (by decide +kernel)), by simp [nodes, nodes.nodess], fun e he => by rw [List.mem_singleton.mp he]; exact certP_str.mpr ⟨by decide, by decide, by decide⟩⟩⟩)
  walk_at "run"
  refine st_wrapped gd (by decide) (by decide) hb fun eight a b ge ne ce hb => ?_
  have e7 : (7 : Int).toNat = 7 := rfl
  have ce := ce cd
  rw [e7] at ce ne
  walk_at "run"
  rename_i r a b r0 r1 _ hb
  obtain ⟨d2, hd2, gd2, nd2⟩ := lit_ix (ds := [.str "", .str "Box", .str "two words", .str "abcdefghijklm", .str "a", .int 0]) (P := fun d => Good d ∧ nodes d ≤ 2) r0 r1 (by
    simp only [List.mem_cons, List.not_mem_nil, or_false, forall_eq_or_imp, forall_eq]
    refine ⟨⟨.str _ (by decide) (by decide +kernel), by simp [nodes]⟩, ⟨.str _ (by decide) (by decide +kernel), by simp [nodes]⟩, ⟨.str _ (by decide) (by decide +kernel), by simp [nodes]⟩, ⟨.str _ (by decide) (by decide +kernel), by simp [nodes]⟩, ⟨.str _ (by decide) (by decide +kernel), by simp [nodes]⟩, ⟨.int 0, by simp [nodes]⟩⟩)
  walk_at "run"
  rename_i r a b r0 r1 _ hb
  refine st_wrapped gd2 r0 (by omega) hb fun other a b go no _ hb => ?_
  walk_at "run"
  refine st_wrapped ge (by decide) (by decide) hb fun w1 a b g1 n1 _ hb => ?_
  walk_at "run"
  refine st_wrapped ge (by decide) (by decide) hb fun w2 a b g2 n2 _ hb => ?_
  have e1 : (1 : Int).toNat = 1 := rfl
  have e2 : (2 : Int).toNat = 2 := rfl
  walk_at "run"
  refine x_forPD (E := fun s : Option T × Option T => [_, _, _, s.1, s.2]) (fun d => True) (none, none) (fun d hd s0 => ?_) fun h s1 => ?_
  · have ok : Good d ∧ nodes d < 1000 := by
      simp only [List.mem_cons, List.not_mem_nil, or_false] at hd
      rcases hd with rfl | rfl | rfl | rfl | rfl | rfl
      · exact ⟨ge, by omega⟩
      · exact ⟨g1, by omega⟩
      · exact ⟨g2, by omega⟩
      · refine ⟨.tup _ fun e he => ?_, by simp [nodes, nodes.nodess]; omega⟩
        simp only [List.mem_cons, List.not_mem_nil, or_false] at he
        rcases he with rfl | rfl
        · exact ge
        · exact .int 1
      · exact ⟨go, by omega⟩
      · refine ⟨.tup _ fun e he => ?_, by simp [nodes, nodes.nodess]; omega⟩
        simp only [List.mem_cons, List.not_mem_nil, or_false] at he
        rcases he with rfl | rfl
        · exact .int 1
        · exact go
    obtain ⟨gd, nd⟩ := ok
    clear hd
    have u1 := nested_ok gd (by omega)
    have u2 := certificate_ok gd (by omega)
    have tr := truths_ok (bs := [tv (certP 8 d)]) (by simp)
    simp only [List.map_cons, List.map_nil] at tr
    by_cases hc : certP 8 d
    · rw [tv_t hc] at u1 u2 tr
      cases gd with
      | int i =>
        walk_at "run"
        exact ⟨trivial, (_, _), rfl⟩
      | str x h h' =>
        walk_at "run"
        exact ⟨trivial, (_, _), rfl⟩
      | tup ds h =>
        have u3 := asked_ok (v := .tup ds) (n := (ds.length : Nat)) (.tup ds h) (by omega) hc (by omega)
        have ln : opLen [.pl (.tup ds)] = some (.pl (.int (ds.length : Nat))) := rfl
        walk_at "run"
        exact ⟨trivial, (_, _), rfl⟩
    · rw [tv_f hc] at u1 u2 tr
      walk_at "run"
      exact ⟨trivial, (_, _), rfl⟩
  · have u1 := nested_ok ge (by omega)
    rw [tv_t ce] at u1
    walk_at "run"
    exact ⟨rfl, _, _, hb, rfl⟩

end
section
local macro_rules
  | `(tactic| walk_at "ext") => `(tactic| ((with_reducible apply st_pick); (focus decide); (focus first | assumption | decide | omega); (focus assumption); intro r a b h0 h1 hs hb))

local macro_rules
  | `(tactic| walk_at "ext") => `(tactic| ((with_reducible apply st_number); (focus assumption); intro i a b hi hb))

local macro_rules
  | `(tactic| walk_at "ext") => `(tactic| ((with_reducible apply st_word); (focus decide); (focus decide); (focus assumption); intro x a b hx hb))

theorem state_ok {ns : List Int} {k : Nat} (hl : ns.length ≤ 63) (hb : ∀ z ∈ ns, Builtin.Int.intBits z ≤ 1048576) (hk : k < 1000) : WF (m__law_state [.pl (.scr (iL ns)), .pl (.int (k : Nat))]) fun t o => ∃ a b, t = .ol [.int a, .int b] ∧ OkB b ∧ o = [.pl (.scr (iL ns)), .pl (.int (k : Nat))] := by
  have sk : Sz (k : Int) 11 := ⟨by omega⟩
  have el : opLen [.pl (.scr (iL ns))] = some (.pl (.int (ns.length : Nat))) := by
    show some (T.pl (D.int ((iL ns).length : Nat))) = _
    rw [List.length_map]
  refine w_fn rfl (w_seq (w_setR rfl rfl (w_nx ?_)))
  refine w_seq (W.mono (Q := fun fl e => fl = .nx ∧ ∃ c : Int, Sz c 1048576 ∧ e = [some (.pl (.scr (iL ns))), some (.pl (.int (k : Nat))), some (.pl (.int c)), none]) (w_ifr (e_and (e_rb (e_r2p rfl (e_rNp (e_rcons rfl e_rnil) el) (opCmp_int _ _ _)) rfl) fun _ => e_rb (e_r2p rfl rfl (opCmp_int _ _ _)) rfl) (fun hc => ?_) fun _ => ?_) ?_)
  · rw [Bool.and_eq_true] at hc
    have h1 : k < ns.length := by
      have := of_decide_eq_true hc.1
      omega
    have ix : opIx (.pl (.scr (iL ns))) (.pl (.int (k : Nat))) = some (.pl (.int (ns.getD k 0))) := ix_iL h1
    refine w_setR (e_r2p rfl rfl ix) rfl ⟨rfl, _, ?_, rfl⟩
    rw [List.getD_eq_getElem?_getD, List.getElem?_eq_getElem h1]
    exact sz_bits (hb _ (List.getElem_mem h1))
  · exact w_skip ⟨rfl, 0, ⟨Nat.pow_pos (by decide)⟩, rfl⟩
  rintro fl e ⟨rfl, c, sc, rfl⟩
  refine w_nx (w_seq (w_setR rfl rfl (w_nx ?_)))
  refine w_seq (W.mono (Q := fun fl e => fl = .nx ∧ ∃ l : Int, e = [some (.pl (.scr (iL ns))), some (.pl (.int (k : Nat))), some (.pl (.int c)), some (.pl (.int l))]) (w_ifr (e_rb (e_r2p rfl rfl (opCmp_int _ _ _)) rfl) (fun hc => w_setR rfl rfl ⟨rfl, _, rfl⟩) fun _ => w_skip ⟨rfl, _, rfl⟩) ?_)
  rintro fl e ⟨rfl, l, rfl⟩
  refine w_nx (w_ret (w_mlst (w_mcons (w_r rfl (w_mcons (w_r (e_r2p (e_rNp (e_rcons (e_r2p (e_r2p (e_r2p rfl rfl (opMul_sz (by decide))) (e_r2p rfl rfl (opMul_sz (by decide))) (opAdd_int _ _)) rfl (opAdd_int _ _)) e_rnil) rfl) rfl (opMod_pos (by decide))) (w_mnil ⟨big2, fn_rt rfl ⟨_, _, rfl, ⟨Int.emod_nonneg _ (by decide), Int.emod_lt_of_pos _ (by decide)⟩, rfl⟩⟩)))))))
theorem st_state {ns : List Int} {i : Int} {Q : T → List T → Prop} (hl : ns.length ≤ 63) (hb : ∀ z ∈ ns, Builtin.Int.intBits z ≤ 1048576) (h0 : 0 ≤ i) (hk : i < 1000) (h : ∀ a b, OkB b → Q (.ol [.int a, .int b]) [.pl (.scr (iL ns)), .pl (.int i)]) : WF (m__law_state [.pl (.scr (iL ns)), .pl (.int i)]) Q := by
  obtain ⟨k, rfl⟩ : ∃ k : Nat, i = (k : Int) := ⟨i.toNat, by omega⟩
  exact (state_ok hl hb (by omega)).mono fun t o ⟨a, b, h1, h2, h3⟩ => by rw [h1, h3]; exact h a b h2
local macro_rules
  | `(tactic| walk_at "ext") => `(tactic| ((with_reducible apply st_state); (focus assumption); (focus assumption); (focus first | decide | omega); (focus first | decide | omega); intro a b hb))

theorem st_true {f : List T → FRes} {args : List T} {a b : Int} {Q : T → List T → Prop} (hd : Drw f args fun t => t = .pl (.bl true)) (hb : OkB b) (h : ∀ a' b', OkB b' → Q (.pl (.bl true)) (.ol [.int a', .int b'] :: args)) : WF (f (.ol [.int a, .int b] :: args)) Q :=
  st_drw hd hb fun t a' b' h1 h2 => by rw [h1]; exact h a' b' h2
theorem leaves_asked {ds : List D} {n : Nat} {c : Int} (h : Leaves ds n) (hn : n ≤ 3000) (hc : 0 ≤ c) : m__law_asked [.pl (.tup ds), .pl (.int c)] = .ok (.pl (.bl true)) [.pl (.tup ds), .pl (.int c)] :=
  asked_ok h.good (by have := h.nodes; omega) h.cert hc
theorem main : ∀ ns : List Int, ns.length ≤ 63 → (∀ z ∈ ns, Builtin.Int.intBits z ≤ 1048576) → ∃ outs, m_law [.pl (.scr (ns.map D.int))] = .ok (.pl (.bl true)) outs := by
  intro ns hn hz
  suffices h : WF (m_law [.pl (.scr (iL ns))]) fun t o => t = .pl (.bl true) by
    obtain ⟨t, o, h1, rfl⟩ := h.eq
    exact ⟨o, h1⟩
  walk_at "fn"
  unfold b_law
  walk_at "run"
  refine x_forR (n := 5) (E := fun s : List D × Option T × Option T × Option T × Option T × Option T => [some (.pl (.scr (iL ns))), some (.ol s.1), s.2.1, s.2.2.1, s.2.2.2.1, s.2.2.2.2.1, s.2.2.2.2.2]) (fun k s => (∀ d ∈ s.1, ∃ (xs : List Int) (c : Int), d = .lst [.tup (iL xs), .int c] ∧ xs.length < 200 ∧ 0 ≤ c) ∧ s.1.length = k) ([], none, none, none, none, none) ⟨by simp, rfl⟩ (fun k s hk hi => ?_) fun s hi => ?_
  · obtain ⟨ks, s2, s3, s4, s5, s6⟩ := s
    obtain ⟨hks, hl⟩ := hi
    dsimp only at hks hl ⊢
    have ll : Ll ks 10 := ⟨by omega⟩
    walk_at "run"
    rename_i r a b r0 r1 _ hb
    obtain ⟨d, hd, c, rfl, c0, c1⟩ := lit_ix (ds := [.int 0, .int 1, .int 2, .int 3, .int 4, .int 40]) (P := fun d => ∃ c : Int, d = .int c ∧ 0 ≤ c ∧ c ≤ 40) r0 r1 (by simp)
    walk_at "run"
    refine st_right c0 (by omega) hb fun xs a b hx hb => ?_
    have lx : Leaves (iL xs) 200 := Leaves.ints (by omega)
    have a1 := leaves_asked lx (c := c) (by decide) c0
    have a2 := leaves_asked lx (c := c + 1) (by decide) (by omega)
    have a3 := leaves_asked lx (c := max 0 (c - 1)) (by decide) (by omega)
    walk_at "run"
    refine x_forR (n := 3) (E := fun s : Int × Int × Option T => [_, some (.ol _), _, some (.ol [.int s.1, .int s.2.1]), _, _, s.2.2]) (fun k s => OkB s.2.1) (a, b, _) hb (fun j s hj hi => ?_) fun s hi => ?_
    · obtain ⟨a, b, s6⟩ := s
      dsimp only at hi ⊢
      walk_at "run"
      refine st_spoilt (n := 201) (by omega) (by decide) hi fun ds a b hds hb => ?_
      have a4 := leaves_asked hds (c := c) (by decide) c0
      walk_at "run"
      exact ⟨(_, _, some _), hb, rfl⟩
    · obtain ⟨a, b, s6⟩ := s
      dsimp only at hi ⊢
      have hr := rngI (i := c + 1) (by omega) (by omega)
      have a5 := leaves_asked (Leaves.ints (xs := (List.range (c + 1).toNat).map fun _ => 0) (n := 200) (by simp; omega)) (c := c) (by decide) c0
      walk_at "run"
      refine st_true (heads_ok (by omega)) hi fun a b hb => ?_
      walk_at "run"
      exact ⟨(_, some _, some _, some _, some _, _), ⟨fun d hd => (List.mem_append.mp hd).elim (hks d) fun hd => by rw [List.mem_singleton.mp hd]; exact ⟨xs, c, rfl, hx, c0⟩, by simp; omega⟩, rfl⟩
  · obtain ⟨ks, s2, s3, s4, s5, s6⟩ := s
    obtain ⟨hks, hl⟩ := hi
    dsimp only at hks hl ⊢
    walk_at "run"
    rename_i a b hb
    refine st_true pointed_ok hb fun a b hb => ?_
    walk_at "run"
    rename_i i a b hi hb
    have u1 := asked_ok (v := .int i) (n := 1) (.int i) (by simp [nodes]) certP_int (by decide)
    walk_at "run"
    rename_i x a b hx hb
    obtain ⟨x1, x2, hx⟩ := hx
    have e12 : (12 : Int).toNat = 12 := rfl
    have u2 := asked_ok (v := .str x) (n := 1) (.str x (by omega) (show ab x from hx).ok) (by simp [nodes]) (certP_str.mpr ⟨x1, by omega, hx⟩) (by decide)
    walk_at "run"
    rename_i a b hb
    refine st_true strings_ok hb fun a b hb => ?_
    walk_at "run"
    rename_i a b hb
    refine st_true law_nested_ok hb fun a b hb => ?_
    walk_at "run"
    refine x_forPD (E := fun s : Option T × Option T => [_, _, _, _, s.1, s.2, _]) (fun d => True) (_, _) (fun d hd s0 => ?_) fun h s1 => ?_
    · obtain ⟨xs, c, rfl, hx, c0⟩ := hks d hd
      have lx : Leaves (iL xs) 200 := Leaves.ints (by omega)
      have a1 := leaves_asked lx (c := c) (by decide) c0
      walk_at "run"
      exact ⟨trivial, (_, _), rfl⟩
    · walk_at "run"
      exact rfl

end
end Law
open PySem PySem.W PyProof.Rows
set_option maxHeartbeats 0 in
theorem PySem.Challenge.cw_whateverthenumbers_k04_shapes_of_certifi_holds : PySem.Challenge.rw_whateverthenumbers_k04_shapes_of_certifi.Holds := by
  w_on; o_law; k_head; (case hw => w_witness2)
  k_fill
  refine L2.walk_ofB (l := PySem.Challenge.rw_whateverthenumbers_k04_shapes_of_certifi) (n := 63) (k := 6) (x := "script") (CX := fun _ => L2.CX0) (sp := fun w => Mir.spLaw _) rfl (by decide) rfl ⟨rfl, by decide, by decide⟩ (fun w h Y => PySem.W.kIn_of Y) ?F (fun w H a ns h1 h2 _ h3 => ⟨a, ns, rfl, h3, h1, h2, fun _ => rfl⟩) (fun _ _ _ _ _ h => h)
  case F =>
    intro w mg fa h KX G hmg
    refine' Law.all_mk Law.main KX G hmg ?a0 ?l0 ?c0 ?k0 ?a1 ?l1 ?c1 ?k1 ?a2 ?l2 ?c2 ?k2 ?a3 ?l3 ?c3 ?k3 ?a4 ?l4 ?c4 ?k4 ?a5 ?l5 ?c5 ?k5 ?a6 ?l6 ?c6 ?k6 ?a7 ?l7 ?c7 ?k7 ?a8 ?l8 ?c8 ?k8 ?a9 ?l9 ?c9 ?k9 ?a10 ?l10 ?c10 ?k10 ?a11 ?l11 ?c11 ?k11 ?a12 ?l12 ?c12 ?k12 ?a13 ?l13 ?c13 ?k13 ?a14 ?l14 ?c14 ?k14 ?a15 ?l15 ?c15 ?k15 ?a16 ?l16 ?c16 ?k16 ?a17 ?l17 ?c17 ?k17 ?a18 ?l18 ?c18 ?k18 ?a19 ?l19 ?c19 ?k19 ?a20 ?l20 ?c20 ?k20 ?a21 ?l21 ?c21 ?k21 ?a22 ?l22 ?c22 ?k22 ?a23 ?l23 ?c23 ?k23 ?a24 ?l24 ?c24 ?k24 ?a25 ?l25 ?c25 ?k25 ?a26 ?l26 ?c26 ?k26 ?a27 ?l27 ?c27 ?k27 ?a28 ?l28 ?c28 ?k28 ?z_abs ?z_bool ?z_int ?z_isinstance ?z_len ?z_list ?z_max ?z_range ?z_str ?z_tuple
    (case a0 => k_is); (case l0 => k_is); (case c0 => k_is); (case k0 => k_is); (case a1 => k_is); (case l1 => k_is); (case c1 => k_is); (case k1 => k_is); (case a2 => k_is); (case l2 => k_is); (case c2 => k_is); (case k2 => k_is); (case a3 => k_is); (case l3 => k_is); (case c3 => k_is); (case k3 => k_is); (case a4 => k_is); (case l4 => k_is); (case c4 => k_is); (case k4 => k_is); (case a5 => k_is); (case l5 => k_is); (case c5 => k_is); (case k5 => k_is); (case a6 => k_is); (case l6 => k_is); (case c6 => k_is); (case k6 => k_is); (case a7 => k_is); (case l7 => k_is); (case c7 => k_is); (case k7 => k_is); (case a8 => k_is); (case l8 => k_is); (case c8 => k_is); (case k8 => k_is); (case a9 => k_is); (case l9 => k_is); (case c9 => k_is); (case k9 => k_is); (case a10 => k_is); (case l10 => k_is); (case c10 => k_is); (case k10 => k_is); (case a11 => k_is); (case l11 => k_is); (case c11 => k_is); (case k11 => k_is); (case a12 => k_is); (case l12 => k_is); (case c12 => k_is); (case k12 => k_is); (case a13 => k_is); (case l13 => k_is); (case c13 => k_is); (case k13 => k_is); (case a14 => k_is); (case l14 => k_is); (case c14 => k_is); (case k14 => k_is); (case a15 => k_is); (case l15 => k_is); (case c15 => k_is); (case k15 => k_is); (case a16 => k_is); (case l16 => k_is); (case c16 => k_is); (case k16 => k_is); (case a17 => k_is); (case l17 => k_is); (case c17 => k_is); (case k17 => k_is); (case a18 => k_is); (case l18 => k_is); (case c18 => k_is); (case k18 => k_is); (case a19 => k_is); (case l19 => k_is); (case c19 => k_is); (case k19 => k_is); (case a20 => k_is); (case l20 => k_is); (case c20 => k_is); (case k20 => k_is); (case a21 => k_is); (case l21 => k_is); (case c21 => k_is); (case k21 => k_is); (case a22 => k_is); (case l22 => k_is); (case c22 => k_is); (case k22 => k_is); (case a23 => k_is); (case l23 => k_is); (case c23 => k_is); (case k23 => k_is); (case a24 => k_is); (case l24 => k_is); (case c24 => k_is); (case k24 => k_is); (case a25 => k_is); (case l25 => k_is); (case c25 => k_is); (case k25 => k_is); (case a26 => k_is); (case l26 => k_is); (case c26 => k_is); (case k26 => k_is); (case a27 => k_is); (case l27 => k_is); (case c27 => k_is); (case k27 => k_is); (case a28 => k_is); (case l28 => k_is); (case c28 => k_is); (case k28 => k_is); (case z_abs => k_is); (case z_bool => k_is); (case z_int => k_is); (case z_isinstance => k_is); (case z_len => k_is); (case z_list => k_is); (case z_max => k_is); (case z_range => k_is); (case z_str => k_is); (case z_tuple => k_is)
