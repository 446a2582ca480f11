import PyProof.Rows.All
import HandS.ForMost
import HandS.WideBits
import HandS.Conv
import HandS.SortInts
import HandS.TupAny
import HandS.TupMul
import HandS.Deep
import HandS.IsInst
import HandS.TupLe
import HandS.Style
import HandS.SetFor
import HandS.NoneIn
import HandS.EndBits
import KE.GoesEnum
import KE.KSortTupAny
import PySem.Challenge.RW_figurerounds_k33_whole_kept_as_afresh
set_option Elab.async false
set_option linter.all false
set_option maxRecDepth 100000
namespace Fw
open PySem L2

/-! ### data without a heap -/
inductive D where
  | non | bl (b : Bool) | int (i : Int) | str (s : Str) | ty (n : String)
  | tup (xs : List D) | lst (xs : List D) | scr (xs : List D) | dct (ks : List Key) (vs : List D)

mutual
def Rep (K : PySem.W.Frag) (H : Hp) : D → V → Prop
  | .non, v => v = .non
  | .bl b, v => v = .bl b
  | .int i, v => v = .int i
  | .str s, v => v = .str s
  | .ty n, v => v = .ty n
  | .tup ds, v => ∃ a xs, v = .ref a ∧ SqT K H a xs ∧ RepL K H ds xs
  | .lst ds, v => ∃ a xs, v = .ref a ∧ H a = some (.lst xs) ∧ RepL K H ds xs
  | .scr ds, v => ∃ a xs, v = .ref a ∧ SqL K H a xs ∧ RepL K H ds xs
  | .dct ks ds, v => ∃ a ws, v = .ref a ∧ Rd H a (.dK ws) ∧ ws.map (·.1) = ks ∧ RepL K H ds (ws.map (·.2))
def RepL (K : PySem.W.Frag) (H : Hp) : List D → List V → Prop
  | [], xs => xs = []
  | d :: ds, xs => ∃ v vs, xs = v :: vs ∧ Rep K H d v ∧ RepL K H ds vs
end

/-- what may be locked: dicts -/
def isDk : HO → Bool
  | .dK _ => true
  | .frz _ u => isDk u
  | _ => false
/-- the frozen part grows; a dict may be locked, unlocked -/
structure Ext (H H' : Hp) : Prop where
  obj : ∀ a o, H a = some o → isDk o = false → H' a = some o
  dct : ∀ a ws, Rd H a (.dK ws) → Rd H' a (.dK ws)
theorem Ext.refl (H : Hp) : Ext H H := ⟨fun _ _ h _ => h, fun _ _ h => h⟩
theorem Ext.trans {H H1 H2 : Hp} (a : Ext H H1) (b : Ext H1 H2) : Ext H H2 := ⟨fun x o h n => b.obj x o (a.obj x o h n) n, fun x ws h => b.dct x ws (a.dct x ws h)⟩
theorem Ext.of {H H' : Hp} (h : Same H H') : Ext H H' := ⟨fun a o e _ => h a o e, fun a ws e => by
  rcases e with e | ⟨o, e⟩
  · exact .inl (h _ _ e)
  · exact .inr ⟨o, h _ _ e⟩⟩
theorem Ext.rd {H H' : Hp} (e : Ext H H') {a : Addr} {u : HO} (hu : isDk u = false) (h : Rd H a u) : Rd H' a u := by
  rcases h with h | ⟨o, h⟩
  · exact .inl (e.obj _ _ h hu)
  · exact .inr ⟨o, e.obj _ _ h hu⟩
theorem Ext.seqT {K : PySem.W.Frag} {H H' : Hp} (e : Ext H H') {a : Addr} {xs : List V} (h : SqT K H a xs) : SqT K H' a xs := by
  rcases h with h | h
  · exact .inl (e.rd rfl h)
  · exact .inr h
theorem Ext.seqL {K : PySem.W.Frag} {H H' : Hp} (e : Ext H H') {a : Addr} {xs : List V} (h : SqL K H a xs) : SqL K H' a xs := by
  rcases h with h | h
  · exact .inl (e.rd rfl h)
  · exact .inr h
mutual
theorem Rep.ext {K : PySem.W.Frag} {H H' : Hp} (e : Ext H H') : ∀ (d : D) (v : V), Rep K H d v → Rep K H' d v
  | .non, _, h | .bl _, _, h | .int _, _, h | .str _, _, h | .ty _, _, h => by simpa only [Rep] using h
  | .tup ds, v, h => by
    simp only [Rep] at h ⊢
    obtain ⟨a, xs, rfl, h1, h2⟩ := h
    exact ⟨a, xs, rfl, e.seqT h1, RepL.ext e ds xs h2⟩
  | .lst ds, v, h => by
    simp only [Rep] at h ⊢
    obtain ⟨a, xs, rfl, h1, h2⟩ := h
    exact ⟨a, xs, rfl, e.obj _ _ h1 rfl, RepL.ext e ds xs h2⟩
  | .scr ds, v, h => by
    simp only [Rep] at h ⊢
    obtain ⟨a, xs, rfl, h1, h2⟩ := h
    exact ⟨a, xs, rfl, e.seqL h1, RepL.ext e ds xs h2⟩
  | .dct ks ds, v, h => by
    simp only [Rep] at h ⊢
    obtain ⟨a, ws, rfl, h1, h2, h3⟩ := h
    exact ⟨a, ws, rfl, e.dct _ _ h1, h2, RepL.ext e ds _ h3⟩
theorem RepL.ext {K : PySem.W.Frag} {H H' : Hp} (e : Ext H H') : ∀ (ds : List D) (xs : List V), RepL K H ds xs → RepL K H' ds xs
  | [], _, h => by simpa only [RepL] using h
  | d :: ds, xs, h => by
    simp only [RepL] at h ⊢
    obtain ⟨v, vs, rfl, h1, h2⟩ := h
    exact ⟨v, vs, rfl, Rep.ext e d v h1, RepL.ext e ds vs h2⟩
end
theorem Rep.same {K : PySem.W.Frag} {H H' : Hp} {d : D} {v : V} (e : Same H H') (h : Rep K H d v) : Rep K H' d v := Rep.ext (Ext.of e) d v h
theorem RepL.same {K : PySem.W.Frag} {H H' : Hp} {d : List D} {v : List V} (e : Same H H') (h : RepL K H d v) : RepL K H' d v := RepL.ext (Ext.of e) d v h

theorem RepL.len {K : PySem.W.Frag} {H : Hp} : ∀ {ds : List D} {xs : List V}, RepL K H ds xs → xs.length = ds.length
  | [], xs, h => by simp only [RepL] at h; subst h; rfl
  | d :: ds, xs, h => by
    simp only [RepL] at h
    obtain ⟨v, vs, rfl, _, h2⟩ := h
    simp [RepL.len h2]
theorem RepL.get {K : PySem.W.Frag} {H : Hp} : ∀ {ds : List D} {xs : List V} {i : Nat} {d : D}, RepL K H ds xs → ds[i]? = some d → ∃ v, xs[i]? = some v ∧ Rep K H d v
  | [], _, _, _, _, e => by simp at e
  | d :: ds, xs, 0, d', h, e => by
    simp only [RepL] at h
    obtain ⟨v, vs, rfl, h1, _⟩ := h
    simp at e; subst e
    exact ⟨v, rfl, h1⟩
  | d :: ds, xs, i + 1, d', h, e => by
    simp only [RepL] at h
    obtain ⟨v, vs, rfl, _, h2⟩ := h
    simpa using RepL.get h2 (by simpa using e)
theorem RepL.append {K : PySem.W.Frag} {H : Hp} : ∀ {ds es : List D} {xs ys : List V}, RepL K H ds xs → RepL K H es ys → RepL K H (ds ++ es) (xs ++ ys)
  | [], _, _, _, h, g => by simp only [RepL] at h; subst h; exact g
  | d :: ds, es, xs, ys, h, g => by
    simp only [RepL] at h
    obtain ⟨v, vs, rfl, h1, h2⟩ := h
    simp only [List.cons_append, RepL]
    exact ⟨v, vs ++ ys, rfl, h1, RepL.append h2 g⟩
theorem RepL.one {K : PySem.W.Frag} {H : Hp} {d : D} {v : V} (h : Rep K H d v) : RepL K H [d] [v] := by
  simp only [RepL]; exact ⟨v, [], rfl, h, rfl⟩
theorem RepL.snoc {K : PySem.W.Frag} {H : Hp} {ds : List D} {xs : List V} {d : D} {v : V} (h : RepL K H ds xs) (g : Rep K H d v) : RepL K H (ds ++ [d]) (xs ++ [v]) := h.append (.one g)
theorem RepL.take {K : PySem.W.Frag} {H : Hp} : ∀ (n : Nat) {ds : List D} {xs : List V}, RepL K H ds xs → RepL K H (ds.take n) (xs.take n)
  | 0, _, _, _ => by simp [RepL]
  | n + 1, [], xs, h => by simp only [RepL] at h; subst h; simp [RepL]
  | n + 1, d :: ds, xs, h => by
    simp only [RepL] at h
    obtain ⟨v, vs, rfl, h1, h2⟩ := h
    simp only [List.take_succ_cons, RepL]
    exact ⟨v, _, rfl, h1, RepL.take n h2⟩
theorem RepL.drop {K : PySem.W.Frag} {H : Hp} : ∀ (n : Nat) {ds : List D} {xs : List V}, RepL K H ds xs → RepL K H (ds.drop n) (xs.drop n)
  | 0, _, _, h => by simpa using h
  | n + 1, [], xs, h => by simp only [RepL] at h; subst h; simp [RepL]
  | n + 1, d :: ds, xs, h => by
    simp only [RepL] at h
    obtain ⟨v, vs, rfl, h1, h2⟩ := h
    simpa using RepL.drop n h2
theorem RepL.rev {K : PySem.W.Frag} {H : Hp} : ∀ {ds : List D} {xs : List V}, RepL K H ds xs → RepL K H ds.reverse xs.reverse
  | [], _, h => by simp only [RepL] at h; subst h; simp [RepL]
  | d :: ds, xs, h => by
    simp only [RepL] at h
    obtain ⟨v, vs, rfl, h1, h2⟩ := h
    simp only [List.reverse_cons]
    exact (RepL.rev h2).append (.one h1)
theorem RepL.set {K : PySem.W.Frag} {H : Hp} {d : D} {v : V} (g : Rep K H d v) : ∀ {ds : List D} {xs : List V} (n : Nat), RepL K H ds xs → RepL K H (ds.set n d) (xs.set n v)
  | [], _, _, h => by simp only [RepL] at h; subst h; simp [RepL]
  | e :: ds, xs, 0, h => by
    simp only [RepL] at h
    obtain ⟨w, vs, rfl, h1, h2⟩ := h
    simp only [List.set_cons_zero, RepL]
    exact ⟨v, vs, rfl, g, h2⟩
  | e :: ds, xs, n + 1, h => by
    simp only [RepL] at h
    obtain ⟨w, vs, rfl, h1, h2⟩ := h
    simp only [List.set_cons_succ, RepL]
    exact ⟨w, _, rfl, h1, RepL.set g n h2⟩
theorem RepL.erase {K : PySem.W.Frag} {H : Hp} : ∀ {ds : List D} {xs : List V} (n : Nat), RepL K H ds xs → RepL K H (ds.eraseIdx n) (xs.eraseIdx n)
  | [], _, _, h => by simp only [RepL] at h; subst h; simp [RepL]
  | e :: ds, xs, 0, h => by
    simp only [RepL] at h
    obtain ⟨w, vs, rfl, h1, h2⟩ := h
    simpa using h2
  | e :: ds, xs, n + 1, h => by
    simp only [RepL] at h
    obtain ⟨w, vs, rfl, h1, h2⟩ := h
    simp only [List.eraseIdx_cons_succ, RepL]
    exact ⟨w, _, rfl, h1, RepL.erase n h2⟩
theorem RepL.ints {K : PySem.W.Frag} {H : Hp} : ∀ {ns : List Int} {xs : List V}, RepL K H (ns.map D.int) xs → xs = ns.map V.int
  | [], _, h => by simpa only [List.map_nil, RepL] using h
  | n :: ns, xs, h => by
    simp only [List.map_cons, RepL, Rep] at h
    obtain ⟨v, vs, rfl, rfl, h2⟩ := h
    rw [RepL.ints h2]; rfl
theorem RepL.ofInts {K : PySem.W.Frag} {H : Hp} : ∀ (ns : List Int), RepL K H (ns.map D.int) (ns.map V.int)
  | [] => by simp only [List.map_nil, RepL]
  | n :: ns => by
    simp only [List.map_cons, RepL, Rep]
    exact ⟨_, _, rfl, rfl, RepL.ofInts ns⟩
end Fw
namespace Fw
open PySem L2

/-! ### what a slot holds: frozen data, or a container that is the slot's own -/
inductive T where
  | frz (d : D) | lst (ds : List D) | dct (ks : List Key) (vs : List D) | tree (ts : List T) | kn (b p : Int) (fs : List Int)
def T.toD : T → Option D
  | .frz d => some d
  | .lst ds => some (.lst ds)
  | .dct ks vs => some (.dct ks vs)
  | .tree _ => none
  | .kn _ _ _ => none
abbrev Env := List (Option T)

/-- the fields of a kept number -/
def knF (b p : Int) (l : Addr) : List (Str × V) := [("base", .int b), ("power", .int p), ("figures", .ref l)]
mutual
/-- v is t; fp are the addresses that t owns; Hf the frozen part -/
inductive Own (K : PySem.W.Frag) (Hf H : Hp) : T → V → List Addr → Prop
  | frz {d : D} {v : V} : Rep K Hf d v → Own K Hf H (.frz d) v []
  | lst {ds : List D} {a : Addr} {xs : List V} : H a = some (.lst xs) → RepL K Hf ds xs → Own K Hf H (.lst ds) (.ref a) [a]
  | dct {ks : List Key} {ds : List D} {a : Addr} {ws : List (Key × V)} : H a = some (.dK ws) → ws.map (·.1) = ks → RepL K Hf ds (ws.map (·.2)) → Own K Hf H (.dct ks ds) (.ref a) [a]
  | tree {ts : List T} {a : Addr} {xs : List V} {fp : List Addr} : H a = some (.lst xs) → OwnL K Hf H ts xs fp → Own K Hf H (.tree ts) (.ref a) (a :: fp)
  | kn {b p : Int} {fs : List Int} {a dx l C : Addr} : PySem.W.nsIn K mainGlobals "KeptNumber" = some (some (.ref C)) → H a = some (.ins C dx (knF b p l)) → H l = some (.lst (fs.map V.int)) → Own K Hf H (.kn b p fs) (.ref a) [a, l]
inductive OwnL (K : PySem.W.Frag) (Hf H : Hp) : List T → List V → List Addr → Prop
  | nil : OwnL K Hf H [] [] []
  | cons {t : T} {v : V} {ts : List T} {vs : List V} {f1 f2 : List Addr} : Own K Hf H t v f1 → OwnL K Hf H ts vs f2 → OwnL K Hf H (t :: ts) (v :: vs) (f1 ++ f2)
end
/-- the slots -/
inductive EnvR (K : PySem.W.Frag) (Hf H : Hp) : L2.St → Env → List Addr → Prop
  | nil : EnvR K Hf H [] [] []
  | no {s : Option V} {σ : L2.St} {Γ : Env} {fp : List Addr} : EnvR K Hf H σ Γ fp → EnvR K Hf H (s :: σ) (none :: Γ) fp
  | yes {v : V} {t : T} {σ : L2.St} {Γ : Env} {f1 f2 : List Addr} : Own K Hf H t v f1 → EnvR K Hf H σ Γ f2 → EnvR K Hf H (some v :: σ) (some t :: Γ) (f1 ++ f2)

/-- the world between two steps: fp owned by the slots, ft by what is held beside -/
structure Wd (K : PySem.W.Frag) (Hf H : Hp) (fp : List Addr) : Prop where
  same : Same Hf H
  nd : fp.Nodup
  nf : ∀ a ∈ fp, Hf a = none
/-- from one world to the next: only fp may change -/
structure Step (Hf H : Hp) (fp : List Addr) (Hf' H' : Hp) (fp' : List Addr) : Prop where
  ext : Ext Hf Hf'
  keep : ∀ a o, a ∉ fp → H a = some o → H' a = some o
  new : ∀ a ∈ fp', a ∈ fp ∨ H a = none
  nofz : ∀ a, a ∉ fp → Hf a = none → H a ≠ none → Hf' a = none
theorem Step.refl (Hf H : Hp) (fp : List Addr) : Step Hf H fp Hf H fp := ⟨Ext.refl _, fun _ _ _ h => h, fun _ h => .inl h, fun _ _ h _ => h⟩
theorem Step.sub {Hf H : Hp} {fp fp' : List Addr} (h : ∀ a ∈ fp', a ∈ fp) : Step Hf H fp Hf H fp' := ⟨Ext.refl _, fun _ _ _ h => h, fun a ha => .inl (h a ha), fun _ _ h _ => h⟩
theorem Step.trans {Hf H Hf1 H1 Hf2 H2 : Hp} {fp fp1 fp2 : List Addr} (a : Step Hf H fp Hf1 H1 fp1) (b : Step Hf1 H1 fp1 Hf2 H2 fp2) : Step Hf H fp Hf2 H2 fp2 := by
  have out : ∀ x, x ∉ fp → H x ≠ none → x ∉ fp1 := fun x hx hn h1 => by
    rcases a.new x h1 with h | h
    · exact hx h
    · exact hn h
  refine ⟨a.ext.trans b.ext, fun x o hx e => ?_, fun x hx => ?_, fun x hx hf hn => ?_⟩
  · exact b.keep x o (out x hx (by rw [e]; simp)) (a.keep x o hx e)
  · rcases b.new x hx with h | h
    · exact a.new x h
    · by_cases hp : x ∈ fp
      · exact .inl hp
      · right
        cases e : H x with
        | none => rfl
        | some o => rw [a.keep x o hp e] at h; cases h
  · refine b.nofz x (out x hx hn) (a.nofz x hx hf hn) ?_
    cases e : H x with
    | none => exact absurd e hn
    | some o => rw [a.keep x o hx e]; simp
/-- a step beside: what else is owned stays owned -/
theorem Step.frame {Hf H Hf' H' : Hp} {fp fp' : List Addr} (s : Step Hf H fp Hf' H' fp') (fr : List Addr) : Step Hf H (fp ++ fr) Hf' H' (fp' ++ fr) := by
  refine ⟨s.ext, fun a o ha e => s.keep a o (fun z => ha (List.mem_append_left _ z)) e, fun a ha => ?_, fun a ha => s.nofz a fun z => ha (List.mem_append_left _ z)⟩
  rcases List.mem_append.mp ha with h | h
  · rcases s.new a h with h | h
    · exact .inl (List.mem_append_left _ h)
    · exact .inr h
  · exact .inl (List.mem_append_right _ h)
theorem Step.perm {Hf H Hf' H' : Hp} {fp fp' gp gp' : List Addr} (s : Step Hf H fp Hf' H' fp') (h : ∀ a, a ∈ fp ↔ a ∈ gp) (h' : ∀ a ∈ gp', a ∈ fp') : Step Hf H gp Hf' H' gp' :=
  ⟨s.ext, fun a o ha e => s.keep a o (fun z => ha ((h a).mp z)) e, fun a ha => (s.new a (h' a ha)).imp_left (h a).mp, fun a ha => s.nofz a fun z => ha ((h a).mp z)⟩

mutual
/-- what is owned is allocated -/
theorem Own.alloc {K : PySem.W.Frag} {Hf H : Hp} : ∀ {t : T} {v : V} {fp : List Addr}, Own K Hf H t v fp → ∀ a ∈ fp, H a ≠ none
  | _, _, _, .frz _, a, ha => by simp at ha
  | _, _, _, .lst e _, a, ha => by simp at ha; subst ha; rw [e]; simp
  | _, _, _, .dct e _ _, a, ha => by simp at ha; subst ha; rw [e]; simp
  | _, _, _, .tree e h, a, ha => by
    rcases List.mem_cons.mp ha with z | z
    · subst z; rw [e]; simp
    · exact OwnL.alloc h a z
  | _, _, _, .kn _ e h, a, ha => by
    simp at ha
    rcases ha with rfl | rfl
    · rw [e]; simp
    · rw [h]; simp
theorem OwnL.alloc {K : PySem.W.Frag} {Hf H : Hp} : ∀ {ts : List T} {vs : List V} {fp : List Addr}, OwnL K Hf H ts vs fp → ∀ a ∈ fp, H a ≠ none
  | _, _, _, .nil, a, ha => by simp at ha
  | _, _, _, .cons h g, a, ha => by
    rcases List.mem_append.mp ha with z | z
    · exact Own.alloc h a z
    · exact OwnL.alloc g a z
end
theorem EnvR.alloc {K : PySem.W.Frag} {Hf H : Hp} {σ : L2.St} {Γ : Env} {fp : List Addr} (h : EnvR K Hf H σ Γ fp) : ∀ a ∈ fp, H a ≠ none := by
  induction h with
  | nil => intro a ha; simp at ha
  | no _ ih => exact ih
  | yes o _ ih =>
    intro a ha
    rcases List.mem_append.mp ha with z | z
    · exact o.alloc a z
    · exact ih a z
mutual
/-- what is owned stays, where its cells stay -/
theorem Own.stay {K : PySem.W.Frag} {Hf H Hf' H' : Hp} (e : Ext Hf Hf') : ∀ {t : T} {v : V} {fp : List Addr}, (∀ a ∈ fp, ∀ o, H a = some o → H' a = some o) → Own K Hf H t v fp → Own K Hf' H' t v fp
  | _, _, _, _, .frz h => .frz (Rep.ext e _ _ h)
  | _, _, _, k, .lst h g => .lst (k _ (by simp) _ h) (RepL.ext e _ _ g)
  | _, _, _, k, .dct h z g => .dct (k _ (by simp) _ h) z (RepL.ext e _ _ g)
  | _, _, _, k, .tree h g => .tree (k _ (by simp) _ h) (OwnL.stay e (fun a ha => k a (by simp [ha])) g)
  | _, _, _, k, .kn c h g => .kn c (k _ (by simp) _ h) (k _ (by simp) _ g)
theorem OwnL.stay {K : PySem.W.Frag} {Hf H Hf' H' : Hp} (e : Ext Hf Hf') : ∀ {ts : List T} {vs : List V} {fp : List Addr}, (∀ a ∈ fp, ∀ o, H a = some o → H' a = some o) → OwnL K Hf H ts vs fp → OwnL K Hf' H' ts vs fp
  | _, _, _, _, .nil => .nil
  | _, _, _, k, .cons h g => .cons (Own.stay e (fun a ha => k a (by simp [ha])) h) (OwnL.stay e (fun a ha => k a (by simp [ha])) g)
end
theorem EnvR.stay {K : PySem.W.Frag} {Hf H Hf' H' : Hp} (e : Ext Hf Hf') {σ : L2.St} {Γ : Env} {fp : List Addr} (k : ∀ a ∈ fp, ∀ o, H a = some o → H' a = some o) (h : EnvR K Hf H σ Γ fp) : EnvR K Hf' H' σ Γ fp := by
  induction h with
  | nil => exact .nil
  | no _ ih => exact .no (ih k)
  | yes o _ ih => exact .yes (o.stay e fun a ha => k a (by simp [ha])) (ih fun a ha => k a (by simp [ha]))
theorem OwnL.len {K : PySem.W.Frag} {Hf H : Hp} : ∀ {ts : List T} {vs : List V} {fp : List Addr}, OwnL K Hf H ts vs fp → vs.length = ts.length
  | _, _, _, .nil => rfl
  | _, _, _, .cons _ g => by simp [OwnL.len g]
theorem EnvR.len {K : PySem.W.Frag} {Hf H : Hp} {σ : L2.St} {Γ : Env} {fp : List Addr} (h : EnvR K Hf H σ Γ fp) : σ.length = Γ.length := by
  induction h with
  | nil => rfl
  | no _ ih => simp [ih]
  | yes _ _ ih => simp [ih]

/-- one slot taken out of the row: its own part, the rest -/
theorem EnvR.split {K : PySem.W.Frag} {Hf H : Hp} {σ : L2.St} {Γ : Env} {fp : List Addr} (h : EnvR K Hf H σ Γ fp) : ∀ {i : Nat} {t : T}, Γ[i]? = some (some t) →
    ∃ v f1 f2, σ[i]? = some (some v) ∧ Own K Hf H t v f1 ∧ EnvR K Hf H σ (Γ.set i none) f2 ∧ (f1 ++ f2).Perm fp := by
  induction h with
  | nil => intro i t e; simp at e
  | @no s σ Γ fp h ih =>
    intro i t e
    cases i with
    | zero => simp at e
    | succ i =>
      obtain ⟨v, f1, f2, h1, h2, h3, h4⟩ := ih (i := i) (t := t) (by simpa using e)
      exact ⟨v, f1, f2, by simpa using h1, h2, .no h3, h4⟩
  | @yes v0 t0 σ Γ g1 g2 o h ih =>
    intro i t e
    cases i with
    | zero =>
      simp at e; subst e
      exact ⟨v0, g1, g2, rfl, o, .no h, .refl _⟩
    | succ i =>
      obtain ⟨v, f1, f2, h1, h2, h3, h4⟩ := ih (i := i) (t := t) (by simpa using e)
      refine ⟨v, f1, g1 ++ f2, by simpa using h1, h2, .yes o h3, ?_⟩
      refine (List.Perm.trans ?_ (List.Perm.append_left g1 h4))
      rw [← List.append_assoc, ← List.append_assoc]
      exact List.Perm.append_right _ List.perm_append_comm
/-- a slot filled -/
theorem EnvR.fill {K : PySem.W.Frag} {Hf H : Hp} {σ : L2.St} {Γ : Env} {fp : List Addr} (h : EnvR K Hf H σ Γ fp) : ∀ {i : Nat} {t : T} {v : V} {f1 : List Addr}, Γ[i]? = some none → σ[i]? = some (some v) → Own K Hf H t v f1 →
    ∃ f2, EnvR K Hf H σ (Γ.set i (some t)) f2 ∧ (f1 ++ fp).Perm f2 := by
  induction h with
  | nil => intro i t v f1 e; simp at e
  | @no s σ Γ fp h ih =>
    intro i t v f1 e e2 o
    cases i with
    | zero =>
      simp at e2; subst e2
      exact ⟨f1 ++ fp, .yes o h, .refl _⟩
    | succ i =>
      obtain ⟨f2, h1, h2⟩ := ih (i := i) (by simpa using e) (by simpa using e2) o
      exact ⟨f2, .no h1, h2⟩
  | @yes v0 t0 σ Γ g1 g2 o0 h ih =>
    intro i t v f1 e e2 o
    cases i with
    | zero => simp at e
    | succ i =>
      obtain ⟨f2, h1, h2⟩ := ih (i := i) (by simpa using e) (by simpa using e2) o
      refine ⟨g1 ++ f2, .yes o0 h1, ?_⟩
      refine List.Perm.trans ?_ (List.Perm.append_left g1 h2)
      rw [← List.append_assoc, ← List.append_assoc]
      exact List.Perm.append_right _ List.perm_append_comm
/-- a slot emptied -/
theorem EnvR.drop {K : PySem.W.Frag} {Hf H : Hp} {σ : L2.St} {Γ : Env} {fp : List Addr} (h : EnvR K Hf H σ Γ fp) : ∀ (i : Nat), ∃ f2, EnvR K Hf H σ (Γ.set i none) f2 ∧ f2.Sublist fp := by
  induction h with
  | nil => intro i; exact ⟨[], by simpa using EnvR.nil, .refl _⟩
  | @no s σ Γ fp h ih =>
    intro i
    cases i with
    | zero => exact ⟨fp, .no h, .refl _⟩
    | succ i =>
      obtain ⟨f2, h1, h2⟩ := ih i
      exact ⟨f2, .no h1, h2⟩
  | @yes v0 t0 σ Γ g1 g2 o0 h ih =>
    intro i
    cases i with
    | zero => exact ⟨g2, .no h, List.sublist_append_right _ _⟩
    | succ i =>
      obtain ⟨f2, h1, h2⟩ := ih i
      exact ⟨g1 ++ f2, .yes o0 h1, h2.append_left _⟩
/-- a slot's value in the frame changes, the slot being empty -/
theorem EnvR.setσ {K : PySem.W.Frag} {Hf H : Hp} {σ : L2.St} {Γ : Env} {fp : List Addr} (h : EnvR K Hf H σ Γ fp) : ∀ {i : Nat} (s : Option V), Γ[i]? = some none ∨ Γ[i]? = none → EnvR K Hf H (σ.set i s) Γ fp := by
  induction h with
  | nil => intro i s _; exact .nil
  | @no s σ Γ fp h ih =>
    intro i s' e
    cases i with
    | zero => exact .no h
    | succ i => exact .no (ih s' (by simpa using e))
  | @yes v0 t0 σ Γ g1 g2 o0 h ih =>
    intro i s' e
    cases i with
    | zero => simp at e
    | succ i => exact .yes o0 (ih s' (by simpa using e))
/-- x = ..: slot i holds what is owned by f1 -/
theorem EnvR.put {K : PySem.W.Frag} {Hf H : Hp} {σ : L2.St} {Γ : Env} {fp : List Addr} (h : EnvR K Hf H σ Γ fp) {i : Nat} {t : T} {v : V} {f1 : List Addr} (hi : i < Γ.length) (o : Own K Hf H t v f1) (nd : (f1 ++ fp).Nodup) :
    ∃ f2, EnvR K Hf H (σ.set i (some v)) (Γ.set i (some t)) f2 ∧ f2.Nodup ∧ ∀ a ∈ f2, a ∈ f1 ∨ a ∈ fp := by
  obtain ⟨g, h1, hs⟩ := h.drop i
  have h2 := h1.setσ (i := i) (some v) (by left; rw [List.getElem?_set_self hi])
  have hl := h2.len
  obtain ⟨f2, h3, hp⟩ := h2.fill (i := i) (t := t) (v := v) (by rw [List.getElem?_set_self hi]) (by
    rw [List.length_set, List.length_set] at hl
    rw [List.getElem?_set_self (by omega)]) o
  rw [List.set_set] at h3
  refine ⟨f2, h3, ?_, fun a ha => ?_⟩
  · refine hp.nodup ?_
    exact List.Nodup.sublist (hs.append_left _) nd
  · rcases List.mem_append.mp (hp.mem_iff.mpr ha) with z | z
    · exact .inl z
    · exact .inr (hs.subset z)

/-- freezing: what a flat thing owns goes into the frozen part; the heap is as it was -/
theorem Own.freeze {K : PySem.W.Frag} {Hf H : Hp} {t : T} {d : D} {v : V} {f : List Addr} {fr : List Addr} (hd : t.toD = some d) (o : Own K Hf H t v f) (w : Wd K Hf H (f ++ fr)) :
    ∃ Hf', Rep K Hf' d v ∧ Wd K Hf' H fr ∧ Step Hf H (f ++ fr) Hf' H fr ∧ Same Hf Hf' := by
  cases o with
  | frz h =>
    cases hd
    exact ⟨Hf, h, by simpa using w, by simpa using Step.refl _ _ _, Same.refl _⟩
  | @lst ds a xs e h =>
    cases hd
    have hn : Hf a = none := w.nf a (by simp)
    have hs : Same Hf (upd Hf a (.lst xs)) := fun b o eb => by rw [upd_ne (ne_of_none eb hn)]; exact eb
    have nda : a ∉ fr := fun z => by have := w.nd; simp at this; exact this.1 z
    refine ⟨upd Hf a (.lst xs), ?_, ⟨fun b o eb => ?_, by have := w.nd; simp at this; exact this.2, fun b hb => ?_⟩, ⟨Ext.of hs, fun _ _ _ h => h, fun b hb => .inl (by simp [hb]), fun b hb hf hh => ?_⟩, hs⟩
    · simp only [Rep]
      exact ⟨a, xs, rfl, upd_same, RepL.same hs h⟩
    · by_cases hb : b = a
      · subst hb; rw [upd_same] at eb; cases eb; exact e
      · rw [upd_ne hb] at eb; exact w.same b o eb
    · rw [upd_ne (show b ≠ a from fun z => nda (by rw [← z]; exact hb))]; exact w.nf b (by simp [hb])
    · rw [upd_ne (fun z => hb (by simp [z]))]; exact hf
  | @dct ks ds a ws e hk h =>
    cases hd
    have hn : Hf a = none := w.nf a (by simp)
    have hs : Same Hf (upd Hf a (.dK ws)) := fun b o eb => by rw [upd_ne (ne_of_none eb hn)]; exact eb
    have nda : a ∉ fr := fun z => by have := w.nd; simp at this; exact this.1 z
    refine ⟨upd Hf a (.dK ws), ?_, ⟨fun b o eb => ?_, by have := w.nd; simp at this; exact this.2, fun b hb => ?_⟩, ⟨Ext.of hs, fun _ _ _ h => h, fun b hb => .inl (by simp [hb]), fun b hb hf hh => ?_⟩, hs⟩
    · simp only [Rep]
      exact ⟨a, ws, rfl, .inl upd_same, hk, RepL.same hs h⟩
    · by_cases hb : b = a
      · subst hb; rw [upd_same] at eb; cases eb; exact e
      · rw [upd_ne hb] at eb; exact w.same b o eb
    · rw [upd_ne (show b ≠ a from fun z => nda (by rw [← z]; exact hb))]; exact w.nf b (by simp [hb])
    · rw [upd_ne (fun z => hb (by simp [z]))]; exact hf
  | tree e h => cases hd
  | kn _ e h => cases hd
end Fw
namespace Fw
open PySem L2

/-! ### the denotations -/
structure Exn where
  cls : Str
  args : List D
inductive Out (α : Type) where
  | stuck | exc (x : Exn) (Γ : Env) | ok (a : α) (Γ : Env)
def bindO {α β : Type} (m : Env → Out α) (k : α → Env → Out β) : Env → Out β := fun Γ => match m Γ with
  | .ok a Γ1 => k a Γ1
  | .exc x Γ1 => .exc x Γ1
  | .stuck => .stuck
def liftO {α β : Type} (o : Option α) (k : α → Out β) : Out β := match o with
  | some a => k a
  | none => .stuck
theorem bindO_ok {α β : Type} {m : Env → Out α} {k : α → Env → Out β} {Γ Γ2 : Env} {b : β} (h : bindO m k Γ = .ok b Γ2) : ∃ a Γ1, m Γ = .ok a Γ1 ∧ k a Γ1 = .ok b Γ2 := by
  unfold bindO at h
  cases e : m Γ with
  | ok a Γ1 => rw [e] at h; exact ⟨a, Γ1, rfl, h⟩
  | exc x Γ1 => rw [e] at h; cases h
  | stuck => rw [e] at h; cases h
theorem liftO_ok {α β : Type} {o : Option α} {k : α → Out β} {b : β} {Γ : Env} (h : liftO o k = .ok b Γ) : ∃ a, o = some a ∧ k a = .ok b Γ := by
  cases o with
  | none => cases h
  | some a => exact ⟨a, rfl, h⟩

/-- a result: frozen, a container of its own, or where a slot is -/
inductive R where
  | frz (d : D) | own (t : T) | loc (i : Nat)
abbrev Den := Env → Out R
abbrev DenT := Env → Out Bool
def R.get (r : R) (Γ : Env) : Option D := match r with
  | .frz d => some d
  | .own t => t.toD
  | .loc i => match Γ[i]? with
    | some (some t) => t.toD
    | _ => none
/-- the value as it is, frozen -/
def dV (e : Den) : Env → Out D := bindO e fun r Γ => liftO (r.get Γ) fun d => match r with
  | .loc i => .ok d (Γ.set i (some (.frz d)))
  | _ => .ok d Γ
/-- an operand -/
def dO (e : Den) : Den := bindO e fun r Γ => match r with
  | .own t => liftO t.toD fun d => .ok (.frz d) Γ
  | r => .ok r Γ
/-- what an operation makes -/
inductive Z where
  | val (d : D) | lst (ds : List D) | tup (ds : List D) | dct (ks : List Key) (ds : List D)
def Z.toR : Z → R
  | .val d => .frz d
  | .lst ds => .own (.lst ds)
  | .tup ds => .frz (.tup ds)
  | .dct ks ds => .own (.dct ks ds)

/-! ### what they say of a reading -/
def ResR (K : PySem.W.Frag) (Hf H : Hp) (σ : L2.St) (r : R) (v : V) (ft : List Addr) : Prop := match r with
  | .frz d => Rep K Hf d v ∧ ft = []
  | .own t => Own K Hf H t v ft
  | .loc i => σ[i]? = some (some v) ∧ ft = []
def SE (K : PySem.W.Frag) (t : TE) (e : Den) : Prop := ∀ (σ : L2.St) (Γ : Env) (r : R) (Γ' : Env), e Γ = .ok r Γ' → ∀ (Hf H : Hp) (fp : List Addr), EnvR K Hf H σ Γ fp → Wd K Hf H fp →
  ∀ Q : VK, (∀ v Hf' H' fp' ft, EnvR K Hf' H' σ Γ' fp' → Wd K Hf' H' (fp' ++ ft) → Step Hf H fp Hf' H' (fp' ++ ft) → ResR K Hf' H' σ r v ft → Q v H') → t σ H Q
/-- a frozen value -/
def SV (K : PySem.W.Frag) (t : TE) (e : Env → Out D) : Prop := ∀ (σ : L2.St) (Γ : Env) (d : D) (Γ' : Env), e Γ = .ok d Γ' → ∀ (Hf H : Hp) (fp : List Addr), EnvR K Hf H σ Γ fp → Wd K Hf H fp →
  ∀ Q : VK, (∀ v Hf' H' fp', EnvR K Hf' H' σ Γ' fp' → Wd K Hf' H' fp' → Step Hf H fp Hf' H' fp' → Rep K Hf' d v → Q v H') → t σ H Q
/-- an operand: frozen, or where a slot is -/
def ResO (K : PySem.W.Frag) (Hf : Hp) (σ : L2.St) (r : R) (v : V) : Prop := match r with
  | .frz d => Rep K Hf d v
  | .own _ => False
  | .loc i => σ[i]? = some (some v)
def SO (K : PySem.W.Frag) (t : TE) (e : Den) : Prop := ∀ (σ : L2.St) (Γ : Env) (r : R) (Γ' : Env), e Γ = .ok r Γ' → ∀ (Hf H : Hp) (fp : List Addr), EnvR K Hf H σ Γ fp → Wd K Hf H fp →
  ∀ Q : VK, (∀ v Hf' H' fp', EnvR K Hf' H' σ Γ' fp' → Wd K Hf' H' fp' → Step Hf H fp Hf' H' fp' → ResO K Hf' σ r v → Q v H') → t σ H Q
def ST (K : PySem.W.Frag) (t : TT) (e : DenT) : Prop := ∀ (σ : L2.St) (Γ : Env) (b : Bool) (Γ' : Env), e Γ = .ok b Γ' → ∀ (Hf H : Hp) (fp : List Addr), EnvR K Hf H σ Γ fp → Wd K Hf H fp →
  ∀ Q : Bool → Hp → Prop, (∀ Hf' H' fp', EnvR K Hf' H' σ Γ' fp' → Wd K Hf' H' fp' → Step Hf H fp Hf' H' fp' → Q b H') → t σ H Q

theorem EnvR.perm_wd {K : PySem.W.Frag} {Hf H : Hp} {fp gp : List Addr} (w : Wd K Hf H fp) (p : gp.Perm fp) : Wd K Hf H gp := ⟨w.same, p.symm.nodup w.nd, fun a ha => w.nf a (p.mem_iff.mp ha)⟩
theorem Wd.perm {K : PySem.W.Frag} {Hf H : Hp} {fp gp : List Addr} (w : Wd K Hf H fp) (p : gp.Perm fp) : Wd K Hf H gp := EnvR.perm_wd w p
theorem Wd.left {K : PySem.W.Frag} {Hf H : Hp} {fp gp : List Addr} (w : Wd K Hf H (fp ++ gp)) : Wd K Hf H fp := ⟨w.same, (List.nodup_append.mp w.nd).1, fun a ha => w.nf a (by simp [ha])⟩
theorem Wd.right {K : PySem.W.Frag} {Hf H : Hp} {fp gp : List Addr} (w : Wd K Hf H (fp ++ gp)) : Wd K Hf H gp := ⟨w.same, (List.nodup_append.mp w.nd).2.1, fun a ha => w.nf a (by simp [ha])⟩

/-- a slot is frozen -/
theorem EnvR.freeze {K : PySem.W.Frag} {Hf H : Hp} {σ : L2.St} {Γ : Env} {fp : List Addr} {i : Nat} {t : T} {d : D} (E : EnvR K Hf H σ Γ fp) (w : Wd K Hf H fp) (hi : Γ[i]? = some (some t)) (hd : t.toD = some d) :
    ∃ v Hf' fp', σ[i]? = some (some v) ∧ Rep K Hf' d v ∧ EnvR K Hf' H σ (Γ.set i (some (.frz d))) fp' ∧ Wd K Hf' H fp' ∧ Step Hf H fp Hf' H fp' := by
  obtain ⟨v, f1, f2, hv, o, E2, p⟩ := E.split hi
  obtain ⟨Hf', hr, w', st, sm⟩ := o.freeze (fr := f2) hd (w.perm p)
  have E3 : EnvR K Hf' H σ (Γ.set i none) f2 := E2.stay (Ext.of sm) fun _ _ _ h => h
  have hl : i < Γ.length := (List.getElem?_eq_some_iff.mp hi).1
  obtain ⟨f3, E4, p4⟩ := E3.fill (i := i) (t := .frz d) (v := v) (f1 := []) (by rw [List.getElem?_set_self hl]) hv (.frz hr)
  rw [List.set_set] at E4
  have p4' : f3.Perm f2 := by simpa using p4.symm
  exact ⟨v, Hf', f3, hv, hr, E4, w'.perm p4', st.perm (fun a => p.mem_iff) fun a ha => p4'.mem_iff.mp ha⟩

theorem SV.of {K : PySem.W.Frag} {t : TE} {e : Den} (h : SE K t e) : SV K t (dV e) := by
  intro σ Γ d Γ' he Hf H fp E w Q q
  obtain ⟨r, Γ1, h1, h2⟩ := bindO_ok he
  obtain ⟨d', g, h2⟩ := liftO_ok h2
  refine h σ Γ r Γ1 h1 Hf H fp E w Q fun v Hf1 H1 fp1 ft E1 w1 st1 res => ?_
  cases r with
  | frz d0 =>
    obtain ⟨res, rfl⟩ := res
    cases g; cases h2
    simp at w1 st1
    exact q v Hf1 H1 fp1 E1 w1 st1 res
  | own t0 =>
    cases h2
    obtain ⟨Hf2, hr, w2, st2, sm⟩ := Own.freeze (fr := fp1) g res (w1.perm List.perm_append_comm)
    exact q v Hf2 H1 fp1 (E1.stay (Ext.of sm) fun _ _ _ h => h) w2 (st1.trans (st2.perm (fun a => List.perm_append_comm.mem_iff) fun _ h => h)) hr
  | loc i =>
    obtain ⟨res, rfl⟩ := res
    cases h2
    simp at w1 st1
    unfold R.get at g
    simp only at g
    split at g
    · rename_i t0 hi
      obtain ⟨v', Hf2, fp2, hv, hr, E2, w2, st2⟩ := E1.freeze w1 hi g
      rw [hv] at res; cases res
      exact q _ Hf2 H1 fp2 E2 w2 (st1.trans st2) hr
    · cases g
theorem SO.of {K : PySem.W.Frag} {t : TE} {e : Den} (h : SE K t e) : SO K t (dO e) := by
  intro σ Γ r' Γ' he Hf H fp E w Q q
  obtain ⟨r, Γ1, h1, h2⟩ := bindO_ok he
  refine h σ Γ r Γ1 h1 Hf H fp E w Q fun v Hf1 H1 fp1 ft E1 w1 st1 res => ?_
  cases r with
  | frz d0 =>
    obtain ⟨res, rfl⟩ := res
    cases h2
    simp at w1 st1
    exact q v Hf1 H1 fp1 E1 w1 st1 res
  | own t0 =>
    obtain ⟨d, g, h2⟩ := liftO_ok h2
    cases h2
    obtain ⟨Hf2, hr, w2, st2, sm⟩ := Own.freeze (fr := fp1) g res (w1.perm List.perm_append_comm)
    exact q v Hf2 H1 fp1 (E1.stay (Ext.of sm) fun _ _ _ h => h) w2 (st1.trans (st2.perm (fun a => List.perm_append_comm.mem_iff) fun _ h => h)) hr
  | loc i =>
    obtain ⟨res, rfl⟩ := res
    cases h2
    simp at w1 st1
    exact q _ Hf1 H1 fp1 E1 w1 st1 res

/-- what may be read now: frozen, or a slot's own with frozen items -/
inductive Top (K : PySem.W.Frag) (Hf H : Hp) : D → V → Prop
  | frz {d : D} {v : V} : Rep K Hf d v → Top K Hf H d v
  | lst {ds : List D} {a : Addr} {xs : List V} : H a = some (.lst xs) → RepL K Hf ds xs → Top K Hf H (.lst ds) (.ref a)
  | dct {ks : List Key} {ds : List D} {a : Addr} {ws : List (Key × V)} : H a = some (.dK ws) → ws.map (·.1) = ks → RepL K Hf ds (ws.map (·.2)) → Top K Hf H (.dct ks ds) (.ref a)
theorem Own.top {K : PySem.W.Frag} {Hf H : Hp} {t : T} {v : V} {f : List Addr} {d : D} (o : Own K Hf H t v f) (h : t.toD = some d) : Top K Hf H d v := by
  cases o with
  | frz r => cases h; exact .frz r
  | lst a b => cases h; exact .lst a b
  | dct a b c => cases h; exact .dct a b c
  | tree => cases h
  | kn => cases h
theorem Top.rep {K : PySem.W.Frag} {Hf H : Hp} {d : D} {v : V} (s : Same Hf H) (t : Top K Hf H d v) : Rep K H d v := by
  cases t with
  | frz r => exact r.same s
  | lst a b => simp only [Rep]; exact ⟨_, _, rfl, a, b.same s⟩
  | dct a b c => simp only [Rep]; exact ⟨_, _, rfl, .inl a, b, c.same s⟩
theorem ResO.top {K : PySem.W.Frag} {Hf H : Hp} {σ : L2.St} {Γ : Env} {fp : List Addr} {r : R} {v : V} {d : D} (E : EnvR K Hf H σ Γ fp) (h : ResO K Hf σ r v) (g : r.get Γ = some d) : Top K Hf H d v := by
  cases r with
  | frz d0 => cases g; exact .frz h
  | own => exact h.elim
  | loc i =>
    unfold R.get at g
    simp only at g
    split at g
    · rename_i t0 hi
      obtain ⟨v', f1, f2, hv, o, _, _⟩ := E.split hi
      have h : σ[i]? = some (some v) := h
      rw [hv] at h; cases h
      exact o.top g
    · cases g
theorem ResO.ext {K : PySem.W.Frag} {Hf Hf' : Hp} {σ : L2.St} {r : R} {v : V} (e : Ext Hf Hf') (h : ResO K Hf σ r v) : ResO K Hf' σ r v := by
  cases r with
  | frz d => exact Rep.ext e d v h
  | own => exact h
  | loc i => exact h
section
variable {K : PySem.W.Frag} {Hf H : Hp} {v : V}
theorem Top.int {i : Int} (t : Top K Hf H (.int i) v) : v = .int i := by cases t with | frz r => simpa only [Rep] using r
theorem Top.bl {i : Bool} (t : Top K Hf H (.bl i) v) : v = .bl i := by cases t with | frz r => simpa only [Rep] using r
theorem Top.str {i : Str} (t : Top K Hf H (.str i) v) : v = .str i := by cases t with | frz r => simpa only [Rep] using r
theorem Top.non (t : Top K Hf H .non v) : v = .non := by cases t with | frz r => simpa only [Rep] using r
theorem Top.list {ds : List D} (s : Same Hf H) (t : Top K Hf H (.lst ds) v) : ∃ a xs, v = .ref a ∧ H a = some (.lst xs) ∧ RepL K Hf ds xs := by
  cases t with
  | frz r =>
    simp only [Rep] at r
    obtain ⟨a, xs, rfl, h, g⟩ := r
    exact ⟨a, xs, rfl, s _ _ h, g⟩
  | lst a b => exact ⟨_, _, rfl, a, b⟩
theorem Top.dict {ks : List Key} {ds : List D} (s : Same Hf H) (t : Top K Hf H (.dct ks ds) v) : ∃ a ws, v = .ref a ∧ Rd H a (.dK ws) ∧ ws.map (·.1) = ks ∧ RepL K Hf ds (ws.map (·.2)) := by
  cases t with
  | frz r =>
    simp only [Rep] at r
    obtain ⟨a, ws, rfl, h, g⟩ := r
    exact ⟨a, ws, rfl, (Ext.of s).dct _ _ h, g⟩
  | dct a b c => exact ⟨_, _, rfl, .inl a, b, c⟩
theorem Top.tup {ds : List D} (s : Same Hf H) (t : Top K Hf H (.tup ds) v) : ∃ a xs, v = .ref a ∧ SqT K H a xs ∧ RepL K Hf ds xs := by
  cases t with
  | frz r =>
    simp only [Rep] at r
    obtain ⟨a, xs, rfl, h, g⟩ := r
    exact ⟨a, xs, rfl, (Ext.of s).seqT h, g⟩
theorem Top.scr {ds : List D} (s : Same Hf H) (t : Top K Hf H (.scr ds) v) : ∃ a xs, v = .ref a ∧ SqL K H a xs ∧ RepL K Hf ds xs := by
  cases t with
  | frz r =>
    simp only [Rep] at r
    obtain ⟨a, xs, rfl, h, g⟩ := r
    exact ⟨a, xs, rfl, (Ext.of s).seqL h, g⟩
end

/-- what an operation has made -/
def Made (K : PySem.W.Frag) (Hf H : Hp) (z : Z) (v : V) (H' : Hp) : Prop := match z with
  | .val d => H' = H ∧ Rep K Hf d v
  | .lst ds => ∃ p xs, H p = none ∧ v = .ref p ∧ H' = upd H p (.lst xs) ∧ RepL K Hf ds xs
  | .tup ds => (∃ p xs, H p = none ∧ v = .ref p ∧ H' = upd H p (.tup xs) ∧ RepL K Hf ds xs) ∨ (H' = H ∧ Rep K Hf (.tup ds) v)
  | .dct ks ds => ∃ p ws, H p = none ∧ v = .ref p ∧ H' = upd H p (.dK ws) ∧ ws.map (·.1) = ks ∧ RepL K Hf ds (ws.map (·.2))
theorem same_new {H : Hp} {p : Addr} {o : HO} (h : H p = none) : Same H (upd H p o) := fun b u e => by rw [upd_ne (ne_of_none e h)]; exact e
theorem step_new {K : PySem.W.Frag} {Hf H : Hp} {p : Addr} {o : HO} {fp : List Addr} (w : Wd K Hf H fp) (al : ∀ a ∈ fp, H a ≠ none) (h : H p = none) : Hf p = none ∧ p ∉ fp ∧ Wd K Hf (upd H p o) (fp ++ [p]) ∧ Step Hf H fp Hf (upd H p o) (fp ++ [p]) := by
  have hf : Hf p = none := w.same.free h
  have hp : p ∉ fp := fun z => al p z h
  refine ⟨hf, hp, ⟨w.same.trans (same_new h), ?_, fun a ha => ?_⟩, ⟨Ext.refl _, fun a o _ e => same_new h a o e, fun a ha => ?_, fun a _ e _ => e⟩⟩
  · rw [List.nodup_append]
    exact ⟨w.nd, by simp, fun a ha b hb e => by simp at hb; subst hb; exact hp (e ▸ ha)⟩
  · rcases List.mem_append.mp ha with z | z
    · exact w.nf a z
    · simp at z; subst z; exact hf
  · rcases List.mem_append.mp ha with z | z
    · exact .inl z
    · simp at z; subst z; exact .inr h
theorem Made.res {K : PySem.W.Frag} {Hf H : Hp} {σ : L2.St} {Γ : Env} {fp : List Addr} {z : Z} {v : V} {H' : Hp} (E : EnvR K Hf H σ Γ fp) (w : Wd K Hf H fp) (m : Made K Hf H z v H') :
    ∃ Hf' ft, EnvR K Hf' H' σ Γ fp ∧ Wd K Hf' H' (fp ++ ft) ∧ Step Hf H fp Hf' H' (fp ++ ft) ∧ ResR K Hf' H' σ z.toR v ft := by
  cases z with
  | val d =>
    obtain ⟨rfl, r⟩ := m
    exact ⟨Hf, [], E, by simpa using w, by simpa using Step.refl _ _ _, r, rfl⟩
  | lst ds =>
    obtain ⟨p, xs, hp, rfl, rfl, r⟩ := m
    obtain ⟨hf, hn, w', st⟩ := step_new (o := .lst xs) w E.alloc hp
    exact ⟨Hf, [p], E.stay (Ext.refl _) fun a _ o e => same_new hp a o e, w', st, .lst upd_same r⟩
  | dct ks ds =>
    obtain ⟨p, xs, hp, rfl, rfl, hk, r⟩ := m
    obtain ⟨hf, hn, w', st⟩ := step_new (o := .dK xs) w E.alloc hp
    exact ⟨Hf, [p], E.stay (Ext.refl _) fun a _ o e => same_new hp a o e, w', st, .dct upd_same hk r⟩
  | tup ds =>
    rcases m with ⟨p, xs, hp, rfl, rfl, r⟩ | ⟨rfl, r⟩
    case inr => exact ⟨Hf, [], E, by simpa using w, by simpa using Step.refl _ _ _, r, rfl⟩
    have hf : Hf p = none := w.same.free hp
    have hn : p ∉ fp := fun z => E.alloc p z hp
    have s2 : Same Hf (upd Hf p (.tup xs)) := same_new hf
    refine ⟨upd Hf p (.tup xs), [], E.stay (Ext.of s2) fun a _ o e => same_new hp a o e, ⟨fun b o e => ?_, by simpa using w.nd, fun a ha => ?_⟩, ⟨Ext.of s2, fun a o _ e => same_new hp a o e, fun a ha => .inl (by simpa using ha), fun a ha e hh => ?_⟩, ?_, rfl⟩
    · by_cases hb : b = p
      · subst hb; rw [upd_same] at e ⊢; exact e
      · rw [upd_ne hb] at e ⊢; exact w.same b o e
    · have ha : a ∈ fp := by simpa using ha
      rw [upd_ne (show a ≠ p from fun z => hn (z ▸ ha))]; exact w.nf a ha
    · rw [upd_ne (show a ≠ p from fun z => hh (z ▸ hp))]; exact e
    · simp only [Rep]
      exact ⟨p, xs, rfl, .inl (.inl upd_same), RepL.same s2 r⟩
end Fw
namespace Fw
open PySem L2

/-! ### expressions: a rule and its denotation together -/
/-- a name -/
def dName (i : Nat) : Den := fun Γ => match Γ[i]? with
  | some (some (.frz d)) => .ok (.frz d) Γ
  | some (some _) => .ok (.loc i) Γ
  | _ => .stuck
theorem se_name {K : PySem.W.Frag} {i : Nat} : SE K (tVar i) (dName i) := by
  intro σ Γ r Γ' he Hf H fp E w Q q
  unfold dName at he
  split at he
  · rename_i d hi
    cases he
    obtain ⟨v, f1, f2, hv, o, _, _⟩ := E.split hi
    cases o with
    | frz r => exact ⟨v, hv, q v Hf H fp [] E (by simpa using w) (by simpa using Step.refl _ _ _) ⟨r, rfl⟩⟩
  · rename_i t h0 hi
    cases he
    obtain ⟨v, f1, f2, hv, o, _, _⟩ := E.split hi
    exact ⟨v, hv, q v Hf H fp [] E (by simpa using w) (by simpa using Step.refl _ _ _) ⟨hv, rfl⟩⟩
  · cases he
/-- a slot given away for good -/
def dMove (i : Nat) : Den := fun Γ => match Γ[i]? with
  | some (some t) => .ok (.own t) (Γ.set i none)
  | _ => .stuck
theorem se_move {K : PySem.W.Frag} {i : Nat} : SE K (tVar i) (dMove i) := by
  intro σ Γ r Γ' he Hf H fp E w Q q
  unfold dMove at he
  split at he
  · rename_i t hi
    cases he
    obtain ⟨v, f1, f2, hv, o, E2, p⟩ := E.split hi
    have p2 : (f2 ++ f1).Perm fp := List.perm_append_comm.trans p
    exact ⟨v, hv, q v Hf H f2 f1 E2 (w.perm p2) (Step.sub fun a ha => p2.mem_iff.mp ha) o⟩
  · cases he
def dC (d : D) : Den := fun Γ => .ok (.frz d) Γ
theorem se_c {K : PySem.W.Frag} {d : D} {v : V} (h : ∀ Hf, Rep K Hf d v) : SE K (tC v) (dC d) := by
  intro σ Γ r Γ' he Hf H fp E w Q q
  cases he
  exact q v Hf H fp [] E (by simpa using w) (by simpa using Step.refl _ _ _) ⟨h _, rfl⟩
/-! ### operations of two -/
def OpS (K : PySem.W.Frag) (r : R2) (f : D → D → Option Z) : Prop := ∀ (Hf H : Hp) (x y : V) (dx dy : D) (z : Z), Same Hf H → Top K Hf H dx x → Top K Hf H dy y → f dx dy = some z → ∀ Q : VK, (∀ v H', Made K Hf H z v H' → Q v H') → r x y H Q
def dBin (f : D → D → Option Z) (a b : Den) : Den := bindO (dO a) fun ra => bindO (dO b) fun rb Γ => liftO (ra.get Γ) fun x => liftO (rb.get Γ) fun y => liftO (f x y) fun z => .ok z.toR Γ
theorem se_bin {K : PySem.W.Frag} {r : R2} {f : D → D → Option Z} {ta tb : TE} {a b : Den} (hr : OpS K r f) (ha : SE K ta a) (hb : SE K tb b) : SE K (tOp r ta tb) (dBin f a b) := by
  intro σ Γ res Γ' he Hf H fp E w Q q
  obtain ⟨ra, Γ1, h1, he⟩ := bindO_ok he
  obtain ⟨rb, Γ2, h2, he⟩ := bindO_ok he
  obtain ⟨dx, gx, he⟩ := liftO_ok he
  obtain ⟨dy, gy, he⟩ := liftO_ok he
  obtain ⟨z, hz, he⟩ := liftO_ok he
  cases he
  refine SO.of ha σ Γ ra Γ1 h1 Hf H fp E w _ fun x Hf1 H1 fp1 E1 w1 s1 r1 => ?_
  refine SO.of hb σ Γ1 rb _ h2 Hf1 H1 fp1 E1 w1 _ fun y Hf2 H2 fp2 E2 w2 s2 r2 => ?_
  refine hr Hf2 H2 x y dx dy z w2.same ((r1.ext s2.ext).top E2 gx) (r2.top E2 gy) hz Q fun v H' m => ?_
  obtain ⟨Hf3, ft, E3, w3, s3, r3⟩ := m.res E2 w2
  exact q v Hf3 H' fp2 ft E3 w3 ((s1.trans s2).trans s3) r3
theorem OpR.or {X : Cx} {f : Value → Value → Sem Value} {r r' : R2} (h : OpR X f r) (h' : OpR X f r') : OpR X f (fun x y H Q => r x y H Q ∨ r' x y H Q) := by
  intro pins s σ H x y v u Q I rx ry q
  rcases q with q | q
  · exact h pins s σ H x y v u Q I rx ry q
  · exact h' pins s σ H x y v u Q I rx ry q
theorem CallR.or {X : Cx} {f : Value} {r r' : List V → Hp → VK → Prop} (h : CallR X f r) (h' : CallR X f r') : CallR X f (fun x H Q => r x H Q ∨ r' x H Q) := by
  intro pins s σ H x u Q I rx q
  rcases q with q | q
  · exact h pins s σ H x u Q I rx q
  · exact h' pins s σ H x u Q I rx q
section
variable {K : PySem.W.Frag} {Hf H : Hp} {v : V}
theorem made_int {i : Int} {Q : VK} (q : ∀ v H', Made K Hf H (.val (.int i)) v H' → Q v H') : Q (.int i) H := q _ _ ⟨rfl, by simp only [Rep]⟩
theorem made_bl {i : Bool} {Q : VK} (q : ∀ v H', Made K Hf H (.val (.bl i)) v H' → Q v H') : Q (.bl i) H := q _ _ ⟨rfl, by simp only [Rep]⟩
theorem made_str {i : Str} {Q : VK} (q : ∀ v H', Made K Hf H (.val (.str i)) v H' → Q v H') : Q (.str i) H := q _ _ ⟨rfl, by simp only [Rep]⟩
theorem made_non {Q : VK} (q : ∀ v H', Made K Hf H (.val .non) v H' → Q v H') : Q .non H := q _ _ ⟨rfl, by simp only [Rep]⟩
theorem made_val {d : D} {v : V} {Q : VK} (q : ∀ v H', Made K Hf H (.val d) v H' → Q v H') (r : Rep K Hf d v) : Q v H := q _ _ ⟨rfl, r⟩
theorem made_lst {ds : List D} {xs : List V} {p : Addr} {Q : VK} (q : ∀ v H', Made K Hf H (.lst ds) v H' → Q v H') (r : RepL K Hf ds xs) (hp : H p = none) : Q (.ref p) (upd H p (.lst xs)) := q _ _ ⟨p, xs, hp, rfl, rfl, r⟩
theorem made_tup {ds : List D} {xs : List V} {p : Addr} {Q : VK} (q : ∀ v H', Made K Hf H (.tup ds) v H' → Q v H') (r : RepL K Hf ds xs) (hp : H p = none) : Q (.ref p) (upd H p (.tup xs)) := q _ _ (.inl ⟨p, xs, hp, rfl, rfl, r⟩)
theorem made_dct {ks : List Key} {ds : List D} {ws : List (Key × V)} {p : Addr} {Q : VK} (q : ∀ v H', Made K Hf H (.dct ks ds) v H' → Q v H') (hk : ws.map (·.1) = ks) (r : RepL K Hf ds (ws.map (·.2))) (hp : H p = none) : Q (.ref p) (upd H p (.dK ws)) :=
  q _ _ ⟨p, ws, hp, rfl, rfl, hk, r⟩
end

/-- a line for lists' lengths, below the machine's own -/
def big : Nat := 16000000
theorem big_le {n : Nat} (h : n ≤ big) : n ≤ sizeLine := Nat.le_trans h (by unfold big; rw [sizeLine_eq]; decide)
theorem big_lt {n : Nat} (h : n < big) : n < sizeLine := Nat.lt_of_lt_of_le h (by unfold big; rw [sizeLine_eq]; decide)

def zAdd : D → D → Option Z
  | .int a, .int b => some (.val (.int (a + b)))
  | .str a, .str b => if a.length + b.length ≤ big then some (.val (.str (a ++ b))) else none
  | .lst a, .lst b => if a.length + b.length ≤ big then some (.lst (a ++ b)) else none
  | .tup a, .tup b => if a.length + b.length ≤ big then some (.tup (a ++ b)) else none
  | _, _ => none
def rAddU (K : PySem.W.Frag) : R2 := fun x y H Q => (rI0 fun i j => .int (i + j)) x y H Q ∨ (∃ i j, x = .str i ∧ y = .str j ∧ i.length + j.length ≤ sizeLine ∧ Q (.str (i ++ j)) H) ∨ rCat x y H Q ∨ rCatA K x y H Q
theorem op_addU {X : Cx} : OpR X (binaryOp .Add) (rAddU X.K) := op_add.or (op_add_str.or (op_cat.or op_catA))
theorem os_add {K : PySem.W.Frag} : OpS K (rAddU K) zAdd := by
  intro Hf H x y dx dy z s hx hy hz Q q
  unfold zAdd at hz
  split at hz
  · cases hz
    cases hx.int; cases hy.int
    exact .inl ⟨_, _, rfl, rfl, made_int q⟩
  · split at hz
    · cases hz
      cases hx.str; cases hy.str
      rename_i hl
      exact .inr (.inl ⟨_, _, rfl, rfl, big_le hl, made_str q⟩)
    · cases hz
  · split at hz
    · cases hz
      rename_i hl
      obtain ⟨a, xs, rfl, ha, ra⟩ := hx.list s
      obtain ⟨b, ys, rfl, hb, rb⟩ := hy.list s
      exact .inr (.inr (.inl ⟨a, b, xs, ys, rfl, rfl, ha, hb, by rw [ra.len, rb.len]; exact big_le hl, fun p hp => made_lst q (ra.append rb) hp⟩))
    · cases hz
  · split at hz
    · cases hz
      rename_i hl
      cases hx with
      | frz rx =>
      cases hy with
      | frz ry =>
      have rx0 := rx
      have ry0 := ry
      obtain ⟨a, xs, rfl, ha, ra⟩ := (Top.frz (K := K) (Hf := Hf) (H := H) rx).tup s
      obtain ⟨b, ys, rfl, hb, rb⟩ := (Top.frz (K := K) (Hf := Hf) (H := H) ry).tup s
      refine .inr (.inr (.inr ⟨a, b, xs, ys, rfl, rfl, ha, hb, by rw [ra.len, rb.len]; exact big_le hl, fun e => ?_, fun _ e => ?_, fun _ _ p hp => made_tup q (ra.append rb) hp⟩))
      · subst e
        have e2 := List.eq_nil_of_length_eq_zero ra.len.symm
        subst e2
        exact q _ _ (.inr ⟨rfl, ry0⟩)
      · subst e
        have e2 := List.eq_nil_of_length_eq_zero rb.len.symm
        subst e2
        exact q _ _ (.inr ⟨rfl, by simpa using rx0⟩)
    · cases hz
  · cases hz
end Fw
namespace Fw
open PySem L2

/-! ### ints -/
def mulOk (a b : Int) : Bool := decide (a.natAbs < 2 ^ 64) || decide (b.natAbs < 2 ^ 64) || (decide (a.natAbs < 2 ^ 4000) && decide (b.natAbs < 2 ^ 4000))
def rMulI : R2 := fun x y H Q => (rI CMul fun i j => .int (i * j)) x y H Q ∨ (rI CMulX fun i j => .int (i * j)) x y H Q
theorem os_mulI {K : PySem.W.Frag} {Hf H : Hp} {i j : Int} {Q : VK} (h : mulOk i j = true) (q : ∀ v H', Made K Hf H (.val (.int (i * j))) v H' → Q v H') : rMulI (.int i) (.int j) H Q := by
  unfold mulOk at h
  simp only [Bool.or_eq_true, Bool.and_eq_true, decide_eq_true_eq] at h
  rcases h with (h | h) | ⟨h1, h2⟩
  · exact .inl ⟨i, j, rfl, rfl, .inl ⟨by omega, by omega⟩, made_int q⟩
  · exact .inl ⟨i, j, rfl, rfl, .inr ⟨by omega, by omega⟩, made_int q⟩
  · exact .inr ⟨i, j, rfl, rfl, mulx_ok h1 h2 (by omega), made_int q⟩
def zSub : D → D → Option Z
  | .int a, .int b => some (.val (.int (a - b)))
  | _, _ => none
def zMod : D → D → Option Z
  | .int a, .int b => if 0 < b then some (.val (.int (a % b))) else none
  | _, _ => none
def zDiv : D → D → Option Z
  | .int a, .int b => if 0 < b ∧ b.natAbs < 2 ^ 8000 then some (.val (.int (a / b))) else none
  | _, _ => none
def zPow : D → D → Option Z
  | .int a, .int b => if 0 ≤ b ∧ b ≤ 1000 ∧ a.natAbs < 2 ^ 64 then some (.val (.int (a ^ b.toNat))) else none
  | _, _ => none
def shlOk (a b : Int) : Bool := decide (0 ≤ b) && decide (a.natAbs.log2 + b.toNat < 134000000)
def zShl : D → D → Option Z
  | .int a, .int b => if shlOk a b then some (.val (.int (a * 2 ^ b.toNat))) else none
  | _, _ => none
def zShr : D → D → Option Z
  | .int a, .int b => if 0 ≤ b then some (.val (.int (a / 2 ^ b.toNat))) else none
  | _, _ => none
def zAnd : D → D → Option Z
  | .int a, .int b => some (.val (.int (Builtin.bitAnd a b)))
  | _, _ => none
def zOr : D → D → Option Z
  | .int a, .int b => some (.val (.int (Builtin.bitOr a b)))
  | _, _ => none
section
variable {K : PySem.W.Frag}
theorem os_sub : OpS K (rI0 fun i j => .int (i - j)) zSub := by
  intro Hf H x y dx dy z s hx hy hz Q q
  unfold zSub at hz
  split at hz
  · cases hz; cases hx.int; cases hy.int; exact ⟨_, _, rfl, rfl, made_int q⟩
  · cases hz
theorem os_mod : OpS K (rI (fun _ j => 0 < j) fun i j => .int (i % j)) zMod := by
  intro Hf H x y dx dy z s hx hy hz Q q
  unfold zMod at hz
  split at hz
  · split at hz
    · rename_i h; cases hz; cases hx.int; cases hy.int; exact ⟨_, _, rfl, rfl, h, made_int q⟩
    · cases hz
  · cases hz
theorem os_div : OpS K (rI CDivW fun i j => .int (i / j)) zDiv := by
  intro Hf H x y dx dy z s hx hy hz Q q
  unfold zDiv at hz
  split at hz
  · split at hz
    · rename_i h; cases hz; cases hx.int; cases hy.int; exact ⟨_, _, rfl, rfl, wide_div h.1 h.2 (by decide) (by decide), made_int q⟩
    · cases hz
  · cases hz
theorem os_pow : OpS K (rI CPow fun i j => .int (i ^ j.toNat)) zPow := by
  intro Hf H x y dx dy z s hx hy hz Q q
  unfold zPow at hz
  split at hz
  · split at hz
    · rename_i h; cases hz; cases hx.int; cases hy.int; exact ⟨_, _, rfl, rfl, ⟨h.1, by have := h.2.1; omega, h.2.2⟩, made_int q⟩
    · cases hz
  · cases hz
theorem os_shl : OpS K (rI CShl fun i j => .int (i * 2 ^ j.toNat)) zShl := by
  intro Hf H x y dx dy z s hx hy hz Q q
  unfold zShl at hz
  split at hz
  · rename_i a b
    split at hz
    · rename_i h; cases hz; cases hx.int; cases hy.int
      unfold shlOk at h
      simp only [Bool.and_eq_true, decide_eq_true_eq] at h
      refine ⟨_, _, rfl, rfl, ⟨h.1, ?_⟩, made_int q⟩
      have hbits : ∀ x : Int, Builtin.Int.intBits x ≤ x.natAbs.log2 + 1 := fun x => by
        unfold Builtin.Int.intBits
        split <;> omega
      have := hbits a
      have e : (2 : Int) ^ 27 = 134217728 := by decide
      rw [e]
      omega
    · cases hz
  · cases hz
theorem os_shr : OpS K (rI (fun _ j => 0 ≤ j) fun i j => .int (i / 2 ^ j.toNat)) zShr := by
  intro Hf H x y dx dy z s hx hy hz Q q
  unfold zShr at hz
  split at hz
  · split at hz
    · rename_i h; cases hz; cases hx.int; cases hy.int; exact ⟨_, _, rfl, rfl, h, made_int q⟩
    · cases hz
  · cases hz
theorem os_and : OpS K (rI0 fun i j => .int (Builtin.bitAnd i j)) zAnd := by
  intro Hf H x y dx dy z s hx hy hz Q q
  unfold zAnd at hz
  split at hz
  · cases hz; cases hx.int; cases hy.int; exact ⟨_, _, rfl, rfl, made_int q⟩
  · cases hz
theorem os_or : OpS K (rI0 fun i j => .int (Builtin.bitOr i j)) zOr := by
  intro Hf H x y dx dy z s hx hy hz Q q
  unfold zOr at hz
  split at hz
  · cases hz; cases hx.int; cases hy.int; exact ⟨_, _, rfl, rfl, made_int q⟩
  · cases hz
end
/-! ### * of an int; of a list and an int -/
def zMul : D → D → Option Z
  | .int a, .int b => if mulOk a b then some (.val (.int (a * b))) else none
  | .lst a, .int b => if b ≤ 1000000 ∧ -1000000 ≤ b ∧ a.length * b.toNat ≤ big then some (.lst (List.replicate b.toNat a).flatten) else none
  | .tup a, .int b => if a ≠ [] ∧ 2 ≤ b ∧ b ≤ 1000 ∧ a.length ≤ 1000 then some (.tup (List.replicate b.toNat a).flatten) else none
  | _, _ => none
def rMulU (K : PySem.W.Frag) : R2 := fun x y H Q => rMulI x y H Q ∨ rRep x y H Q ∨ rRepT K x y H Q
theorem op_mulU {X : Cx} : OpR X (binaryOp .Mult) (rMulU X.K) := (op_mul.or op_mulX).or (op_rep.or op_repT)
theorem RepL.rep {K : PySem.W.Frag} {H : Hp} {ds : List D} {xs : List V} (h : RepL K H ds xs) : ∀ n, RepL K H (List.replicate n ds).flatten (List.replicate n xs).flatten
  | 0 => by simp [RepL]
  | n + 1 => by
    simp only [List.replicate_succ, List.flatten_cons]
    exact h.append (RepL.rep h n)
theorem os_mul {K : PySem.W.Frag} : OpS K (rMulU K) zMul := by
  intro Hf H x y dx dy z s hx hy hz Q q
  unfold zMul at hz
  split at hz
  · split at hz
    · rename_i h; cases hz; cases hx.int; cases hy.int; exact .inl (os_mulI h q)
    · cases hz
  · split at hz
    · rename_i h; cases hz; cases hy.int
      obtain ⟨a, xs, rfl, ha, ra⟩ := hx.list s
      exact .inr (.inl ⟨a, _, xs, rfl, rfl, ha, by omega, by omega, by rw [ra.len]; exact big_le h.2.2, fun p hp => made_lst q (ra.rep _) hp⟩)
    · cases hz
  · split at hz
    · rename_i h; cases hz; cases hy.int
      obtain ⟨a, xs, rfl, ha, ra⟩ := hx.tup s
      refine .inr (.inr ⟨a, _, xs, rfl, rfl, ha, fun e => ?_, h.2.1, h.2.2.1, by rw [ra.len]; exact h.2.2.2, fun p hp => made_tup q (ra.rep _) hp⟩)
      subst e
      exact h.1 (List.eq_nil_of_length_eq_zero ra.len.symm)
    · cases hz
  · cases hz

/-! ### == and in -/
mutual
def toPy : D → PyData
  | .non => .none
  | .bl b => .bool b
  | .int i => .int i
  | .str s => .str s
  | .ty _ => .dict []
  | .tup ds => .tuple (toPyL ds)
  | .lst ds => .list (toPyL ds)
  | .scr ds => .list (toPyL ds)
  | .dct _ _ => .dict []
def toPyL : List D → List PyData
  | [] => []
  | d :: ds => toPy d :: toPyL ds
end
theorem toPyL_map : ∀ ds : List D, toPyL ds = ds.map toPy
  | [] => rfl
  | d :: ds => by simp only [toPyL, List.map_cons, toPyL_map ds]
mutual
theorem Rep.dp {K : PySem.W.Frag} {H : Hp} : ∀ (d : D) (v : V), Rep K H d v → (toPy d).canLay0 = true → Dp K H v (toPy d)
  | .non, v, h, _ => by simp only [Rep] at h; subst h; exact .non
  | .bl b, v, h, _ => by simp only [Rep] at h; subst h; exact .bl b
  | .int i, v, h, _ => by simp only [Rep] at h; subst h; exact .int i
  | .str s, v, h, _ => by simp only [Rep] at h; subst h; exact .str s
  | .ty n, v, h, c => by simp [toPy, PyData.canLay0] at c
  | .dct _ _, v, h, c => by simp [toPy, PyData.canLay0] at c
  | .tup ds, v, h, c => by
    simp only [Rep] at h
    obtain ⟨a, xs, rfl, h1, h2⟩ := h
    simp only [toPy] at c ⊢
    exact .tup h1 (RepL.dp ds xs h2 (by simpa [PyData.canLay0] using c))
  | .lst ds, v, h, c => by
    simp only [Rep] at h
    obtain ⟨a, xs, rfl, h1, h2⟩ := h
    simp only [toPy] at c ⊢
    exact .lst (.inl (.inl h1)) (RepL.dp ds xs h2 (by simpa [PyData.canLay0] using c))
  | .scr ds, v, h, c => by
    simp only [Rep] at h
    obtain ⟨a, xs, rfl, h1, h2⟩ := h
    simp only [toPy] at c ⊢
    exact .lst h1 (RepL.dp ds xs h2 (by simpa [PyData.canLay0] using c))
theorem RepL.dp {K : PySem.W.Frag} {H : Hp} : ∀ (ds : List D) (xs : List V), RepL K H ds xs → PyData.canLayAll0 (toPyL ds) = true → DpAll K H xs (toPyL ds)
  | [], xs, h, _ => by simp only [RepL] at h; subst h; exact .nil
  | d :: ds, xs, h, c => by
    simp only [RepL] at h
    obtain ⟨v, vs, rfl, h1, h2⟩ := h
    simp only [toPyL, PyData.canLayAll0, Bool.and_eq_true] at c
    exact .cons (Rep.dp d v h1 c.1) (RepL.dp ds vs h2 c.2)
end
/-- data that == is asked of -/
def shp (d : D) : Bool := SeqAt.shaped (toPy d)
def deq (a b : D) : Bool := PyData.eqv (toPy a) (toPy b)
def zEq (a b : D) : Option Z := if shp a && shp b then some (.val (.bl (deq a b))) else none
def zNe (a b : D) : Option Z := if shp a && shp b then some (.val (.bl (!deq a b))) else none
theorem Top.dp {K : PySem.W.Frag} {Hf H : Hp} {d : D} {v : V} (s : Same Hf H) (t : Top K Hf H d v) (h : shp d = true) : Dp K H v (toPy d) := Rep.dp d v (t.rep s) (SeqAt.canLay_of_shaped h)
section
variable {K : PySem.W.Frag}
theorem os_eq : OpS K (rEqD K) zEq := by
  intro Hf H x y dx dy z s hx hy hz Q q
  unfold zEq at hz
  split at hz
  · rename_i h; cases hz
    rw [Bool.and_eq_true] at h
    exact ⟨_, _, hx.dp s h.1, hy.dp s h.2, h.1, h.2, made_bl q⟩
  · cases hz
theorem os_ne : OpS K (rNeD K) zNe := by
  intro Hf H x y dx dy z s hx hy hz Q q
  unfold zNe at hz
  split at hz
  · rename_i h; cases hz
    rw [Bool.and_eq_true] at h
    exact ⟨_, _, hx.dp s h.1, hy.dp s h.2, h.1, h.2, made_bl q⟩
  · cases hz
/-- a test on two ints -/
def zCmp (p : Int → Int → Bool) : D → D → Option Z
  | .int a, .int b => some (.val (.bl (p a b)))
  | _, _ => none
theorem os_cmp {p : Int → Int → Bool} : OpS K (rI0 fun i j => .bl (p i j)) (zCmp p) := by
  intro Hf H x y dx dy z s hx hy hz Q q
  unfold zCmp at hz
  split at hz
  · cases hz; cases hx.int; cases hy.int; exact ⟨_, _, rfl, rfl, made_bl q⟩
  · cases hz
end
def zLt := zCmp fun i j => decide (i < j)
def zLe := zCmp fun i j => decide (i ≤ j)
def zGt := zCmp fun i j => decide (j < i)
def zGe := zCmp fun i j => decide (j ≤ i)

/-- a key -/
def keyD : D → Option Key
  | .int i => some (.inl i)
  | .str s => some (.inr s)
  | _ => none
theorem Top.key {K : PySem.W.Frag} {Hf H : Hp} {d : D} {v : V} {k : Key} (t : Top K Hf H d v) (h : keyD d = some k) : v = kV k := by
  unfold keyD at h
  split at h
  · cases h; exact t.int
  · cases h; exact t.str
  · cases h
def findK (ks : List Key) (vs : List D) (k : Key) : Option D := ((ks.zip vs).find? fun p => decide (p.1 = k)).map (·.2)
theorem RepL.find {K : PySem.W.Frag} {H : Hp} {k : Key} : ∀ {ds : List D} {ws : List (Key × V)}, RepL K H ds (ws.map (·.2)) →
    (∀ d, findK (ws.map (·.1)) ds k = some d → ∃ v, valV ws k = some v ∧ Rep K H d v) ∧ (findK (ws.map (·.1)) ds k = none → valV ws k = none)
  | [], ws, h => by
    simp only [RepL] at h
    cases ws with
    | nil => exact ⟨fun d e => by simp [findK] at e, fun _ => rfl⟩
    | cons => simp at h
  | d :: ds, [], h => by simp [RepL] at h
  | d :: ds, (k0, v0) :: ws, h => by
    simp only [RepL, List.map_cons, List.cons.injEq] at h
    obtain ⟨v, vs, ⟨rfl, rfl⟩, h1, h2⟩ := h
    have ih := RepL.find (k := k) h2
    unfold findK valV at *
    simp only [List.map_cons, List.zip_cons_cons, List.find?_cons]
    by_cases hk : k0 = k
    · subst hk
      simp only [decide_true, Option.map_some]
      exact ⟨fun d' e => by cases e; exact ⟨_, rfl, h1⟩, fun e => by cases e⟩
    · simp only [decide_eq_false hk]
      exact ih
def zIn : D → D → Option Z
  | d, .lst ds => if shp d && shp (.lst ds) then some (.val (.bl (ds.any fun z => deq z d))) else none
  | d, .dct ks vs => match keyD d with
    | some k => some (.val (.bl (findK ks vs k).isSome))
    | none => none
  | .str a, .str b => some (.val (.bl (!(Builtin.Str.occurrences b a 0 b.length 1).isEmpty)))
  | .str a, .tup ds => if ds.all (fun d => match d with | .str _ => true | _ => false) then some (.val (.bl (ds.any fun z => deq z (.str a)))) else none
  | .int a, .tup ds => if ds.all (fun d => match d with | .int _ => true | _ => false) then some (.val (.bl (ds.any fun z => deq z (.int a)))) else none
  | _, _ => none
def negZ : Z → Z
  | .val (.bl b) => .val (.bl (!b))
  | z => z
def zNotIn (a b : D) : Option Z := (zIn a b).map negZ
def rInU (K : PySem.W.Frag) : R2 := fun x y H Q => rInD K x y H Q ∨ (∃ a o, y = .ref a ∧ DGet H a x o ∧ Q (.bl o.isSome) H) ∨ (∃ i j, x = .str i ∧ y = .str j ∧ Q (.bl (!(Builtin.Str.occurrences j i 0 j.length 1).isEmpty)) H) ∨ rIn K false x y H Q
def rNotInU (K : PySem.W.Frag) : R2 := fun x y H Q => rNotInD K x y H Q ∨ (∃ a o, y = .ref a ∧ DGet H a x o ∧ Q (.bl (!o.isSome)) H) ∨ (∃ i j, x = .str i ∧ y = .str j ∧ Q (.bl (!(!(Builtin.Str.occurrences j i 0 j.length 1).isEmpty))) H) ∨ rIn K true x y H Q
section
variable {X : Cx}
theorem op_inDct (hu : X.A.units + 1 < cLine) : OpR X (compareOp .In) (fun x y H Q => ∃ a o, y = .ref a ∧ DGet H a x o ∧ Q (.bl o.isSome) H) := by
  intro pins s σ H x y v u Q I rx ry h
  obtain ⟨a, o, rfl, g, q⟩ := h
  cases ry
  exact d_in hu I g rx fun s3 I3 => ⟨.bl o.isSome, H, I3, rfl, q⟩
theorem op_notInDct (hu : X.A.units + 1 < cLine) : OpR X (compareOp .NotIn) (fun x y H Q => ∃ a o, y = .ref a ∧ DGet H a x o ∧ Q (.bl (!o.isSome)) H) := by
  intro pins s σ H x y v u Q I rx ry h
  obtain ⟨a, o, rfl, g, q⟩ := h
  cases ry
  exact d_notIn hu I g rx fun s3 I3 => ⟨.bl (!o.isSome), H, I3, rfl, q⟩
theorem op_inU {k : Nat} (hr : Room k X.A) : OpR X (compareOp .In) (rInU X.K) := by
  have := hr.un
  exact (op_inD (by omega)).or ((op_inDct (by omega)).or (op_in_str.or op_in_seq))
theorem op_notInU {k : Nat} (hr : Room k X.A) : OpR X (compareOp .NotIn) (rNotInU X.K) := by
  have := hr.un
  exact (op_notInD (by omega)).or ((op_notInDct (by omega)).or (op_notin_str.or op_notIn_seq))
end
theorem any_toPy (ds : List D) (d : D) : ((toPyL ds).any fun z => PyData.eqv z (toPy d)) = ds.any fun z => deq z d := by
  rw [toPyL_map, List.any_map]; rfl
theorem flat_any {K : PySem.W.Frag} {H : Hp} {d : D} {v : V} (hd : (∃ s, d = .str s) ∨ ∃ i, d = .int i) (hv : Rep K H d v) : ∀ {ds : List D} {xs : List V}, RepL K H ds xs →
    (ds.all (fun d => match d with | .str _ => true | _ => false) = true ∨ ds.all (fun d => match d with | .int _ => true | _ => false) = true) → flatV v = true ∧ xs.all flatV = true ∧ inV v xs = ds.any fun z => deq z d
  | [], xs, h, _ => by
    simp only [RepL] at h; subst h
    rcases hd with ⟨s, rfl⟩ | ⟨i, rfl⟩ <;> (simp only [Rep] at hv; subst hv; exact ⟨rfl, rfl, rfl⟩)
  | e :: ds, xs, h, c => by
    simp only [RepL] at h
    obtain ⟨w, ws, rfl, h1, h2⟩ := h
    have c2 : (ds.all (fun d => match d with | .str _ => true | _ => false) = true ∨ ds.all (fun d => match d with | .int _ => true | _ => false) = true) := by
      simp only [List.all_cons, Bool.and_eq_true] at c
      exact c.imp And.right And.right
    obtain ⟨i1, i2, i3⟩ := flat_any hd hv h2 c2
    have ce : (∃ s, e = .str s) ∨ ∃ i, e = .int i := by
      simp only [List.all_cons, Bool.and_eq_true] at c
      rcases c with ⟨c, _⟩ | ⟨c, _⟩ <;> split at c <;> first | exact .inl ⟨_, rfl⟩ | exact .inr ⟨_, rfl⟩ | cases c
    refine ⟨i1, ?_, ?_⟩
    · rw [List.all_cons, i2, Bool.and_true]
      rcases ce with ⟨s, rfl⟩ | ⟨i, rfl⟩ <;> (simp only [Rep] at h1; subst h1; rfl)
    · unfold inV at i3 ⊢
      rw [List.any_cons, List.any_cons, i3]
      congr 1
      rcases ce with ⟨s, rfl⟩ | ⟨i, rfl⟩ <;> rcases hd with ⟨s', rfl⟩ | ⟨i', rfl⟩ <;> (simp only [Rep] at h1 hv; subst h1 hv; simp [eqV, deq, toPy, PyData.eqv])
theorem os_inU {K : PySem.W.Frag} : OpS K (rInU K) zIn ∧ OpS K (rNotInU K) zNotIn := by
  constructor
  all_goals
    intro Hf H x y dx dy z s hx hy hz Q q
    first
      | (unfold zNotIn at hz; rw [Option.map_eq_some_iff] at hz; obtain ⟨z0, hz, rfl⟩ := hz)
      | skip
    unfold zIn at hz
    split at hz
    · split at hz
      · rename_i h; cases hz
        rw [Bool.and_eq_true] at h
        have h2 := hy.dp s h.2
        refine .inl ⟨_, _, hx.dp s h.1, h2, h.1, h.2, ?_⟩
        rw [any_toPy]
        exact made_bl q
      · cases hz
    · rename_i vs0
      cases hk : keyD dx with
      | none => rw [hk] at hz; cases hz
      | some k =>
        rw [hk] at hz
        cases hz
        obtain ⟨a, ws, rfl, ha, rfl, rv⟩ := hy.dict s
        have f := rv.find (k := k)
        have e : (valV ws k).isSome = (findK (ws.map (·.1)) vs0 k).isSome := by
          cases g : findK (ws.map (·.1)) vs0 k with
          | none => rw [f.2 g]; rfl
          | some d => obtain ⟨v, e1, _⟩ := f.1 d g; rw [e1]; rfl
        refine .inr (.inl ⟨a, _, rfl, .inl ⟨ws, k, ha, hx.key hk, rfl⟩, ?_⟩)
        rw [e]
        exact made_bl q
    · cases hz
      cases hx.str; cases hy.str
      exact .inr (.inr (.inl ⟨_, _, rfl, rfl, made_bl q⟩))
    · split at hz
      · rename_i h; cases hz
        obtain ⟨a, xs, rfl, ha, ra⟩ := hy.tup s
        have hx' := hx.rep s
        obtain ⟨f1, f2, f3⟩ := flat_any (.inl ⟨_, rfl⟩) hx' (ra.same s) (.inl h)
        refine .inr (.inr (.inr ⟨a, xs, rfl, .inr ha, f1, f2, ?_⟩))
        rw [f3]
        exact made_bl q
      · cases hz
    · split at hz
      · rename_i h; cases hz
        obtain ⟨a, xs, rfl, ha, ra⟩ := hy.tup s
        have hx' := hx.rep s
        obtain ⟨f1, f2, f3⟩ := flat_any (.inr ⟨_, rfl⟩) hx' (ra.same s) (.inr h)
        refine .inr (.inr (.inr ⟨a, xs, rfl, .inr ha, f1, f2, ?_⟩))
        rw [f3]
        exact made_bl q
      · cases hz
    · cases hz

/-! ### x[i], x[a:b] -/
def zIx : D → D → Option Z
  | .lst ds, .int i => (atI ds i).map .val
  | .scr ds, .int i => (atI ds i).map .val
  | .tup ds, .int i => (atI ds i).map .val
  | .str s, .int i => if s.length ≤ big then (atI s.cps.toList i).map fun c => .val (.str ⟨#[c]⟩) else none
  | .dct ks vs, d => match keyD d with
    | some k => (findK ks vs k).map .val
    | none => none
  | _, _ => none
def rIxDct : R2 := fun x y H Q => ∃ a v, x = .ref a ∧ DGet H a y (some v) ∧ Q v H
def rIxU (K : PySem.W.Frag) : R2 := fun x y H Q => rIx K x y H Q ∨ rIxDct x y H Q
theorem ix_dct {X : Cx} (hu : X.A.units + 1 < cLine) : IxR X rIxDct := by
  intro value slice pins s σ H x y v u Q I rx ry h hs
  obtain ⟨a, w, rfl, g, q⟩ := h
  cases rx
  exact PyProof.Rows.tail_any (dict_typeIs I g) PySem.F.slot_dict_getitem.lookup (d_getItem hu I g ry fun w' s3 I3 rw' => ⟨w, H, I3, rw', q⟩) hs
theorem ix_U {X : Cx} {k : Nat} (hr : Room k X.A) : IxR X (rIxU X.K) := by
  have := hr.un
  exact ix_seq.or (ix_dct (by omega))
theorem RepL.atI {K : PySem.W.Frag} {H : Hp} {ds : List D} {xs : List V} {i : Int} {d : D} (h : RepL K H ds xs) (e : L2.atI ds i = some d) : ∃ v, L2.atI xs i = some v ∧ Rep K H d v := by
  unfold L2.atI at e ⊢
  rw [h.len]
  cases hj : ixN ds.length i with
  | none => rw [hj] at e; cases e
  | some j => rw [hj] at e; exact h.get e
theorem os_ix {K : PySem.W.Frag} : OpS K (rIxU K) zIx := by
  intro Hf H x y dx dy z s hx hy hz Q q
  unfold zIx at hz
  split at hz
  · rw [Option.map_eq_some_iff] at hz
    obtain ⟨d, hd, rfl⟩ := hz
    cases hy.int
    obtain ⟨a, xs, rfl, ha, ra⟩ := hx.list s
    obtain ⟨v, hv, rv⟩ := ra.atI hd
    exact .inl (.inl ⟨a, xs, _, v, rfl, rfl, .inl (.inl ha), hv, made_val q rv⟩)
  · rw [Option.map_eq_some_iff] at hz
    obtain ⟨d, hd, rfl⟩ := hz
    cases hy.int
    obtain ⟨a, xs, rfl, ha, ra⟩ := hx.scr s
    obtain ⟨v, hv, rv⟩ := ra.atI hd
    exact .inl (.inl ⟨a, xs, _, v, rfl, rfl, ha, hv, made_val q rv⟩)
  · rw [Option.map_eq_some_iff] at hz
    obtain ⟨d, hd, rfl⟩ := hz
    cases hy.int
    obtain ⟨a, xs, rfl, ha, ra⟩ := hx.tup s
    obtain ⟨v, hv, rv⟩ := ra.atI hd
    exact .inl (.inr (.inl ⟨a, xs, _, v, rfl, rfl, ha, hv, made_val q rv⟩))
  · split at hz
    · rename_i hl
      rw [Option.map_eq_some_iff] at hz
      obtain ⟨c, hc, rfl⟩ := hz
      cases hx.str; cases hy.int
      exact .inl (.inr (.inr ⟨_, _, c, rfl, rfl, big_le hl, hc, made_str q⟩))
    · cases hz
  · rename_i ks vs _
    cases hk : keyD dy with
    | none => rw [hk] at hz; cases hz
    | some k =>
      rw [hk] at hz
      rw [Option.map_eq_some_iff] at hz
      obtain ⟨d, hd, rfl⟩ := hz
      obtain ⟨a, ws, rfl, ha, rfl, rv⟩ := hx.dict s
      obtain ⟨v, e1, e2⟩ := (rv.find (k := k)).1 d hd
      exact .inr ⟨a, v, rfl, .inl ⟨ws, k, ha, hy.key hk, e1.symm⟩, made_val q e2⟩
  · cases hz
def cutD {α : Type} (xs : List α) (lo hi : Option Int) : List α := (xs.drop (HT.sIx xs.length 0 lo)).take (HT.sIx xs.length xs.length hi - HT.sIx xs.length 0 lo)
theorem RepL.cut {K : PySem.W.Frag} {H : Hp} {ds : List D} {xs : List V} (h : RepL K H ds xs) (lo hi : Option Int) : RepL K H (cutD ds lo hi) (cutV xs lo hi) := by
  unfold cutD cutV
  rw [h.len]
  exact (h.drop _).take _
end Fw
namespace Fw
open PySem L2

/-! ### truths -/
def dT (e : Den) : DenT := bindO e fun r Γ => match r with
  | .frz (.bl b) => .ok b Γ
  | _ => .stuck
theorem dT_ok {e : Den} {Γ Γ' : Env} {b : Bool} (h : dT e Γ = .ok b Γ') : e Γ = .ok (.frz (.bl b)) Γ' := by
  obtain ⟨r, Γ1, h1, h2⟩ := bindO_ok h
  split at h2
  · cases h2; exact h1
  · cases h2
theorem st_val {K : PySem.W.Frag} {t : TE} {e : Den} (h : SE K t e) : ST K (tB t) (dT e) := by
  intro σ Γ b Γ' he Hf H fp E w Q q
  refine h σ Γ _ Γ' (dT_ok he) Hf H fp E w _ fun v Hf1 H1 fp1 ft E1 w1 s1 res => ?_
  obtain ⟨r, rfl⟩ := res
  simp only [Rep] at r
  simp at w1 s1
  exact ⟨b, r, q Hf1 H1 fp1 E1 w1 s1⟩
def dAndT (a b : DenT) : DenT := bindO a fun c Γ => if c = true then b Γ else .ok false Γ
def dOrT (a b : DenT) : DenT := bindO a fun c Γ => if c = true then .ok true Γ else b Γ
def dNotT (a : DenT) : DenT := bindO a fun c Γ => .ok (!c) Γ
section
variable {K : PySem.W.Frag} {t u : TT} {a b : DenT}
theorem st_and (ha : ST K t a) (hb : ST K u b) : ST K (tAnd t u) (dAndT a b) := by
  intro σ Γ c Γ' he Hf H fp E w Q q
  obtain ⟨c1, Γ1, h1, h2⟩ := bindO_ok he
  refine ha σ Γ c1 Γ1 h1 Hf H fp E w _ fun Hf1 H1 fp1 E1 w1 s1 => ?_
  cases c1 with
  | true => exact hb σ Γ1 c Γ' h2 Hf1 H1 fp1 E1 w1 Q fun Hf2 H2 fp2 E2 w2 s2 => q Hf2 H2 fp2 E2 w2 (s1.trans s2)
  | false => cases h2; exact q Hf1 H1 fp1 E1 w1 s1
theorem st_or (ha : ST K t a) (hb : ST K u b) : ST K (tOr t u) (dOrT a b) := by
  intro σ Γ c Γ' he Hf H fp E w Q q
  obtain ⟨c1, Γ1, h1, h2⟩ := bindO_ok he
  refine ha σ Γ c1 Γ1 h1 Hf H fp E w _ fun Hf1 H1 fp1 E1 w1 s1 => ?_
  cases c1 with
  | false => exact hb σ Γ1 c Γ' h2 Hf1 H1 fp1 E1 w1 Q fun Hf2 H2 fp2 E2 w2 s2 => q Hf2 H2 fp2 E2 w2 (s1.trans s2)
  | true => cases h2; exact q Hf1 H1 fp1 E1 w1 s1
theorem st_not (ha : ST K t a) : ST K (tNot t) (dNotT a) := by
  intro σ Γ c Γ' he Hf H fp E w Q q
  obtain ⟨c1, Γ1, h1, h2⟩ := bindO_ok he
  cases h2
  exact ha σ Γ c1 _ h1 Hf H fp E w _ fun Hf1 H1 fp1 E1 w1 s1 => q Hf1 H1 fp1 E1 w1 s1
end
/-- and, or, not as values -/
def dAnd (a b : Den) : Den := bindO (dT a) fun c Γ => if c = true then b Γ else .ok (.frz (.bl false)) Γ
def dOr (a b : Den) : Den := bindO (dT a) fun c Γ => if c = true then .ok (.frz (.bl true)) Γ else b Γ
def dNot (a : Den) : Den := bindO (dT a) fun c Γ => .ok (.frz (.bl (!c))) Γ
def dIf (c : DenT) (a b : Den) : Den := bindO c fun c Γ => if c = true then a Γ else b Γ
section
variable {K : PySem.W.Frag} {ta tb : TE} {a b : Den} {t : TT} {c : DenT}
theorem se_and (ha : SE K ta a) (hb : SE K tb b) : SE K (tAndV ta tb) (dAnd a b) := by
  intro σ Γ r Γ' he Hf H fp E w Q q
  obtain ⟨c1, Γ1, h1, h2⟩ := bindO_ok he
  refine st_val ha σ Γ c1 Γ1 h1 Hf H fp E w (fun c H1 => if c = true then tb σ H1 Q else Q (.bl false) H1) fun Hf1 H1 fp1 E1 w1 s1 => ?_
  cases c1 with
  | true => exact hb σ Γ1 r Γ' h2 Hf1 H1 fp1 E1 w1 Q fun v Hf2 H2 fp2 ft E2 w2 s2 r2 => q v Hf2 H2 fp2 ft E2 w2 (s1.trans s2) r2
  | false => cases h2; exact q _ Hf1 H1 fp1 [] E1 (by simpa using w1) (by simpa using s1) ⟨by simp only [Rep], rfl⟩
theorem se_or (ha : SE K ta a) (hb : SE K tb b) : SE K (tOrV ta tb) (dOr a b) := by
  intro σ Γ r Γ' he Hf H fp E w Q q
  obtain ⟨c1, Γ1, h1, h2⟩ := bindO_ok he
  refine st_val ha σ Γ c1 Γ1 h1 Hf H fp E w (fun c H1 => if c = true then Q (.bl true) H1 else tb σ H1 Q) fun Hf1 H1 fp1 E1 w1 s1 => ?_
  cases c1 with
  | false => exact hb σ Γ1 r Γ' h2 Hf1 H1 fp1 E1 w1 Q fun v Hf2 H2 fp2 ft E2 w2 s2 r2 => q v Hf2 H2 fp2 ft E2 w2 (s1.trans s2) r2
  | true => cases h2; exact q _ Hf1 H1 fp1 [] E1 (by simpa using w1) (by simpa using s1) ⟨by simp only [Rep], rfl⟩
theorem se_not (ha : SE K ta a) : SE K (tNotV ta) (dNot a) := by
  intro σ Γ r Γ' he Hf H fp E w Q q
  obtain ⟨c1, Γ1, h1, h2⟩ := bindO_ok he
  cases h2
  exact st_val ha σ Γ c1 _ h1 Hf H fp E w (fun c H1 => Q (.bl (!c)) H1) fun Hf1 H1 fp1 E1 w1 s1 => q _ Hf1 H1 fp1 [] E1 (by simpa using w1) (by simpa using s1) ⟨by simp only [Rep], rfl⟩
theorem se_if (hc : ST K t c) (ha : SE K ta a) (hb : SE K tb b) : SE K (tIf t ta tb) (dIf c a b) := by
  intro σ Γ r Γ' he Hf H fp E w Q q
  obtain ⟨c1, Γ1, h1, h2⟩ := bindO_ok he
  refine hc σ Γ c1 Γ1 h1 Hf H fp E w _ fun Hf1 H1 fp1 E1 w1 s1 => ?_
  cases c1 with
  | true => exact ha σ Γ1 r Γ' h2 Hf1 H1 fp1 E1 w1 Q fun v Hf2 H2 fp2 ft E2 w2 s2 r2 => q v Hf2 H2 fp2 ft E2 w2 (s1.trans s2) r2
  | false => exact hb σ Γ1 r Γ' h2 Hf1 H1 fp1 E1 w1 Q fun v Hf2 H2 fp2 ft E2 w2 s2 r2 => q v Hf2 H2 fp2 ft E2 w2 (s1.trans s2) r2
end
/-- a < b < c -/
def dChain (f g : D → D → Option Z) (a b c : Den) : Den := bindO (dO a) fun ra => bindO (dO b) fun rb Γ => liftO (ra.get Γ) fun x => liftO (rb.get Γ) fun y => liftO (f x y) fun z => match z with
  | .val (.bl true) => bindO (dO c) (fun rc Γ2 => liftO (rb.get Γ2) fun y => liftO (rc.get Γ2) fun u => liftO (g y u) fun z => .ok z.toR Γ2) Γ
  | .val (.bl false) => .ok (.frz (.bl false)) Γ
  | _ => .stuck
theorem se_chain {K : PySem.W.Frag} {r r' : R2} {f g : D → D → Option Z} {ta tb tc : TE} {a b c : Den} (hr : OpS K r f) (hr' : OpS K r' g) (ha : SE K ta a) (hb : SE K tb b) (hc : SE K tc c) : SE K (tChain r r' ta tb tc) (dChain f g a b c) := by
  intro σ Γ res Γ' he Hf H fp E w Q q
  obtain ⟨ra, Γ1, h1, he⟩ := bindO_ok he
  obtain ⟨rb, Γ2, h2, he⟩ := bindO_ok he
  obtain ⟨dx, gx, he⟩ := liftO_ok he
  obtain ⟨dy, gy, he⟩ := liftO_ok he
  obtain ⟨z, hz, he⟩ := liftO_ok he
  refine SO.of ha σ Γ ra Γ1 h1 Hf H fp E w _ fun x Hf1 H1 fp1 E1 w1 s1 r1 => ?_
  refine SO.of hb σ Γ1 rb _ h2 Hf1 H1 fp1 E1 w1 _ fun y Hf2 H2 fp2 E2 w2 s2 r2 => ?_
  refine hr Hf2 H2 x y dx dy z w2.same ((r1.ext s2.ext).top E2 gx) (r2.top E2 gy) hz _ fun v H' m => ?_
  split at he
  · obtain ⟨rfl, m⟩ := m
    simp only [Rep] at m
    refine ⟨true, m, ?_⟩
    show tc σ H' _
    obtain ⟨rc, Γ3, h3, he⟩ := bindO_ok he
    obtain ⟨dy', gy', he⟩ := liftO_ok he
    obtain ⟨dz, gz, he⟩ := liftO_ok he
    obtain ⟨z, hz, he⟩ := liftO_ok he
    cases he
    refine SO.of hc σ Γ2 rc _ h3 Hf2 H' fp2 E2 w2 _ fun u Hf3 H3 fp3 E3 w3 s3 r3 => ?_
    refine hr' Hf3 H3 y u dy' dz z w3.same ((r2.ext s3.ext).top E3 gy') (r3.top E3 gz) hz Q fun v H' m => ?_
    obtain ⟨Hf4, ft, E4, w4, s4, r4⟩ := m.res E3 w3
    exact q v Hf4 H' fp3 ft E4 w4 (((s1.trans s2).trans s3).trans s4) r4
  · cases he
    obtain ⟨rfl, m⟩ := m
    simp only [Rep] at m
    exact ⟨false, m, q _ Hf2 H' fp2 [] E2 (by simpa using w2) (by simpa using s1.trans s2) ⟨by simp only [Rep], rfl⟩⟩
  · cases he
/-- an operation of one -/
def UnS (K : PySem.W.Frag) (r : V → Hp → VK → Prop) (f : D → Option Z) : Prop := ∀ (Hf H : Hp) (x : V) (dx : D) (z : Z), Same Hf H → Top K Hf H dx x → f dx = some z → ∀ Q : VK, (∀ v H', Made K Hf H z v H' → Q v H') → r x H Q
def dUn (f : D → Option Z) (a : Den) : Den := bindO (dO a) fun ra Γ => liftO (ra.get Γ) fun x => liftO (f x) fun z => .ok z.toR Γ
theorem se_un {K : PySem.W.Frag} {r : V → Hp → VK → Prop} {f : D → Option Z} {ta : TE} {a : Den} (hr : UnS K r f) (ha : SE K ta a) : SE K (fun σ H Q => ta σ H fun x H1 => r x H1 Q) (dUn f a) := by
  intro σ Γ res Γ' he Hf H fp E w Q q
  obtain ⟨ra, Γ1, h1, he⟩ := bindO_ok he
  obtain ⟨dx, gx, he⟩ := liftO_ok he
  obtain ⟨z, hz, he⟩ := liftO_ok he
  cases he
  refine SO.of ha σ Γ ra _ h1 Hf H fp E w _ fun x Hf1 H1 fp1 E1 w1 s1 r1 => ?_
  refine hr Hf1 H1 x dx z w1.same (r1.top E1 gx) hz Q fun v H' m => ?_
  obtain ⟨Hf3, ft, E3, w3, s3, r3⟩ := m.res E1 w1
  exact q v Hf3 H' fp1 ft E3 w3 (s1.trans s3) r3
def zNeg : D → Option Z
  | .int a => some (.val (.int (-a)))
  | _ => none
theorem us_neg {K : PySem.W.Frag} : UnS K (rU fun i => .int (-i)) zNeg := by
  intro Hf H x dx z s hx hz Q q
  unfold zNeg at hz
  split at hz
  · cases hz; cases hx.int; exact ⟨_, rfl, made_int q⟩
  · cases hz
def isNonD : D → Bool
  | .non => true
  | _ => false
theorem Rep.non_iff {K : PySem.W.Frag} {H : Hp} {d : D} {v : V} (h : Rep K H d v) : decide (v = .non) = isNonD d := by
  cases d <;> simp only [Rep] at h
  all_goals first
    | (subst h; rfl)
    | (obtain ⟨a, xs, rfl, _⟩ := h; rfl)
theorem us_isN {K : PySem.W.Frag} : UnS K (fun x H Q => Q (.bl (decide (x = .non))) H) (fun d => some (.val (.bl (isNonD d)))) := by
  intro Hf H x dx z s hx hz Q q
  cases hz
  rw [(hx.rep s).non_iff]
  exact made_bl q
theorem us_notN {K : PySem.W.Frag} : UnS K (fun x H Q => Q (.bl (!decide (x = .non))) H) (fun d => some (.val (.bl (!isNonD d)))) := by
  intro Hf H x dx z s hx hz Q q
  cases hz
  rw [(hx.rep s).non_iff]
  exact made_bl q
/-- l[::-1] -/
def zRev : D → Option Z
  | .lst ds => some (.lst ds.reverse)
  | _ => none
theorem us_rev {K : PySem.W.Frag} : UnS K (fun x H1 Q => ∃ a xs, x = .ref a ∧ SqL K H1 a xs ∧ ∀ p, H1 p = none → Q (.ref p) (upd H1 p (.lst xs.reverse))) zRev := by
  intro Hf H x dx z s hx hz Q q
  unfold zRev at hz
  split at hz
  · cases hz
    obtain ⟨a, xs, rfl, ha, ra⟩ := hx.list s
    exact ⟨a, xs, rfl, .inl (.inl ha), fun p hp => made_lst q ra.rev hp⟩
  · cases hz

/-! ### lists of operands, of frozen values -/
def dOs : List Den → Env → Out (List R)
  | [] => fun Γ => .ok [] Γ
  | e :: es => bindO (dO e) fun r => bindO (dOs es) fun rs Γ => .ok (r :: rs) Γ
def dVs : List Den → Env → Out (List D)
  | [] => fun Γ => .ok [] Γ
  | e :: es => bindO (dV e) fun r => bindO (dVs es) fun rs Γ => .ok (r :: rs) Γ
inductive ResOL (K : PySem.W.Frag) (Hf : Hp) (σ : L2.St) : List R → List V → Prop
  | nil : ResOL K Hf σ [] []
  | cons {r : R} {v : V} {rs : List R} {vs : List V} : ResO K Hf σ r v → ResOL K Hf σ rs vs → ResOL K Hf σ (r :: rs) (v :: vs)
theorem ResOL.ext {K : PySem.W.Frag} {Hf Hf' : Hp} {σ : L2.St} (e : Ext Hf Hf') {rs : List R} {vs : List V} (h : ResOL K Hf σ rs vs) : ResOL K Hf' σ rs vs := by
  induction h with
  | nil => exact .nil
  | cons a _ ih => exact .cons (a.ext e) ih
def SOs (K : PySem.W.Frag) (t : TA) (es : List Den) : Prop := ∀ (σ : L2.St) (Γ : Env) (rs : List R) (Γ' : Env), dOs es Γ = .ok rs Γ' → ∀ (Hf H : Hp) (fp : List Addr), EnvR K Hf H σ Γ fp → Wd K Hf H fp →
  ∀ Q : List V → Hp → Prop, (∀ vs Hf' H' fp', EnvR K Hf' H' σ Γ' fp' → Wd K Hf' H' fp' → Step Hf H fp Hf' H' fp' → ResOL K Hf' σ rs vs → Q vs H') → t σ H Q
def SVs (K : PySem.W.Frag) (t : TA) (es : List Den) : Prop := ∀ (σ : L2.St) (Γ : Env) (rs : List D) (Γ' : Env), dVs es Γ = .ok rs Γ' → ∀ (Hf H : Hp) (fp : List Addr), EnvR K Hf H σ Γ fp → Wd K Hf H fp →
  ∀ Q : List V → Hp → Prop, (∀ vs Hf' H' fp', EnvR K Hf' H' σ Γ' fp' → Wd K Hf' H' fp' → Step Hf H fp Hf' H' fp' → RepL K Hf' rs vs → Q vs H') → t σ H Q
section
variable {K : PySem.W.Frag} {ta : TE} {t : TA} {e : Den} {es : List Den}
theorem sos_nil : SOs K tNil [] := by
  intro σ Γ rs Γ' he Hf H fp E w Q q
  cases he
  exact q [] Hf H fp E w (Step.refl _ _ _) .nil
theorem sos_cons (h : SE K ta e) (hr : SOs K t es) : SOs K (tCons ta t) (e :: es) := by
  intro σ Γ rs Γ' he Hf H fp E w Q q
  obtain ⟨r, Γ1, h1, he⟩ := bindO_ok he
  obtain ⟨rs', Γ2, h2, he⟩ := bindO_ok he
  cases he
  refine SO.of h σ Γ r Γ1 h1 Hf H fp E w _ fun x Hf1 H1 fp1 E1 w1 s1 r1 => ?_
  exact hr σ Γ1 rs' _ h2 Hf1 H1 fp1 E1 w1 _ fun vs Hf2 H2 fp2 E2 w2 s2 r2 => q _ Hf2 H2 fp2 E2 w2 (s1.trans s2) (.cons (r1.ext s2.ext) r2)
theorem svs_nil : SVs K tNil [] := by
  intro σ Γ rs Γ' he Hf H fp E w Q q
  cases he
  exact q [] Hf H fp E w (Step.refl _ _ _) (by simp only [RepL])
theorem svs_cons (h : SE K ta e) (hr : SVs K t es) : SVs K (tCons ta t) (e :: es) := by
  intro σ Γ rs Γ' he Hf H fp E w Q q
  obtain ⟨r, Γ1, h1, he⟩ := bindO_ok he
  obtain ⟨rs', Γ2, h2, he⟩ := bindO_ok he
  cases he
  refine SV.of h σ Γ r Γ1 h1 Hf H fp E w _ fun x Hf1 H1 fp1 E1 w1 s1 r1 => ?_
  refine hr σ Γ1 rs' _ h2 Hf1 H1 fp1 E1 w1 _ fun vs Hf2 H2 fp2 E2 w2 s2 r2 => q _ Hf2 H2 fp2 E2 w2 (s1.trans s2) ?_
  simp only [RepL]
  exact ⟨x, vs, rfl, Rep.ext s2.ext _ _ r1, r2⟩
end
/-- displays -/
def dTup (es : List Den) : Den := bindO (dVs es) fun ds Γ => .ok (.frz (.tup ds)) Γ
def dLst (es : List Den) : Den := bindO (dVs es) fun ds Γ => .ok (.own (.lst ds)) Γ
theorem dVs_len : ∀ {es : List Den} {Γ Γ' : Env} {ds : List D}, dVs es Γ = .ok ds Γ' → ds.length = es.length
  | [], _, _, _, h => by cases h; rfl
  | e :: es, _, _, _, h => by
    obtain ⟨r, Γ1, h1, h⟩ := bindO_ok h
    obtain ⟨rs', Γ2, h2, h⟩ := bindO_ok h
    cases h
    simp [dVs_len h2]
theorem se_tup {K : PySem.W.Frag} {t : TA} {es : List Den} (h : SVs K t es) (hl : es.length ≤ big := by decide) : SE K (tTup t) (dTup es) := by
  intro σ Γ r Γ' he Hf H fp E w Q q
  obtain ⟨ds, Γ1, h1, he⟩ := bindO_ok he
  cases he
  refine h σ Γ ds _ h1 Hf H fp E w _ fun vs Hf1 H1 fp1 E1 w1 s1 r1 => ⟨by rw [r1.len, dVs_len h1]; exact big_le hl, fun p hp => ?_⟩
  obtain ⟨Hf3, ft, E3, w3, s3, r3⟩ := Made.res (z := .tup ds) (v := .ref p) E1 w1 (.inl ⟨p, vs, hp, rfl, rfl, r1⟩)
  exact q _ Hf3 _ fp1 ft E3 w3 (s1.trans s3) r3
theorem se_lst {K : PySem.W.Frag} {t : TA} {es : List Den} (h : SVs K t es) (hl : es.length ≤ big := by decide) : SE K (tLst t) (dLst es) := by
  intro σ Γ r Γ' he Hf H fp E w Q q
  obtain ⟨ds, Γ1, h1, he⟩ := bindO_ok he
  cases he
  refine h σ Γ ds _ h1 Hf H fp E w _ fun vs Hf1 H1 fp1 E1 w1 s1 r1 => ⟨by rw [r1.len, dVs_len h1]; exact big_le hl, fun p hp => ?_⟩
  obtain ⟨Hf3, ft, E3, w3, s3, r3⟩ := Made.res (z := .lst ds) (v := .ref p) E1 w1 ⟨p, vs, hp, rfl, rfl, r1⟩
  exact q _ Hf3 _ fp1 ft E3 w3 (s1.trans s3) r3
/-- {} -/
def dDict0 : Den := fun Γ => .ok (.own (.dct [] [])) Γ
theorem se_dict0 {K : PySem.W.Frag} : SE K tDNewK dDict0 := by
  intro σ Γ r Γ' he Hf H fp E w Q q
  cases he
  intro p hp
  obtain ⟨Hf3, ft, E3, w3, s3, r3⟩ := Made.res (z := .dct [] []) (v := .ref p) E w ⟨p, [], hp, rfl, rfl, rfl, by simp [RepL]⟩
  exact q _ Hf3 _ fp ft E3 w3 s3 r3

/-! ### calls of built-ins -/
def getL : List R → Env → Option (List D)
  | [], _ => some []
  | r :: rs, Γ => match r.get Γ, getL rs Γ with
    | some d, some ds => some (d :: ds)
    | _, _ => none
inductive TopL (K : PySem.W.Frag) (Hf H : Hp) : List D → List V → Prop
  | nil : TopL K Hf H [] []
  | cons {d : D} {v : V} {ds : List D} {vs : List V} : Top K Hf H d v → TopL K Hf H ds vs → TopL K Hf H (d :: ds) (v :: vs)
theorem ResOL.top {K : PySem.W.Frag} {Hf H : Hp} {σ : L2.St} {Γ : Env} {fp : List Addr} (E : EnvR K Hf H σ Γ fp) {rs : List R} {vs : List V} (h : ResOL K Hf σ rs vs) : ∀ {ds : List D}, getL rs Γ = some ds → TopL K Hf H ds vs := by
  induction h with
  | nil => intro ds e; cases e; exact .nil
  | @cons r v rs vs a _ ih =>
    intro ds e
    unfold getL at e
    split at e
    · rename_i d ds' h1 h2
      cases e
      exact .cons (a.top E h1) (ih h2)
    · cases e
def CallS (K : PySem.W.Frag) (r : List V → Hp → VK → Prop) (f : List D → Option Z) : Prop := ∀ (Hf H : Hp) (xs : List V) (ds : List D) (z : Z), Same Hf H → TopL K Hf H ds xs → f ds = some z → ∀ Q : VK, (∀ v H', Made K Hf H z v H' → Q v H') → r xs H Q
def dB (f : List D → Option Z) (es : List Den) : Den := bindO (dOs es) fun rs Γ => liftO (getL rs Γ) fun ds => liftO (f ds) fun z => .ok z.toR Γ
theorem se_b {K : PySem.W.Frag} {r : List V → Hp → VK → Prop} {f : List D → Option Z} {t : TA} {es : List Den} (hr : CallS K r f) (h : SOs K t es) : SE K (tCB r t) (dB f es) := by
  intro σ Γ res Γ' he Hf H fp E w Q q
  obtain ⟨rs, Γ1, h1, he⟩ := bindO_ok he
  obtain ⟨ds, gx, he⟩ := liftO_ok he
  obtain ⟨z, hz, he⟩ := liftO_ok he
  cases he
  refine h σ Γ rs _ h1 Hf H fp E w _ fun xs Hf1 H1 fp1 E1 w1 s1 r1 => ?_
  refine hr Hf1 H1 xs ds z w1.same (r1.top E1 gx) hz Q fun v H' m => ?_
  obtain ⟨Hf3, ft, E3, w3, s3, r3⟩ := m.res E1 w1
  exact q v Hf3 H' fp1 ft E3 w3 (s1.trans s3) r3
/-- a method that reads -/
def MethS (K : PySem.W.Frag) (T : String) (r : V → List V → Hp → VK → Prop) (f : D → List D → Option Z) : Prop := ∀ (Hf H : Hp) (x : V) (xs : List V) (d : D) (ds : List D) (z : Z), Same Hf H → Top K Hf H d x → TopL K Hf H ds xs → f d ds = some z →
  ∀ Q : VK, (∀ v H', Made K Hf H z v H' → Q v H') → r x xs H Q
/-- of what kind a receiver must be -/
def TyS (K : PySem.W.Frag) (T : String) (c : D → Bool) : Prop := ∀ (Hf H : Hp) (x : V) (d : D), Same Hf H → Top K Hf H d x → c d = true → tyV K T x H
def isLst : D → Bool
  | .lst _ => true
  | .scr _ => true
  | _ => false
def isStr : D → Bool
  | .str _ => true
  | _ => false
def isInt : D → Bool
  | .int _ => true
  | _ => false
theorem ty_list {K : PySem.W.Frag} : TyS K "list" isLst := by
  intro Hf H x d s t h
  cases d <;> simp [isLst] at h
  · obtain ⟨a, xs, rfl, ha, _⟩ := t.list s
    exact .inl ⟨rfl, xs, .inl (.inl ha)⟩
  · obtain ⟨a, xs, rfl, ha, _⟩ := t.scr s
    exact .inl ⟨rfl, xs, ha⟩
theorem ty_str {K : PySem.W.Frag} : TyS K "str" isStr := by
  intro Hf H x d s t h
  cases d <;> simp [isStr] at h
  cases t.str; exact rfl
theorem ty_int {K : PySem.W.Frag} : TyS K "int" isInt := by
  intro Hf H x d s t h
  cases d <;> simp [isInt] at h
  cases t.int; exact rfl
def dM (c : D → Bool) (f : D → List D → Option Z) (o : Den) (es : List Den) : Den := bindO (dO o) fun ro Γ0 => liftO (ro.get Γ0) fun d0 => if c d0 = true then bindO (dOs es) (fun rs Γ => liftO (ro.get Γ) fun d => liftO (getL rs Γ) fun ds => liftO (f d ds) fun z => .ok z.toR Γ) Γ0 else .stuck
theorem se_m {K : PySem.W.Frag} {T : String} {c : D → Bool} {r : V → List V → Hp → VK → Prop} {f : D → List D → Option Z} {to : TE} {o : Den} {t : TA} {es : List Den} (ty : TyS K T c) (hr : MethS K T r f) (ho : SE K to o) (h : SOs K t es) : SE K (tBM K T r to t) (dM c f o es) := by
  intro σ Γ res Γ' he Hf H fp E w Q q
  obtain ⟨ro, Γ0, h0, he⟩ := bindO_ok he
  obtain ⟨d0, g0, he⟩ := liftO_ok he
  split at he
  case isFalse => cases he
  rename_i hc
  obtain ⟨rs, Γ1, h1, he⟩ := bindO_ok he
  obtain ⟨d, gd, he⟩ := liftO_ok he
  obtain ⟨ds, gx, he⟩ := liftO_ok he
  obtain ⟨z, hz, he⟩ := liftO_ok he
  cases he
  refine SO.of ho σ Γ ro Γ0 h0 Hf H fp E w _ fun x Hf1 H1 fp1 E1 w1 s1 r1 => ⟨ty Hf1 H1 x d0 w1.same (r1.top E1 g0) hc, ?_⟩
  refine h σ Γ0 rs _ h1 Hf1 H1 fp1 E1 w1 _ fun xs Hf2 H2 fp2 E2 w2 s2 r2 => ?_
  refine hr Hf2 H2 x xs d ds z w2.same ((r1.ext s2.ext).top E2 gd) (r2.top E2 gx) hz Q fun v H' m => ?_
  obtain ⟨Hf3, ft, E3, w3, s3, r3⟩ := m.res E2 w2
  exact q v Hf3 H' fp2 ft E3 w3 ((s1.trans s2).trans s3) r3
theorem se_m0 {K : PySem.W.Frag} {T : String} {c : D → Bool} {r : V → List V → Hp → VK → Prop} {f : D → List D → Option Z} {to : TE} {o : Den} (ty : TyS K T c) (hr : MethS K T r f) (ho : SE K to o) : SE K (tBM0 K T r to) (dM c f o []) := by
  intro σ Γ res Γ' he Hf H fp E w Q q
  exact se_m (t := tNil) ty hr ho sos_nil σ Γ res Γ' he Hf H fp E w Q q
/-- a slice -/
def dSl (f : D → Option Int → Option Int → Option Z) (a : Den) (lo hi : Option Den) : Den := bindO (dO a) fun ra =>
  bindO (match lo with | none => fun Γ => .ok none Γ | some l => bindO (dO l) fun r Γ => match r with | .frz (.int i) => .ok (some i) Γ | _ => .stuck) fun l =>
  bindO (match hi with | none => fun Γ => .ok none Γ | some l => bindO (dO l) fun r Γ => match r with | .frz (.int i) => .ok (some i) Γ | _ => .stuck) fun u Γ => liftO (ra.get Γ) fun x => liftO (f x l u) fun z => .ok z.toR Γ
def SPo (K : PySem.W.Frag) (t : TO) (e : Option Den) : Prop := ∀ (σ : L2.St) (Γ : Env) (o : Option Int) (Γ' : Env), (match e with | none => fun Γ => .ok none Γ | some l => bindO (dO l) fun r Γ => match r with | .frz (.int i) => .ok (some i) Γ | _ => .stuck : Env → Out (Option Int)) Γ = .ok o Γ' →
  ∀ (Hf H : Hp) (fp : List Addr), EnvR K Hf H σ Γ fp → Wd K Hf H fp → ∀ Q : Option Int → Hp → Prop, (∀ Hf' H' fp', EnvR K Hf' H' σ Γ' fp' → Wd K Hf' H' fp' → Step Hf H fp Hf' H' fp' → Q o H') → t σ H Q
theorem spo_none {K : PySem.W.Frag} : SPo K tNoPart none := by
  intro σ Γ o Γ' he Hf H fp E w Q q
  cases he
  exact q Hf H fp E w (Step.refl _ _ _)
theorem spo_some {K : PySem.W.Frag} {te : TE} {e : Den} (h : SE K te e) : SPo K (tPart te) (some e) := by
  intro σ Γ o Γ' he Hf H fp E w Q q
  obtain ⟨r, Γ1, h1, he⟩ := bindO_ok he
  split at he
  · cases he
    refine SO.of h σ Γ _ _ h1 Hf H fp E w _ fun x Hf1 H1 fp1 E1 w1 s1 r1 => ?_
    have r1 : Rep K Hf1 (.int _) x := r1
    simp only [Rep] at r1
    exact ⟨_, r1, q Hf1 H1 fp1 E1 w1 s1⟩
  · cases he
def SlS (K : PySem.W.Frag) (r : V → Option Int → Option Int → Hp → VK → Prop) (f : D → Option Int → Option Int → Option Z) : Prop := ∀ (Hf H : Hp) (x : V) (dx : D) (lo hi : Option Int) (z : Z), Same Hf H → Top K Hf H dx x → f dx lo hi = some z → ∀ Q : VK, (∀ v H', Made K Hf H z v H' → Q v H') → r x lo hi H Q
theorem se_sl {K : PySem.W.Frag} {r : V → Option Int → Option Int → Hp → VK → Prop} {f : D → Option Int → Option Int → Option Z} {ta : TE} {a : Den} {tl th : TO} {lo hi : Option Den} (hr : SlS K r f) (ha : SE K ta a) (hl : SPo K tl lo) (hh : SPo K th hi) : SE K (tSl r ta tl th) (dSl f a lo hi) := by
  intro σ Γ res Γ' he Hf H fp E w Q q
  obtain ⟨ra, Γ1, h1, he⟩ := bindO_ok he
  obtain ⟨l, Γ2, h2, he⟩ := bindO_ok he
  obtain ⟨u, Γ3, h3, he⟩ := bindO_ok he
  obtain ⟨dx, gx, he⟩ := liftO_ok he
  obtain ⟨z, hz, he⟩ := liftO_ok he
  cases he
  refine SO.of ha σ Γ ra _ h1 Hf H fp E w _ fun x Hf1 H1 fp1 E1 w1 s1 r1 => ?_
  refine hl σ Γ1 l Γ2 h2 Hf1 H1 fp1 E1 w1 _ fun Hf2 H2 fp2 E2 w2 s2 => ?_
  refine hh σ Γ2 u _ h3 Hf2 H2 fp2 E2 w2 _ fun Hf3 H3 fp3 E3 w3 s3 => ?_
  refine hr Hf3 H3 x dx l u z w3.same (((r1.ext s2.ext).ext s3.ext).top E3 gx) hz Q fun v H' m => ?_
  obtain ⟨Hf4, ft, E4, w4, s4, r4⟩ := m.res E3 w3
  exact q v Hf4 H' fp3 ft E4 w4 (((s1.trans s2).trans s3).trans s4) r4
def zSl : D → Option Int → Option Int → Option Z
  | .lst ds, lo, hi => some (.lst (cutD ds lo hi))
  | .scr ds, lo, hi => some (.lst (cutD ds lo hi))
  | .tup ds, lo, hi => some (.tup (cutD ds lo hi))
  | .str s, lo, hi => if s.length ≤ big then some (.val (.str (cutS s lo hi))) else none
  | _, _, _ => none
def rSlU (K : PySem.W.Frag) : V → Option Int → Option Int → Hp → VK → Prop := fun x lo hi H Q => rSlL K x lo hi H Q ∨ rSlA K x lo hi H Q ∨ rSlS x lo hi H Q
theorem sl_U {X : Cx} : SlR X (rSlU X.K) := sl_list.or (sl_tupA.or sl_str)
theorem ss_sl {K : PySem.W.Frag} : SlS K (rSlU K) zSl := by
  intro Hf H x dx lo hi z s hx hz Q q
  unfold zSl at hz
  split at hz
  · cases hz
    obtain ⟨a, xs, rfl, ha, ra⟩ := hx.list s
    exact .inl ⟨a, xs, rfl, .inl (.inl ha), fun p hp => made_lst q (ra.cut lo hi) hp⟩
  · cases hz
    obtain ⟨a, xs, rfl, ha, ra⟩ := hx.scr s
    exact .inl ⟨a, xs, rfl, ha, fun p hp => made_lst q (ra.cut lo hi) hp⟩
  · rename_i ds0
    cases hz
    cases hx with
    | frz rx =>
    have rx0 := rx
    obtain ⟨a, xs, rfl, ha, ra⟩ := (Top.frz (K := K) (Hf := Hf) (H := H) rx).tup s
    refine .inr (.inl ⟨a, xs, rfl, ha, fun e => ?_, fun _ p hp => made_tup q (ra.cut lo hi) hp⟩)
    refine q _ _ (.inr ⟨rfl, ?_⟩)
    have e2 : cutD ds0 lo hi = ds0 := by
      unfold cutD
      rw [← ra.len, e.1, e.2, ra.len]
      simp
    rw [e2]
    exact rx0
  · split at hz
    · rename_i hl
      cases hz
      cases hx.str
      exact .inr (.inr ⟨_, rfl, big_le hl, made_str q⟩)
    · cases hz
  · cases hz
end Fw
namespace Fw
open PySem L2

/-! ### functions -/
inductive FOut where
  | stuck | exc (x : Exn) (outs : List T) | ok (t : T) (outs : List T)
abbrev FDen := List T → FOut
inductive Arg where
  | v (e : Den) | io (i : Nat)
/-- an argument that has come: a value, or a slot that is lent -/
inductive AV where
  | d (x : D) | io (i : Nat)
def dArgs : List Arg → Env → Out (List AV)
  | [] => fun Γ => .ok [] Γ
  | .v e :: es => bindO (dV e) fun r => bindO (dArgs es) fun rs Γ => .ok (.d r :: rs) Γ
  | .io i :: es => fun Γ => match Γ[i]? with
    | some (some _) => bindO (dArgs es) (fun rs Γ => .ok (.io i :: rs) Γ) Γ
    | _ => .stuck
/-- what is handed over, and the slots without what is lent -/
def takeArgs : List AV → Env → Option (List T × Env)
  | [], Γ => some ([], Γ)
  | .d x :: as, Γ => match takeArgs as Γ with
    | some (ts, Γ1) => some (.frz x :: ts, Γ1)
    | none => none
  | .io i :: as, Γ => match Γ[i]? with
    | some (some t) => match takeArgs as (Γ.set i none) with
      | some (ts, Γ1) => some (t :: ts, Γ1)
      | none => none
    | _ => none
def putArgs : List AV → List T → Env → Env
  | .d _ :: as, _ :: ts, Γ => putArgs as ts Γ
  | .io i :: as, t :: ts, Γ => putArgs as ts (Γ.set i (some t))
  | _, _, Γ => Γ
def dCall (f : FDen) (as : List Arg) : Den := bindO (dArgs as) fun avs Γ => liftO (takeArgs avs Γ) fun p => match f p.1 with
  | .ok t outs => .ok (match t with | .frz d => .frz d | t => .own t) (putArgs avs outs p.2)
  | .exc x outs => .exc x (putArgs avs outs p.2)
  | .stuck => .stuck
inductive AVR (K : PySem.W.Frag) (Hf : Hp) (σ : L2.St) : List AV → List V → Prop
  | nil : AVR K Hf σ [] []
  | d {x : D} {v : V} {as : List AV} {vs : List V} : Rep K Hf x v → AVR K Hf σ as vs → AVR K Hf σ (.d x :: as) (v :: vs)
  | io {i : Nat} {v : V} {as : List AV} {vs : List V} : σ[i]? = some (some v) → AVR K Hf σ as vs → AVR K Hf σ (.io i :: as) (v :: vs)
theorem AVR.ext {K : PySem.W.Frag} {Hf Hf' : Hp} {σ : L2.St} (e : Ext Hf Hf') {as : List AV} {vs : List V} (h : AVR K Hf σ as vs) : AVR K Hf' σ as vs := by
  induction h with
  | nil => exact .nil
  | d a _ ih => exact .d (Rep.ext e _ _ a) ih
  | io a _ ih => exact .io a ih
def SAs (K : PySem.W.Frag) (t : TA) (es : List Arg) : Prop := ∀ (σ : L2.St) (Γ : Env) (rs : List AV) (Γ' : Env), dArgs es Γ = .ok rs Γ' → ∀ (Hf H : Hp) (fp : List Addr), EnvR K Hf H σ Γ fp → Wd K Hf H fp →
  ∀ Q : List V → Hp → Prop, (∀ vs Hf' H' fp', EnvR K Hf' H' σ Γ' fp' → Wd K Hf' H' fp' → Step Hf H fp Hf' H' fp' → AVR K Hf' σ rs vs → Q vs H') → t σ H Q
section
variable {K : PySem.W.Frag} {ta : TE} {t : TA} {e : Den} {es : List Arg}
theorem sas_nil : SAs K tNil [] := by
  intro σ Γ rs Γ' he Hf H fp E w Q q
  cases he
  exact q [] Hf H fp E w (Step.refl _ _ _) .nil
theorem sas_v (h : SE K ta e) (hr : SAs K t es) : SAs K (tCons ta t) (.v e :: es) := by
  intro σ Γ rs Γ' he Hf H fp E w Q q
  obtain ⟨r, Γ1, h1, he⟩ := bindO_ok he
  obtain ⟨rs', Γ2, h2, he⟩ := bindO_ok he
  cases he
  refine SV.of h σ Γ r Γ1 h1 Hf H fp E w _ fun x Hf1 H1 fp1 E1 w1 s1 r1 => ?_
  exact hr σ Γ1 rs' _ h2 Hf1 H1 fp1 E1 w1 _ fun vs Hf2 H2 fp2 E2 w2 s2 r2 => q _ Hf2 H2 fp2 E2 w2 (s1.trans s2) (.d (Rep.ext s2.ext _ _ r1) r2)
theorem sas_io {i : Nat} (hr : SAs K t es) : SAs K (tCons (tVar i) t) (.io i :: es) := by
  intro σ Γ rs Γ' he Hf H fp E w Q q
  simp only [dArgs] at he
  split at he
  case h_2 => cases he
  rename_i t0 ht
  obtain ⟨rs', Γ2, h2, he⟩ := bindO_ok he
  cases he
  obtain ⟨v, _, _, hv, _⟩ := E.split ht
  refine ⟨v, hv, ?_⟩
  exact hr σ Γ rs' _ h2 Hf H fp E w _ fun vs Hf2 H2 fp2 E2 w2 s2 r2 => q _ Hf2 H2 fp2 E2 w2 s2 (.io hv r2)
end
/-- handing over -/
theorem EnvR.take {K : PySem.W.Frag} {Hf H : Hp} {σ : L2.St} {as : List AV} {vs : List V} (h : AVR K Hf σ as vs) : ∀ {Γ : Env} {fp : List Addr} {ts : List T} {Γ1 : Env}, EnvR K Hf H σ Γ fp → takeArgs as Γ = some (ts, Γ1) →
    ∃ fa fr, OwnL K Hf H ts vs fa ∧ EnvR K Hf H σ Γ1 fr ∧ (fa ++ fr).Perm fp := by
  induction h with
  | nil => intro Γ fp ts Γ1 E e; cases e; exact ⟨[], fp, .nil, E, .refl _⟩
  | d r _ ih =>
    intro Γ fp ts Γ1 E e
    unfold takeArgs at e
    split at e
    · rename_i h1; cases e
      obtain ⟨fa, fr, a, b, c⟩ := ih E h1
      exact ⟨[] ++ fa, fr, .cons (.frz r) a, b, by simpa using c⟩
    · cases e
  | io hv _ ih =>
    intro Γ fp ts Γ1 E e
    unfold takeArgs at e
    split at e
    · rename_i t hj
      split at e
      · rename_i h1; cases e
        obtain ⟨v', f1, f2, hv', o, E2, p⟩ := E.split hj
        rw [hv] at hv'; cases hv'
        obtain ⟨fa, fr, a, b, c⟩ := ih E2 h1
        refine ⟨f1 ++ fa, fr, .cons o a, b, ?_⟩
        rw [List.append_assoc]
        exact (List.Perm.append_left f1 c).trans p
      · cases e
    · cases e
/-- cleared slots stay cleared -/
theorem takeArgs_none {as : List AV} : ∀ {Γ : Env} {ts : List T} {Γ1 : Env}, takeArgs as Γ = some (ts, Γ1) → ∀ i, Γ[i]? = some none → Γ1[i]? = some none ∧ AV.io i ∉ as := by
  induction as with
  | nil => intro Γ ts Γ1 h i hi; cases h; exact ⟨hi, by simp⟩
  | cons a as ih =>
    intro Γ ts Γ1 h i hi
    cases a with
    | d x =>
      unfold takeArgs at h
      split at h
      · rename_i h1; cases h
        obtain ⟨a, b⟩ := ih h1 i hi
        exact ⟨a, by simpa using b⟩
      · cases h
    | io j =>
      unfold takeArgs at h
      split at h
      · rename_i t hj
        have hij : j ≠ i := fun e => by subst e; rw [hi] at hj; cases hj
        split at h
        · rename_i h1; cases h
          obtain ⟨a, b⟩ := ih h1 i (by rw [List.getElem?_set_ne hij]; exact hi)
          exact ⟨a, by simp only [List.mem_cons, not_or]; exact ⟨fun e => hij (by cases e; rfl), b⟩⟩
        · cases h
      · cases h
theorem takeArgs_len {as : List AV} : ∀ {Γ : Env} {ts : List T} {Γ1 : Env}, takeArgs as Γ = some (ts, Γ1) → Γ1.length = Γ.length := by
  induction as with
  | nil => intro Γ ts Γ1 h; cases h; rfl
  | cons a as ih =>
    intro Γ ts Γ1 h
    cases a with
    | d x =>
      unfold takeArgs at h
      split at h
      · rename_i h1; cases h; exact ih h1
      · cases h
    | io j =>
      unfold takeArgs at h
      split at h
      · split at h
        · rename_i h1; cases h
          rw [ih h1, List.length_set]
        · cases h
      · cases h
def ios : List AV → List Nat
  | [] => []
  | .d _ :: as => ios as
  | .io i :: as => i :: ios as
theorem mem_ios {i : Nat} : ∀ {as : List AV}, i ∈ ios as → AV.io i ∈ as
  | .d _ :: as, h => by simp only [ios] at h; simp [mem_ios h]
  | .io j :: as, h => by
    simp only [ios, List.mem_cons] at h
    rcases h with rfl | h
    · simp
    · simp [mem_ios h]
theorem takeArgs_ios {as : List AV} : ∀ {Γ : Env} {ts : List T} {Γ1 : Env}, takeArgs as Γ = some (ts, Γ1) → (ios as).Nodup ∧ ∀ i ∈ ios as, Γ1[i]? = some none := by
  induction as with
  | nil => intro Γ ts Γ1 h; exact ⟨List.nodup_nil, by simp [ios]⟩
  | cons a as ih =>
    intro Γ ts Γ1 h
    cases a with
    | d x =>
      unfold takeArgs at h
      split at h
      · rename_i h1; cases h; exact ih h1
      · cases h
    | io j =>
      unfold takeArgs at h
      split at h
      · rename_i t hj
        split at h
        · rename_i h1; cases h
          obtain ⟨a, b⟩ := ih h1
          have hl : j < Γ.length := (List.getElem?_eq_some_iff.mp hj).1
          obtain ⟨c, d⟩ := takeArgs_none h1 j (by rw [List.getElem?_set_self hl])
          refine ⟨List.nodup_cons.mpr ⟨fun z => d (mem_ios z), a⟩, fun i hi => ?_⟩
          rcases List.mem_cons.mp hi with rfl | hi
          · exact c
          · exact b i hi
        · cases h
      · cases h
/-- handing back -/
theorem EnvR.back {K : PySem.W.Frag} {Hf H Hf0 : Hp} {σ : L2.St} {as : List AV} {vs : List V} (h : AVR K Hf0 σ as vs) : ∀ {Γ : Env} {fr : List Addr} {ts : List T} {fa : List Addr}, (ios as).Nodup → (∀ i ∈ ios as, Γ[i]? = some none) → EnvR K Hf H σ Γ fr → OwnL K Hf H ts vs fa →
    ∃ fp g, EnvR K Hf H σ (putArgs as ts Γ) fp ∧ (fp ++ g).Perm (fa ++ fr) := by
  induction h with
  | nil =>
    intro Γ fr ts fa _ _ E o
    cases o
    exact ⟨fr, [], E, by simp⟩
  | d r _ ih =>
    intro Γ fr ts fa nd hn E o
    cases o with
    | @cons t v ts vs f1 f2 o1 o2 =>
    obtain ⟨fp, g, a, p⟩ := ih nd hn E o2
    refine ⟨fp, g ++ f1, a, List.perm_iff_count.mpr fun z => ?_⟩
    have := p.count_eq z
    simp only [List.count_append] at *
    omega
  | @io i v as vs hv _ ih =>
    intro Γ fr ts fa nd hn E o
    cases o with
    | @cons t v ts vs f1 f2 o1 o2 =>
    simp only [ios, List.nodup_cons] at nd
    obtain ⟨f3, E3, p3⟩ := E.fill (hn i (by simp [ios])) hv o1
    obtain ⟨fp, g, a, p⟩ := ih (Γ := Γ.set i (some t)) nd.2 (fun j hj => by
      rw [List.getElem?_set_ne (show i ≠ j from fun e => nd.1 (by rw [e]; exact hj))]
      exact hn j (by simp [ios, hj])) E3 o2
    refine ⟨fp, g, a, List.perm_iff_count.mpr fun z => ?_⟩
    have := p.count_eq z
    have := p3.count_eq z
    simp only [List.count_append] at *
    omega

/-- a def's promise -/
def spD (K : PySem.W.Frag) (f : FDen) : Sp := fun vs H Q _ => ∃ (Hf : Hp) (ts : List T) (fa : List Addr) (t : T) (outs : List T), OwnL K Hf H ts vs fa ∧ Wd K Hf H fa ∧ f ts = .ok t outs ∧
  ∀ v Hf' H' fo fr, OwnL K Hf' H' outs vs fo → Own K Hf' H' t v fr → Wd K Hf' H' (fo ++ fr) → Step Hf H fa Hf' H' (fo ++ fr) → Q v H'
theorem nodup_perm {l m : List Addr} (p : l.Perm m) (h : m.Nodup) : l.Nodup := p.symm.nodup h
theorem Wd.join {K : PySem.W.Frag} {Hf H Hf' H' : Hp} {fa fr fo : List Addr} (w : Wd K Hf H (fa ++ fr)) (al : ∀ a ∈ fr, H a ≠ none) (w' : Wd K Hf' H' fo) (s : Step Hf H fa Hf' H' fo) : Wd K Hf' H' (fo ++ fr) := by
  have nd := List.nodup_append.mp w.nd
  refine ⟨w'.same, List.nodup_append.mpr ⟨w'.nd, nd.2.1, fun a ha b hb e => ?_⟩, fun a ha => ?_⟩
  · subst e
    rcases s.new a ha with z | z
    · exact nd.2.2 a z a hb rfl
    · exact al a hb z
  · rcases List.mem_append.mp ha with z | z
    · exact w'.nf a z
    · exact s.nofz a (fun y => nd.2.2 a y a z rfl) (w.nf a (by simp [z])) (al a z)
theorem se_call {K : PySem.W.Frag} {f : FDen} {t : TA} {es : List Arg} {E0 : XK} (h : SAs K t es) : SE K (tCall (spD K f) [] E0 t) (dCall f es) := by
  intro σ Γ res Γ' he Hf H fp E w Q q
  obtain ⟨avs, Γ1, h1, he⟩ := bindO_ok he
  obtain ⟨⟨ts, Γc⟩, h2, he⟩ := liftO_ok he
  simp only at he
  split at he
  case h_2 => cases he
  case h_3 => cases he
  rename_i t outs hf
  cases he
  refine h σ Γ avs Γ1 h1 Hf H fp E w _ fun vs Hf1 H1 fp1 E1 w1 s1 r1 => ?_
  obtain ⟨fa, fr, o, Ec, p⟩ := E1.take r1 h2
  have wp := w1.perm p
  have al := Ec.alloc
  rw [List.append_nil]
  refine ⟨Hf1, ts, fa, t, outs, o, wp.left, hf, fun v Hf2 H2 fo fv o2 ov w2 s2 => ?_⟩
  have s3 := s2.frame fr
  have w3 := wp.join al w2 s2
  have Ec2 : EnvR K Hf2 H2 σ Γc fr := Ec.stay s2.ext fun a ha o e => s2.keep a o (fun z => (List.nodup_append.mp wp.nd).2.2 a z a ha rfl) e
  obtain ⟨ndi, hni⟩ := takeArgs_ios h2
  obtain ⟨fp2, g, E2, p2⟩ := Ec2.back (r1.ext s2.ext) ndi hni o2
  have pp : ((fp2 ++ fv) ++ g).Perm ((fo ++ fv) ++ fr) := List.perm_iff_count.mpr fun z => by
    have := p2.count_eq z
    simp only [List.count_append] at *
    omega
  have w4 := (w3.perm pp).left
  have s4 : Step Hf1 H1 fp1 Hf2 H2 (fp2 ++ fv) := s3.perm (fun a => p.mem_iff) fun a ha => pp.mem_iff.mp (by simp only [List.mem_append] at ha ⊢; exact .inl ha)
  refine q v Hf2 H2 fp2 fv E2 w4 (s1.trans s4) ?_
  cases t with
  | frz d => cases ov with | frz r => exact ⟨r, rfl⟩
  | _ => exact ov
end Fw
namespace Fw
open PySem L2

/-! ### statements -/
inductive Flw where
  | next | ret (t : T) | brk | cont
abbrev SDen := Env → Out Flw
def PostF (K : PySem.W.Frag) (Dn : Ends) (f : Flw) (σ' : L2.St) (Hf' H' : Hp) (ft : List Addr) : Prop := match f with
  | .next => ft = [] → Dn.nx σ' H'
  | .brk => ft = [] → Dn.bk σ' H'
  | .cont => ft = [] → Dn.ct σ' H'
  | .ret t => ∀ v, Own K Hf' H' t v ft → Dn.rt v H'
/-- js: the slots that stay as they are -/
def Pin (js : List Nat) (σ σ' : L2.St) : Prop := ∀ i ∈ js, σ'[i]? = σ[i]?
theorem Pin.refl (js : List Nat) (σ : L2.St) : Pin js σ σ := fun _ _ => rfl
theorem Pin.trans {js : List Nat} {σ σ1 σ2 : L2.St} (a : Pin js σ σ1) (b : Pin js σ1 σ2) : Pin js σ σ2 := fun i h => (b i h).trans (a i h)
theorem Pin.set {js : List Nat} {σ : L2.St} {i : Nat} {s : Option V} (h : i ∉ js) : Pin js σ (σ.set i s) := fun j hj => by rw [List.getElem?_set_ne (show i ≠ j from fun e => h (by rw [e]; exact hj))]
def SS (K : PySem.W.Frag) (js : List Nat) (t : TS) (s : SDen) : Prop := ∀ (σ : L2.St) (Γ : Env) (f : Flw) (Γ' : Env), s Γ = .ok f Γ' → ∀ (Hf H : Hp) (fp : List Addr), EnvR K Hf H σ Γ fp → Wd K Hf H fp →
  ∀ Dn : Ends, (∀ σ' Hf' H' fp' ft, EnvR K Hf' H' σ' Γ' fp' → Wd K Hf' H' (fp' ++ ft) → Step Hf H fp Hf' H' (fp' ++ ft) → Pin js σ σ' → PostF K Dn f σ' Hf' H' ft) → t Dn σ H
def sNext : SDen := fun Γ => .ok .next Γ
def sSeq (a b : SDen) : SDen := fun Γ => match a Γ with
  | .ok .next Γ1 => b Γ1
  | .ok f Γ1 => .ok f Γ1
  | .exc x Γ1 => .exc x Γ1
  | .stuck => .stuck
section
variable {K : PySem.W.Frag} {js : List Nat} {t u : TS} {a b : SDen}
theorem ss_next : SS K js tNext sNext := by
  intro σ Γ f Γ' he Hf H fp E w Dn q
  cases he
  exact q σ Hf H fp [] E (by simpa using w) (by simpa using Step.refl _ _ _) (Pin.refl _ _) rfl
theorem ss_seq (ha : SS K js t a) (hb : SS K js u b) : SS K js (tSeq t u) (sSeq a b) := by
  intro σ Γ f Γ' he Hf H fp E w Dn q
  unfold sSeq at he
  split at he
  · rename_i Γ1 h1
    refine ha σ Γ _ Γ1 h1 Hf H fp E w _ fun σ1 Hf1 H1 fp1 ft E1 w1 s1 p1 e => ?_
    subst e
    simp at w1 s1
    exact hb σ1 Γ1 f Γ' he Hf1 H1 fp1 E1 w1 Dn fun σ2 Hf2 H2 fp2 ft E2 w2 s2 p2 => q σ2 Hf2 H2 fp2 ft E2 w2 (s1.trans s2) (p1.trans p2)
  · rename_i f1 Γ1 hn h1
    cases he
    refine ha σ Γ _ Γ' h1 Hf H fp E w _ fun σ1 Hf1 H1 fp1 ft E1 w1 s1 p1 => ?_
    have := q σ1 Hf1 H1 fp1 ft E1 w1 s1 p1
    cases f with
    | next => exact (hn rfl).elim
    | ret t => exact this
    | brk => exact this
    | cont => exact this
  · cases he
  · cases he
end
/-- x = e -/
def sAsg (i : Nat) (e : Den) : SDen := bindO e fun r Γ => match r with
  | .frz d => .ok .next (Γ.set i (some (.frz d)))
  | .own t => .ok .next (Γ.set i (some t))
  | .loc j => liftO (r.get Γ) fun d => .ok .next ((Γ.set j (some (.frz d))).set i (some (.frz d)))
theorem ss_asg {K : PySem.W.Frag} {js : List Nat} {te : TE} {e : Den} {i : Nat} {n : Nat} (h : SE K te e) (hi : i ∉ js) : SS K js (tAsg te (gName i)) (sAsg i e) := by
  intro σ Γ f Γ' he Hf H fp E w Dn q
  obtain ⟨r, Γ1, h1, he⟩ := bindO_ok he
  refine h σ Γ r Γ1 h1 Hf H fp E w _ fun v Hf1 H1 fp1 ft E1 w1 s1 res => ?_
  have hp := Pin.set (σ := σ) (s := some v) hi
  -- the store itself
  have store : ∀ {Γ2 : Env} {Hf2 : Hp} {fp2 f1 : List Addr} {t : T}, EnvR K Hf2 H1 σ Γ2 fp2 → Wd K Hf2 H1 (fp2 ++ f1) → Own K Hf2 H1 t v f1 → Step Hf H fp Hf2 H1 (fp2 ++ f1) → Γ' = Γ2.set i (some t) → f = .next → gName i v σ H1 Dn.nx := by
    intro Γ2 Hf2 fp2 f1 t E2 w2 o s2 e ef
    subst e ef
    by_cases hl : i < Γ2.length
    · have w3 := w2.perm (List.perm_append_comm (l₁ := f1) (l₂ := fp2))
      obtain ⟨f2, E3, n3, m3⟩ := E2.put hl o w3.nd
      have hm : ∀ a ∈ f2, a ∈ fp2 ++ f1 := fun a ha => by
        rcases m3 a ha with z | z
        · simp [z]
        · simp [z]
      refine q _ Hf2 H1 f2 [] E3 ⟨w2.same, by simpa using n3, fun a ha => w2.nf a (hm a (by simpa using ha))⟩ (s2.trans ?_) hp rfl
      rw [List.append_nil]
      exact Step.sub hm
    · -- no such slot: nothing is kept of it
      have e1 : Γ2.set i (some t) = Γ2 := List.set_eq_of_length_le (by omega)
      have e2 : σ.set i (some v) = σ := List.set_eq_of_length_le (by have := E2.len; omega)
      rw [e1] at q
      refine q _ Hf2 H1 fp2 [] (by rw [e2]; exact E2) (by simpa using w2.left) (s2.trans ?_) hp rfl
      rw [List.append_nil]
      exact Step.sub fun a ha => by simp [ha]
  cases r with
  | frz d =>
    obtain ⟨r, rfl⟩ := res
    cases he
    exact store E1 w1 (.frz r) s1 rfl rfl
  | own t =>
    cases he
    exact store E1 w1 res s1 rfl rfl
  | loc j =>
    obtain ⟨hv, rfl⟩ := res
    obtain ⟨d, g, he⟩ := liftO_ok he
    cases he
    simp at w1 s1
    unfold R.get at g
    simp only at g
    split at g
    · rename_i t0 hj
      obtain ⟨v', Hf2, fp2, hv', hr, E2, w2, s2⟩ := E1.freeze w1 hj g
      rw [hv] at hv'; cases hv'
      exact store E2 (by simpa using w2) (.frz hr) (by simpa using s1.trans s2) rfl rfl
    · cases g
/-- an expression alone; return -/
def sDrop (e : Den) : SDen := bindO e fun _ Γ => .ok .next Γ
theorem ss_drop {K : PySem.W.Frag} {js : List Nat} {te : TE} {e : Den} (h : SE K te e) : SS K js (tDrop te) (sDrop e) := by
  intro σ Γ f Γ' he Hf H fp E w Dn q
  obtain ⟨r, Γ1, h1, he⟩ := bindO_ok he
  cases he
  exact h σ Γ r _ h1 Hf H fp E w _ fun v Hf1 H1 fp1 ft E1 w1 s1 res => q σ Hf1 H1 fp1 [] E1 (by simpa using w1.left) (by rw [List.append_nil]; exact s1.trans (Step.sub fun a ha => by simp [ha])) (Pin.refl _ _) rfl
def sRet (e : Den) : SDen := bindO e fun r Γ => match r with
  | .frz d => .ok (.ret (.frz d)) Γ
  | .own t => .ok (.ret t) Γ
  | .loc j => match Γ[j]? with
    | some (some t) => .ok (.ret t) (Γ.set j none)
    | _ => .stuck
theorem ss_ret {K : PySem.W.Frag} {js : List Nat} {te : TE} {e : Den} (h : SE K te e) : SS K js (tRet te) (sRet e) := by
  intro σ Γ f Γ' he Hf H fp E w Dn q
  obtain ⟨r, Γ1, h1, he⟩ := bindO_ok he
  refine h σ Γ r Γ1 h1 Hf H fp E w _ fun v Hf1 H1 fp1 ft E1 w1 s1 res => ?_
  cases r with
  | frz d =>
    obtain ⟨r, rfl⟩ := res
    cases he
    exact q σ Hf1 H1 fp1 [] E1 w1 s1 (Pin.refl _ _) v (.frz r)
  | own t =>
    cases he
    exact q σ Hf1 H1 fp1 ft E1 w1 s1 (Pin.refl _ _) v res
  | loc j =>
    obtain ⟨hv, rfl⟩ := res
    simp only at he
    split at he
    · rename_i t0 hj
      cases he
      simp at w1 s1
      obtain ⟨v', f1, f2, hv', o, E2, p⟩ := E1.split hj
      rw [hv] at hv'; cases hv'
      have p2 : (f2 ++ f1).Perm fp1 := List.perm_append_comm.trans p
      exact q σ Hf1 H1 f2 f1 E2 (w1.perm p2) (s1.trans (Step.sub fun a ha => p2.mem_iff.mp ha)) (Pin.refl _ _) v o
    · cases he
def sRetN : SDen := fun Γ => .ok (.ret (.frz .non)) Γ
theorem ss_retN {K : PySem.W.Frag} {js : List Nat} : SS K js tRetN sRetN := by
  intro σ Γ f Γ' he Hf H fp E w Dn q
  cases he
  exact q σ Hf H fp [] E (by simpa using w) (by simpa using Step.refl _ _ _) (Pin.refl _ _) .non (.frz (by simp only [Rep]))
def sIf (c : DenT) (a b : SDen) : SDen := bindO c fun c Γ => if c = true then a Γ else b Γ
theorem ss_if {K : PySem.W.Frag} {js : List Nat} {t : TT} {c : DenT} {tu tw : TS} {a b : SDen} (hc : ST K t c) (ha : SS K js tu a) (hb : SS K js tw b) : SS K js (tIfS t tu tw) (sIf c a b) := by
  intro σ Γ f Γ' he Hf H fp E w Dn q
  obtain ⟨c1, Γ1, h1, h2⟩ := bindO_ok he
  refine hc σ Γ c1 Γ1 h1 Hf H fp E w _ fun Hf1 H1 fp1 E1 w1 s1 => ?_
  cases c1 with
  | true => exact ha σ Γ1 f Γ' h2 Hf1 H1 fp1 E1 w1 Dn fun σ2 Hf2 H2 fp2 ft E2 w2 s2 p2 => q σ2 Hf2 H2 fp2 ft E2 w2 (s1.trans s2) p2
  | false => exact hb σ Γ1 f Γ' h2 Hf1 H1 fp1 E1 w1 Dn fun σ2 Hf2 H2 fp2 ft E2 w2 s2 p2 => q σ2 Hf2 H2 fp2 ft E2 w2 (s1.trans s2) p2
/-- what is never come to -/
def sNever : SDen := fun _ => .stuck
theorem ss_never {K : PySem.W.Frag} {js : List Nat} : SS K js tNever sNever := by
  intro σ Γ f Γ' he
  cases he
def sBrk : SDen := fun Γ => .ok .brk Γ
def sCont : SDen := fun Γ => .ok .cont Γ
theorem ss_brk {K : PySem.W.Frag} {js : List Nat} : SS K js tBreak sBrk := by
  intro σ Γ f Γ' he Hf H fp E w Dn q
  cases he
  exact q σ Hf H fp [] E (by simpa using w) (by simpa using Step.refl _ _ _) (Pin.refl _ _) rfl
theorem ss_cont {K : PySem.W.Frag} {js : List Nat} : SS K js tCont sCont := by
  intro σ Γ f Γ' he Hf H fp E w Dn q
  cases he
  exact q σ Hf H fp [] E (by simpa using w) (by simpa using Step.refl _ _ _) (Pin.refl _ _) rfl

/-! ### while -/
def fuel : Nat := 1000000000000
def whileN (c : DenT) (b : SDen) : Nat → Env → Out Flw
  | 0, _ => .stuck
  | n + 1, Γ => match c Γ with
    | .ok true Γ1 => match b Γ1 with
      | .ok .next Γ2 => whileN c b n Γ2
      | .ok .cont Γ2 => whileN c b n Γ2
      | .ok .brk Γ2 => .ok .next Γ2
      | .ok (.ret t) Γ2 => .ok (.ret t) Γ2
      | .exc x Γ2 => .exc x Γ2
      | .stuck => .stuck
    | .ok false Γ1 => .ok .next Γ1
    | .exc x Γ1 => .exc x Γ1
    | .stuck => .stuck
def sWhile (c : DenT) (b : SDen) : SDen := whileN c b fuel
theorem ss_while {K : PySem.W.Frag} {js : List Nat} {t : TT} {c : DenT} {tb : TS} {b : SDen} (hc : ST K t c) (hb : SS K js tb b) : SS K js (tWhile t tb) (sWhile c b) := by
  intro σ0 Γ0 f Γ' he Hf0 H0 fp0 E0 w0 Dn q
  refine ⟨fun n σ H => ∃ Γ Hf fp, whileN c b n Γ = .ok f Γ' ∧ EnvR K Hf H σ Γ fp ∧ Wd K Hf H fp ∧ Step Hf0 H0 fp0 Hf H fp ∧ Pin js σ0 σ, ⟨fuel, Γ0, Hf0, fp0, he, E0, w0, Step.refl _ _ _, Pin.refl _ _⟩, ?_⟩
  rintro n σ H ⟨Γ, Hf, fp, he, E, w, s, p⟩
  cases n with
  | zero => cases he
  | succ n =>
    simp only [whileN] at he
    split at he
    · rename_i Γ1 h1
      refine hc σ Γ true Γ1 h1 Hf H fp E w _ fun Hf1 H1 fp1 E1 w1 s1 => ?_
      rw [if_pos rfl]
      refine ⟨fun σ' H' => ∃ m', m' < n + 1 ∧ ∃ Γ Hf fp, whileN c b m' Γ = .ok f Γ' ∧ EnvR K Hf H' σ' Γ fp ∧ Wd K Hf H' fp ∧ Step Hf0 H0 fp0 Hf H' fp ∧ Pin js σ0 σ', fun σ' H' h => h, ?_⟩
      split at he
      · rename_i Γ2 h2
        refine hb σ Γ1 _ Γ2 h2 Hf1 H1 fp1 E1 w1 _ fun σ2 Hf2 H2 fp2 ft E2 w2 s2 p2 e => ?_
        subst e
        simp at w2 s2
        exact ⟨n, by omega, Γ2, Hf2, fp2, he, E2, w2, (s.trans s1).trans s2, p.trans p2⟩
      · rename_i Γ2 h2
        refine hb σ Γ1 _ Γ2 h2 Hf1 H1 fp1 E1 w1 _ fun σ2 Hf2 H2 fp2 ft E2 w2 s2 p2 e => ?_
        subst e
        simp at w2 s2
        exact ⟨n, by omega, Γ2, Hf2, fp2, he, E2, w2, (s.trans s1).trans s2, p.trans p2⟩
      · rename_i Γ2 h2
        cases he
        exact hb σ Γ1 _ Γ' h2 Hf1 H1 fp1 E1 w1 _ fun σ2 Hf2 H2 fp2 ft E2 w2 s2 p2 e => q σ2 Hf2 H2 fp2 ft E2 w2 ((s.trans s1).trans s2) (p.trans p2) e
      · rename_i t2 Γ2 h2
        cases he
        exact hb σ Γ1 _ Γ' h2 Hf1 H1 fp1 E1 w1 _ fun σ2 Hf2 H2 fp2 ft E2 w2 s2 p2 => q σ2 Hf2 H2 fp2 ft E2 w2 ((s.trans s1).trans s2) (p.trans p2)
      · cases he
      · cases he
    · rename_i Γ1 h1
      cases he
      refine hc σ Γ false Γ' h1 Hf H fp E w _ fun Hf1 H1 fp1 E1 w1 s1 => ?_
      rw [if_neg Bool.false_ne_true]
      exact q σ Hf1 H1 fp1 [] E1 (by simpa using w1) (by simpa using s.trans s1) p rfl
    · cases he
    · cases he

/-! ### targets -/
abbrev Put := D → Env → Option Env
def SG (K : PySem.W.Frag) (g : TG) (put : Put) (ks : List Nat) : Prop := ∀ (σ : L2.St) (Γ : Env) (d : D) (Γ' : Env), put d Γ = some Γ' → ∀ (Hf H : Hp) (fp : List Addr) (v : V), EnvR K Hf H σ Γ fp → Wd K Hf H fp → Rep K Hf d v →
  ∀ Q : L2.St → Hp → Prop, (∀ σ' fp', EnvR K Hf H σ' Γ' fp' → Wd K Hf H fp' → (∀ a ∈ fp', a ∈ fp) → (∀ i, i ∉ ks → σ'[i]? = σ[i]?) → σ'.length = σ.length → Q σ' H) → g v σ H Q
def putN (i : Nat) : Put := fun d Γ => some (Γ.set i (some (.frz d)))
theorem EnvR.putF {K : PySem.W.Frag} {Hf H : Hp} {σ : L2.St} {Γ : Env} {fp : List Addr} {i : Nat} {d : D} {v : V} (E : EnvR K Hf H σ Γ fp) (w : Wd K Hf H fp) (r : Rep K Hf d v) : ∃ fp', EnvR K Hf H (σ.set i (some v)) (Γ.set i (some (.frz d))) fp' ∧ Wd K Hf H fp' ∧ ∀ a ∈ fp', a ∈ fp := by
  by_cases hl : i < Γ.length
  · obtain ⟨f2, E3, n3, m3⟩ := E.put hl (.frz r) (by simpa using w.nd)
    have hm : ∀ a ∈ f2, a ∈ fp := fun a ha => by simpa using m3 a ha
    exact ⟨f2, E3, ⟨w.same, n3, fun a ha => w.nf a (hm a ha)⟩, hm⟩
  · have e1 : Γ.set i (some (.frz d)) = Γ := List.set_eq_of_length_le (by omega)
    have e2 : σ.set i (some v) = σ := List.set_eq_of_length_le (by have := E.len; omega)
    rw [e1, e2]
    exact ⟨fp, E, w, fun _ h => h⟩
theorem sg_name {K : PySem.W.Frag} {i : Nat} : SG K (gName i) (putN i) [i] := by
  intro σ Γ d Γ' he Hf H fp v E w r Q q
  cases he
  obtain ⟨fp', E', w', hm⟩ := E.putF (i := i) w r
  exact q _ fp' E' w' hm (fun j hj => by rw [List.getElem?_set_ne (show i ≠ j from fun e => hj (by simp [e]))]) (by rw [List.length_set])
/-- a, b, .. = t -/
abbrev PutL := List D → Env → Option Env
def SGs (K : PySem.W.Frag) (g : TGs) (put : PutL) (ks : List Nat) : Prop := ∀ (σ : L2.St) (Γ : Env) (ds : List D) (Γ' : Env), put ds Γ = some Γ' → ∀ (Hf H : Hp) (fp : List Addr) (vs : List V), EnvR K Hf H σ Γ fp → Wd K Hf H fp → RepL K Hf ds vs →
  ∀ Q : L2.St → Hp → Prop, (∀ σ' fp', EnvR K Hf H σ' Γ' fp' → Wd K Hf H fp' → (∀ a ∈ fp', a ∈ fp) → (∀ i, i ∉ ks → σ'[i]? = σ[i]?) → σ'.length = σ.length → Q σ' H) → g vs σ H Q
def putL0 : PutL := fun ds Γ => match ds with
  | [] => some Γ
  | _ => none
def putLc (p : Put) (q : PutL) : PutL := fun ds Γ => match ds with
  | d :: ds => match p d Γ with
    | some Γ1 => q ds Γ1
    | none => none
  | [] => none
theorem sgs_nil {K : PySem.W.Frag} : SGs K gNil putL0 [] := by
  intro σ Γ ds Γ' he Hf H fp vs E w r Q q
  unfold putL0 at he
  split at he
  · cases he
    simp only [RepL] at r
    exact ⟨r, q σ fp E w (fun _ h => h) (fun _ _ => rfl) rfl⟩
  · cases he
theorem sgs_cons {K : PySem.W.Frag} {g : TG} {u : TGs} {p : Put} {q : PutL} {ks ls : List Nat} (hg : SG K g p ks) (hu : SGs K u q ls) : SGs K (gCons g u) (putLc p q) (ks ++ ls) := by
  intro σ Γ ds Γ' he Hf H fp vs E w r Q k
  unfold putLc at he
  split at he
  · rename_i d ds
    split at he
    · rename_i Γ1 h1
      simp only [RepL] at r
      obtain ⟨v, ws, rfl, r1, r2⟩ := r
      refine ⟨v, ws, rfl, hg σ Γ d Γ1 h1 Hf H fp v E w r1 _ fun σ1 fp1 E1 w1 m1 o1 l1 => ?_⟩
      exact hu σ1 Γ1 ds Γ' he Hf H fp1 ws E1 w1 r2 Q fun σ2 fp2 E2 w2 m2 o2 l2 => k σ2 fp2 E2 w2 (fun a ha => m1 a (m2 a ha)) (fun i hi => by
        simp only [List.mem_append, not_or] at hi
        rw [o2 i hi.2, o1 i hi.1]) (l2.trans l1)
    · cases he
  · cases he
def putT (q : PutL) : Put := fun d Γ => match d with
  | .tup ds => q ds Γ
  | _ => none
theorem putLc_len {p : Put} {q : PutL} {n : Nat} (h : ∀ ds Γ Γ', q ds Γ = some Γ' → ds.length = n) : ∀ ds Γ Γ', putLc p q ds Γ = some Γ' → ds.length = n + 1 := by
  intro ds Γ Γ' e
  unfold putLc at e
  split at e
  · split at e
    · simp [h _ _ _ e]
    · cases e
  · cases e
theorem putL0_len : ∀ ds Γ Γ', putL0 ds Γ = some Γ' → ds.length = 0 := by
  intro ds Γ Γ' e
  unfold putL0 at e
  split at e
  · rfl
  · cases e
theorem sg_tup {K : PySem.W.Frag} {n : Nat} {g : TGs} {q : PutL} {ks : List Nat} (hg : SGs K g q ks) (hn : ∀ ds Γ Γ', q ds Γ = some Γ' → ds.length = n) : SG K (gTup K n g) (putT q) ks := by
  intro σ Γ d Γ' he Hf H fp v E w r Q k
  unfold putT at he
  split at he
  · rename_i ds
    simp only [Rep] at r
    obtain ⟨a, xs, rfl, ha, ra⟩ := r
    exact ⟨a, xs, rfl, (Ext.of w.same).seqT ha, by rw [ra.len]; exact hn ds Γ Γ' he, hg σ Γ ds Γ' he Hf H fp xs E w ra Q k⟩
  · cases he
/-- target = e -/
def sAsgG (put : Put) (e : Den) : SDen := bindO (dV e) fun d Γ => liftO (put d Γ) fun Γ1 => .ok .next Γ1
theorem ss_asgG {K : PySem.W.Frag} {js : List Nat} {te : TE} {e : Den} {g : TG} {put : Put} {ks : List Nat} (h : SE K te e) (hg : SG K g put ks) (hi : ∀ i ∈ js, i ∉ ks) : SS K js (tAsg te g) (sAsgG put e) := by
  intro σ Γ f Γ' he Hf H fp E w Dn q
  obtain ⟨d, Γ1, h1, he⟩ := bindO_ok he
  obtain ⟨Γ2, h2, he⟩ := liftO_ok he
  cases he
  refine SV.of h σ Γ d Γ1 h1 Hf H fp E w _ fun v Hf1 H1 fp1 E1 w1 s1 r1 => ?_
  exact hg σ Γ1 d _ h2 Hf1 H1 fp1 v E1 w1 r1 _ fun σ' fp' E' w' m' o' l' => q σ' Hf1 H1 fp' [] E' (by simpa using w') (by simpa using s1.trans (Step.sub m')) (fun i hj => o' i (hi i hj)) rfl
end Fw
namespace Fw
open PySem L2

/-! ### what is walked -/
def ItOk (K : PySem.W.Frag) (Hf0 H0 : Hp) (fp0 : List Addr) (J : It) (ds : List D) : Prop := ∀ (i : Nat) (Hf H : Hp), Ext Hf0 Hf → Same Hf H → (∀ a o, a ∉ fp0 → H0 a = some o → H a = some o) →
  (ds.length ≤ i → J.stop i H) ∧ ∀ d, ds[i]? = some d → J.go i H ∧ ∀ x H', J.yld i H x H' → ∃ z, z.toR = .frz d ∧ Made K Hf H z x H'
def SI (K : PySem.W.Frag) (wi : TI) (it : Env → Out (List D)) : Prop := ∀ (σ : L2.St) (Γ : Env) (ds : List D) (Γ' : Env), it Γ = .ok ds Γ' → ∀ (Hf H : Hp) (fp : List Addr), EnvR K Hf H σ Γ fp → Wd K Hf H fp →
  ∀ R : It → Hp → Prop, (∀ J Hf' H' fp', EnvR K Hf' H' σ Γ' fp' → Wd K Hf' H' fp' → Step Hf H fp Hf' H' fp' → ItOk K Hf' H' fp' J ds → R J H') → wi σ H R
def forL (put : Put) (b : SDen) : List D → Env → Out Flw
  | [], Γ => .ok .next Γ
  | d :: ds, Γ => match put d Γ with
    | none => .stuck
    | some Γ1 => match b Γ1 with
      | .ok .next Γ2 => forL put b ds Γ2
      | .ok .cont Γ2 => forL put b ds Γ2
      | .ok .brk Γ2 => .ok .next Γ2
      | .ok (.ret t) Γ2 => .ok (.ret t) Γ2
      | .exc x Γ2 => .exc x Γ2
      | .stuck => .stuck
def sFor (it : Env → Out (List D)) (put : Put) (b : SDen) : SDen := bindO it (forL put b)
theorem Made.frz {K : PySem.W.Frag} {Hf H : Hp} {σ : L2.St} {Γ : Env} {fp : List Addr} {z : Z} {d : D} {v : V} {H' : Hp} (E : EnvR K Hf H σ Γ fp) (w : Wd K Hf H fp) (hz : z.toR = .frz d) (m : Made K Hf H z v H') :
    ∃ Hf', EnvR K Hf' H' σ Γ fp ∧ Wd K Hf' H' fp ∧ Step Hf H fp Hf' H' fp ∧ Rep K Hf' d v := by
  obtain ⟨Hf', ft, E', w', s', r⟩ := m.res E w
  rw [hz] at r
  obtain ⟨r, rfl⟩ := r
  exact ⟨Hf', E', by simpa using w', by simpa using s', r⟩
theorem for_core {K : PySem.W.Frag} {js : List Nat} {g : TG} {put : Put} {ks : List Nat} {tb : TS} {b : SDen} (hg : SG K g put ks) (hb : SS K js tb b) (hk : ∀ i ∈ js, i ∉ ks)
    {σ0 : L2.St} {Γ1 Γ' : Env} {f : Flw} {ds : List D} (he : forL put b ds Γ1 = .ok f Γ') {Hf1 H1 : Hp} {fp1 : List Addr} (E1 : EnvR K Hf1 H1 σ0 Γ1 fp1) (w1 : Wd K Hf1 H1 fp1) {J : It} (itok : ItOk K Hf1 H1 fp1 J ds)
    {Dn : Ends} (q : ∀ σ' Hf' H' fp' ft, EnvR K Hf' H' σ' Γ' fp' → Wd K Hf' H' (fp' ++ ft) → Step Hf1 H1 fp1 Hf' H' (fp' ++ ft) → Pin js σ0 σ' → PostF K Dn f σ' Hf' H' ft) :
    ∃ W : Nat → Nat → L2.St → Hp → Prop, (∃ m, W 0 m σ0 H1) ∧ ∀ i m σ H, W i m σ H →
      (J.stop i H ∧ Dn.nx σ H) ∨ (J.go i H ∧ ∃ N : L2.St → Hp → Prop, (∀ σ' H', N σ' H' → ∃ m', m' < m ∧ W (i + 1) m' σ' H') ∧ ∀ x H', J.yld i H x H' → g x σ H' fun σ2 H2 => tb { Dn with nx := N, ct := N, bk := Dn.nx } σ2 H2) := by
  refine ⟨fun i m σ H => m = ds.length - i ∧ i ≤ ds.length ∧ ∃ Γ Hf fp, forL put b (ds.drop i) Γ = .ok f Γ' ∧ EnvR K Hf H σ Γ fp ∧ Wd K Hf H fp ∧ Step Hf1 H1 fp1 Hf H fp ∧ Pin js σ0 σ, ⟨_, rfl, Nat.zero_le _, Γ1, Hf1, fp1, by simpa using he, E1, w1, Step.refl _ _ _, Pin.refl _ _⟩, ?_⟩
  rintro i m σ H ⟨rfl, hil, Γ, Hf, fp, he, E, w, s, p⟩
  have ok := itok i Hf H s.ext w.same fun a o ha e => s.keep a o ha e
  by_cases hlt : i < ds.length
  · right
    have hd : ds[i]? = some ds[i] := List.getElem?_eq_getElem hlt
    obtain ⟨go, yl⟩ := ok.2 _ hd
    have hdr : ds.drop i = ds[i] :: ds.drop (i + 1) := List.drop_eq_getElem_cons hlt
    rw [hdr] at he
    simp only [forL] at he
    split at he
    · cases he
    · rename_i Γ2 h2
      refine ⟨go, fun σ' H' => ∃ Γ Hf fp, forL put b (ds.drop (i + 1)) Γ = .ok f Γ' ∧ EnvR K Hf H' σ' Γ fp ∧ Wd K Hf H' fp ∧ Step Hf1 H1 fp1 Hf H' fp ∧ Pin js σ0 σ', fun σ' H' h => ⟨ds.length - (i + 1), by omega, rfl, hlt, h⟩, fun x H' y => ?_⟩
      obtain ⟨z, hz, mz⟩ := yl x H' y
      obtain ⟨Hf2, E2, w2, s2, r2⟩ := mz.frz E w hz
      refine hg σ Γ ds[i] Γ2 h2 Hf2 H' fp x E2 w2 r2 _ fun σ3 fp3 E3 w3 m3 o3 l3 => ?_
      have s3 := (s.trans s2).trans (Step.sub m3)
      have p3 : Pin js σ0 σ3 := p.trans fun j hj => o3 j (hk j hj)
      split at he
      · rename_i Γ4 h4
        exact hb σ3 Γ2 _ Γ4 h4 Hf2 H' fp3 E3 w3 _ fun σ4 Hf4 H4 fp4 ft E4 w4 s4 p4 e => by
          subst e
          simp at w4 s4
          exact ⟨Γ4, Hf4, fp4, he, E4, w4, s3.trans s4, p3.trans p4⟩
      · rename_i Γ4 h4
        exact hb σ3 Γ2 _ Γ4 h4 Hf2 H' fp3 E3 w3 _ fun σ4 Hf4 H4 fp4 ft E4 w4 s4 p4 e => by
          subst e
          simp at w4 s4
          exact ⟨Γ4, Hf4, fp4, he, E4, w4, s3.trans s4, p3.trans p4⟩
      · rename_i Γ4 h4
        cases he
        exact hb σ3 Γ2 _ Γ' h4 Hf2 H' fp3 E3 w3 _ fun σ4 Hf4 H4 fp4 ft E4 w4 s4 p4 e => q σ4 Hf4 H4 fp4 ft E4 w4 (s3.trans s4) (p3.trans p4) e
      · rename_i t4 Γ4 h4
        cases he
        exact hb σ3 Γ2 _ Γ' h4 Hf2 H' fp3 E3 w3 _ fun σ4 Hf4 H4 fp4 ft E4 w4 s4 p4 => q σ4 Hf4 H4 fp4 ft E4 w4 (s3.trans s4) (p3.trans p4)
      · cases he
      · cases he
  · left
    have hdr : ds.drop i = [] := List.drop_eq_nil_of_le (by omega)
    rw [hdr] at he
    cases he
    exact ⟨ok.1 (by omega), q σ Hf H fp [] E (by simpa using w) (by simpa using s) p rfl⟩
theorem ss_for {K : PySem.W.Frag} {js : List Nat} {wi : TI} {it : Env → Out (List D)} {g : TG} {put : Put} {ks : List Nat} {tb : TS} {b : SDen} (hi : SI K wi it) (hg : SG K g put ks) (hb : SS K js tb b) (hk : ∀ i ∈ js, i ∉ ks) : SS K js (tFor wi g tb) (sFor it put b) := by
  intro σ0 Γ0 f Γ' he Hf0 H0 fp0 E0 w0 Dn q
  obtain ⟨ds, Γ1, h1, he⟩ := bindO_ok he
  refine hi σ0 Γ0 ds Γ1 h1 Hf0 H0 fp0 E0 w0 _ fun J Hf1 H1 fp1 E1 w1 s1 itok => ?_
  exact for_core hg hb hk he E1 w1 itok fun σ' Hf' H' fp' ft E w s p => q σ' Hf' H' fp' ft E w (s1.trans s) p

/-- a list, a tuple; range; enumerate; zip -/
def iLst (e : Den) : Env → Out (List D) := bindO (dV e) fun d Γ => match d with
  | .lst ds => .ok ds Γ
  | .scr ds => .ok ds Γ
  | _ => .stuck
theorem si_lst {K : PySem.W.Frag} {te : TE} {e : Den} (h : SE K te e) : SI K (iList K te) (iLst e) := by
  intro σ Γ ds Γ' he Hf H fp E w R q
  obtain ⟨d, Γ1, h1, he⟩ := bindO_ok he
  refine SV.of h σ Γ d Γ1 h1 Hf H fp E w _ fun v Hf1 H1 fp1 E1 w1 s1 r1 => ?_
  have fin : ∀ {a : Addr} {xs : List V}, (∀ Hf H, Ext Hf1 Hf → Same Hf H → SqL K H a xs) → RepL K Hf1 ds xs → v = .ref a → Γ1 = Γ' → ∃ a, v = .ref a ∧ (∃ xs, SqL K H1 a xs) ∧ R (Itl K a) H1 := by
    intro a xs hs hr hv hΓ
    subst hΓ
    refine ⟨a, hv, ⟨xs, hs Hf1 H1 (Ext.refl _) w1.same⟩, q _ Hf1 H1 fp1 E1 w1 s1 fun i Hf2 H2 e2 sm _ => ⟨fun hi => ⟨xs, hs Hf2 H2 e2 sm, by rw [hr.len]; exact hi⟩, fun d hd => ?_⟩⟩
    obtain ⟨x, hx, rx⟩ := hr.get hd
    refine ⟨⟨xs, x, hs Hf2 H2 e2 sm, hx⟩, fun y H' hy => ⟨.val d, rfl, hy.1, ?_⟩⟩
    have := hy.2 xs (hs Hf2 H2 e2 sm)
    rw [hx] at this; cases this
    exact Rep.ext e2 _ _ rx
  split at he
  · cases he
    simp only [Rep] at r1
    obtain ⟨a, xs, rfl, ha, ra⟩ := r1
    exact fin (fun Hf2 H2 e2 sm => .inl (.inl (sm _ _ (e2.obj _ _ ha rfl)))) ra rfl rfl
  · cases he
    simp only [Rep] at r1
    obtain ⟨a, xs, rfl, ha, ra⟩ := r1
    exact fin (fun Hf2 H2 e2 sm => (Ext.of sm).seqL (e2.seqL ha)) ra rfl rfl
  · cases he
def iTupD (e : Den) : Env → Out (List D) := bindO (dV e) fun d Γ => match d with
  | .tup ds => .ok ds Γ
  | _ => .stuck
theorem si_tup {K : PySem.W.Frag} {te : TE} {e : Den} (h : SE K te e) : SI K (iTup K te) (iTupD e) := by
  intro σ Γ ds Γ' he Hf H fp E w R q
  obtain ⟨d, Γ1, h1, he⟩ := bindO_ok he
  refine SV.of h σ Γ d Γ1 h1 Hf H fp E w _ fun v Hf1 H1 fp1 E1 w1 s1 r1 => ?_
  split at he
  · cases he
    simp only [Rep] at r1
    obtain ⟨a, xs, rfl, ha, ra⟩ := r1
    have hs : ∀ Hf H, Ext Hf1 Hf → Same Hf H → SqT K H a xs := fun Hf2 H2 e2 sm => (Ext.of sm).seqT (e2.seqT ha)
    refine ⟨a, rfl, ⟨xs, hs Hf1 H1 (Ext.refl _) w1.same⟩, q _ Hf1 H1 fp1 E1 w1 s1 fun i Hf2 H2 e2 sm _ => ⟨fun hi => ⟨xs, hs Hf2 H2 e2 sm, by rw [ra.len]; exact hi⟩, fun d hd => ?_⟩⟩
    obtain ⟨x, hx, rx⟩ := ra.get hd
    refine ⟨⟨xs, x, hs Hf2 H2 e2 sm, hx⟩, fun y H' hy => ⟨.val d, rfl, hy.1, ?_⟩⟩
    have := hy.2 xs (hs Hf2 H2 e2 sm)
    rw [hx] at this; cases this
    exact Rep.ext e2 _ _ rx
  · cases he
/-- lo, lo + c, .. -/
def rngD (lo c : Int) (n : Nat) : List D := (List.range n).map fun (i : Nat) => D.int (lo + (i : Int) * c)
def smallI (i : Int) : Bool := decide (-(2 ^ 60) ≤ i) && decide (i ≤ 2 ^ 60)
def intD : D → Option Int
  | .int i => some i
  | _ => none
theorem intD_eq {d : D} {i : Int} (h : intD d = some i) : d = .int i := by
  unfold intD at h
  split at h
  · cases h; rfl
  · cases h
def iR1 (e : Den) : Env → Out (List D) := bindO (dV e) fun d Γ => liftO (intD d) fun j => if smallI j then .ok (rngD 0 1 j.toNat) Γ else .stuck
def iR2 (e e2 : Den) : Env → Out (List D) := bindO (dV e) fun d => bindO (dV e2) fun d2 Γ => liftO (intD d) fun i => liftO (intD d2) fun j => if smallI i && smallI j then .ok (rngD i 1 (j - i).toNat) Γ else .stuck
theorem rng_get {lo c : Int} {n i : Nat} {d : D} (h : (rngD lo c n)[i]? = some d) : i < n ∧ d = .int (lo + (i : Int) * c) := by
  unfold rngD at h
  rw [List.getElem?_map, Option.map_eq_some_iff] at h
  obtain ⟨j, hj, rfl⟩ := h
  by_cases hlt : i < n
  · rw [List.getElem?_range hlt] at hj; cases hj; exact ⟨hlt, rfl⟩
  · rw [List.getElem?_eq_none (by simpa using hlt)] at hj; cases hj
theorem rng_len {lo c : Int} {n : Nat} : (rngD lo c n).length = n := by simp [rngD]
theorem itok_rng {K : PySem.W.Frag} {Hf0 H0 : Hp} {fp0 : List Addr} {lo : Int} {n : Nat} : ItOk K Hf0 H0 fp0 (Itr lo n) (rngD lo 1 n) := by
  intro i Hf H _ _ _
  refine ⟨fun h => by rw [rng_len] at h; exact h, fun d hd => ?_⟩
  obtain ⟨h1, rfl⟩ := rng_get hd
  refine ⟨h1, fun x H' y => ⟨.val (.int (lo + (i : Int) * 1)), rfl, y.1, ?_⟩⟩
  simp only [Rep]
  rw [y.2, Int.mul_one]
theorem si_r1 {K : PySem.W.Frag} {te : TE} {e : Den} (h : SE K te e) : SI K (iRng1 (tCons te tNil)) (iR1 e) := by
  intro σ Γ ds Γ' he Hf H fp E w R q
  obtain ⟨d, Γ1, h1, he1⟩ := bindO_ok he
  clear he
  obtain ⟨j, g, he2⟩ := liftO_ok he1
  clear he1
  obtain rfl := intD_eq g
  split at he2
  case isFalse => cases he2
  rename_i hj
  cases he2
  unfold smallI at hj
  simp only [Bool.and_eq_true, decide_eq_true_eq] at hj
  refine SV.of h σ Γ _ _ h1 Hf H fp E w _ fun v Hf1 H1 fp1 E1 w1 s1 r1 => ?_
  simp only [Rep] at r1
  subst r1
  exact ⟨j, rfl, by omega, by omega, q _ Hf1 H1 fp1 E1 w1 s1 itok_rng⟩
theorem si_r2 {K : PySem.W.Frag} {te te2 : TE} {e e2 : Den} (h : SE K te e) (h2 : SE K te2 e2) : SI K (iRng2 (tCons te (tCons te2 tNil))) (iR2 e e2) := by
  intro σ Γ ds Γ' he Hf H fp E w R q
  obtain ⟨d, Γ1, g1, he1⟩ := bindO_ok he
  clear he
  obtain ⟨d2, Γ2, g2, he2⟩ := bindO_ok he1
  clear he1
  obtain ⟨i, g, he3⟩ := liftO_ok he2
  clear he2
  obtain ⟨j, g', he4⟩ := liftO_ok he3
  clear he3
  obtain rfl := intD_eq g
  obtain rfl := intD_eq g'
  split at he4
  case isFalse => cases he4
  rename_i hj
  cases he4
  unfold smallI at hj
  simp only [Bool.and_eq_true, decide_eq_true_eq] at hj
  refine SV.of h σ Γ _ _ g1 Hf H fp E w _ fun v Hf1 H1 fp1 E1 w1 s1 r1 => ?_
  refine SV.of h2 σ _ _ _ g2 Hf1 H1 fp1 E1 w1 _ fun v2 Hf2 H2 fp2 E2 w2 s2 r2 => ?_
  simp only [Rep] at r1 r2
  subst r1 r2
  exact ⟨i, j, rfl, ⟨by omega, by omega, by omega, by omega⟩, q _ Hf2 H2 fp2 E2 w2 (s1.trans s2) itok_rng⟩
/-- enumerate(list) -/
def enumD (k : Int) : List D → List D
  | [] => []
  | d :: ds => .tup [.int k, d] :: enumD (k + 1) ds
theorem enum_get : ∀ {ds : List D} {k : Int} {i : Nat} {d : D}, (enumD k ds)[i]? = some d → ∃ x, ds[i]? = some x ∧ d = .tup [.int (k + i), x]
  | [], _, _, _, h => by simp [enumD] at h
  | x :: ds, k, 0, d, h => by simp [enumD] at h; exact ⟨x, rfl, by simp [← h]⟩
  | x :: ds, k, i + 1, d, h => by
    simp only [enumD, List.getElem?_cons_succ] at h
    obtain ⟨y, h1, rfl⟩ := enum_get h
    refine ⟨y, by simpa using h1, ?_⟩
    have : k + 1 + (i : Int) = k + ((i + 1 : Nat) : Int) := by omega
    rw [this]
theorem enum_len : ∀ {ds : List D} {k : Int}, (enumD k ds).length = ds.length
  | [], _ => rfl
  | _ :: ds, k => by simp [enumD, enum_len (ds := ds)]
def iEnu (e : Den) : Env → Out (List D) := bindO (dV e) fun d Γ => match d with
  | .lst ds => .ok (enumD 0 ds) Γ
  | _ => .stuck
theorem si_enu {K : PySem.W.Frag} {te : TE} {e : Den} (h : SE K te e) : SI K (iEnum K (tCons te tNil)) (iEnu e) := by
  intro σ Γ ds Γ' he Hf H fp E w R q
  obtain ⟨d, Γ1, h1, he⟩ := bindO_ok he
  split at he
  · rename_i es
    cases he
    refine SV.of h σ Γ _ _ h1 Hf H fp E w _ fun v Hf1 H1 fp1 E1 w1 s1 r1 => ?_
    simp only [Rep] at r1
    obtain ⟨a, xs, rfl, ha, ra⟩ := r1
    have hs : ∀ Hf H, Ext Hf1 Hf → Same Hf H → SqL K H a xs := fun Hf2 H2 e2 sm => .inl (.inl (sm _ _ (e2.obj _ _ ha rfl)))
    refine ⟨a, xs, rfl, hs Hf1 H1 (Ext.refl _) w1.same, q _ Hf1 H1 fp1 E1 w1 s1 fun i Hf2 H2 e2 sm _ => ⟨fun hi => ?_, fun d hd => ?_⟩⟩
    · rw [enum_len] at hi
      exact ⟨xs, hs Hf2 H2 e2 sm, by rw [ra.len]; exact hi⟩
    · obtain ⟨x, hx, rfl⟩ := enum_get hd
      obtain ⟨y, hy, ry⟩ := ra.get hx
      refine ⟨⟨xs, y, hs Hf2 H2 e2 sm, hy⟩, fun z H' hz => ?_⟩
      obtain ⟨p, y', e1, hp, e2', f⟩ := hz
      have := f xs (hs Hf2 H2 e2 sm)
      rw [hy] at this; cases this
      refine ⟨.tup [.int (0 + (i : Int)), x], rfl, .inl ⟨p, _, hp, e1, e2', ?_⟩⟩
      simp only [RepL, Rep]
      exact ⟨_, _, rfl, by simp, _, _, rfl, Rep.ext e2 _ _ ry, rfl⟩
  · cases he
/-- zip(list, list) -/
def zipD : List D → List D → List D
  | a :: as, b :: bs => .tup [a, b] :: zipD as bs
  | _, _ => []
theorem zip_get : ∀ {as bs : List D} {i : Nat} {d : D}, (zipD as bs)[i]? = some d → ∃ x y, as[i]? = some x ∧ bs[i]? = some y ∧ d = .tup [x, y]
  | a :: as, b :: bs, 0, d, h => by simp [zipD] at h; exact ⟨a, b, rfl, rfl, h.symm⟩
  | a :: as, b :: bs, i + 1, d, h => by
    simp only [zipD, List.getElem?_cons_succ] at h
    simpa using zip_get h
  | [], _, _, _, h => by simp [zipD] at h
  | _ :: _, [], _, _, h => by simp [zipD] at h
theorem zip_len : ∀ {as bs : List D}, (zipD as bs).length = min as.length bs.length
  | a :: as, b :: bs => by simp [zipD, zip_len]
  | [], _ => by simp [zipD]
  | _ :: _, [] => by simp [zipD]
end Fw
namespace Fw
open PySem L2

theorem si_zip {K : PySem.W.Frag} {te te2 : TE} {e e2 : Den} (h : SE K te e) (h2 : SE K te2 e2) : SI K (iZip K (tCons te (tCons te2 tNil))) (bindO (dV e) fun d => bindO (dV e2) fun d2 Γ => match d, d2 with | .lst as, .lst bs => .ok (zipD as bs) Γ | _, _ => .stuck) := by
  intro σ Γ ds Γ' he Hf H fp E w R q
  obtain ⟨d, Γ1, g1, he1⟩ := bindO_ok he
  clear he
  obtain ⟨d2, Γ2, g2, he2⟩ := bindO_ok he1
  clear he1
  refine SV.of h σ Γ _ _ g1 Hf H fp E w _ fun v Hf1 H1 fp1 E1 w1 s1 r1 => ?_
  refine SV.of h2 σ _ _ _ g2 Hf1 H1 fp1 E1 w1 _ fun v2 Hf2 H2 fp2 E2 w2 s2 r2 => ?_
  have r1 := Rep.ext s2.ext _ _ r1
  clear g1 g2
  split at he2
  · cases he2
    simp only [Rep] at r1 r2
    obtain ⟨a, xs, rfl, ha, ra⟩ := r1
    obtain ⟨b, ys, rfl, hb, rb⟩ := r2
    have hs : ∀ Hf H, Ext Hf2 Hf → Same Hf H → SqL K H a xs := fun Hf2 H2 e2 sm => .inl (.inl (sm _ _ (e2.obj _ _ ha rfl)))
    have hs2 : ∀ Hf H, Ext Hf2 Hf → Same Hf H → SqL K H b ys := fun Hf2 H2 e2 sm => .inl (.inl (sm _ _ (e2.obj _ _ hb rfl)))
    refine ⟨a, b, xs, ys, rfl, hs Hf2 H2 (Ext.refl _) w2.same, hs2 Hf2 H2 (Ext.refl _) w2.same, q _ Hf2 H2 fp2 E2 w2 (s1.trans s2) fun i Hf3 H3 e3 sm _ => ⟨fun hi => ?_, fun d hd => ?_⟩⟩
    · rw [zip_len] at hi
      exact ⟨xs, ys, hs Hf3 H3 e3 sm, hs2 Hf3 H3 e3 sm, by rw [ra.len, rb.len]; omega⟩
    · obtain ⟨x, y, hx, hy, rfl⟩ := zip_get hd
      obtain ⟨x', hx', rx⟩ := ra.get hx
      obtain ⟨y', hy', ry⟩ := rb.get hy
      refine ⟨⟨xs, ys, x', y', hs Hf3 H3 e3 sm, hs2 Hf3 H3 e3 sm, hx', hy'⟩, fun z H' hz => ?_⟩
      obtain ⟨p, x2, y2, e1, hp, e2', f, f2⟩ := hz
      have t1 := f xs (hs Hf3 H3 e3 sm)
      have t2 := f2 ys (hs2 Hf3 H3 e3 sm)
      rw [hx'] at t1; cases t1
      rw [hy'] at t2; cases t2
      refine ⟨.tup [x, y], rfl, .inl ⟨p, _, hp, e1, e2', ?_⟩⟩
      simp only [RepL]
      exact ⟨_, _, rfl, Rep.ext e3 _ _ rx, _, _, rfl, Rep.ext e3 _ _ ry, rfl⟩
  · cases he2

/-! ### comprehensions -/
def wipeE (Γ : Env) : List Nat → Env
  | [] => Γ
  | v :: vs => (wipeE Γ vs).set v none
theorem EnvR.congr {K : PySem.W.Frag} {Hf H : Hp} {σ : L2.St} {Γ : Env} {fp : List Addr} (h : EnvR K Hf H σ Γ fp) : ∀ {σ' : L2.St}, σ'.length = σ.length → (∀ (i : Nat) t, Γ[i]? = some (some t) → σ'[i]? = σ[i]?) → EnvR K Hf H σ' Γ fp := by
  induction h with
  | nil =>
    intro σ' hl _
    cases σ' with
    | nil => exact .nil
    | cons => simp at hl
  | @no s σ Γ fp h ih =>
    intro σ' hl hs
    cases σ' with
    | nil => simp at hl
    | cons s' σ' => exact .no (ih (by simpa using hl) fun i t e => by have := hs (i + 1) t (by simpa using e); simpa using this)
  | @yes v t σ Γ f1 f2 o h ih =>
    intro σ' hl hs
    cases σ' with
    | nil => simp at hl
    | cons s' σ' =>
      have e0 := hs 0 t rfl
      simp at e0
      subst e0
      exact .yes o (ih (by simpa using hl) fun i t e => by have := hs (i + 1) t (by simpa using e); simpa using this)
theorem EnvR.wipe {K : PySem.W.Frag} {Hf H : Hp} {σ : L2.St} {Γ : Env} {fp : List Addr} (h : EnvR K Hf H σ Γ fp) : ∀ (vs : List Nat), ∃ fp', EnvR K Hf H (L2.wipe σ vs) (wipeE Γ vs) fp' ∧ fp'.Sublist fp
  | [] => ⟨fp, h, .refl _⟩
  | v :: vs => by
    obtain ⟨f1, h1, s1⟩ := EnvR.wipe h vs
    obtain ⟨f2, h2, s2⟩ := h1.drop v
    refine ⟨f2, h2.setσ none ?_, s2.trans s1⟩
    by_cases hl : v < (wipeE Γ vs).length
    · left; rw [List.getElem?_set_self hl]
    · right; exact List.getElem?_eq_none (by rw [List.length_set]; omega)
theorem wipeE_none {Γ : Env} : ∀ {vs : List Nat} {i : Nat} {t : T}, (wipeE Γ vs)[i]? = some (some t) → i ∉ vs ∧ Γ[i]? = some (some t)
  | [], i, t, h => ⟨by simp, h⟩
  | v :: vs, i, t, h => by
    unfold wipeE at h
    by_cases hv : v = i
    · subst hv
      by_cases hl : v < (wipeE Γ vs).length
      · rw [List.getElem?_set_self hl] at h; cases h
      · rw [List.getElem?_eq_none (by rw [List.length_set]; omega)] at h; cases h
    · rw [List.getElem?_set_ne hv] at h
      obtain ⟨a, b⟩ := wipeE_none h
      exact ⟨by simp only [List.mem_cons, not_or]; exact ⟨fun e => hv e.symm, a⟩, b⟩
theorem wipe_out {σ : L2.St} : ∀ {vs : List Nat} {i : Nat}, i ∉ vs → (L2.wipe σ vs)[i]? = σ[i]?
  | [], _, _ => rfl
  | v :: vs, i, h => by
    simp only [List.mem_cons, not_or] at h
    unfold L2.wipe
    rw [List.getElem?_set_ne (show v ≠ i from fun e => h.1 e.symm), wipe_out h.2]
theorem wipe_in {σ : L2.St} : ∀ {vs : List Nat} {i : Nat}, i ∈ vs → i < σ.length → (L2.wipe σ vs)[i]? = some none
  | [], _, h, _ => by simp at h
  | v :: vs, i, h, hl => by
    unfold L2.wipe
    by_cases hv : v = i
    · subst hv
      rw [List.getElem?_set_self (by rw [wipe_length]; exact hl)]
    · rw [List.getElem?_set_ne hv]
      rcases List.mem_cons.mp h with e | h
      · exact absurd e.symm hv
      · exact wipe_in h hl
theorem wipe_eq {σ σ' : L2.St} {vs : List Nat} (hl : σ'.length = σ.length) (h : ∀ i, i ∉ vs → σ'[i]? = σ[i]?) : L2.wipe σ' vs = L2.wipe σ vs := by
  apply List.ext_getElem?
  intro i
  by_cases hi : i ∈ vs
  · by_cases hb : i < σ.length
    · rw [wipe_in hi hb, wipe_in hi (by omega)]
    · rw [List.getElem?_eq_none (by rw [wipe_length]; omega), List.getElem?_eq_none (by rw [wipe_length]; omega)]
  · rw [wipe_out hi, wipe_out hi, h i hi]
theorem wipe_wipe {σ : L2.St} {vs : List Nat} : L2.wipe (L2.wipe σ vs) vs = L2.wipe σ vs := wipe_eq (wipe_length σ vs) fun i hi => wipe_out hi

def compL (put : Put) (c : DenT) (e : Env → Out D) (vs : List Nat) : List D → List D → Env → Out (List D)
  | [], acc, Γ => .ok acc Γ
  | d :: ds, acc, Γ => match put d Γ with
    | none => .stuck
    | some Γ1 => bindO c (fun b Γ2 => if b = true then bindO e (fun y Γ3 => compL put c e vs ds (acc ++ [y]) (wipeE Γ3 vs)) Γ2 else compL put c e vs ds acc (wipeE Γ2 vs)) Γ1
def dComp (it : Env → Out (List D)) (put : Put) (c : DenT) (e : Den) (vs : List Nat) : Den := bindO it fun ds Γ => if ds.length ≤ big then bindO (compL put c (dV e) vs ds []) (fun acc Γ => .ok (.own (.lst acc)) Γ) (wipeE Γ vs) else .stuck
def dYes : DenT := fun Γ => .ok true Γ
theorem st_yes {K : PySem.W.Frag} : ST K tYes dYes := by
  intro σ Γ b Γ' he Hf H fp E w Q q
  cases he
  exact q Hf H fp E w (Step.refl _ _ _)
theorem Step.push {Hf H Hf' H' : Hp} {fp fp' : List Addr} {p : Addr} {o : HO} (s : Step Hf H fp Hf' H' fp') (hp : p ∉ fp) (hn : H p = none) : Step Hf H fp Hf' (upd H' p o) fp' :=
  ⟨s.ext, fun a u ha e => by rw [upd_ne (ne_of_none e hn)]; exact s.keep a u ha e, s.new, s.nofz⟩
theorem se_comp {K : PySem.W.Frag} {wi : TI} {it : Env → Out (List D)} {g : TG} {put : Put} {tt : TT} {c : DenT} {te : TE} {e : Den} {vs : List Nat} (hi : SI K wi it) (hg : SG K g put vs) (hc : ST K tt c) (he : SE K te e) :
    SE K (tLc wi g tt te vs) (dComp it put c e vs) := by
  intro σ Γ0 r Γ' hd Hf0 H0 fp0 E0 w0 Q q
  obtain ⟨ds, Γ1, h1, hd⟩ := bindO_ok hd
  split at hd
  case isFalse => cases hd
  rename_i hbig
  obtain ⟨accF, Γ2, h2, hd⟩ := bindO_ok hd
  cases hd
  refine hi σ Γ0 ds Γ1 h1 Hf0 H0 fp0 E0 w0 _ fun J Hf1 H1 fp1 E1 w1 s1 itok => ?_
  intro Dl hD
  obtain ⟨fw, Ew, sw⟩ := E1.wipe vs
  have hDfp : Dl ∉ fp1 := fun z => E1.alloc Dl z hD
  have hDf : Hf1 Dl = none := w1.same.free hD
  -- the world at a turn
  refine ⟨fun i m H => m = ds.length - i ∧ i ≤ ds.length ∧ ∃ Γ Hf fp acc xs, compL put c (dV e) vs (ds.drop i) acc Γ = .ok accF Γ' ∧ acc.length ≤ i ∧ EnvR K Hf H (L2.wipe σ vs) Γ fp ∧ (∀ i t, Γ[i]? = some (some t) → i ∉ vs) ∧ Wd K Hf H (fp ++ [Dl]) ∧ Step Hf1 H1 fp1 Hf H (fp ++ [Dl]) ∧ H Dl = some (.lst xs) ∧ RepL K Hf acc xs,
    ⟨_, rfl, Nat.zero_le _, wipeE Γ1 vs, Hf1, fw, [], [], by simpa using h2, Nat.le_refl _, Ew.stay (Ext.refl _) fun a _ o e => same_new hD a o e, fun i t e => (wipeE_none e).1, ?_, ?_, upd_same, by simp [RepL]⟩, ?_⟩
  · refine ⟨w1.same.trans (same_new hD), List.nodup_append.mpr ⟨w1.nd.sublist sw, by simp, fun a ha b hb e => ?_⟩, fun a ha => ?_⟩
    · simp at hb; subst hb; subst e; exact hDfp (sw.subset ha)
    · rcases List.mem_append.mp ha with z | z
      · exact w1.nf a (sw.subset z)
      · simp at z; subst z; exact hDf
  · refine ⟨Ext.refl _, fun a o _ e => same_new hD a o e, fun a ha => ?_, fun a _ e _ => e⟩
    rcases List.mem_append.mp ha with z | z
    · exact .inl (sw.subset z)
    · simp at z; subst z; exact .inr hD
  rintro i m H ⟨rfl, hil, Γ, Hf, fp, acc, xs, hcl, hacc, E, hv, w, s, hx, rx⟩
  have ok := itok i Hf H s.ext w.same fun a o ha e => s.keep a o ha e
  by_cases hlt : i < ds.length
  · right
    have hd : ds[i]? = some ds[i] := List.getElem?_eq_getElem hlt
    obtain ⟨go, yl⟩ := ok.2 _ hd
    have hdr : ds.drop i = ds[i] :: ds.drop (i + 1) := List.drop_eq_getElem_cons hlt
    rw [hdr] at hcl
    simp only [compL] at hcl
    split at hcl
    · cases hcl
    rename_i Γ2 hp2
    obtain ⟨b, Γ3, h3, hcl⟩ := bindO_ok hcl
    refine ⟨go, fun H' => ∃ Γ Hf fp acc xs, compL put c (dV e) vs (ds.drop (i + 1)) acc Γ = .ok accF Γ' ∧ acc.length ≤ i + 1 ∧ EnvR K Hf H' (L2.wipe σ vs) Γ fp ∧ (∀ i t, Γ[i]? = some (some t) → i ∉ vs) ∧ Wd K Hf H' (fp ++ [Dl]) ∧ Step Hf1 H1 fp1 Hf H' (fp ++ [Dl]) ∧ H' Dl = some (.lst xs) ∧ RepL K Hf acc xs,
      fun H' h => ⟨ds.length - (i + 1), by omega, rfl, hlt, h⟩, fun x H' y => ?_⟩
    obtain ⟨z, hz, mz⟩ := yl x H' y
    -- Dl beside
    have dn : Dl ∉ fp := fun z => (List.nodup_append.mp w.nd).2.2 Dl z Dl (by simp) rfl
    obtain ⟨Hf2, E2, w2, s2, r2⟩ := mz.frz E w.left hz
    refine hg (L2.wipe σ vs) Γ ds[i] Γ2 hp2 Hf2 H' fp x E2 w2 r2 _ fun σ3 fp3 E3 w3 m3 o3 l3 => ?_
    have ew : L2.wipe σ3 vs = L2.wipe σ vs := (wipe_eq l3 o3).trans wipe_wipe
    refine ⟨ew, ?_⟩
    have alD : ∀ a ∈ [Dl], H a ≠ none := fun a ha => by simp at ha; subst ha; rw [hx]; simp
    refine hc σ3 Γ2 b Γ3 h3 Hf2 H' fp3 E3 w3 _ fun Hf4 H4 fp4 E4 w4 s4 => ?_
    have st4 : Step Hf H fp Hf4 H4 fp4 := (s2.trans (Step.sub m3)).trans s4
    cases b with
    | false =>
      rw [if_neg Bool.false_ne_true]
      rw [if_neg Bool.false_ne_true] at hcl
      have w5 := w.join alD w4 st4
      obtain ⟨f5, E5, sb5⟩ := E4.wipe vs
      rw [ew] at E5
      refine ⟨wipeE Γ3 vs, Hf4, f5, acc, xs, hcl, by omega, E5, fun i t e => (wipeE_none e).1, ?_, ?_, st4.keep Dl _ dn hx, RepL.ext st4.ext _ _ rx⟩
      · exact ⟨w5.same, w5.nd.sublist (sb5.append_right _), fun a ha => w5.nf a ((sb5.append_right _).subset ha)⟩
      · exact (s.trans (st4.frame [Dl])).trans (Step.sub (sb5.append_right _).subset)
    | true =>
      rw [if_pos rfl]
      rw [if_pos rfl] at hcl
      obtain ⟨yd, Γ5, h5, hcl⟩ := bindO_ok hcl
      refine SV.of he σ3 Γ3 yd Γ5 h5 Hf4 H4 fp4 E4 w4 _ fun yv Hf5 H5 fp5 E5 w5 s5 r5 => ?_
      have st5 := st4.trans s5
      have hx5 : H5 Dl = some (.lst xs) := st5.keep Dl _ dn hx
      have rx5 := RepL.ext st5.ext _ _ rx
      refine ⟨xs, hx5, by rw [rx.len]; exact big_lt (by omega), ?_⟩
      have w6 := w.join alD w5 st5
      obtain ⟨f6, E6, sb6⟩ := E5.wipe vs
      rw [ew] at E6
      have dn6 : Dl ∉ f6 := fun z => (List.nodup_append.mp w6.nd).2.2 Dl (sb6.subset z) Dl (by simp) rfl
      have hf5 : Hf5 Dl = none := w6.nf Dl (by simp)
      refine ⟨wipeE Γ5 vs, Hf5, f6, acc ++ [yd], xs ++ [yv], hcl, by simp; omega, E6.stay (Ext.refl _) fun a ha o e => by rw [upd_ne (show a ≠ Dl from fun z => dn6 (by rw [← z]; exact ha))]; exact e, fun i t e => (wipeE_none e).1, ?_, ?_, upd_same, rx5.snoc r5⟩
      · refine ⟨fun a o ea => ?_, w6.nd.sublist (sb6.append_right _), fun a ha => w6.nf a ((sb6.append_right _).subset ha)⟩
        rw [upd_ne (ne_of_none ea hf5)]
        exact w6.same a o ea
      · refine (s.trans (st5.frame [Dl])).trans ⟨Ext.refl _, fun a o ha ea => ?_, fun a ha => .inl ((sb6.append_right _).subset ha), fun a _ ea _ => ea⟩
        rw [upd_ne (show a ≠ Dl from fun z => ha (by simp [z]))]
        exact ea
  · left
    have hdr : ds.drop i = [] := List.drop_eq_nil_of_le (by omega)
    rw [hdr] at hcl
    simp only [compL] at hcl
    cases hcl
    refine ⟨ok.1 (by omega), q _ Hf H fp [Dl] (E.congr (by rw [wipe_length]) fun i t e => (wipe_out (hv i t e)).symm) w (s1.trans s) (.lst hx rx)⟩
end Fw
namespace Fw
open PySem L2

/-! ### what changes a slot's own list -/
/-- the slot's list, changed at its place -/
theorem EnvR.relist {K : PySem.W.Frag} {Hf H : Hp} {σ : L2.St} {Γ : Env} {fp : List Addr} {i : Nat} {ds : List D} (E : EnvR K Hf H σ Γ fp) (w : Wd K Hf H fp) (hi : Γ[i]? = some (some (.lst ds))) :
    ∃ l xs, σ[i]? = some (some (.ref l)) ∧ H l = some (.lst xs) ∧ RepL K Hf ds xs ∧ ∀ (es : List D) (ys : List V), RepL K Hf es ys →
      ∃ fp', EnvR K Hf (upd H l (.lst ys)) σ (Γ.set i (some (.lst es))) fp' ∧ Wd K Hf (upd H l (.lst ys)) fp' ∧ Step Hf H fp Hf (upd H l (.lst ys)) fp' := by
  obtain ⟨v, f1, f2, hv, o, E2, p⟩ := E.split hi
  cases o with
  | @lst _ l xs e r =>
  refine ⟨l, xs, hv, e, r, fun es ys ry => ?_⟩
  have wp := w.perm p
  have nl : l ∉ f2 := fun z => (List.nodup_append.mp wp.nd).2.2 l (by simp) l z rfl
  have hfl : Hf l = none := wp.nf l (by simp)
  have E3 : EnvR K Hf (upd H l (.lst ys)) σ (Γ.set i none) f2 := E2.stay (Ext.refl _) fun a ha o e => by rw [upd_ne (show a ≠ l from fun z => nl (by rw [← z]; exact ha))]; exact e
  have hl : i < Γ.length := (List.getElem?_eq_some_iff.mp hi).1
  obtain ⟨f3, E4, p4⟩ := E3.fill (i := i) (t := .lst es) (v := .ref l) (f1 := [l]) (by rw [List.getElem?_set_self hl]) hv (.lst upd_same ry)
  rw [List.set_set] at E4
  have p5 : f3.Perm fp := p4.symm.trans p
  refine ⟨f3, E4, ⟨fun a o ea => ?_, nodup_perm p5 w.nd, fun a ha => w.nf a (p5.mem_iff.mp ha)⟩, ⟨Ext.refl _, fun a o ha ea => ?_, fun a ha => .inl (p5.mem_iff.mp ha), fun a _ ea _ => ea⟩⟩
  · rw [upd_ne (ne_of_none ea hfl)]; exact w.same a o ea
  · rw [upd_ne (show a ≠ l from fun z => ha (p.mem_iff.mp (by simp [z])))]; exact ea
theorem EnvR.redict {K : PySem.W.Frag} {Hf H : Hp} {σ : L2.St} {Γ : Env} {fp : List Addr} {i : Nat} {ks : List Key} {ds : List D} (E : EnvR K Hf H σ Γ fp) (w : Wd K Hf H fp) (hi : Γ[i]? = some (some (.dct ks ds))) :
    ∃ l ws, σ[i]? = some (some (.ref l)) ∧ H l = some (.dK ws) ∧ ws.map (·.1) = ks ∧ RepL K Hf ds (ws.map (·.2)) ∧ ∀ (ls : List Key) (es : List D) (us : List (Key × V)), us.map (·.1) = ls → RepL K Hf es (us.map (·.2)) →
      ∃ fp', EnvR K Hf (upd H l (.dK us)) σ (Γ.set i (some (.dct ls es))) fp' ∧ Wd K Hf (upd H l (.dK us)) fp' ∧ Step Hf H fp Hf (upd H l (.dK us)) fp' := by
  obtain ⟨v, f1, f2, hv, o, E2, p⟩ := E.split hi
  cases o with
  | @dct _ _ l ws e hk r =>
  refine ⟨l, ws, hv, e, hk, r, fun ls es us hu ry => ?_⟩
  have wp := w.perm p
  have nl : l ∉ f2 := fun z => (List.nodup_append.mp wp.nd).2.2 l (by simp) l z rfl
  have hfl : Hf l = none := wp.nf l (by simp)
  have E3 : EnvR K Hf (upd H l (.dK us)) σ (Γ.set i none) f2 := E2.stay (Ext.refl _) fun a ha o e => by rw [upd_ne (show a ≠ l from fun z => nl (by rw [← z]; exact ha))]; exact e
  have hl : i < Γ.length := (List.getElem?_eq_some_iff.mp hi).1
  obtain ⟨f3, E4, p4⟩ := E3.fill (i := i) (t := .dct ls es) (v := .ref l) (f1 := [l]) (by rw [List.getElem?_set_self hl]) hv (.dct upd_same hu ry)
  rw [List.set_set] at E4
  have p5 : f3.Perm fp := p4.symm.trans p
  refine ⟨f3, E4, ⟨fun a o ea => ?_, nodup_perm p5 w.nd, fun a ha => w.nf a (p5.mem_iff.mp ha)⟩, ⟨Ext.refl _, fun a o ha ea => ?_, fun a ha => .inl (p5.mem_iff.mp ha), fun a _ ea _ => ea⟩⟩
  · rw [upd_ne (ne_of_none ea hfl)]; exact w.same a o ea
  · rw [upd_ne (show a ≠ l from fun z => ha (p.mem_iff.mp (by simp [z])))]; exact ea
/-- x.m(..), x a slot's own list; the arguments frozen -/
def MutS (K : PySem.W.Frag) (r : V → List V → Hp → VK → Prop) (f : List D → List D → Option (List D × D)) : Prop := ∀ (Hf H : Hp) (l : Addr) (xs vs : List V) (ds as es : List D) (d : D), Same Hf H → H l = some (.lst xs) → RepL K Hf ds xs → RepL K Hf as vs → f ds as = some (es, d) →
  ∀ Q : VK, (∀ ys v, RepL K Hf es ys → Rep K Hf d v → Q v (upd H l (.lst ys))) → r (.ref l) vs H Q
def dMut (f : List D → List D → Option (List D × D)) (i : Nat) (es : List Den) : Den := fun Γ => match Γ[i]? with
  | some (some (.lst _)) => bindO (dVs es) (fun as Γ => match Γ[i]? with
    | some (some (.lst ds)) => liftO (f ds as) fun p => .ok (.frz p.2) (Γ.set i (some (.lst p.1)))
    | _ => .stuck) Γ
  | _ => .stuck
theorem se_mut {K : PySem.W.Frag} {r : V → List V → Hp → VK → Prop} {f : List D → List D → Option (List D × D)} {i : Nat} {t : TA} {es : List Den} (hr : MutS K r f) (h : SVs K t es) : SE K (tBM K "list" r (tVar i) t) (dMut f i es) := by
  intro σ Γ res Γ' he Hf H fp E w Q q
  unfold dMut at he
  split at he
  case h_2 => cases he
  rename_i ds0 hi0
  obtain ⟨l0, xs0, hv0, hl0, _, _⟩ := E.relist w hi0
  obtain ⟨as, Γ1, h1, he⟩ := bindO_ok he
  refine ⟨_, hv0, .inl ⟨rfl, xs0, .inl (.inl hl0)⟩, ?_⟩
  refine h σ Γ as Γ1 h1 Hf H fp E w _ fun vs Hf1 H1 fp1 E1 w1 s1 r1 => ?_
  split at he
  case h_2 => cases he
  rename_i ds hi
  obtain ⟨p, hp, he⟩ := liftO_ok he
  cases he
  obtain ⟨l, xs, hv, hl, rx, k⟩ := E1.relist w1 hi
  rw [hv0] at hv; cases hv
  refine hr Hf1 H1 _ xs vs ds as p.1 p.2 w1.same hl rx r1 (by rw [hp]) Q fun ys v ry rv => ?_
  obtain ⟨fp2, E2, w2, s2⟩ := k p.1 ys ry
  exact q v Hf1 _ fp2 [] E2 (by simpa using w2) (by simpa using s1.trans s2) ⟨rv, rfl⟩
theorem se_mut0 {K : PySem.W.Frag} {r : V → List V → Hp → VK → Prop} {f : List D → List D → Option (List D × D)} {i : Nat} (hr : MutS K r f) : SE K (tBM0 K "list" r (tVar i)) (dMut f i []) := by
  intro σ Γ res Γ' he Hf H fp E w Q q
  exact se_mut (t := tNil) hr svs_nil σ Γ res Γ' he Hf H fp E w Q q
def mAppend : List D → List D → Option (List D × D)
  | ds, [d] => if ds.length < big then some (ds ++ [d], .non) else none
  | _, _ => none
def mPop : List D → List D → Option (List D × D)
  | ds, [] => match ds[ds.length - 1]? with
    | some d => some (ds.dropLast, d)
    | none => none
  | _, _ => none
def mPopAt : List D → List D → Option (List D × D)
  | ds, [.int i] => match (if smallI i then ixN ds.length i else none) with
    | some k => match ds[k]? with
      | some d => some (ds.eraseIdx k, d)
      | none => none
    | none => none
  | _, _ => none
def mExtend : List D → List D → Option (List D × D)
  | ds, [.lst es] => if ds.length + es.length ≤ big then some (ds ++ es, .non) else none
  | _, _ => none
theorem RepL.dropLast {K : PySem.W.Frag} {H : Hp} {ds : List D} {xs : List V} (h : RepL K H ds xs) : RepL K H ds.dropLast xs.dropLast := by
  rw [List.dropLast_eq_take, List.dropLast_eq_take, h.len]
  exact h.take _
section
variable {K : PySem.W.Frag}
theorem ms_append : MutS K rAppend mAppend := by
  intro Hf H l xs vs ds as es d s hl rx ra hf Q q
  unfold mAppend at hf
  split at hf
  · split at hf
    · rename_i hb; cases hf
      simp only [RepL] at ra
      obtain ⟨v, _, rfl, rv, rfl⟩ := ra
      exact ⟨l, xs, v, rfl, rfl, hl, by rw [rx.len]; exact big_lt hb, q _ _ (rx.snoc rv) (by simp only [Rep])⟩
    · cases hf
  · cases hf
theorem ms_pop : MutS K rPop mPop := by
  intro Hf H l xs vs ds as es d s hl rx ra hf Q q
  unfold mPop at hf
  split at hf
  · split at hf
    · rename_i d' hd; cases hf
      simp only [RepL] at ra
      subst ra
      obtain ⟨v, hv, rv⟩ := rx.get hd
      exact ⟨l, xs, v, rfl, rfl, hl, by rw [rx.len]; exact hv, q _ _ rx.dropLast rv⟩
    · cases hf
  · cases hf
theorem ms_popAt : MutS K rPopAt mPopAt := by
  intro Hf H l xs vs ds as es d s hl rx ra hf Q q
  unfold mPopAt at hf
  split at hf
  · rename_i i
    split at hf
    · rename_i k hk
      split at hf
      · rename_i d' hd; cases hf
        simp only [RepL, Rep] at ra
        obtain ⟨v, _, rfl, rfl, rfl⟩ := ra
        obtain ⟨v, hv, rv⟩ := rx.get hd
        split at hk
        case isFalse => cases hk
        rename_i hb
        unfold smallI at hb
        simp only [Bool.and_eq_true, decide_eq_true_eq] at hb
        obtain ⟨z1, z2, z3, z4⟩ := ixN_seq hk
        exact ⟨l, xs, i, k, v, rfl, rfl, hl, by omega, by omega, by rw [rx.len]; exact z1, hv, q _ _ (rx.erase k) rv⟩
      · cases hf
    · cases hf
  · cases hf
theorem ms_extend : MutS K rExtend mExtend := by
  intro Hf H l xs vs ds as es d s hl rx ra hf Q q
  unfold mExtend at hf
  split at hf
  · split at hf
    · rename_i hb; cases hf
      simp only [RepL, Rep] at ra
      obtain ⟨v, _, rfl, ⟨b, ys, rfl, hbb, rb⟩, rfl⟩ := ra
      exact ⟨l, b, xs, ys, rfl, rfl, hl, s _ _ hbb, by rw [rx.len, rb.len]; exact big_le hb, q _ _ (rx.append rb) (by simp only [Rep])⟩
    · cases hf
  · cases hf
end
/-- x[i] = e -/
def sSetI (x : Nat) (ei e : Den) : SDen := bindO (dV e) fun d Γ0 => match Γ0[x]? with
  | some (some _) => bindO (dV ei) (fun k Γ => liftO (intD k) fun j => match Γ[x]? with
    | some (some (.lst ds)) => liftO (ixN ds.length j) fun n => .ok .next (Γ.set x (some (.lst (ds.set n d))))
    | _ => .stuck) Γ0
  | _ => .stuck
theorem ss_setI {K : PySem.W.Frag} {js : List Nat} {x : Nat} {te ti : TE} {ei e : Den} (h : SE K te e) (hi : SE K ti ei) : SS K js (tAsg te (gSub (tVar x) ti rSetL)) (sSetI x ei e) := by
  intro σ Γ f Γ' he Hf H fp E w Dn q
  obtain ⟨d, Γ1, h1, he1⟩ := bindO_ok he
  clear he
  split at he1
  case h_2 => cases he1
  rename_i t0 ht0
  obtain ⟨k, Γ2, h2, he2⟩ := bindO_ok he1
  clear he1
  obtain ⟨j, hj, he3⟩ := liftO_ok he2
  clear he2
  obtain rfl := intD_eq hj
  split at he3
  case h_2 => cases he3
  rename_i ds hds
  obtain ⟨n, hn, he4⟩ := liftO_ok he3
  clear he3
  cases he4
  refine SV.of h σ Γ d Γ1 h1 Hf H fp E w _ fun v Hf1 H1 fp1 E1 w1 s1 r1 => ?_
  obtain ⟨v0, _, _, hv0, _⟩ := E1.split ht0
  refine ⟨v0, hv0, ?_⟩
  refine SV.of hi σ Γ1 _ Γ2 h2 Hf1 H1 fp1 E1 w1 _ fun u Hf2 H2 fp2 E2 w2 s2 r2 => ?_
  simp only [Rep] at r2
  subst r2
  obtain ⟨l, xs, hv, hl, rx, kk⟩ := E2.relist w2 hds
  rw [hv0] at hv; cases hv
  refine ⟨l, xs, j, n, rfl, rfl, hl, by rw [rx.len]; exact hn, ?_⟩
  obtain ⟨fp3, E3, w3, s3⟩ := kk (ds.set n d) (xs.set n v) (rx.set (Rep.ext s2.ext _ _ r1) n)
  exact q σ Hf2 _ fp3 [] E3 (by simpa using w3) (by simpa using (s1.trans s2).trans s3) (Pin.refl _ _) rfl

/-! ### dicts -/
def putKD (k : Key) (d : D) (ks : List Key) (ds : List D) : List Key × List D :=
  if (ks.any fun j => decide (j = k)) = true then (ks, (ks.zip ds).map fun p => if p.1 = k then d else p.2) else (ks ++ [k], ds ++ [d])
theorem RepL.zipmap {K : PySem.W.Frag} {H : Hp} {k : Key} {d : D} {v : V} (r : Rep K H d v) : ∀ {ds : List D} {ws : List (Key × V)}, RepL K H ds (ws.map (·.2)) →
    RepL K H (((ws.map (·.1)).zip ds).map fun p => if p.1 = k then d else p.2) ((ws.map fun kv => if kv.1 = k then (kv.1, v) else kv).map (·.2))
  | [], ws, h => by
    simp only [RepL] at h
    cases ws with
    | nil => simp [RepL]
    | cons => simp at h
  | e :: ds, [], h => by simp [RepL] at h
  | e :: ds, (k0, v0) :: ws, h => by
    simp only [RepL, List.map_cons, List.cons.injEq] at h
    obtain ⟨v', vs, ⟨rfl, rfl⟩, h1, h2⟩ := h
    have ih := RepL.zipmap (k := k) r h2
    simp only [List.map_cons, List.zip_cons_cons, RepL]
    refine ⟨_, _, rfl, ?_, ih⟩
    by_cases hk : k0 = k
    · simp only [if_pos hk]; exact r
    · simp only [if_neg hk]; exact h1
theorem putK_rep {K : PySem.W.Frag} {H : Hp} {k : Key} {d : D} {v : V} {ds : List D} {ws : List (Key × V)} (r : Rep K H d v) (h : RepL K H ds (ws.map (·.2))) :
    (putK ws k v).map (·.1) = (putKD k d (ws.map (·.1)) ds).1 ∧ RepL K H (putKD k d (ws.map (·.1)) ds).2 ((putK ws k v).map (·.2)) := by
  unfold putK putKD
  have e : ((ws.map (·.1)).any fun j => decide (j = k)) = ws.any fun kv => decide (kv.1 = k) := by
    rw [List.any_map]; rfl
  rw [e]
  by_cases hk : (ws.any fun kv => decide (kv.1 = k)) = true
  · rw [if_pos hk, if_pos hk]
    refine ⟨?_, h.zipmap r⟩
    rw [List.map_map]
    apply List.map_congr_left
    intro kv _
    simp only [Function.comp]
    split <;> rfl
  · rw [if_neg hk, if_neg hk]
    exact ⟨by simp, by simpa using h.snoc r⟩
/-- x[k] = e -/
def sPutK (x : Nat) (ek e : Den) : SDen := bindO (dV e) fun d Γ0 => match Γ0[x]? with
  | some (some _) => bindO (dV ek) (fun kd Γ => liftO (keyD kd) fun k => match Γ[x]? with
    | some (some (.dct ks ds)) => if ks.length < big then .ok .next (Γ.set x (some (.dct (putKD k d ks ds).1 (putKD k d ks ds).2))) else .stuck
    | _ => .stuck) Γ0
  | _ => .stuck
theorem Rep.key {K : PySem.W.Frag} {H : Hp} {d : D} {v : V} {k : Key} (t : Rep K H d v) (h : keyD d = some k) : v = kV k := Top.key (Top.frz (K := K) (Hf := H) (H := H) t) h
theorem ss_putK {K : PySem.W.Frag} {js : List Nat} {x : Nat} {te ti : TE} {ek e : Den} (h : SE K te e) (hi : SE K ti ek) : SS K js (sDPut (tVar x) ti te) (sPutK x ek e) := by
  intro σ Γ f Γ' he Hf H fp E w Dn q
  obtain ⟨d, Γ1, h1, he1⟩ := bindO_ok he
  clear he
  split at he1
  case h_2 => cases he1
  rename_i t0 ht0
  obtain ⟨kd, Γ2, h2, he2⟩ := bindO_ok he1
  clear he1
  obtain ⟨k, hk, he3⟩ := liftO_ok he2
  clear he2
  split at he3
  case h_2 => cases he3
  rename_i ks ds hds
  split at he3
  case isFalse => cases he3
  rename_i hb
  cases he3
  refine SV.of h σ Γ d Γ1 h1 Hf H fp E w _ fun v Hf1 H1 fp1 E1 w1 s1 r1 => ?_
  obtain ⟨v0, _, _, hv0, _⟩ := E1.split ht0
  refine ⟨v0, hv0, ?_⟩
  refine SV.of hi σ Γ1 _ Γ2 h2 Hf1 H1 fp1 E1 w1 _ fun u Hf2 H2 fp2 E2 w2 s2 r2 => ?_
  obtain ⟨l, ws, hv, hl, rfl, rx, kk⟩ := E2.redict w2 hds
  rw [hv0] at hv; cases hv
  obtain ⟨p1, p2⟩ := putK_rep (k := k) (Rep.ext s2.ext _ _ r1) rx
  obtain ⟨fp3, E3, w3, s3⟩ := kk _ _ (putK ws k v) p1 p2
  exact ⟨l, _, rfl, .inl ⟨ws, k, hl, r2.key hk, big_lt (by simpa using hb), rfl⟩, q σ Hf2 _ fp3 [] E3 (by simpa using w3) (by simpa using (s1.trans s2).trans s3) (Pin.refl _ _) rfl⟩
/-- x[k] op= e, ints -/
def sAugK (g : Int → Int → Int) (x : Nat) (ek e : Den) : SDen := fun Γ0 => match Γ0[x]? with
  | some (some _) => bindO (dV ek) (fun kd Γ => liftO (keyD kd) fun k => match Γ[x]? with
    | some (some (.dct ks ds)) => liftO (findK ks ds k) fun d0 => liftO (intD d0) fun a => bindO (dV e) (fun d1 Γ1 => liftO (intD d1) fun b => match Γ1[x]? with
      | some (some (.dct ks ds)) => if ks.length < big then .ok .next (Γ1.set x (some (.dct (putKD k (.int (g a b)) ks ds).1 (putKD k (.int (g a b)) ks ds).2))) else .stuck
      | _ => .stuck) Γ
    | _ => .stuck) Γ0
  | _ => .stuck
theorem ss_augK {K : PySem.W.Frag} {js : List Nat} {g : Int → Int → Int} {x : Nat} {te ti : TE} {ek e : Den} (h : SE K te e) (hi : SE K ti ek) : SS K js (sDAug (tVar x) ti te fun x y H Q => ∃ i j, x = .int i ∧ y = .int j ∧ Q (.int (g i j)) H) (sAugK g x ek e) := by
  intro σ Γ f Γ' he Hf H fp E w Dn q
  unfold sAugK at he
  split at he
  case h_2 => cases he
  rename_i t0 ht0
  obtain ⟨kd, Γ2, h2, he2⟩ := bindO_ok he
  clear he
  obtain ⟨k, hk, he3⟩ := liftO_ok he2
  clear he2
  split at he3
  case h_2 => cases he3
  rename_i ks0 ds0 hds0
  obtain ⟨d0, hd0, he4⟩ := liftO_ok he3
  clear he3
  obtain ⟨a, ha, he5⟩ := liftO_ok he4
  clear he4
  obtain rfl := intD_eq ha
  obtain ⟨d1, Γ3, h3, he6⟩ := bindO_ok he5
  clear he5
  obtain ⟨b, hb1, he7⟩ := liftO_ok he6
  clear he6
  obtain rfl := intD_eq hb1
  split at he7
  case h_2 => cases he7
  rename_i ks ds hds
  split at he7
  case isFalse => cases he7
  rename_i hb
  cases he7
  obtain ⟨v0, _, _, hv0, _⟩ := E.split ht0
  refine ⟨v0, hv0, ?_⟩
  refine SV.of hi σ Γ _ Γ2 h2 Hf H fp E w _ fun u Hf2 H2 fp2 E2 w2 s2 r2 => ?_
  obtain ⟨l, ws, hv, hl, rfl, rx, _⟩ := E2.redict w2 hds0
  rw [hv0] at hv; cases hv
  obtain ⟨v, e1, e2⟩ := (rx.find (k := k)).1 _ hd0
  simp only [Rep] at e2
  subst e2
  refine ⟨l, .int a, rfl, .inl ⟨ws, k, .inl hl, r2.key hk, e1.symm⟩, ?_⟩
  refine SV.of h σ Γ2 _ Γ3 h3 Hf2 H2 fp2 E2 w2 _ fun u2 Hf3 H3 fp3 E3 w3 s3 r3 => ?_
  simp only [Rep] at r3
  subst r3
  obtain ⟨l', ws', hv', hl', rfl, rx', kk⟩ := E3.redict w3 hds
  rw [hv0] at hv'; cases hv'
  obtain ⟨p1, p2⟩ := putK_rep (k := k) (d := .int (g a b)) (v := .int (g a b)) (by simp only [Rep]) rx'
  obtain ⟨fp4, E4, w4, s4⟩ := kk _ _ (putK ws' k _) p1 p2
  exact ⟨a, b, rfl, rfl, _, .inl ⟨ws', k, hl', r2.key hk, big_lt (by simpa using hb), rfl⟩, q σ Hf3 _ fp4 [] E4 (by simpa using w4) (by simpa using (s2.trans s3).trans s4) (Pin.refl _ _) rfl⟩
/-- x op= e, ints -/
def sAug (g : Int → Int → Int) (i : Nat) (e : Den) : SDen := fun Γ0 => match Γ0[i]? with
  | some (some (.frz d0)) => liftO (intD d0) fun a => bindO (dV e) (fun d1 Γ1 => liftO (intD d1) fun b => .ok .next (Γ1.set i (some (.frz (.int (g a b)))))) Γ0
  | _ => .stuck
theorem ss_aug {K : PySem.W.Frag} {js : List Nat} {g : Int → Int → Int} {i : Nat} {te : TE} {e : Den} (h : SE K te e) (hi : i ∉ js) : SS K js (tAug i te (ipI g)) (sAug g i e) := by
  intro σ Γ f Γ' he Hf H fp E w Dn q
  unfold sAug at he
  split at he
  case h_2 => cases he
  rename_i d0 ht0
  obtain ⟨a, ha, he5⟩ := liftO_ok he
  clear he
  obtain rfl := intD_eq ha
  obtain ⟨d1, Γ3, h3, he6⟩ := bindO_ok he5
  clear he5
  obtain ⟨b, hb1, he7⟩ := liftO_ok he6
  clear he6
  obtain rfl := intD_eq hb1
  cases he7
  obtain ⟨v0, _, _, hv0, o, _⟩ := E.split ht0
  cases o with
  | frz r0 =>
  simp only [Rep] at r0
  subst r0
  refine ⟨_, hv0, ?_⟩
  refine SV.of h σ Γ _ Γ3 h3 Hf H fp E w _ fun u2 Hf3 H3 fp3 E3 w3 s3 r3 => ?_
  simp only [Rep] at r3
  subst r3
  obtain ⟨fp4, E4, w4, m4⟩ := E3.putF (i := i) (d := .int (g a b)) (v := .int (g a b)) w3 (by simp only [Rep])
  exact ⟨a, b, rfl, rfl, q _ Hf3 H3 fp4 [] E4 (by simpa using w4) (by simpa using s3.trans (Step.sub m4)) (Pin.set hi) rfl⟩
/-- for k, v in d.items(), d a slot's own dict -/
def pairsD : List Key → List D → List D
  | k :: ks, d :: ds => .tup [(match k with | .inl i => .int i | .inr s => .str s), d] :: pairsD ks ds
  | _, _ => []
def sForItems (x : Nat) (put : Put) (b : SDen) : SDen := fun Γ => match Γ[x]? with
  | some (some (.dct ks ds)) => match forL put b (pairsD ks ds) (Γ.set x none) with
    | .ok f Γ1 => match Γ1[x]? with
      | some none => .ok f (Γ1.set x (some (.dct ks ds)))
      | _ => .stuck
    | .exc e Γ1 => .exc e Γ1
    | .stuck => .stuck
  | _ => .stuck
theorem RepL.pairs {K : PySem.W.Frag} {H : Hp} : ∀ {ds : List D} {ws : List (Key × V)} {i : Nat} {d : D}, RepL K H ds (ws.map (·.2)) → (pairsD (ws.map (·.1)) ds)[i]? = some d →
    ∃ k v e, ws[i]? = some (k, v) ∧ d = .tup [(match k with | .inl i => .int i | .inr s => .str s), e] ∧ Rep K H e v
  | [], ws, i, d, h, g => by
    simp only [RepL] at h
    cases ws with
    | nil => simp [pairsD] at g
    | cons => simp at h
  | e :: ds, [], i, d, h, g => by simp [RepL] at h
  | e :: ds, (k0, v0) :: ws, i, d, h, g => by
    simp only [RepL, List.map_cons, List.cons.injEq] at h
    obtain ⟨v', vs, ⟨rfl, rfl⟩, h1, h2⟩ := h
    cases i with
    | zero =>
      simp only [List.map_cons, pairsD, List.getElem?_cons_zero, Option.some.injEq] at g
      exact ⟨k0, _, e, rfl, g.symm, h1⟩
    | succ i =>
      simp only [List.map_cons, pairsD, List.getElem?_cons_succ] at g
      simpa using RepL.pairs h2 g
theorem pairs_len {K : PySem.W.Frag} {H : Hp} : ∀ {ds : List D} {ws : List (Key × V)}, RepL K H ds (ws.map (·.2)) → (pairsD (ws.map (·.1)) ds).length = ws.length
  | [], ws, h => by
    simp only [RepL] at h
    cases ws with
    | nil => rfl
    | cons => simp at h
  | e :: ds, [], h => by simp [RepL] at h
  | e :: ds, (k0, v0) :: ws, h => by
    simp only [RepL, List.map_cons, List.cons.injEq] at h
    obtain ⟨v', vs, ⟨rfl, rfl⟩, h1, h2⟩ := h
    simp [pairsD, pairs_len h2]
theorem ss_items {K : PySem.W.Frag} {js : List Nat} {x : Nat} {g : TG} {put : Put} {ks : List Nat} {tb : TS} {b : SDen} (hg : SG K g put ks) (hk : ∀ i ∈ js, i ∉ ks) (hx : x ∉ ks) (hbx : SS K (x :: js) tb b) :
    SS K js (tLock (tFor (iItems (tVar x)) g tb)) (sForItems x put b) := by
  intro σ Γ f Γ' he Hf H fp E w Dn q
  unfold sForItems at he
  split at he
  case h_2 => cases he
  rename_i kl ds hds
  split at he
  case h_2 => cases he
  case h_3 => cases he
  rename_i f1 Γ1 h1
  split at he
  case h_2 => cases he
  rename_i hn1
  cases he
  obtain ⟨v, fo, fr, hv, o, E2, p⟩ := E.split hds
  cases o with
  | @dct _ _ d ws e hke r =>
  subst hke
  have wp := w.perm p
  have nd : d ∉ fr := fun z => (List.nodup_append.mp wp.nd).2.2 d (by simp) d z rfl
  have hfd : Hf d = none := wp.nf d (by simp)
  refine ⟨d, .dK ws, e, trivial, fun od => ?_⟩
  refine ⟨_, hv, d, od, ws, rfl, upd_same, ?_⟩
  have E3 : EnvR K Hf (upd H d (.frz od (.dK ws))) σ (Γ.set x none) fr := E2.stay (Ext.refl _) fun a ha o e => by rw [upd_ne (show a ≠ d from fun z => nd (by rw [← z]; exact ha))]; exact e
  have w3 : Wd K Hf (upd H d (.frz od (.dK ws))) fr := ⟨fun a o ea => by rw [upd_ne (ne_of_none ea hfd)]; exact w.same a o ea, wp.right.nd, wp.right.nf⟩
  have s0 : ∀ a o, a ∉ fp → H a = some o → upd H d (.frz od (.dK ws)) a = some o := fun a o ha ea => by
    rw [upd_ne (show a ≠ d from fun z => ha (p.mem_iff.mp (by simp [z])))]; exact ea
  -- at each end: the lock is off, the dict is back
  have off : ∀ σ' Hf' H' fp' ft, EnvR K Hf' H' σ' Γ1 fp' → Wd K Hf' H' (fp' ++ ft) → Step Hf (upd H d (.frz od (.dK ws))) fr Hf' H' (fp' ++ ft) → Pin (x :: js) σ σ' → H' d = some (.frz od (.dK ws)) ∧ (PostF K Dn f σ' Hf' (upd H' d (.dK ws)) ft) ∧ d ∉ ft := by
    intro σ' Hf' H' fp' ft E' w' s' p'
    have hd' : H' d = some (.frz od (.dK ws)) := s'.keep d _ nd upd_same
    suffices PostF K Dn f σ' Hf' (upd H' d (.dK ws)) ft ∧ d ∉ fp' ++ ft from ⟨hd', this.1, fun z => this.2 (by simp [z])⟩
    have hf' : Hf' d = none := s'.nofz d nd hfd (by rw [upd_same]; simp)
    have nd' : d ∉ fp' ++ ft := fun z => by
      rcases s'.new d z with y | y
      · exact nd y
      · rw [upd_same] at y; cases y
    have st : ∀ a ∈ fp', ∀ o, H' a = some o → upd H' d (.dK ws) a = some o := fun a ha o e => by rw [upd_ne (show a ≠ d from fun z => nd' (by simp [← z, ha]))]; exact e
    have E4 := E'.stay (Ext.refl _) st
    have hvx : σ'[x]? = some (some (.ref d)) := by rw [p' x (by simp)]; exact hv
    obtain ⟨f5, E5, p5⟩ := E4.fill (i := x) (t := .dct (ws.map (·.1)) ds) (v := .ref d) (f1 := [d]) hn1 hvx (.dct upd_same rfl (RepL.ext s'.ext _ _ r))
    have pp : (f5 ++ ft).Perm (d :: (fp' ++ ft)) := List.Perm.append_right ft p5.symm
    have w5 : Wd K Hf' (upd H' d (.dK ws)) (f5 ++ ft) := by
      refine ⟨fun a o ea => by rw [upd_ne (ne_of_none ea hf')]; exact w'.same a o ea, nodup_perm pp (List.nodup_cons.mpr ⟨nd', w'.nd⟩), fun a ha => ?_⟩
      rcases List.mem_cons.mp (pp.mem_iff.mp ha) with z | z
      · subst z; exact hf'
      · exact w'.nf a z
    have s5 : Step Hf H fp Hf' (upd H' d (.dK ws)) (f5 ++ ft) := by
      refine ⟨s'.ext, fun a o ha ea => ?_, fun a ha => ?_, fun a ha hfa hh => ?_⟩
      · have nad : a ≠ d := fun z => ha (p.mem_iff.mp (by simp [z]))
        rw [upd_ne nad]
        exact s'.keep a o (fun z => ha (p.mem_iff.mp (by simp [z]))) (s0 a o ha ea)
      · rcases List.mem_cons.mp (pp.mem_iff.mp ha) with z | z
        · subst z; exact .inl (p.mem_iff.mp (by simp))
        · rcases s'.new a z with y | y
          · exact .inl (p.mem_iff.mp (by simp [y]))
          · right
            by_cases had : a = d
            · subst had; rw [upd_same] at y; cases y
            · rw [upd_ne had] at y; exact y
      · have nad : a ≠ d := fun z => ha (p.mem_iff.mp (by simp [z]))
        exact s'.nofz a (fun z => ha (p.mem_iff.mp (by simp [z]))) hfa (by rw [upd_ne nad]; exact hh)
    exact ⟨q σ' Hf' _ f5 ft E5 w5 s5 fun i hi => p' i (by simp [hi]), nd'⟩
  refine for_core (js := x :: js) hg hbx (fun i hi => ?_) h1 E3 w3 (fun i Hf1 H1 e1 sm kp => ?_) fun σ' Hf' H' fp' ft E' w' s' p' => ?_
  · rcases List.mem_cons.mp hi with rfl | hi
    · exact hx
    · exact hk i hi
  · have hd1 : H1 d = some (.frz od (.dK ws)) := kp d _ nd upd_same
    refine ⟨fun hi => ⟨hd1, by rw [pairs_len r] at hi; exact hi⟩, fun dd hdd => ?_⟩
    obtain ⟨k, v, e', h1, rfl, rv⟩ := r.pairs hdd
    refine ⟨⟨hd1, (List.getElem?_eq_some_iff.mp h1).1⟩, fun y H' hy => ?_⟩
    obtain ⟨tp, k', v', h2, rfl, hn, rfl⟩ := hy
    rw [h1] at h2; cases h2
    refine ⟨.tup _, rfl, .inl ⟨tp, _, hn, rfl, rfl, ?_⟩⟩
    simp only [RepL]
    refine ⟨_, _, rfl, ?_, _, _, rfl, Rep.ext e1 _ _ rv, rfl⟩
    cases k <;> simp [Rep, kV]
  · obtain ⟨o1, o2, o3⟩ := off σ' Hf' H' fp' ft E' w' s' p'
    cases f with
    | next => exact fun z => ⟨o1, o2 z⟩
    | brk => exact fun z => ⟨o1, o2 z⟩
    | cont => exact fun z => ⟨o1, o2 z⟩
    | ret t =>
      intro v ov
      exact ⟨o1, o2 v (ov.stay (Ext.refl _) fun a ha o e => by rw [upd_ne (show a ≠ d from fun z => o3 (by rw [← z]; exact ha))]; exact e)⟩

/-! ### a def by its body -/
/-- the lent parameters at the end, what was handed in else -/
def avsOf : List Bool → Nat → List T → Option (List AV)
  | [], _, [] => some []
  | true :: io, k, _ :: ts => (avsOf io (k + 1) ts).map (.io k :: ·)
  | false :: io, k, .frz d :: ts => (avsOf io (k + 1) ts).map (.d d :: ·)
  | _, _, _ => none
def jsOf : List Bool → Nat → List Nat
  | [], _ => []
  | true :: io, k => k :: jsOf io (k + 1)
  | false :: io, k => jsOf io (k + 1)
def outsOf (io : List Bool) (ts : List T) (Γ : Env) : Option (List T) := match avsOf io 0 ts with
  | some as => (takeArgs as Γ).map (·.1)
  | none => none
def dFun (n : Nat) (io : List Bool) (body : SDen) : FDen := fun ts => match body (ts.map some ++ List.replicate (n - ts.length) none) with
  | .ok (.ret t) Γ => match outsOf io ts Γ with
    | some outs => .ok t outs
    | none => .stuck
  | .ok .next Γ => match outsOf io ts Γ with
    | some outs => .ok (.frz .non) outs
    | none => .stuck
  | .exc x Γ => match outsOf io ts Γ with
    | some outs => .exc x outs
    | none => .stuck
  | _ => .stuck
theorem avs_len : ∀ {io : List Bool} {k : Nat} {ts : List T} {as : List AV}, avsOf io k ts = some as → ts.length = io.length
  | [], _, [], _, _ => rfl
  | [], _, _ :: _, _, h => by simp [avsOf] at h
  | true :: io, k, t :: ts, _, h => by
    simp only [avsOf, Option.map_eq_some_iff] at h
    obtain ⟨_, h, _⟩ := h
    simp [avs_len h]
  | false :: io, k, .frz d :: ts, _, h => by
    simp only [avsOf, Option.map_eq_some_iff] at h
    obtain ⟨_, h, _⟩ := h
    simp [avs_len h]
  | true :: io, k, [], _, h => by simp [avsOf] at h
  | false :: io, k, [], _, h => by simp [avsOf] at h
  | false :: io, k, .lst _ :: ts, _, h => by simp [avsOf] at h
  | false :: io, k, .dct _ _ :: ts, _, h => by simp [avsOf] at h
  | false :: io, k, .tree _ :: ts, _, h => by simp [avsOf] at h
  | false :: io, k, .kn _ _ _ :: ts, _, h => by simp [avsOf] at h
theorem avs_rel {K : PySem.W.Frag} {Hf H Hf' : Hp} {σ' : L2.St} (e : Ext Hf Hf') : ∀ {io : List Bool} {k : Nat} {ts : List T} {as : List AV} {vs : List V} {fa : List Addr}, avsOf io k ts = some as → OwnL K Hf H ts vs fa →
    (∀ i ∈ jsOf io k, ∃ v, vs[i - k]? = some v ∧ σ'[i]? = some (some v)) → AVR K Hf' σ' as vs
  | [], _, [], _, _, _, h, o, _ => by cases h; cases o; exact .nil
  | [], _, _ :: _, _, _, _, h, _, _ => by simp [avsOf] at h
  | true :: io, k, t :: ts, _, _, _, h, o, hs => by
    simp only [avsOf, Option.map_eq_some_iff] at h
    obtain ⟨as, h, rfl⟩ := h
    cases o with
    | @cons _ v _ vs f1 f2 o1 o2 =>
    obtain ⟨v', e1, e2⟩ := hs k (by simp [jsOf])
    simp at e1
    subst e1
    refine .io e2 (avs_rel e h o2 fun i hi => ?_)
    obtain ⟨w, e1, e2⟩ := hs i (by simp [jsOf, hi])
    have hge : k + 1 ≤ i := js_ge hi
    refine ⟨w, ?_, e2⟩
    rw [show i - k = (i - (k + 1)) + 1 by omega] at e1
    simpa using e1
  | false :: io, k, .frz d :: ts, _, _, _, h, o, hs => by
    simp only [avsOf, Option.map_eq_some_iff] at h
    obtain ⟨as, h, rfl⟩ := h
    cases o with
    | @cons _ v _ vs f1 f2 o1 o2 =>
    cases o1 with
    | frz r =>
    refine .d (Rep.ext e _ _ r) (avs_rel e h o2 fun i hi => ?_)
    obtain ⟨w, e1, e2⟩ := hs i (by simp [jsOf, hi])
    have hge : k + 1 ≤ i := js_ge hi
    refine ⟨w, ?_, e2⟩
    rw [show i - k = (i - (k + 1)) + 1 by omega] at e1
    simpa using e1
  | true :: io, k, [], _, _, _, h, _, _ => by simp [avsOf] at h
  | false :: io, k, [], _, _, _, h, _, _ => by simp [avsOf] at h
  | false :: io, k, .lst _ :: ts, _, _, _, h, _, _ => by simp [avsOf] at h
  | false :: io, k, .dct _ _ :: ts, _, _, _, h, _, _ => by simp [avsOf] at h
  | false :: io, k, .tree _ :: ts, _, _, _, h, _, _ => by simp [avsOf] at h
  | false :: io, k, .kn _ _ _ :: ts, _, _, _, h, _, _ => by simp [avsOf] at h
where
  js_ge {io : List Bool} : ∀ {k i : Nat}, i ∈ jsOf io k → k ≤ i := by
    induction io with
    | nil => intro k i h; simp [jsOf] at h
    | cons b io ih =>
      intro k i h
      cases b with
      | true =>
        simp only [jsOf, List.mem_cons] at h
        rcases h with rfl | h
        · exact Nat.le_refl _
        · have := ih h; omega
      | false =>
        have := ih (k := k + 1) h
        omega
theorem OwnL.env {K : PySem.W.Frag} {Hf H : Hp} {m : Nat} : ∀ {ts : List T} {vs : List V} {fa : List Addr}, OwnL K Hf H ts vs fa → EnvR K Hf H (vs.map some ++ List.replicate m none) (ts.map some ++ List.replicate m none) fa
  | _, _, _, .nil => by
    induction m with
    | zero => exact .nil
    | succ m ih => rw [List.replicate_succ, List.replicate_succ]; exact .no ih
  | _, _, _, .cons o1 o2 => .yes o1 (OwnL.env o2)
theorem js_lt : ∀ {io : List Bool} {k i : Nat}, i ∈ jsOf io k → k ≤ i ∧ i < k + io.length
  | [], _, _, h => by simp [jsOf] at h
  | true :: io, k, i, h => by
    simp only [jsOf, List.mem_cons] at h
    rcases h with rfl | h
    · simp
    · have := js_lt h; simp; omega
  | false :: io, k, i, h => by
    have := js_lt (k := k + 1) h; simp; omega
/-- THE RULE -/
theorem fun_ok {P : Program} {w : World} {K : PySem.W.Frag} {mg : Str → Option Value} {base : Heap} {x qual : Str} {st : Stmt} {f : Addr} {fd : FuncData} {N ps : List Str} {k : Nat} {io : List Bool} {body : SDen} (F : Fun K x qual st f fd) (S : FnScope N ps (defScope st)) (hio : io.length = ps.length)
    (hbody : ∀ (cdv : Value) (A : Around) (outer : List PySem.Env) (s : Shared) (H : Hp) (E : XK), Room k (A.deeper (PyProof.Rows.envOfC qual (defScope st) s.heap.objs.size f cdv)) →
      ∃ t, PSs (cxOf CX0 P w K mg base N qual (defScope st) f cdv A outer s H E).nox (defBody st) t ∧ SS K (jsOf io 0) t body) : FnOk P w K mg base CX0 (k + 1) f fd ps (spD K (dFun N.length io body)) := by
  have outs_some : ∀ {ts : List T} {Γ : Env} {o : List T}, outsOf io ts Γ = some o → ∃ as Γ1, avsOf io 0 ts = some as ∧ takeArgs as Γ = some (o, Γ1) := by
    intro ts Γ o h
    unfold outsOf at h
    split at h
    · rename_i as ha
      rw [Option.map_eq_some_iff] at h
      obtain ⟨p, hp, rfl⟩ := h
      exact ⟨as, p.2, ha, hp⟩
    · cases h
  refine F.ok S (fun vs H Q E h => ?_) (fun cdv A outer s H vs Q E hr h => ?_)
  · obtain ⟨Hf, ts, fa, t, outs, o, wd, hf, _⟩ := h
    have e1 := o.len
    rw [e1, ← hio]
    unfold dFun at hf
    split at hf
    · split at hf
      · rename_i h1; obtain ⟨as, _, h1, _⟩ := outs_some h1; exact avs_len h1
      · cases hf
    · split at hf
      · rename_i h1; obtain ⟨as, _, h1, _⟩ := outs_some h1; exact avs_len h1
      · cases hf
    · split at hf <;> cases hf
    · cases hf
  · obtain ⟨Hf, ts, fa, t, outs, o, wd, hf, q⟩ := h
    obtain ⟨tr, hps, hss⟩ := hbody cdv A outer s H E hr
    refine ⟨tr, hps, ?_⟩
    have hE : EnvR K Hf H (L2.start N vs) (ts.map some ++ List.replicate (N.length - ts.length) none) fa := by
      unfold L2.start
      rw [← o.len]
      exact o.env
    -- the end, whatever the flow
    have fin : ∀ {Γ' : Env} {σ' : L2.St} {Hf' H' : Hp} {fp' ft : List Addr} {v : V} {t' : T} {outs' : List T}, outsOf io ts Γ' = some outs' → EnvR K Hf' H' σ' Γ' fp' → Wd K Hf' H' (fp' ++ ft) → Step Hf H fa Hf' H' (fp' ++ ft) → Pin (jsOf io 0) (L2.start N vs) σ' → Own K Hf' H' t' v ft → t' = t → outs' = outs → Q v H' := by
      intro Γ' σ' Hf' H' fp' ft v t' outs' ho E' w' s' p' ov et eo
      subst et eo
      obtain ⟨as, Γ1, ha, htk⟩ := outs_some ho
      have hl := avs_len ha
      have rel : AVR K Hf' σ' as vs := avs_rel s'.ext ha o fun i hi => by
        obtain ⟨_, hlt⟩ := js_lt hi
        have hv : i < vs.length := by rw [o.len]; omega
        refine ⟨vs[i], List.getElem?_eq_getElem hv, ?_⟩
        rw [p' i hi]
        unfold L2.start
        rw [List.getElem?_append_left (by simpa using hv), List.getElem?_map, List.getElem?_eq_getElem hv]
        rfl
      obtain ⟨fo, fr, oo, Er, pp⟩ := E'.take rel htk
      have pp2 : ((fo ++ ft) ++ fr).Perm (fp' ++ ft) := List.perm_iff_count.mpr fun z => by
        have := pp.count_eq z
        simp only [List.count_append] at *
        omega
      exact q v Hf' H' fo ft oo ov (w'.perm pp2).left (s'.trans (Step.sub fun a ha => pp2.mem_iff.mp (by simp only [List.mem_append] at ha ⊢; exact .inl ha)))
    unfold dFun at hf
    split at hf
    · rename_i t1 Γ1 h1
      split at hf
      · rename_i outs1 ho
        cases hf
        exact hss (L2.start N vs) _ _ Γ1 h1 Hf H fa hE wd _ fun σ' Hf' H' fp' ft E' w' s' p' v ov => fin ho E' w' s' p' ov rfl rfl
      · cases hf
    · rename_i Γ1 h1
      split at hf
      · rename_i outs1 ho
        cases hf
        exact hss (L2.start N vs) _ _ Γ1 h1 Hf H fa hE wd _ fun σ' Hf' H' fp' ft E' w' s' p' e => by
          subst e
          exact fin ho E' w' s' p' (.frz (by simp only [Rep])) rfl rfl
      · cases hf
    · split at hf <;> cases hf
    · cases hf
end Fw
namespace Fw
open PySem L2

/-! ### built-ins by values -/
def intsD : List D → Option (List Int)
  | [] => some []
  | .int i :: ds => (intsD ds).map (i :: ·)
  | _ :: _ => none
theorem intsD_eq : ∀ {ds : List D} {ns : List Int}, intsD ds = some ns → ds = ns.map D.int
  | [], _, h => by cases h; rfl
  | .int i :: ds, _, h => by
    simp only [intsD, Option.map_eq_some_iff] at h
    obtain ⟨ns, h, rfl⟩ := h
    rw [intsD_eq h]; rfl
  | .non :: _, _, h | .bl _ :: _, _, h | .str _ :: _, _, h | .ty _ :: _, _, h | .tup _ :: _, _, h | .lst _ :: _, _, h | .scr _ :: _, _, h | .dct _ _ :: _, _, h => by simp [intsD] at h
theorem intsD_map (ns : List Int) : intsD (ns.map D.int) = some ns := by
  induction ns with
  | nil => rfl
  | cons n ns ih => simp [intsD, ih]
/-- a list, read now -/
def listD : D → Option (List D)
  | .lst ds => some ds
  | .scr ds => some ds
  | _ => none
theorem Top.seqL {K : PySem.W.Frag} {Hf H : Hp} {d : D} {ds : List D} {v : V} (s : Same Hf H) (t : Top K Hf H d v) (h : listD d = some ds) : ∃ a xs, v = .ref a ∧ SqL K H a xs ∧ RepL K Hf ds xs := by
  unfold listD at h
  split at h
  · cases h
    obtain ⟨a, xs, rfl, ha, ra⟩ := t.list s
    exact ⟨a, xs, rfl, .inl (.inl ha), ra⟩
  · cases h
    obtain ⟨a, xs, rfl, ha, ra⟩ := t.scr s
    exact ⟨a, xs, rfl, ha, ra⟩
  · cases h
def listI (d : D) : Option (List Int) := (listD d).bind intsD
theorem Top.ints {K : PySem.W.Frag} {Hf H : Hp} {d : D} {ns : List Int} {v : V} (s : Same Hf H) (t : Top K Hf H d v) (h : listI d = some ns) : ∃ a, v = .ref a ∧ SqL K H a (ns.map V.int) := by
  unfold listI at h
  rw [Option.bind_eq_some_iff] at h
  obtain ⟨ds, h1, h2⟩ := h
  obtain ⟨a, xs, rfl, ha, ra⟩ := t.seqL s h1
  rw [intsD_eq h2] at ra
  rw [ra.ints] at ha
  exact ⟨a, rfl, ha⟩
def zLen : List D → Option Z
  | [.lst ds] => some (.val (.int ds.length))
  | [.scr ds] => some (.val (.int ds.length))
  | [.tup ds] => some (.val (.int ds.length))
  | [.str s] => if s.length ≤ big then some (.val (.int s.length)) else none
  | _ => none
def rLenU (K : PySem.W.Frag) : List V → Hp → VK → Prop := fun xs H Q => (∃ p ys, xs = [.ref p] ∧ (SqL K H p ys ∨ SqT K H p ys) ∧ Q (.int ys.length) H) ∨ (∃ z, xs = [.str z] ∧ z.length ≤ sizeLine ∧ Q (.int z.length) H)
theorem call_lenU {X : Cx} : CallR X (.builtin "len") (rLenU X.K) := call_len_seq.or call_len_str
theorem TopL.one {K : PySem.W.Frag} {Hf H : Hp} {d : D} {xs : List V} (t : TopL K Hf H [d] xs) : ∃ v, xs = [v] ∧ Top K Hf H d v := by
  cases t with
  | cons a b => cases b; exact ⟨_, rfl, a⟩
theorem TopL.two {K : PySem.W.Frag} {Hf H : Hp} {d e : D} {xs : List V} (t : TopL K Hf H [d, e] xs) : ∃ v w, xs = [v, w] ∧ Top K Hf H d v ∧ Top K Hf H e w := by
  cases t with
  | cons a b => cases b with | cons c d => cases d; exact ⟨_, _, rfl, a, c⟩
section
variable {K : PySem.W.Frag}
theorem cs_len : CallS K (rLenU K) zLen := by
  intro Hf H xs ds z s t hz Q q
  unfold zLen at hz
  split at hz
  · cases hz
    obtain ⟨v, rfl, t'⟩ := t.one
    obtain ⟨a, xs, rfl, ha, ra⟩ := t'.list s
    exact .inl ⟨a, xs, rfl, .inl (.inl (.inl ha)), by rw [ra.len]; exact made_int q⟩
  · cases hz
    obtain ⟨v, rfl, t'⟩ := t.one
    obtain ⟨a, xs, rfl, ha, ra⟩ := t'.scr s
    exact .inl ⟨a, xs, rfl, .inl ha, by rw [ra.len]; exact made_int q⟩
  · cases hz
    obtain ⟨v, rfl, t'⟩ := t.one
    obtain ⟨a, xs, rfl, ha, ra⟩ := t'.tup s
    exact .inl ⟨a, xs, rfl, .inr ha, by rw [ra.len]; exact made_int q⟩
  · split at hz
    · rename_i hl; cases hz
      obtain ⟨v, rfl, t'⟩ := t.one
      cases t'.str
      exact .inr ⟨_, rfl, big_le hl, made_int q⟩
    · cases hz
  · cases hz
def zInt : List D → Option Z
  | [.int i] => some (.val (.int i))
  | [.bl b] => some (.val (.int (if b then 1 else 0)))
  | _ => none
theorem cs_int : CallS K (fun xs H Q => (∃ i, xs = [.int i] ∧ Q (.int i) H) ∨ ∃ k, xs = [.bl k] ∧ Q (.int (if k then 1 else 0)) H) zInt := by
  intro Hf H xs ds z s t hz Q q
  unfold zInt at hz
  split at hz
  · cases hz
    obtain ⟨v, rfl, t'⟩ := t.one
    cases t'.int
    exact .inl ⟨_, rfl, made_int q⟩
  · cases hz
    obtain ⟨v, rfl, t'⟩ := t.one
    cases t'.bl
    exact .inr ⟨_, rfl, made_int q⟩
  · cases hz
def zAbs : List D → Option Z
  | [.int i] => some (.val (.int (if i < 0 then -i else i)))
  | _ => none
theorem cs_abs : CallS K (fun xs H Q => ∃ i, xs = [.int i] ∧ Q (.int (if i < 0 then -i else i)) H) zAbs := by
  intro Hf H xs ds z s t hz Q q
  unfold zAbs at hz
  split at hz
  · cases hz
    obtain ⟨v, rfl, t'⟩ := t.one
    cases t'.int
    exact ⟨_, rfl, made_int q⟩
  · cases hz
def zSum : List D → Option Z
  | [d] => (listI d).map fun ns => .val (.int ns.sum)
  | _ => none
theorem cs_sum : CallS K (rSum K) zSum := by
  intro Hf H xs ds z s t hz Q q
  unfold zSum at hz
  split at hz
  · rw [Option.map_eq_some_iff] at hz
    obtain ⟨ns, hn, rfl⟩ := hz
    obtain ⟨v, rfl, t'⟩ := t.one
    obtain ⟨a, rfl, ha⟩ := t'.ints s hn
    exact ⟨a, ns, rfl, ha, made_int q⟩
  · cases hz
def maxL : List Int → Int
  | [] => 0
  | [x] => x
  | x :: xs => if maxL xs < x then x else maxL xs
def minL : List Int → Int
  | [] => 0
  | [x] => x
  | x :: xs => if x < minL xs then x else minL xs
theorem maxL_spec : ∀ {ns : List Int}, ns ≠ [] → maxL ns ∈ ns ∧ ∀ y ∈ ns, y ≤ maxL ns
  | [], h => absurd rfl h
  | [x], _ => by simp [maxL]
  | x :: y :: xs, _ => by
    have ih := maxL_spec (ns := y :: xs) (by simp)
    simp only [maxL]
    split
    · rename_i h
      refine ⟨by simp, fun z hz => ?_⟩
      rcases List.mem_cons.mp hz with rfl | hz
      · exact Int.le_refl _
      · have := ih.2 z hz; omega
    · rename_i h
      refine ⟨List.mem_cons_of_mem _ ih.1, fun z hz => ?_⟩
      rcases List.mem_cons.mp hz with rfl | hz
      · omega
      · exact ih.2 z hz
theorem minL_spec : ∀ {ns : List Int}, ns ≠ [] → minL ns ∈ ns ∧ ∀ y ∈ ns, minL ns ≤ y
  | [], h => absurd rfl h
  | [x], _ => by simp [minL]
  | x :: y :: xs, _ => by
    have ih := minL_spec (ns := y :: xs) (by simp)
    simp only [minL]
    split
    · rename_i h
      refine ⟨by simp, fun z hz => ?_⟩
      rcases List.mem_cons.mp hz with rfl | hz
      · exact Int.le_refl _
      · have := ih.2 z hz; omega
    · rename_i h
      refine ⟨List.mem_cons_of_mem _ ih.1, fun z hz => ?_⟩
      rcases List.mem_cons.mp hz with rfl | hz
      · omega
      · exact ih.2 z hz
def zMax : List D → Option Z
  | [d] => (listI d).bind fun ns => if ns = [] then none else some (.val (.int (maxL ns)))
  | [.int i, .int j] => some (.val (.int (if j > i then j else i)))
  | _ => none
def zMin : List D → Option Z
  | [d] => (listI d).bind fun ns => if ns = [] then none else some (.val (.int (minL ns)))
  | [.int i, .int j] => some (.val (.int (if j < i then j else i)))
  | _ => none
def rMaxU (K : PySem.W.Frag) : List V → Hp → VK → Prop := fun xs H Q => rMax K xs H Q ∨ ∃ i j, xs = [.int i, .int j] ∧ Q (.int (if j > i then j else i)) H
def rMinU (K : PySem.W.Frag) : List V → Hp → VK → Prop := fun xs H Q => rMin K xs H Q ∨ ∃ i j, xs = [.int i, .int j] ∧ Q (.int (if j < i then j else i)) H
theorem call_maxU {X : Cx} (hc : X.calm = true) : CallR X (.builtin "max") (rMaxU X.K) := (cr_max hc).or (call_max2 hc)
theorem call_minU {X : Cx} (hc : X.calm = true) : CallR X (.builtin "min") (rMinU X.K) := (cr_min hc).or (call_min2 hc)
theorem cs_max : CallS K (rMaxU K) zMax := by
  intro Hf H xs ds z s t hz Q q
  unfold zMax at hz
  split at hz
  · rw [Option.bind_eq_some_iff] at hz
    obtain ⟨ns, hn, hz⟩ := hz
    split at hz
    · cases hz
    · rename_i hne
      cases hz
      obtain ⟨v, rfl, t'⟩ := t.one
      obtain ⟨a, rfl, ha⟩ := t'.ints s hn
      obtain ⟨m1, m2⟩ := maxL_spec hne
      refine .inl ⟨a, ns, rfl, ha, List.length_pos_iff.mpr hne, fun m hm hle => ?_⟩
      have e : m = maxL ns := Int.le_antisymm (m2 m hm) (hle _ m1)
      rw [e]
      exact made_int q
  · cases hz
    obtain ⟨v, w, rfl, t1, t2⟩ := t.two
    cases t1.int; cases t2.int
    exact .inr ⟨_, _, rfl, made_int q⟩
  · cases hz
theorem cs_min : CallS K (rMinU K) zMin := by
  intro Hf H xs ds z s t hz Q q
  unfold zMin at hz
  split at hz
  · rw [Option.bind_eq_some_iff] at hz
    obtain ⟨ns, hn, hz⟩ := hz
    split at hz
    · cases hz
    · rename_i hne
      cases hz
      obtain ⟨v, rfl, t'⟩ := t.one
      obtain ⟨a, rfl, ha⟩ := t'.ints s hn
      obtain ⟨m1, m2⟩ := minL_spec hne
      refine .inl ⟨a, ns, rfl, ha, List.length_pos_iff.mpr hne, fun m hm hle => ?_⟩
      have e : m = minL ns := Int.le_antisymm (hle _ m1) (m2 m hm)
      rw [e]
      exact made_int q
  · cases hz
    obtain ⟨v, w, rfl, t1, t2⟩ := t.two
    cases t1.int; cases t2.int
    exact .inr ⟨_, _, rfl, made_int q⟩
  · cases hz
/-- list(x), tuple(x) -/
def zList : List D → Option Z
  | [.lst ds] => some (.lst ds)
  | [.scr ds] => some (.lst ds)
  | [.tup ds] => some (.lst ds)
  | _ => none
theorem cs_list : CallS K (fun xs H Q => ∃ p ys, xs = [.ref p] ∧ (SqL K H p ys ∨ SqT K H p ys) ∧ ∀ l, H l = none → Q (.ref l) (upd H l (.lst ys))) zList := by
  intro Hf H xs ds z s t hz Q q
  unfold zList at hz
  split at hz
  · cases hz
    obtain ⟨v, rfl, t'⟩ := t.one
    obtain ⟨a, xs, rfl, ha, ra⟩ := t'.list s
    exact ⟨a, xs, rfl, .inl (.inl (.inl ha)), fun p hp => made_lst q ra hp⟩
  · cases hz
    obtain ⟨v, rfl, t'⟩ := t.one
    obtain ⟨a, xs, rfl, ha, ra⟩ := t'.scr s
    exact ⟨a, xs, rfl, .inl ha, fun p hp => made_lst q ra hp⟩
  · cases hz
    obtain ⟨v, rfl, t'⟩ := t.one
    obtain ⟨a, xs, rfl, ha, ra⟩ := t'.tup s
    exact ⟨a, xs, rfl, .inr ha, fun p hp => made_lst q ra hp⟩
  · cases hz
def zTuple : List D → Option Z
  | [.lst ds] => some (.tup ds)
  | [.scr ds] => some (.tup ds)
  | [.tup ds] => some (.tup ds)
  | _ => none
theorem cs_tuple : CallS K (fun xs H Q => ∃ p ys, xs = [.ref p] ∧ ((SqL K H p ys ∧ ∀ l, H l = none → Q (.ref l) (upd H l (.tup ys))) ∨ (SqT K H p ys ∧ Q (.ref p) H))) zTuple := by
  intro Hf H xs ds z s t hz Q q
  unfold zTuple at hz
  split at hz
  · cases hz
    obtain ⟨v, rfl, t'⟩ := t.one
    obtain ⟨a, xs, rfl, ha, ra⟩ := t'.list s
    exact ⟨a, xs, rfl, .inl ⟨.inl (.inl ha), fun p hp => made_tup q ra hp⟩⟩
  · cases hz
    obtain ⟨v, rfl, t'⟩ := t.one
    obtain ⟨a, xs, rfl, ha, ra⟩ := t'.scr s
    exact ⟨a, xs, rfl, .inl ⟨ha, fun p hp => made_tup q ra hp⟩⟩
  · cases hz
    obtain ⟨v, rfl, t'⟩ := t.one
    cases t' with
    | frz r =>
    have r0 := r
    obtain ⟨a, xs, rfl, ha, ra⟩ := (Top.frz (K := K) (Hf := Hf) (H := H) r).tup s
    exact ⟨a, xs, rfl, .inr ⟨ha, q _ _ (.inr ⟨rfl, r0⟩)⟩⟩
  · cases hz
/-- isinstance(x, T), T a built-in type -/
def tyOfD : D → Option String
  | .non => some "NoneType"
  | .bl _ => some "bool"
  | .int _ => some "int"
  | .str _ => some "str"
  | .tup _ => some "tuple"
  | .lst _ => some "list"
  | _ => none
def isiB (d : D) (n : String) : Option Bool := match d with
  | .non => if n = "int" then some false else if n = "bool" then some false else if n = "str" then some false else if n = "tuple" then some false else if n = "list" then some false else none
  | .bl _ => if n = "int" then some true else if n = "bool" then some true else if n = "str" then some false else if n = "tuple" then some false else if n = "list" then some false else none
  | .int _ => if n = "int" then some true else if n = "bool" then some false else if n = "str" then some false else if n = "tuple" then some false else if n = "list" then some false else none
  | .str _ => if n = "int" then some false else if n = "bool" then some false else if n = "str" then some true else if n = "tuple" then some false else if n = "list" then some false else none
  | .tup _ => if n = "int" then some false else if n = "bool" then some false else if n = "str" then some false else if n = "tuple" then some true else if n = "list" then some false else none
  | .lst _ => if n = "int" then some false else if n = "bool" then some false else if n = "str" then some false else if n = "tuple" then some false else if n = "list" then some true else none
  | _ => none
theorem isi_kit {d : D} {t n : String} {b : Bool} (ht : tyOfD d = some t) (h : isiB d n = some b) : PySem.W.kitOne K (.type t) (.type n) = some b := by
  cases d <;> simp only [tyOfD, Option.some.injEq, reduceCtorEq] at ht <;> subst ht <;> simp only [isiB] at h
  all_goals
    split at h
    · subst n; cases h; rfl
    split at h
    · subst n; cases h; rfl
    split at h
    · subst n; cases h; rfl
    split at h
    · subst n; cases h; rfl
    split at h
    · subst n; cases h; rfl
    · cases h
def zIsi : List D → Option Z
  | [d, .ty n] => (tyOfD d).bind fun _ => (isiB d n).map fun b => .val (.bl b)
  | _ => none
theorem Top.tyx {Hf H : Hp} {d : D} {v : V} {t : String} (s : Same Hf H) (h : Top K Hf H d v) (e : tyOfD d = some t) : TyX K H v (.type t) := by
  cases d <;> simp [tyOfD] at e
  · subst e; cases h.non; exact .base .non
  · subst e; cases h.bl; exact .base (.bl _)
  · subst e; cases h.int; exact .base (.int _)
  · subst e; cases h.str; exact .base (.str _)
  · subst e
    obtain ⟨a, xs, rfl, ha, _⟩ := h.tup s
    rcases ha with (ha | ⟨o, ha⟩) | ⟨o, its, n, ha, hc, _⟩
    · exact .base (.tup ha)
    · exact .fTuple ha
    · exact .kTuple ha hc
  · subst e
    obtain ⟨a, xs, rfl, ha, _⟩ := h.list s
    exact .base (.lst ha)
theorem Top.ty {Hf H : Hp} {n : String} {v : V} (t : Top K Hf H (.ty n) v) : v = .ty n := by cases t with | frz r => simpa only [Rep] using r
theorem cs_isi : CallS K (rIsi K) zIsi := by
  intro Hf H xs ds z s t hz Q q
  unfold zIsi at hz
  split at hz
  · rw [Option.bind_eq_some_iff] at hz
    obtain ⟨ty, h1, hz⟩ := hz
    rw [Option.map_eq_some_iff] at hz
    obtain ⟨b, h2, rfl⟩ := hz
    obtain ⟨v, w, rfl, t1, t2⟩ := t.two
    cases t2.ty
    exact ⟨v, _, _, _, b, rfl, .ty _, t1.tyx s h1, isi_kit h1 h2, made_bl q⟩
  · cases hz
/-- l.index(x), l.count(x) -/
def firstD (d : D) : List D → Nat → Option Nat
  | [], _ => none
  | e :: es, k => if deq e d = true then some k else firstD d es (k + 1)
theorem firstD_spec {d : D} : ∀ {es : List D} {k j : Nat}, firstD d es k = some j → ∃ i, j = k + i ∧ (∃ e, es[i]? = some e ∧ deq e d = true) ∧ ∀ m e, m < i → es[m]? = some e → deq e d = false
  | [], _, _, h => by simp [firstD] at h
  | e :: es, k, j, h => by
    unfold firstD at h
    split at h
    · rename_i hd
      cases h
      exact ⟨0, rfl, ⟨e, rfl, hd⟩, fun m _ hm => absurd hm (by omega)⟩
    · rename_i hd
      obtain ⟨i, rfl, ⟨e', h1, h2⟩, h3⟩ := firstD_spec h
      refine ⟨i + 1, by omega, ⟨e', by simpa using h1, h2⟩, fun m e2 hm he => ?_⟩
      cases m with
      | zero => simp at he; subst he; simpa using hd
      | succ m => exact h3 m e2 (by omega) (by simpa using he)
def zIndex : D → List D → Option Z
  | .lst es, [d] => if shp (.lst es) && shp d then (firstD d es 0).map fun (j : Nat) => Z.val (.int (j : Int)) else none
  | _, _ => none
theorem ms_index : MethS K "list" (rIndexD K) zIndex := by
  intro Hf H x xs d ds z s t ts hz Q q
  unfold zIndex at hz
  split at hz
  · rename_i es d
    split at hz
    · rename_i hs
      rw [Bool.and_eq_true] at hs
      rw [Option.map_eq_some_iff] at hz
      obtain ⟨j, hj, rfl⟩ := hz
      obtain ⟨v, rfl, t1⟩ := ts.one
      have h1 := t.dp s hs.1
      have h2 := t1.dp s hs.2
      obtain ⟨i, rfl, ⟨e, e1, e2⟩, e3⟩ := firstD_spec hj
      obtain ⟨a, xs, rfl, ha, ra⟩ := t.list s
      simp only [toPy] at h1
      refine ⟨a, v, toPy d, toPyL es, 0 + i, toPy e, rfl, rfl, h1, h2, hs.1, hs.2, ?_, e2, fun m z' hm hz => ?_, made_int q⟩
      · rw [toPyL_map, List.getElem?_map, Nat.zero_add, e1]; rfl
      · rw [toPyL_map, List.getElem?_map, Option.map_eq_some_iff] at hz
        obtain ⟨e', h3, rfl⟩ := hz
        exact e3 m e' (by omega) h3
    · cases hz
  · cases hz
def zCount : D → List D → Option Z
  | d, [.int k] => (listI d).map fun ns => .val (.int (ns.count k : Nat))
  | _, _ => none
theorem ms_count : MethS K "list" (rCntI K) zCount := by
  intro Hf H x xs d ds z s t ts hz Q q
  unfold zCount at hz
  split at hz
  · rw [Option.map_eq_some_iff] at hz
    obtain ⟨ns, hn, rfl⟩ := hz
    obtain ⟨v, rfl, t1⟩ := ts.one
    cases t1.int
    obtain ⟨a, rfl, ha⟩ := t.ints s hn
    exact ⟨a, ns, _, rfl, rfl, ha, made_int q⟩
  · cases hz
end
end Fw
namespace Fw
open PySem L2

/-! ### a family of contexts: a def's body, a comprehension's block -/
structure Fam where
  ι : Type
  X : ι → Cx
  K : PySem.W.Frag
  mg : Str → Option Value
  N : List Str
  sc : Scope
  k : Nat
  hK : ∀ i, (X i).K = K
  hmg : ∀ i, (X i).mg = mg
  hN : ∀ i, (X i).N = N
  hsc : ∀ i, (X i).env.scope = sc
  calm : ∀ i, (X i).calm = true
  room : ∀ i, Room k (X i).A
  nd : N.Nodup
def PED (F : Fam) (e : Expr) (d : Den) : Prop := ∃ t, (∀ i, PE (F.X i) e t) ∧ SE F.K t d
def PTD (F : Fam) (e : Expr) (d : DenT) : Prop := ∃ t, (∀ i, PT (F.X i) e t) ∧ ST F.K t d
def POsD (F : Fam) (es : List Expr) (ds : List Den) : Prop := ∃ t, (∀ i, PA (F.X i) es t) ∧ SOs F.K t ds
def PVsD (F : Fam) (es : List Expr) (ds : List Den) : Prop := ∃ t, (∀ i, PA (F.X i) es t) ∧ SVs F.K t ds
def PAsD (F : Fam) (es : List Expr) (ds : List Arg) : Prop := ∃ t, (∀ i, PA (F.X i) es t) ∧ SAs F.K t ds
def PSD (F : Fam) (js : List Nat) (st : Stmt) (s : SDen) : Prop := ∃ t, (∀ i, PS (F.X i) st t) ∧ SS F.K js t s
def PSsD (F : Fam) (js : List Nat) (st : List Stmt) (s : SDen) : Prop := ∃ t, (∀ i, PSs (F.X i) st t) ∧ SS F.K js t s
def PGD (F : Fam) (e : Expr) (put : Put) (ks : List Nat) : Prop := ∃ t, (∀ i, PG (F.X i) e t) ∧ SG F.K t put ks
def PGsD (F : Fam) (es : List Expr) (put : PutL) (ks : List Nat) : Prop := ∃ t, (∀ i, PGs (F.X i) es t) ∧ SGs F.K t put ks
def PID (F : Fam) (tg e : Expr) (it : Env → Out (List D)) : Prop := ∃ t, (∀ i, PI (F.X i) tg e t) ∧ SI F.K t it
theorem Fam.op {F : Fam} {i : F.ι} {g : Value → Value → Sem Value} {r : PySem.W.Frag → R2} (h : OpR (F.X i) g (r (F.X i).K)) : OpR (F.X i) g (r F.K) := by rw [F.hK i] at h; exact h
theorem Fam.ix {F : Fam} {i : F.ι} {r : PySem.W.Frag → R2} (h : IxR (F.X i) (r (F.X i).K)) : IxR (F.X i) (r F.K) := by rw [F.hK i] at h; exact h
theorem Fam.sl {F : Fam} {i : F.ι} {r : PySem.W.Frag → V → Option Int → Option Int → Hp → VK → Prop} (h : SlR (F.X i) (r (F.X i).K)) : SlR (F.X i) (r F.K) := by rw [F.hK i] at h; exact h
theorem Fam.call {F : Fam} {i : F.ι} {g : Value} {r : PySem.W.Frag → List V → Hp → VK → Prop} (h : CallR (F.X i) g (r (F.X i).K)) : CallR (F.X i) g (r F.K) := by rw [F.hK i] at h; exact h
theorem Fam.pe {F : Fam} {i : F.ι} {e : Expr} {t : PySem.W.Frag → TE} (h : PE (F.X i) e (t (F.X i).K)) : PE (F.X i) e (t F.K) := by rw [F.hK i] at h; exact h
theorem Fam.pi {F : Fam} {i : F.ι} {tg e : Expr} {t : PySem.W.Frag → TI} (h : PI (F.X i) tg e (t (F.X i).K)) : PI (F.X i) tg e (t F.K) := by rw [F.hK i] at h; exact h
theorem Fam.pg {F : Fam} {i : F.ι} {tg : Expr} {t : PySem.W.Frag → TG} (h : PG (F.X i) tg (t (F.X i).K)) : PG (F.X i) tg (t F.K) := by rw [F.hK i] at h; exact h
theorem Fam.mt {F : Fam} {i : F.ι} {id : String} {r : PySem.W.Frag → V → List V → Hp → VK → Prop} (h : MtR (F.X i) id (r (F.X i).K)) : MtR (F.X i) id (r F.K) := by rw [F.hK i] at h; exact h
theorem Fam.gl {F : Fam} {x : Str} (h : F.sc.names.lookup x = some .globalImplicit) (i : F.ι) : Gl (F.X i) x := by
  show (F.X i).env.scope.names.lookup x = _
  rw [F.hsc i]; exact h
theorem Fam.vis {F : Fam} {x : Str} (h : Vis F.sc x) (i : F.ι) : Vis (F.X i).env.scope x := by rw [F.hsc i]; exact h
theorem Fam.loc {F : Fam} {x : Str} (h : Loc F.sc x) (i : F.ι) : Loc (F.X i).env.scope x := by rw [F.hsc i]; exact h
theorem Fam.at {F : Fam} {x : Str} {j : Nat} (h : F.N[j]? = some x) (i : F.ι) : (F.X i).N[j]? = some x := by rw [F.hN i]; exact h
theorem Fam.ndx {F : Fam} (i : F.ι) : (F.X i).N.Nodup := by rw [F.hN i]; exact F.nd
theorem Fam.mgx {F : Fam} {x : Str} {v : Option Value} (h : F.mg x = v) (i : F.ι) : (F.X i).mg x = v := by rw [F.hmg i]; exact h
section
variable {F : Fam} {a b c e : Expr} {es : List Expr} {pos p : Pos} {da db dc de : Den} {des : List Den}
theorem sd_name (i : Nat) {x : Str} (hN : F.N[i]? = some x := by rfl) (hv : Vis F.sc x := by first | exact Or.inl rfl | exact Or.inr (Or.inl rfl) | exact Or.inr (Or.inr rfl)) (hd : (x == ("__debug__" : Str)) = false := by decide)
    (hcd : (x == ("__classdict__" : Str)) = false := by decide) : PED F (.Name x pos) (dName i) := ⟨_, fun z => pe_var (Fam.at hN z) (Fam.vis hv z) hd hcd, se_name⟩
theorem sd_move (i : Nat) {x : Str} (hN : F.N[i]? = some x := by rfl) (hv : Vis F.sc x := by first | exact Or.inl rfl | exact Or.inr (Or.inl rfl) | exact Or.inr (Or.inr rfl)) (hd : (x == ("__debug__" : Str)) = false := by decide)
    (hcd : (x == ("__classdict__" : Str)) = false := by decide) : PED F (.Name x pos) (dMove i) := ⟨_, fun z => pe_var (Fam.at hN z) (Fam.vis hv z) hd hcd, se_move⟩
theorem sd_int {i : Int} {j} : PED F (.Constant (.int i) j pos) (dC (.int i)) := ⟨tC (.int i), fun _ => pe_int, se_c fun _ => by simp only [Rep]⟩
theorem sd_bl {i : Bool} {j} : PED F (.Constant (.bool i) j pos) (dC (.bl i)) := ⟨tC (.bl i), fun _ => pe_bl, se_c fun _ => by simp only [Rep]⟩
theorem sd_non {j} : PED F (.Constant .none j pos) (dC .non) := ⟨tC .non, fun _ => pe_non, se_c fun _ => by simp only [Rep]⟩
theorem sd_str {x : Str} {j} : PED F (.Constant (.str x) j pos) (dC (.str x)) := ⟨tC (.str x), fun _ => pe_str, se_c fun _ => by simp only [Rep]⟩
theorem sd_gint {x : Str} {i : Int} {t : Tok} (hm : F.mg x = some (.int i t)) (hg : F.sc.names.lookup x = some .globalImplicit := by rfl) (hdb : (x == ("__debug__" : Str)) = false := by decide) :
    PED F (.Name x pos) (dC (.int i)) := ⟨tC (.int i), fun z => pe_glob (Fam.gl hg z) (Fam.mgx hm z) (show RelV (.int i) (.int i t) from ⟨_, rfl⟩) hdb, se_c fun _ => by simp only [Rep]⟩
theorem sd_gstr {x y : Str} {t : Tok} (hm : F.mg x = some (.str y t)) (hg : F.sc.names.lookup x = some .globalImplicit := by rfl) (hdb : (x == ("__debug__" : Str)) = false := by decide) :
    PED F (.Name x pos) (dC (.str y)) := ⟨tC (.str y), fun z => pe_glob (Fam.gl hg z) (Fam.mgx hm z) (show RelV (.str y) (.str y t) from ⟨_, rfl⟩) hdb, se_c fun _ => by simp only [Rep]⟩
theorem sd_add (ha : PED F a da) (hb : PED F b db) : PED F (.BinOp a .Add b pos) (dBin zAdd da db) := let ⟨_, p1, s1⟩ := ha; let ⟨_, p2, s2⟩ := hb; ⟨_, fun i => pe_op (Fam.op (r := rAddU) op_addU) (p1 i) (p2 i), se_bin os_add s1 s2⟩
theorem sd_mul (ha : PED F a da) (hb : PED F b db) : PED F (.BinOp a .Mult b pos) (dBin zMul da db) := let ⟨_, p1, s1⟩ := ha; let ⟨_, p2, s2⟩ := hb; ⟨_, fun i => pe_op (Fam.op (r := rMulU) op_mulU) (p1 i) (p2 i), se_bin os_mul s1 s2⟩
theorem sd_sub (ha : PED F a da) (hb : PED F b db) : PED F (.BinOp a .Sub b pos) (dBin zSub da db) := let ⟨_, p1, s1⟩ := ha; let ⟨_, p2, s2⟩ := hb; ⟨_, fun i => pe_op op_sub (p1 i) (p2 i), se_bin os_sub s1 s2⟩
theorem sd_mod (ha : PED F a da) (hb : PED F b db) : PED F (.BinOp a .Mod b pos) (dBin zMod da db) := let ⟨_, p1, s1⟩ := ha; let ⟨_, p2, s2⟩ := hb; ⟨_, fun i => pe_op op_mod (p1 i) (p2 i), se_bin os_mod s1 s2⟩
theorem sd_div (ha : PED F a da) (hb : PED F b db) : PED F (.BinOp a .FloorDiv b pos) (dBin zDiv da db) := let ⟨_, p1, s1⟩ := ha; let ⟨_, p2, s2⟩ := hb; ⟨_, fun i => pe_op op_fdivW (p1 i) (p2 i), se_bin os_div s1 s2⟩
theorem sd_pow (ha : PED F a da) (hb : PED F b db) : PED F (.BinOp a .Pow b pos) (dBin zPow da db) := let ⟨_, p1, s1⟩ := ha; let ⟨_, p2, s2⟩ := hb; ⟨_, fun i => pe_op op_pow (p1 i) (p2 i), se_bin os_pow s1 s2⟩
theorem sd_shl (ha : PED F a da) (hb : PED F b db) : PED F (.BinOp a .LShift b pos) (dBin zShl da db) := let ⟨_, p1, s1⟩ := ha; let ⟨_, p2, s2⟩ := hb; ⟨_, fun i => pe_op op_shlW (p1 i) (p2 i), se_bin os_shl s1 s2⟩
theorem sd_shr (ha : PED F a da) (hb : PED F b db) : PED F (.BinOp a .RShift b pos) (dBin zShr da db) := let ⟨_, p1, s1⟩ := ha; let ⟨_, p2, s2⟩ := hb; ⟨_, fun i => pe_op op_shr (p1 i) (p2 i), se_bin os_shr s1 s2⟩
theorem sd_band (ha : PED F a da) (hb : PED F b db) : PED F (.BinOp a .BitAnd b pos) (dBin zAnd da db) := let ⟨_, p1, s1⟩ := ha; let ⟨_, p2, s2⟩ := hb; ⟨_, fun i => pe_op op_and (p1 i) (p2 i), se_bin os_and s1 s2⟩
theorem sd_bor (ha : PED F a da) (hb : PED F b db) : PED F (.BinOp a .BitOr b pos) (dBin zOr da db) := let ⟨_, p1, s1⟩ := ha; let ⟨_, p2, s2⟩ := hb; ⟨_, fun i => pe_op op_or (p1 i) (p2 i), se_bin os_or s1 s2⟩
theorem sd_neg (ha : PED F a da) : PED F (.UnaryOp .USub a pos) (dUn zNeg da) := let ⟨_, p1, s1⟩ := ha; ⟨_, fun i => pe_un un_neg (p1 i), se_un (r := rU fun i => .int (-i)) us_neg s1⟩
theorem sd_not (ha : PED F a da) : PED F (.UnaryOp .Not a pos) (dNot da) := let ⟨_, p1, s1⟩ := ha; ⟨_, fun i => pe_not (p1 i), se_not s1⟩
def CmpD (F : Fam) (op : CmpOp) (f : D → D → Option Z) : Prop := ∃ r, (∀ i, OpR (F.X i) (compareOp op) r) ∧ OpS F.K r f
theorem cd_lt : CmpD F .Lt zLt := ⟨_, fun _ => op_lt, os_cmp⟩
theorem cd_le : CmpD F .LtE zLe := ⟨_, fun _ => op_le, os_cmp⟩
theorem cd_gt : CmpD F .Gt zGt := ⟨_, fun _ => op_gt, os_cmp⟩
theorem cd_ge : CmpD F .GtE zGe := ⟨_, fun _ => op_ge, os_cmp⟩
theorem cd_eq : CmpD F .Eq zEq := ⟨_, fun i => Fam.op (r := rEqD) (op_eqD (F.room i).units), os_eq⟩
theorem cd_ne : CmpD F .NotEq zNe := ⟨_, fun i => Fam.op (r := rNeD) (op_neD (F.room i).units), os_ne⟩
theorem cd_in : CmpD F .In zIn := ⟨_, fun i => Fam.op (r := rInU) (op_inU (F.room i)), os_inU.1⟩
theorem cd_notIn : CmpD F .NotIn zNotIn := ⟨_, fun i => Fam.op (r := rNotInU) (op_notInU (F.room i)), os_inU.2⟩
def zIsB : D → D → Option Z
  | .bl a, .bl b => some (.val (.bl (decide (a = b))))
  | _, _ => none
def zIsNotB : D → D → Option Z
  | .bl a, .bl b => some (.val (.bl (!decide (a = b))))
  | _, _ => none
theorem cd_isB : CmpD F .Is zIsB := ⟨_, fun _ => op_is_bl, by
  intro Hf H x y dx dy z s hx hy hz Q q
  unfold zIsB at hz
  split at hz
  · cases hz; cases hx.bl; cases hy.bl; exact ⟨_, _, rfl, rfl, made_bl q⟩
  · cases hz⟩
theorem cd_isNotB : CmpD F .IsNot zIsNotB := ⟨_, fun _ => op_isnot_bl, by
  intro Hf H x y dx dy z s hx hy hz Q q
  unfold zIsNotB at hz
  split at hz
  · cases hz; cases hx.bl; cases hy.bl; exact ⟨_, _, rfl, rfl, made_bl q⟩
  · cases hz⟩
theorem sd_cmp {op : CmpOp} {f : D → D → Option Z} (h : CmpD F op f) (ha : PED F a da) (hb : PED F b db) (hm : behindInMarks op b = false := by first | exact nomark _ | with_unfolding_all rfl) : PED F (.Compare a [op] [b] pos) (dBin f da db) := let ⟨_, ho, os⟩ := h; let ⟨_, p1, s1⟩ := ha; let ⟨_, p2, s2⟩ := hb; ⟨_, fun i => pe_cmpR (ho i) (p1 i) (p2 i) hm, se_bin os s1 s2⟩
theorem td_cmp {op : CmpOp} {f : D → D → Option Z} (h : CmpD F op f) (ha : PED F a da) (hb : PED F b db) (hm : behindInMarks op b = false := by first | exact nomark _ | with_unfolding_all rfl) : PTD F (.Compare a [op] [b] pos) (dT (dBin f da db)) := let ⟨_, ho, os⟩ := h; let ⟨_, p1, s1⟩ := ha; let ⟨_, p2, s2⟩ := hb; ⟨_, fun i => pt_cmpR (ho i) (p1 i) (p2 i) hm, st_val (se_bin os s1 s2)⟩
theorem sd_chain {op op' : CmpOp} {f g : D → D → Option Z} (h : CmpD F op f) (h' : CmpD F op' g) (ha : PED F a da) (hb : PED F b db) (hc : PED F c dc) (hm : lastMarks [op, op'] [b, c] = false := by with_unfolding_all rfl) :
    PED F (.Compare a [op, op'] [b, c] pos) (dChain f g da db dc) := let ⟨_, ho, os⟩ := h; let ⟨_, ho', os'⟩ := h'; let ⟨_, p1, s1⟩ := ha; let ⟨_, p2, s2⟩ := hb; let ⟨_, p3, s3⟩ := hc; ⟨_, fun i => pe_chain (ho i) (ho' i) (p1 i) (p2 i) (p3 i) hm, se_chain os os' s1 s2 s3⟩
theorem td_chain {op op' : CmpOp} {f g : D → D → Option Z} (h : CmpD F op f) (h' : CmpD F op' g) (ha : PED F a da) (hb : PED F b db) (hc : PED F c dc) (hm : lastMarks [op, op'] [b, c] = false := by with_unfolding_all rfl) :
    PTD F (.Compare a [op, op'] [b, c] pos) (dT (dChain f g da db dc)) := let ⟨_, ho, os⟩ := h; let ⟨_, ho', os'⟩ := h'; let ⟨_, p1, s1⟩ := ha; let ⟨_, p2, s2⟩ := hb; let ⟨_, p3, s3⟩ := hc; ⟨_, fun i => pt_chain (ho i) (ho' i) (p1 i) (p2 i) (p3 i) hm, st_val (se_chain os os' s1 s2 s3)⟩
def zIsN : D → Option Z := fun d => some (.val (.bl (isNonD d)))
def zNotN : D → Option Z := fun d => some (.val (.bl (!isNonD d)))
theorem sd_isN {j pos'} (ha : PED F a da) : PED F (.Compare a [.Is] [.Constant .none j pos'] pos) (dUn zIsN da) := let ⟨_, p1, s1⟩ := ha; ⟨_, fun i => pe_cmp (pc_isN (p1 i)), se_un (r := fun x H Q => Q (.bl (decide (x = .non))) H) us_isN s1⟩
theorem sd_notN {j pos'} (ha : PED F a da) : PED F (.Compare a [.IsNot] [.Constant .none j pos'] pos) (dUn zNotN da) := let ⟨_, p1, s1⟩ := ha; ⟨_, fun i => pe_cmp (pc_notN (p1 i)), se_un (r := fun x H Q => Q (.bl (!decide (x = .non))) H) us_notN s1⟩
theorem td_isN {j pos'} (ha : PED F a da) : PTD F (.Compare a [.Is] [.Constant .none j pos'] pos) (dT (dUn zIsN da)) := let ⟨_, p1, s1⟩ := ha; ⟨_, fun i => pt_cmp (pc_isN (p1 i)), st_val (se_un (r := fun x H Q => Q (.bl (decide (x = .non))) H) us_isN s1)⟩
theorem td_notN {j pos'} (ha : PED F a da) : PTD F (.Compare a [.IsNot] [.Constant .none j pos'] pos) (dT (dUn zNotN da)) := let ⟨_, p1, s1⟩ := ha; ⟨_, fun i => pt_cmp (pc_notN (p1 i)), st_val (se_un (r := fun x H Q => Q (.bl (!decide (x = .non))) H) us_notN s1)⟩
theorem td_val (h : PED F e de) (he : ∀ env whole, isTrue e env whole = (do let v ← whole; standAt e.pos; holding [v] (truthy v)) := by intro _ _; rfl) : PTD F e (dT de) := let ⟨_, p1, s1⟩ := h; ⟨_, fun i => pt_val (p1 i) (he _), st_val s1⟩
theorem td_not {ta : DenT} (h : PTD F a ta) : PTD F (.UnaryOp .Not a pos) (dNotT ta) := let ⟨_, p1, s1⟩ := h; ⟨_, fun i => pt_not (p1 i), st_not s1⟩
def PWD (F : Fam) (e : Expr) (d : DenT) : Prop := ∃ t, (∀ i, PW (F.X i) e t) ∧ ST F.K t d
theorem wd_and1 {ta : DenT} (h : PTD F a ta) : PWD F (.BoolOp .And [a] pos) ta := let ⟨_, p1, s1⟩ := h; ⟨_, fun i => pw_and1 (p1 i), s1⟩
theorem wd_or1 {ta : DenT} (h : PTD F a ta) : PWD F (.BoolOp .Or [a] pos) ta := let ⟨_, p1, s1⟩ := h; ⟨_, fun i => pw_or1 (p1 i), s1⟩
theorem wd_and {ta tb : DenT} {rest : List Expr} (h : PTD F a ta) (g : PWD F (.BoolOp .And (b :: rest) pos) tb) : PWD F (.BoolOp .And (a :: b :: rest) pos) (dAndT ta tb) := let ⟨_, p1, s1⟩ := h; let ⟨_, p2, s2⟩ := g; ⟨_, fun i => pw_and (p1 i) (p2 i), st_and s1 s2⟩
theorem wd_or {ta tb : DenT} {rest : List Expr} (h : PTD F a ta) (g : PWD F (.BoolOp .Or (b :: rest) pos) tb) : PWD F (.BoolOp .Or (a :: b :: rest) pos) (dOrT ta tb) := let ⟨_, p1, s1⟩ := h; let ⟨_, p2, s2⟩ := g; ⟨_, fun i => pw_or (p1 i) (p2 i), st_or s1 s2⟩
theorem td_w {ta : DenT} (h : PWD F e ta) : PTD F e ta := let ⟨_, p1, s1⟩ := h; ⟨_, fun i => (p1 i).pt, s1⟩
theorem sd_one {op : BoolOp} (h : PED F a da) : PED F (.BoolOp op [a] pos) da := let ⟨_, p1, s1⟩ := h; ⟨_, fun i => pe_one (p1 i), s1⟩
theorem sd_and {rest : List Expr} (h : PED F a da) (g : PED F (.BoolOp .And (b :: rest) pos) db) : PED F (.BoolOp .And (a :: b :: rest) pos) (dAnd da db) := let ⟨_, p1, s1⟩ := h; let ⟨_, p2, s2⟩ := g; ⟨_, fun i => pe_and (p1 i) (p2 i), se_and s1 s2⟩
theorem sd_or {rest : List Expr} (h : PED F a da) (g : PED F (.BoolOp .Or (b :: rest) pos) db) : PED F (.BoolOp .Or (a :: b :: rest) pos) (dOr da db) := let ⟨_, p1, s1⟩ := h; let ⟨_, p2, s2⟩ := g; ⟨_, fun i => pe_or (p1 i) (p2 i), se_or s1 s2⟩
theorem sd_if {tc : DenT} (hc : PTD F c tc) (ha : PED F a da) (hb : PED F b db) : PED F (.IfExp c a b pos) (dIf tc da db) := let ⟨_, p0, s0⟩ := hc; let ⟨_, p1, s1⟩ := ha; let ⟨_, p2, s2⟩ := hb; ⟨_, fun i => pe_ifExp (p0 i) (p1 i) (p2 i), se_if s0 s1 s2⟩
theorem sd_ix (ha : PED F a da) (hb : PED F b db) (hs : PlainIx b := by exact fun _ _ => rfl) : PED F (.Subscript a b pos) (dBin zIx da db) := let ⟨_, p1, s1⟩ := ha; let ⟨_, p2, s2⟩ := hb; ⟨_, fun i => pe_ix (Fam.ix (r := rIxU) (ix_U (F.room i))) (p1 i) (p2 i) hs, se_bin os_ix s1 s2⟩
def POX (F : Fam) (e : Option Expr) (d : Option Den) : Prop := ∃ t, (∀ i, PO (F.X i) e t) ∧ SPo F.K t d
theorem od_none : POX F none none := ⟨_, fun _ => po_none, spo_none⟩
theorem od_some (h : PED F e de) : POX F (some e) (some de) := let ⟨_, p1, s1⟩ := h; ⟨_, fun i => po_some (p1 i), spo_some s1⟩
theorem sd_sl {lo hi : Option Expr} {dl dh : Option Den} {p2 : Pos} (ha : PED F a da) (hl : POX F lo dl) (hh : POX F hi dh) : PED F (.Subscript a (.Slice lo hi none p2) pos) (dSl zSl da dl dh) := let ⟨_, p0, s0⟩ := ha; let ⟨_, p1, s1⟩ := hl; let ⟨_, p2, s2⟩ := hh; ⟨_, fun i => pe_slice (Fam.sl (r := rSlU) sl_U) (p0 i) (p1 i) (p2 i), se_sl ss_sl s0 s1 s2⟩
theorem sd_rev {k : Nat} {p1 p2 p3 : Pos} (ha : PED F a da) : PED F (.Subscript a (.Slice none none (some (.UnaryOp .USub (.Constant (.int 1) k p1) p2)) p3) pos) (dUn zRev da) := let ⟨t, q1, s1⟩ := ha; ⟨_, fun i => Fam.pe (t := fun K => tRevL K t) (pe_revL (q1 i)), se_un (r := fun x H1 Q => ∃ a xs, x = .ref a ∧ SqL F.K H1 a xs ∧ ∀ p, H1 p = none → Q (.ref p) (upd H1 p (.lst xs.reverse))) us_rev s1⟩
theorem os_nil : POsD F [] [] := ⟨_, fun _ => pa_nil, sos_nil⟩
theorem os_cons (h : PED F e de) (hr : POsD F es des) (hs : ∀ env, starEach (e :: es) env = (false, eval e env) :: starEach es env := by intro _; rfl) : POsD F (e :: es) (de :: des) := let ⟨_, p1, s1⟩ := h; let ⟨_, p2, s2⟩ := hr; ⟨_, fun i => pa_cons (p1 i) (p2 i) (hs _), sos_cons s1 s2⟩
theorem vs_nil : PVsD F [] [] := ⟨_, fun _ => pa_nil, svs_nil⟩
theorem vs_cons (h : PED F e de) (hr : PVsD F es des) (hs : ∀ env, starEach (e :: es) env = (false, eval e env) :: starEach es env := by intro _; rfl) : PVsD F (e :: es) (de :: des) := let ⟨_, p1, s1⟩ := h; let ⟨_, p2, s2⟩ := hr; ⟨_, fun i => pa_cons (p1 i) (p2 i) (hs _), svs_cons s1 s2⟩
theorem as_nil : PAsD F [] [] := ⟨_, fun _ => pa_nil, sas_nil⟩
theorem as_v {as : List Arg} (h : PED F e de) (hr : PAsD F es as) (hs : ∀ env, starEach (e :: es) env = (false, eval e env) :: starEach es env := by intro _; rfl) : PAsD F (e :: es) (.v de :: as) := let ⟨_, p1, s1⟩ := h; let ⟨_, p2, s2⟩ := hr; ⟨_, fun i => pa_cons (p1 i) (p2 i) (hs _), sas_v s1 s2⟩
theorem as_io {as : List Arg} (i : Nat) {x : Str} (hr : PAsD F es as) (hN : F.N[i]? = some x := by rfl) (hv : Vis F.sc x := by first | exact Or.inl rfl | exact Or.inr (Or.inl rfl) | exact Or.inr (Or.inr rfl)) (hd : (x == ("__debug__" : Str)) = false := by decide)
    (hcd : (x == ("__classdict__" : Str)) = false := by decide) (hs : ∀ env, starEach (.Name x p :: es) env = (false, eval (.Name x p) env) :: starEach es env := by intro _; rfl) : PAsD F (.Name x p :: es) (.io i :: as) := let ⟨_, p2, s2⟩ := hr; ⟨_, fun z => pa_cons (pe_var (Fam.at hN z) (Fam.vis hv z) hd hcd) (p2 z) (hs _), sas_io s2⟩
theorem sd_tup {x1} (h : PVsD F es des) (hl : des.length ≤ big := by decide) : PED F (.Tuple es x1 pos) (dTup des) := let ⟨_, p1, s1⟩ := h; ⟨_, fun i => pe_tup (p1 i), se_tup s1 hl⟩
theorem sd_lst (h : PVsD F es des) (hl : des.length ≤ big := by decide) : PED F (.List es pos) (dLst des) := let ⟨_, p1, s1⟩ := h; ⟨_, fun i => pe_lst (p1 i), se_lst s1 hl⟩
theorem sd_dict0 : PED F (.Dict [] [] pos) dDict0 := ⟨_, fun _ => pe_dnewK, se_dict0⟩
theorem sd_ty {x : Str} {n : String} (hm : F.mg x = none) (hv : bootBuiltins x = some (.type n)) (hg : F.sc.names.lookup x = some .globalImplicit := by rfl) (hn : x ≠ "__name__" := by decide) (hd : (x == ("__debug__" : Str)) = false := by decide) : PED F (.Name x pos) (dC (.ty n)) :=
  ⟨tC (.ty n), fun z => pe_bltn (Fam.gl hg z) (Fam.mgx hm z) hv (show RelV (.ty n) (.type n) from rfl) hn hd, se_c fun _ => by simp only [Rep]⟩
def BltD (F : Fam) (x : Str) (f : List D → Option Z) : Prop := (∃ id r, bootBuiltins x = some (.builtin id) ∧ (∀ i, CallR (F.X i) (.builtin id) r) ∧ CallS F.K r f) ∨ ∃ T r, bootBuiltins x = some (.type T) ∧ (∀ i, CallR (F.X i) (.type T) r) ∧ CallS F.K r f
theorem sd_b {x : Str} {f : List D → Option Z} (h : BltD F x f) (hm : F.mg x = none) (ha : POsD F (e :: es) des) (hg : F.sc.names.lookup x = some .globalImplicit := by rfl) (hn : x ≠ "__name__" := by decide) (hdb : (x == ("__debug__" : Str)) = false := by decide)
    (he : ∀ env, starEach (e :: es) env = (false, eval e env) :: starEach es env := by intro _; rfl) (hpl : ∀ env, (backTo pos (starEach es env)).any (·.1) = false := by intro _; rfl) : PED F (.Call (.Name x p) (e :: es) [] pos) (dB f des) := by
  obtain ⟨_, p1, s1⟩ := ha
  rcases h with ⟨id, r, hv, hc, cs⟩ | ⟨T, r, hv, hc, cs⟩
  · exact ⟨_, fun i => pe_callB (hc i) (Fam.gl hg i) (Fam.mgx hm i) hv (p1 i) hn hdb (he _) (hpl _), se_b cs s1⟩
  · exact ⟨_, fun i => pe_callTy (hc i) (Fam.gl hg i) (Fam.mgx hm i) hv (p1 i) hn hdb (he _) (hpl _), se_b cs s1⟩
theorem bd_len : BltD F "len" zLen := .inl ⟨_, _, boot_len, fun _ => Fam.call (r := rLenU) call_lenU, cs_len⟩
theorem bd_sum : BltD F "sum" zSum := .inl ⟨_, _, by decide +kernel, fun i => Fam.call (r := rSum) (cr_sum (F.calm i)), cs_sum⟩
theorem bd_max : BltD F "max" zMax := .inl ⟨_, _, by decide +kernel, fun i => Fam.call (r := rMaxU) (call_maxU (F.calm i)), cs_max⟩
theorem bd_min : BltD F "min" zMin := .inl ⟨_, _, by decide +kernel, fun i => Fam.call (r := rMinU) (call_minU (F.calm i)), cs_min⟩
theorem bd_abs : BltD F "abs" zAbs := .inl ⟨_, _, by decide +kernel, fun _ => call_abs, cs_abs⟩
theorem bd_int : BltD F "int" zInt := .inr ⟨_, _, by decide +kernel, fun _ => call_int1, cs_int⟩
theorem bd_list : BltD F "list" zList := .inr ⟨_, _, by decide +kernel, fun _ => Fam.call (r := fun K xs H Q => ∃ p ys, xs = [.ref p] ∧ (SqL K H p ys ∨ SqT K H p ys) ∧ ∀ l, H l = none → Q (.ref l) (upd H l (.lst ys))) call_list_of, cs_list⟩
theorem bd_tuple : BltD F "tuple" zTuple := .inr ⟨_, _, by decide +kernel, fun _ => Fam.call (r := fun K xs H Q => ∃ p ys, xs = [.ref p] ∧ ((SqL K H p ys ∧ ∀ l, H l = none → Q (.ref l) (upd H l (.tup ys))) ∨ (SqT K H p ys ∧ Q (.ref p) H))) call_tuple_of, cs_tuple⟩
theorem bd_isi : BltD F "isinstance" zIsi := .inl ⟨_, _, by decide +kernel, fun _ => Fam.call (r := rIsi) call_isi, cs_isi⟩
theorem sd_index {o : Expr} {dz : Den} {apos cpos : Pos} (ho : PED F o dz) (ha : POsD F (e :: es) des) (hbase : ∀ i, attributeBase o "index" (F.X i).env (eval o (F.X i).env) = eval o (F.X i).env := by intro _; rfl)
    (hfew : ∀ env, ((backTo cpos (starEach (e :: es) env)).all (fun x => !x.1) && (backToKw cpos (keywordEach [] env)).all (fun x => x.1.isSome)
      && decide ((e :: es).length + ([] : List Keyword).length + (if ([] : List Keyword).isEmpty then 0 else 1) < 30)) = true := by intro _; rfl)
    (hline : (apos.endLine == cpos.line) = true := by rfl) (hs : ∀ env, starEach (e :: es) env = (false, eval e env) :: starEach es env := by intro _; rfl) (hplain : ∀ env, (backTo cpos (starEach es env)).any (·.1) = false := by intro _; rfl) :
    PED F (.Call (.Attribute o "index" apos) (e :: es) [] cpos) (dM isLst zIndex dz des) := by
  obtain ⟨t0, p0, s0⟩ := ho
  obtain ⟨t1, p1, s1⟩ := ha
  exact ⟨_, fun i => Fam.pe (t := fun K => tBM K "list" (_ : V → List V → Hp → VK → Prop) t0 t1) (pe_bm PySem.F.plainAttrs_list PySem.F.slot_list_index PySem.F.type_list_index (Fam.mt (r := rIndexD) (mt_indexD (by have := (F.room i).un; omega))) (p0 i) (p1 i) (hbase i) (hfew _) hline (hs _) (hplain _)), se_m ty_list ms_index s0 s1⟩
theorem sd_count {o : Expr} {dz : Den} {apos cpos : Pos} (ho : PED F o dz) (ha : POsD F (e :: es) des) (hbase : ∀ i, attributeBase o "count" (F.X i).env (eval o (F.X i).env) = eval o (F.X i).env := by intro _; rfl)
    (hfew : ∀ env, ((backTo cpos (starEach (e :: es) env)).all (fun x => !x.1) && (backToKw cpos (keywordEach [] env)).all (fun x => x.1.isSome)
      && decide ((e :: es).length + ([] : List Keyword).length + (if ([] : List Keyword).isEmpty then 0 else 1) < 30)) = true := by intro _; rfl)
    (hline : (apos.endLine == cpos.line) = true := by rfl) (hs : ∀ env, starEach (e :: es) env = (false, eval e env) :: starEach es env := by intro _; rfl) (hplain : ∀ env, (backTo cpos (starEach es env)).any (·.1) = false := by intro _; rfl) :
    PED F (.Call (.Attribute o "count" apos) (e :: es) [] cpos) (dM isLst zCount dz des) := by
  obtain ⟨t0, p0, s0⟩ := ho
  obtain ⟨t1, p1, s1⟩ := ha
  exact ⟨_, fun i => Fam.pe (t := fun K => tBM K "list" (_ : V → List V → Hp → VK → Prop) t0 t1) (pe_bm PySem.F.plainAttrs_list PySem.F.slot_list_count PySem.F.type_list_count (Fam.mt (r := rCntI) mt_lcount) (p0 i) (p1 i) (hbase i) (hfew _) hline (hs _) (hplain _)), se_m ty_list ms_count s0 s1⟩
theorem sd_append {x : Str} {np apos cpos : Pos} (i : Nat) (ha : PVsD F (e :: es) des) (hN : F.N[i]? = some x := by rfl) (hv : Vis F.sc x := by first | exact Or.inl rfl | exact Or.inr (Or.inl rfl) | exact Or.inr (Or.inr rfl)) (hd : (x == ("__debug__" : Str)) = false := by decide)
    (hcd : (x == ("__classdict__" : Str)) = false := by decide) (hbase : ∀ z, attributeBase (.Name x np) "append" (F.X z).env (eval (.Name x np) (F.X z).env) = eval (.Name x np) (F.X z).env := by intro _; rfl)
    (hfew : ∀ env, ((backTo cpos (starEach (e :: es) env)).all (fun x => !x.1) && (backToKw cpos (keywordEach [] env)).all (fun x => x.1.isSome)
      && decide ((e :: es).length + ([] : List Keyword).length + (if ([] : List Keyword).isEmpty then 0 else 1) < 30)) = true := by intro _; rfl)
    (hline : (apos.endLine == cpos.line) = true := by rfl) (hs : ∀ env, starEach (e :: es) env = (false, eval e env) :: starEach es env := by intro _; rfl) (hplain : ∀ env, (backTo cpos (starEach es env)).any (·.1) = false := by intro _; rfl) :
    PED F (.Call (.Attribute (.Name x np) "append" apos) (e :: es) [] cpos) (dMut mAppend i des) := by
  obtain ⟨t1, p1, s1⟩ := ha
  exact ⟨_, fun j => Fam.pe (t := fun K => tBM K "list" rAppend (tVar i) t1) (pe_bm PySem.F.plainAttrs_list PySem.F.slot_list_append PySem.F.type_list_append mt_append (pe_var (Fam.at hN j) (Fam.vis hv j) hd hcd) (p1 j) (hbase j) (hfew _) hline (hs _) (hplain _)), se_mut ms_append s1⟩
theorem sd_extend {x : Str} {np apos cpos : Pos} (i : Nat) (ha : PVsD F (e :: es) des) (hN : F.N[i]? = some x := by rfl) (hv : Vis F.sc x := by first | exact Or.inl rfl | exact Or.inr (Or.inl rfl) | exact Or.inr (Or.inr rfl)) (hd : (x == ("__debug__" : Str)) = false := by decide)
    (hcd : (x == ("__classdict__" : Str)) = false := by decide) (hbase : ∀ z, attributeBase (.Name x np) "extend" (F.X z).env (eval (.Name x np) (F.X z).env) = eval (.Name x np) (F.X z).env := by intro _; rfl)
    (hfew : ∀ env, ((backTo cpos (starEach (e :: es) env)).all (fun x => !x.1) && (backToKw cpos (keywordEach [] env)).all (fun x => x.1.isSome)
      && decide ((e :: es).length + ([] : List Keyword).length + (if ([] : List Keyword).isEmpty then 0 else 1) < 30)) = true := by intro _; rfl)
    (hline : (apos.endLine == cpos.line) = true := by rfl) (hs : ∀ env, starEach (e :: es) env = (false, eval e env) :: starEach es env := by intro _; rfl) (hplain : ∀ env, (backTo cpos (starEach es env)).any (·.1) = false := by intro _; rfl) :
    PED F (.Call (.Attribute (.Name x np) "extend" apos) (e :: es) [] cpos) (dMut mExtend i des) := by
  obtain ⟨t1, p1, s1⟩ := ha
  exact ⟨_, fun j => Fam.pe (t := fun K => tBM K "list" rExtend (tVar i) t1) (pe_bm PySem.F.plainAttrs_list PySem.F.slot_list_extend PySem.F.type_list_extend mt_extend (pe_var (Fam.at hN j) (Fam.vis hv j) hd hcd) (p1 j) (hbase j) (hfew _) hline (hs _) (hplain _)), se_mut ms_extend s1⟩
theorem sd_popAt {x : Str} {np apos cpos : Pos} (i : Nat) (ha : PVsD F (e :: es) des) (hN : F.N[i]? = some x := by rfl) (hv : Vis F.sc x := by first | exact Or.inl rfl | exact Or.inr (Or.inl rfl) | exact Or.inr (Or.inr rfl)) (hd : (x == ("__debug__" : Str)) = false := by decide)
    (hcd : (x == ("__classdict__" : Str)) = false := by decide) (hbase : ∀ z, attributeBase (.Name x np) "pop" (F.X z).env (eval (.Name x np) (F.X z).env) = eval (.Name x np) (F.X z).env := by intro _; rfl)
    (hfew : ∀ env, ((backTo cpos (starEach (e :: es) env)).all (fun x => !x.1) && (backToKw cpos (keywordEach [] env)).all (fun x => x.1.isSome)
      && decide ((e :: es).length + ([] : List Keyword).length + (if ([] : List Keyword).isEmpty then 0 else 1) < 30)) = true := by intro _; rfl)
    (hline : (apos.endLine == cpos.line) = true := by rfl) (hs : ∀ env, starEach (e :: es) env = (false, eval e env) :: starEach es env := by intro _; rfl) (hplain : ∀ env, (backTo cpos (starEach es env)).any (·.1) = false := by intro _; rfl) :
    PED F (.Call (.Attribute (.Name x np) "pop" apos) (e :: es) [] cpos) (dMut mPopAt i des) := by
  obtain ⟨t1, p1, s1⟩ := ha
  exact ⟨_, fun j => Fam.pe (t := fun K => tBM K "list" rPopAt (tVar i) t1) (pe_bm PySem.F.plainAttrs_list PySem.F.slot_list_pop PySem.F.type_list_pop mt_popAt (pe_var (Fam.at hN j) (Fam.vis hv j) hd hcd) (p1 j) (hbase j) (hfew _) hline (hs _) (hplain _)), se_mut ms_popAt s1⟩
theorem sd_pop {x : Str} {np apos cpos : Pos} (i : Nat) (hN : F.N[i]? = some x := by rfl) (hv : Vis F.sc x := by first | exact Or.inl rfl | exact Or.inr (Or.inl rfl) | exact Or.inr (Or.inr rfl)) (hd : (x == ("__debug__" : Str)) = false := by decide)
    (hcd : (x == ("__classdict__" : Str)) = false := by decide) (hbase : ∀ z, attributeBase (.Name x np) "pop" (F.X z).env (eval (.Name x np) (F.X z).env) = eval (.Name x np) (F.X z).env := by intro _; rfl) (hline : (apos.endLine == cpos.line) = true := by rfl) :
    PED F (.Call (.Attribute (.Name x np) "pop" apos) [] [] cpos) (dMut mPop i []) :=
  ⟨_, fun j => Fam.pe (t := fun K => tBM0 K "list" rPop (tVar i)) (pe_bm0 PySem.F.plainAttrs_list PySem.F.slot_list_pop PySem.F.type_list_pop mt_pop (pe_var (Fam.at hN j) (Fam.vis hv j) hd hcd) (hbase j) hline), se_mut0 ms_pop⟩
/-- a def of the text, by what it is worth -/
structure Fok (P : Program) (w : World) (K : PySem.W.Frag) (mg : Str → Option Value) (base : Heap) (x : Str) (k : Nat) (f : FDen) : Prop where
  ex : ∃ (a : Addr) (fd : FuncData) (ps : List Str), mg x = some (.ref a) ∧ PySem.W.keepIn K (.ref a) = true ∧ Binds K fd ps [] ∧ FnOk P w K mg base CX0 k a fd ps (spD K f)
theorem Fok.mono {P : Program} {w : World} {K : PySem.W.Frag} {mg : Str → Option Value} {base : Heap} {x : Str} {j k : Nat} {f : FDen} (F : Fok P w K mg base x j f) (h : j ≤ k) : Fok P w K mg base x k f :=
  let ⟨a, fd, ps, m, kp, b, G⟩ := F.ex; ⟨a, fd, ps, m, kp, b, G.mono h⟩
/-- it may be called from every context of the family -/
def Cal (F : Fam) (x : Str) (f : FDen) : Prop := ∀ i, Fok (F.X i).prog (F.X i).w F.K F.mg (F.X i).base x F.k f
theorem sd_call {x : Str} {f : FDen} {as : List Arg} (C : Cal F x f) (ha : PAsD F (e :: es) as) (hg : F.sc.names.lookup x = some .globalImplicit := by rfl) (hdb : (x == ("__debug__" : Str)) = false := by decide)
    (he : ∀ env, starEach (e :: es) env = (false, eval e env) :: starEach es env := by intro _; rfl) (hpl : ∀ env, (backTo pos (starEach es env)).any (fun x => x.1) = false := by intro _; rfl) : PED F (.Call (.Name x p) (e :: es) [] pos) (dCall f as) := by
  obtain ⟨t1, p1, s1⟩ := ha
  refine ⟨tCall (spD F.K f) [] E0 t1, fun i => ?_, se_call s1⟩
  obtain ⟨a, fd, ps, m, kp, b, G⟩ := (C i).ex
  rw [← F.hK i, ← F.hmg i] at G
  rw [← F.hK i] at kp b
  rw [← F.hK i]
  exact pe_call (dvs := []) (E := E0) G (F.room i) (Fam.gl hg i) (Fam.mgx m i) kp b .nil pass0 (p1 i) hdb (he _) (hpl _)
end
end Fw
namespace Fw
open PySem L2

theorem Fam.xk {F : Fam} {i : F.ι} {p : PySem.W.Frag → Prop} (h : p (F.X i).K) : p F.K := by rw [F.hK i] at h; exact h
section
variable {F : Fam} {a b c e : Expr} {es : List Expr} {pos p : Pos} {da db dc de : Den} {des : List Den} {js : List Nat} {st : Stmt} {rest : List Stmt} {s u : SDen}
/-! ### blocks -/
theorem b_nil : PSsD F js [] sNext := ⟨_, fun _ => pss_nil, ss_next⟩
theorem b_cons (h : PSD F js st s) (g : PSsD F js rest u) : PSsD F js (st :: rest) (sSeq s u) := let ⟨_, p1, s1⟩ := h; let ⟨_, p2, s2⟩ := g; ⟨_, fun i => pss_cons (p1 i) (p2 i), ss_seq s1 s2⟩
theorem b_one (h : PSD F js st s) : PSsD F js [st] s := let ⟨_, p1, s1⟩ := h; ⟨_, fun i => pss_one (p1 i), s1⟩
/-! ### statements -/
theorem c_pass : PSD F js (.Pass pos) sNext := ⟨_, fun _ => ps_pass, ss_next⟩
theorem c_brk : PSD F js (.Break pos) sBrk := ⟨_, fun _ => ps_break, ss_brk⟩
theorem c_cont : PSD F js (.Continue pos) sCont := ⟨_, fun _ => ps_continue, ss_cont⟩
theorem c_never : PSD F js st sNever := ⟨_, fun _ => ps_never, ss_never⟩
theorem c_expr (h : PED F e de) (hs : ∀ i, swapsWith e none pos.line (F.X i).env = pure false := by intro _; rfl) : PSD F js (.Expr e pos) (sDrop de) := let ⟨_, p1, s1⟩ := h; ⟨_, fun i => ps_expr (p1 i) (hs i), ss_drop s1⟩
theorem c_ret (h : PED F e de) : PSD F js (.Return (some e) pos) (sRet de) := let ⟨_, p1, s1⟩ := h; ⟨_, fun i => ps_ret (p1 i), ss_ret s1⟩
theorem c_retN : PSD F js (.Return none pos) sRetN := ⟨_, fun _ => ps_retN, ss_retN⟩
theorem c_if {tc : DenT} {x y : List Stmt} {sx sy : SDen} (h : PTD F c tc) (hx : PSsD F js x sx) (hy : PSsD F js y sy) : PSD F js (.If c x y pos) (sIf tc sx sy) := let ⟨_, p0, s0⟩ := h; let ⟨_, p1, s1⟩ := hx; let ⟨_, p2, s2⟩ := hy; ⟨_, fun i => ps_if (p0 i) (p1 i) (p2 i), ss_if s0 s1 s2⟩
theorem c_set (i : Nat) {x : Str} {pos' : Pos} (h : PED F e de) (hj : i ∉ js := by decide) (hN : F.N[i]? = some x := by rfl) (hx : Loc F.sc x := by first | exact Or.inl rfl | exact Or.inr rfl) (hf : ∀ z, (F.X z).fn x = true ∨ (F.X z).env.scope.names.lookup x = some .local := by first | exact fun _ => .inl rfl | exact fun _ => .inr rfl)
    (hs : ∀ z, swapsWith e (some (.Name x pos')) pos.line (F.X z).env = pure false := by intro _; rfl) : PSD F js (.Assign [.Name x pos'] e pos) (sAsg i de) := let ⟨_, p1, s1⟩ := h; ⟨_, fun z => ps_set (Fam.ndx z) (Fam.at hN z) (Fam.loc hx z) (p1 z) (hs z) (hf z), ss_asg (n := 0) s1 hj⟩
theorem c_aug (i : Nat) {g : Int → Int → Int} {op : Operator} {x : Str} {pos' : Pos} (hop : ∀ z, PIp (F.X z) op (ipI g)) (h : PED F e de) (hj : i ∉ js := by decide) (hN : F.N[i]? = some x := by rfl) (hx : Loc F.sc x := by first | exact Or.inl rfl | exact Or.inr rfl) (hf : ∀ z, (F.X z).fn x = true ∨ (F.X z).env.scope.names.lookup x = some .local := by first | exact fun _ => .inl rfl | exact fun _ => .inr rfl) :
    PSD F js (.AugAssign (.Name x pos') op e pos) (sAug g i de) := let ⟨_, p1, s1⟩ := h; ⟨_, fun z => ps_aug (Fam.ndx z) (Fam.at hN z) (Fam.loc hx z) (p1 z) (hop z) (hf z), ss_aug s1 hj⟩
/-! ### targets -/
theorem g_name (i : Nat) {x : Str} (hN : F.N[i]? = some x := by rfl) (hx : Loc F.sc x := by first | exact Or.inl rfl | exact Or.inr rfl) (hf : ∀ z, (F.X z).fn x = true ∨ (F.X z).env.scope.names.lookup x = some .local := by first | exact fun _ => .inl rfl | exact fun _ => .inr rfl) : PGD F (.Name x pos) (putN i) [i] :=
  ⟨_, fun z => pg_name (Fam.ndx z) (Fam.at hN z) (Fam.loc hx z) (hf z), sg_name⟩
theorem gs_nil : PGsD F [] putL0 [] := ⟨_, fun _ => pgs_nil, sgs_nil⟩
theorem gs_cons {put : Put} {putl : PutL} {ks ls : List Nat} (h : PGD F e put ks) (g : PGsD F es putl ls) (hs : ∀ env, (assignEach (e :: es) env).map (·.2) = assign e env :: (assignEach es env).map (·.2) := by intro _; rfl) : PGsD F (e :: es) (putLc put putl) (ks ++ ls) :=
  let ⟨_, p1, s1⟩ := h; let ⟨_, p2, s2⟩ := g; ⟨_, fun i => pgs_cons (p1 i) (p2 i) (hs _), sgs_cons s1 s2⟩
theorem g_tup {putl : PutL} {ks : List Nat} {k n : Nat} (h : PGsD F es putl ks) (hl : ∀ ds Γ Γ', putl ds Γ = some Γ' → ds.length = n) (hn : ∀ env, (assignEach es env).length = n := by intro _; rfl) (hst : ∀ env, (assignEach es env).findIdx? (·.1) = none := by intro _; rfl) : PGD F (.Tuple es k pos) (putT putl) ks := by
  obtain ⟨t, p1, s1⟩ := h
  exact ⟨_, fun i => Fam.pg (t := fun K => gTup K n t) (pg_tup (F.calm i) (p1 i) (hn _) (hst _)), sg_tup s1 hl⟩
theorem c_asg {tg : Expr} {put : Put} {ks : List Nat} (h : PED F e de) (hg : PGD F tg put ks) (hj : ∀ i ∈ js, i ∉ ks := by decide) (hs : ∀ i, swapsWithSole [tg] e pos.line (F.X i).env = pure false := by intro _; rfl) (hw : ∀ i, swappedStores [tg] e (F.X i).env = pure none := by intro _; rfl)
    (h1 : ∀ env, (assignEach [tg] env).map (·.2) = [assign tg env] := by intro _; rfl) : PSD F js (.Assign [tg] e pos) (sAsgG put de) := let ⟨_, p1, s1⟩ := h; let ⟨_, p2, s2⟩ := hg; ⟨_, fun i => ps_asg (p1 i) (p2 i) (hs i) (hw i) (h1 _), ss_asgG s1 s2 hj⟩
/-- x[i] = e, a list; a dict -/
theorem c_setI (i : Nat) {x : Str} {np sp : Pos} {ei : Expr} {di : Den} (hi : PED F ei di) (h : PED F e de) (hN : F.N[i]? = some x := by rfl) (hv : Vis F.sc x := by first | exact Or.inl rfl | exact Or.inr (Or.inl rfl) | exact Or.inr (Or.inr rfl)) (hd : (x == ("__debug__" : Str)) = false := by decide) (hcd : (x == ("__classdict__" : Str)) = false := by decide)
    (ha : ∀ env v, assign (.Subscript (.Name x np) ei sp) env v = (do
      let ov ← holding [v] (eval (.Name x np) env)
      let iv ← holding [v, ov] (eval ei env)
      standAt sp
      holding [v, ov, iv] (setItem ov iv v)
      release [v, ov, iv] []) := by intro _ _; rfl)
    (hs : ∀ i, swapsWithSole [.Subscript (.Name x np) ei sp] e pos.line (F.X i).env = pure false := by intro _; rfl) (hw : ∀ i, swappedStores [.Subscript (.Name x np) ei sp] e (F.X i).env = pure none := by intro _; rfl)
    (h1 : ∀ env, (assignEach [.Subscript (.Name x np) ei sp] env).map (·.2) = [assign (.Subscript (.Name x np) ei sp) env] := by intro _; rfl) :
    PSD F js (.Assign [.Subscript (.Name x np) ei sp] e pos) (sSetI i di de) := let ⟨_, p0, s0⟩ := hi; let ⟨_, p1, s1⟩ := h; ⟨_, fun z => ps_asg (p1 z) (pg_sub (pe_var (Fam.at hN z) (Fam.vis hv z) hd hcd) (p0 z) set_list (ha _)) (hs z) (hw z) (h1 _), ss_setI s1 s0⟩
theorem c_putK (i : Nat) {x : Str} {np sp : Pos} {ei : Expr} {di : Den} (hi : PED F ei di) (h : PED F e de) (hN : F.N[i]? = some x := by rfl) (hv : Vis F.sc x := by first | exact Or.inl rfl | exact Or.inr (Or.inl rfl) | exact Or.inr (Or.inr rfl)) (hd : (x == ("__debug__" : Str)) = false := by decide) (hcd : (x == ("__classdict__" : Str)) = false := by decide)
    (hs : ∀ z, swapsWith e (some (.Subscript (.Name x np) ei sp)) pos.line (F.X z).env = pure false := by intro _; rfl) :
    PSD F js (.Assign [.Subscript (.Name x np) ei sp] e pos) (sPutK i di de) := let ⟨_, p0, s0⟩ := hi; let ⟨_, p1, s1⟩ := h; ⟨_, fun z => ps_dput (by have := (F.room z).un; omega) (pe_var (Fam.at hN z) (Fam.vis hv z) hd hcd) (p0 z) (p1 z) (hs z), ss_putK s1 s0⟩
theorem c_augK (i : Nat) {x : Str} {np sp : Pos} {ei : Expr} {di : Den} (hi : PED F ei di) (h : PED F e de) (hN : F.N[i]? = some x := by rfl) (hv : Vis F.sc x := by first | exact Or.inl rfl | exact Or.inr (Or.inl rfl) | exact Or.inr (Or.inr rfl)) (hd : (x == ("__debug__" : Str)) = false := by decide) (hcd : (x == ("__classdict__" : Str)) = false := by decide)
    (ha : ∀ ov iv new, augStore ei ov iv new = (do holding [new, ov, iv] (setItem ov iv new); release [new, ov, iv] []; pure .next) := by exact fun _ _ _ => rfl) :
    PSD F js (.AugAssign (.Subscript (.Name x np) ei sp) .Add e pos) (sAugK (· + ·) i di de) := let ⟨_, p0, s0⟩ := hi; let ⟨_, p1, s1⟩ := h; ⟨_, fun z => ps_daug (by have := (F.room z).un; omega) (pe_var (Fam.at hN z) (Fam.vis hv z) hd hcd) (p0 z) (p1 z) in_add ha, ss_augK s1 s0⟩
/-! ### what is walked -/
variable {tg : Expr}
theorem i_lst (h : PED F e de) : PID F tg e (iLst de) := let ⟨t, p1, s1⟩ := h; ⟨_, fun i => Fam.pi (t := fun K => iList K t) (pi_list (p1 i)), si_lst s1⟩
theorem i_tup (h : PED F e de) : PID F tg e (iTupD de) := let ⟨t, p1, s1⟩ := h; ⟨_, fun i => Fam.pi (t := fun K => iTup K t) (pi_tup (p1 i)), si_tup s1⟩
theorem i_r1 (hm : F.mg "range" = none) (h : PED F a da) (hg : F.sc.names.lookup ("range" : Str) = some .globalImplicit := by rfl) (hs : ∀ env, starEach [a] env = [(false, eval a env)] := by intro _; rfl) : PID F tg (.Call (.Name "range" p) [a] [] pos) (iR1 da) := let ⟨t, p1, s1⟩ := h; ⟨_, fun i => pi_range1 (Fam.gl hg i) (Fam.mgx hm i) (pa_cons (p1 i) pa_nil (hs _)) (hs _), si_r1 s1⟩
theorem i_r2 (hm : F.mg "range" = none) (h : PED F a da) (h' : PED F b db) (hg : F.sc.names.lookup ("range" : Str) = some .globalImplicit := by rfl) (hs : ∀ env, starEach [a, b] env = [(false, eval a env), (false, eval b env)] := by intro _; rfl) (hs2 : ∀ env, starEach [b] env = [(false, eval b env)] := by intro _; rfl) : PID F tg (.Call (.Name "range" p) [a, b] [] pos) (iR2 da db) := by
  obtain ⟨t, p1, s1⟩ := h
  obtain ⟨t', p2, s2⟩ := h'
  exact ⟨_, fun i => pi_range2 (Fam.gl hg i) (Fam.mgx hm i) (pa_cons (p1 i) (pa_cons (p2 i) pa_nil (hs2 _)) (by rw [hs, hs2])) (hs _) (hs2 _), si_r2 s1 s2⟩
theorem i_enu {elts : List Expr} {kk : Nat} {tpos : Pos} (hm : F.mg "enumerate" = none) (h : PED F e de) (hg : F.sc.names.lookup ("enumerate" : Str) = some .globalImplicit := by rfl) (hs : ∀ env, starEach [e] env = [(false, eval e env)] := by intro _; rfl) : PID F (.Tuple elts kk tpos) (.Call (.Name "enumerate" p) [e] [] pos) (iEnu de) :=
  let ⟨t, p1, s1⟩ := h; ⟨_, fun i => Fam.pi (t := fun K => iEnum K (tCons t tNil)) (pi_enum (Fam.gl hg i) (Fam.mgx hm i) (pa_cons (p1 i) pa_nil (hs _)) (hs _)), si_enu s1⟩
def iZp (a b : Den) : Env → Out (List D) := bindO (dV a) fun d => bindO (dV b) fun d2 Γ => match d, d2 with | .lst as, .lst bs => .ok (zipD as bs) Γ | _, _ => .stuck
theorem i_zip {elts : List Expr} {kk : Nat} {tpos : Pos} (hm : F.mg "zip" = none) (h : PED F a da) (h' : PED F b db) (hg : F.sc.names.lookup ("zip" : Str) = some .globalImplicit := by rfl) (hs : ∀ env, starEach [a, b] env = (false, eval a env) :: starEach [b] env := by intro _; rfl) (hs2 : ∀ env, starEach [b] env = [(false, eval b env)] := by intro _; rfl)
    (hpl : ∀ env, (backTo pos (starEach [b] env)).any (·.1) = false := by intro _; rfl) : PID F (.Tuple elts kk tpos) (.Call (.Name "zip" p) [a, b] [] pos) (iZp da db) := by
  obtain ⟨t, p1, s1⟩ := h
  obtain ⟨t', p2, s2⟩ := h'
  exact ⟨_, fun i => Fam.pi (t := fun K => iZip K (tCons t (tCons t' tNil))) (pi_zip (Fam.gl hg i) (Fam.mgx hm i) (pa_cons (p1 i) (pa_cons (p2 i) pa_nil (hs2 _)) (hs _)) (hs _) (hpl _)), si_zip s1 s2⟩
/-- for, while -/
theorem c_for {it : Env → Out (List D)} {put : Put} {ks : List Nat} {body : List Stmt} (hpo : ∀ i, PassesOwn (model (F.X i).prog (F.X i).w) (F.X i).A (F.X i).env (F.X i).xe) (h : PID F tg e it) (hg : PGD F tg put ks) (hb : PSsD F js body s) (hj : ∀ i ∈ js, i ∉ ks := by decide) (hs : ∀ env x, foldedSetIterable e env x = pure x := by intro _ _; rfl) : PSD F js (.For tg e body [] pos) (sFor it put s) :=
  let ⟨_, p0, s0⟩ := h; let ⟨_, p1, s1⟩ := hg; let ⟨_, p2, s2⟩ := hb; ⟨_, fun i => ps_for (hpo i) (F.calm i) (p0 i) (p1 i) (p2 i) (hs _), ss_for s0 s1 s2 hj⟩
theorem c_while {tc : DenT} {body : List Stmt} (hpo : ∀ i, PassesOwn (model (F.X i).prog (F.X i).w) (F.X i).A (F.X i).env (F.X i).xe) (h : PTD F c tc) (hb : PSsD F js body s) : PSD F js (.While c body [] pos) (sWhile tc s) := let ⟨_, p1, s1⟩ := h; let ⟨_, p2, s2⟩ := hb; ⟨_, fun i => ps_while (hpo i) (p1 i) (p2 i), ss_while s1 s2⟩
theorem c_items {put : Put} {ks : List Nat} {body : List Stmt} {x : Str} {np apos cpos tpos : Pos} {elts : List Expr} {kk : Nat} (i : Nat) (hpo : ∀ i, PassesOwn (model (F.X i).prog (F.X i).w) (F.X i).A (F.X i).env (F.X i).xe) (hg : PGD F (.Tuple elts kk tpos) put ks) (hb : PSsD F (i :: js) body s) (hj : ∀ i ∈ js, i ∉ ks := by decide) (hi : i ∉ ks := by decide) (hN : F.N[i]? = some x := by rfl) (hv : Vis F.sc x := by first | exact Or.inl rfl | exact Or.inr (Or.inl rfl) | exact Or.inr (Or.inr rfl)) (hd : (x == ("__debug__" : Str)) = false := by decide) (hcd : (x == ("__classdict__" : Str)) = false := by decide)
    (hbase : ∀ z, attributeBase (.Name x np) "items" (F.X z).env (eval (.Name x np) (F.X z).env) = eval (.Name x np) (F.X z).env := by intro _; rfl) (hline : (apos.endLine == cpos.line) = true := by rfl) :
    PSD F js (.For (.Tuple elts kk tpos) (.Call (.Attribute (.Name x np) "items" apos) [] [] cpos) body [] pos) (sForItems i put s) := by
  obtain ⟨t1, p1, s1⟩ := hg
  obtain ⟨t2, p2, s2⟩ := hb
  exact ⟨_, fun z => ps_lock (ps_for (hpo z) (F.calm z) (pi_items (pe_var (Fam.at hN z) (Fam.vis hv z) hd hcd) (hbase z) hline) (p1 z) (p2 z) (by intro x; rfl)), ss_items s1 hj hi s2⟩
/-! ### comprehensions -/
/-- the contexts of a block -/
def Fam.blk (F : Fam) (scope : Scope) : Fam where
  ι := F.ι × Shared × Hp × Addr × List (Str × Addr) × List Addr
  X := fun p => (F.X p.1).blk p.2.1 p.2.2.1 scope (compEnvC scope p.2.2.2.2.1 p.2.2.2.1 (F.X p.1).env) p.2.2.2.2.2
  K := F.K
  mg := F.mg
  N := F.N
  sc := relS scope F.sc
  k := F.k
  hK := fun p => F.hK p.1
  hmg := fun p => F.hmg p.1
  hN := fun p => F.hN p.1
  hsc := fun p => by
    have h := F.hsc p.1
    rw [← h]
    rfl
  calm := fun p => F.calm p.1
  room := fun p => F.room p.1
  nd := F.nd
def PTsD (F : Fam) (ifs : List Expr) (d : DenT) : Prop := ∃ t, (∀ i, PTs (F.X i) ifs t) ∧ ST F.K t d
theorem ts_nil : PTsD F [] dYes := ⟨_, fun _ => pts_nil, st_yes⟩
theorem ts_one {tc : DenT} (h : PTD F c tc) : PTsD F [c] tc := let ⟨_, p1, s1⟩ := h; ⟨_, fun i => pts_one (p1 i), s1⟩
theorem sd_comp {elt iter : Expr} {ifs : List Expr} {scope : Scope} {it : Env → Out (List D)} {put : Put} {tc : DenT} {ks : List Nat} (own : List (Str × Nat)) (hi : PID F tg iter it) (hg : PGD (F.blk scope) tg put ks) (ht : PTsD (F.blk scope) ifs tc) (he : PED (F.blk scope) elt de) (hk : ks = own.map (·.2) := by rfl)
    (ok : blkC F.N F.sc scope own = true := by first | (dsimp only [bodyFam, Fam.blk]; decide +kernel) | rfl) (hs : ∀ env x, foldedSetIterable iter env x = pure x := by intro _ _; rfl) : PED F (.ListComp elt [⟨tg, iter, ifs, 0⟩] scope pos) (dComp it put tc de ks) := by
  subst hk
  obtain ⟨_, p0, s0⟩ := hi
  obtain ⟨_, p1, s1⟩ := hg
  obtain ⟨_, p2, s2⟩ := ht
  obtain ⟨_, p3, s3⟩ := he
  refine ⟨_, fun i => pe_lc (own := own) (F.calm i) (Fam.ndx i) (p0 i) (by rw [F.hN i, F.hsc i]; exact blkOk_by ok) (fun s H C cl fp => p1 (i, s, H, C, cl, fp)) (fun s H C cl fp => p2 (i, s, H, C, cl, fp)) (fun s H C cl fp => p3 (i, s, H, C, cl, fp)) (hs _), se_comp s0 s1 s2 s3⟩
/-- x = [..], x a plain local -/
theorem c_setC {elt iter : Expr} {ifs : List Expr} {scope : Scope} {it : Env → Out (List D)} {put : Put} {tc : DenT} {ks : List Nat} {y : Str} {py cpos spos : Pos} (i : Nat) (own : List (Str × Nat)) (hi : PID F tg iter it) (hg : PGD (F.blk scope) tg put ks) (ht : PTsD (F.blk scope) ifs tc) (he : PED (F.blk scope) elt de) (hj : i ∉ js := by decide) (hN : F.N[i]? = some y := by rfl) (hyl : F.sc.names.lookup y = some .local := by rfl)
    (hsw : ∀ z, swapsWith (.ListComp elt [⟨tg, iter, ifs, 0⟩] scope cpos) (some (.Name y py)) spos.line (F.X z).env = pure true := by exact fun _ => sw_true rfl rfl rfl (by decide +kernel)) (hk : ks = own.map (·.2) := by rfl)
    (ok : blkC F.N F.sc scope own = true := by first | (dsimp only [bodyFam, Fam.blk]; decide +kernel) | rfl) (hs : ∀ env x, foldedSetIterable iter env x = pure x := by intro _ _; rfl) : PSD F js (.Assign [.Name y py] (.ListComp elt [⟨tg, iter, ifs, 0⟩] scope cpos) spos) (sAsg i (dComp it put tc de ks)) := by
  subst hk
  obtain ⟨_, p0, s0⟩ := hi
  obtain ⟨_, p1, s1⟩ := hg
  obtain ⟨_, p2, s2⟩ := ht
  obtain ⟨_, p3, s3⟩ := he
  refine ⟨_, fun z => ps_setLc (i := i) (own := own) (F.calm z) (Fam.ndx z) (Fam.at hN z) (by rw [F.hsc z]; exact hyl) (hsw z) (p0 z) (by rw [F.hN z, F.hsc z]; exact blkOk_by ok) (fun s H C cl fp => p1 (z, s, H, C, cl, fp)) (fun s H C cl fp => p2 (z, s, H, C, cl, fp)) (fun s H C cl fp => p3 (z, s, H, C, cl, fp)) (hs _), ss_asg (n := 0) (se_comp s0 s1 s2 s3) hj⟩
end

/-! ### a def of the text -/
/-- where a def stands behind the top -/
structure DefAt (K : PySem.W.Frag) (mg : Str → Option Value) (x : Str) (st : Stmt) (ps : List Str) : Prop where
  ex : ∃ (a : Addr) (fd : FuncData), mg x = some (.ref a) ∧ Fun K x x st a fd ∧ Binds K fd ps []
/-- its body's contexts -/
def bodyFam (P : Program) (w : World) (K : PySem.W.Frag) (mg : Str → Option Value) (base : Heap) (N : List Str) (qual : Str) (sc : Scope) (f : Addr) (cdv : Value) (A : Around) (outer : List PySem.Env) (s : Shared) (H : Hp) (E : XK) (k : Nat) (nd : N.Nodup) (hr : Room k (A.deeper (PyProof.Rows.envOfC qual sc s.heap.objs.size f cdv))) : Fam where
  ι := Unit
  X := fun _ => (cxOf CX0 P w K mg base N qual sc f cdv A outer s H E).nox
  K := K
  mg := mg
  N := N
  sc := sc
  k := k
  hK := fun _ => rfl
  hmg := fun _ => rfl
  hN := fun _ => rfl
  hsc := fun _ => rfl
  calm := fun _ => rfl
  room := fun _ => hr
  nd := nd
theorem def_fn {P : Program} {w : World} {K : PySem.W.Frag} {mg : Str → Option Value} {base : Heap} {x : Str} {st : Stmt} {N ps : List Str} {k : Nat} {io : List Bool} {body : SDen} {a : Addr} {fd : FuncData} (F : Fun K x x st a fd) (S : FnScope N ps (defScope st)) (hio : io.length = ps.length)
    (hb : ∀ (f : Addr) (cdv : Value) (A : Around) (outer : List PySem.Env) (s : Shared) (H : Hp) (E : XK) (hr : Room k (A.deeper (PyProof.Rows.envOfC x (defScope st) s.heap.objs.size f cdv))),
      PSsD (bodyFam P w K mg base N x (defScope st) f cdv A outer s H E k S.nd hr) (jsOf io 0) (defBody st) body) : FnOk P w K mg base CX0 (k + 1) a fd ps (spD K (dFun N.length io body)) :=
  fun_ok F S hio fun cdv A outer s H E hr => by
    obtain ⟨t, p, q⟩ := hb a cdv A outer s H E hr
    exact ⟨t, p (), q⟩
theorem def_ok {P : Program} {w : World} {K : PySem.W.Frag} {mg : Str → Option Value} {base : Heap} {x : Str} {st : Stmt} {N ps : List Str} {k : Nat} {io : List Bool} {body : SDen} (D0 : DefAt K mg x st ps) (S : FnScope N ps (defScope st)) (hio : io.length = ps.length)
    (hb : ∀ (f : Addr) (cdv : Value) (A : Around) (outer : List PySem.Env) (s : Shared) (H : Hp) (E : XK) (hr : Room k (A.deeper (PyProof.Rows.envOfC x (defScope st) s.heap.objs.size f cdv))),
      PSsD (bodyFam P w K mg base N x (defScope st) f cdv A outer s H E k S.nd hr) (jsOf io 0) (defBody st) body) : Fok P w K mg base x (k + 1) (dFun N.length io body) := by
  obtain ⟨a, fd, hm, F, b⟩ := D0.ex
  exact ⟨a, fd, ps, hm, F.kp, b, def_fn F S hio hb⟩
theorem def_at {K : PySem.W.Frag} {mg : Str → Option Value} {h : Heap} {x : Str} {st : Stmt} {ps : List Str} {f : Addr} {oc : Value} {od an : Option Addr} {osl : Array (Option Value)} {kV doc pm cdv ct : Value} (X : K.In h) (G : h.Ns mainGlobals mg) (a : PySem.W.nsIn K mainGlobals x = some (some (.ref f)))
    (l : K.lookup f = some ⟨oc, od, .func (PySem.W.fnOf x x (defArgs st) (defBody st) (defScope st) .none kV doc pm an cdv ct), osl⟩) (c : PySem.W.codeIn K cdv x = true) (k : PySem.W.keepIn K (.ref f) = true)
    (hb : ∀ (kV doc pm : Value) (an : Option Addr) (cdv ct : Value) (us : List Value), us.length = ps.length → bindArgs (PySem.W.fnOf x x (defArgs st) (defBody st) (defScope st) .none kV doc pm an cdv ct) ⟨us, []⟩ = pure (ps.zip us)) : DefAt K mg x st ps :=
  ⟨f, _, PySem.W.mg_of X G a, fun_mk l c k, (fun_mk l c k).binds hb⟩
theorem cal_of {P : Program} {w : World} {K : PySem.W.Frag} {mg : Str → Option Value} {base : Heap} {N : List Str} {qual : Str} {sc : Scope} {f : Addr} {cdv : Value} {A : Around} {outer : List PySem.Env} {s : Shared} {H : Hp} {E : XK} {k j : Nat} {nd : N.Nodup} {hr : Room k (A.deeper (PyProof.Rows.envOfC qual sc s.heap.objs.size f cdv))} {x : Str} {g : FDen}
    (G : Fok P w K mg base x j g) (h : j ≤ k) : Cal (bodyFam P w K mg base N qual sc f cdv A outer s H E k nd hr) x g := fun _ => G.mono h
theorem cal_blk {F : Fam} {x : Str} {g : FDen} {scope : Scope} (C : Cal F x g) : Cal (F.blk scope) x g := fun p => C p.1
/-! ### the law -/
def spLawD (K : PySem.W.Frag) : Sp := fun vs H Q _ => ∃ (a : Addr) (ns : List Int), vs = [.ref a] ∧ SqL K H a (ns.map V.int) ∧ ns.length ≤ 63 ∧ ∀ v H', v = .bl true → Q v H'
theorem law_sp {P : Program} {w : World} {K : PySem.W.Frag} {mg : Str → Option Value} {base : Heap} {k : Nat} {a : Addr} {fd : FuncData} {ps : List Str} {f : FDen} (F : FnOk P w K mg base CX0 k a fd ps (spD K f)) (h : ∀ ns : List Int, ns.length ≤ 63 → ∃ outs, f [.frz (.scr (ns.map D.int))] = .ok (.frz (.bl true)) outs) : FnOk P w K mg base CX0 k a fd ps (spLawD K) :=
  F.imp fun vs H Q E hs => by
    obtain ⟨l, ns, rfl, hS, hl, q⟩ := hs
    obtain ⟨outs, ho⟩ := h ns hl
    refine ⟨H, _, [], _, outs, .cons (f1 := []) (f2 := []) (.frz ?_) .nil, ⟨Same.refl _, List.nodup_nil, by simp⟩, ho, fun v Hf' H' fo fr _ ov _ _ => ?_⟩
    · simp only [Rep]
      exact ⟨l, _, rfl, hS, .ofInts ns⟩
    · cases ov with
      | frz r =>
      simp only [Rep] at r
      exact q v H' r
end Fw
namespace Fw
open PySem L2

theorem nr {α : Sort _} {a b : α} (h : a = b) : a = b := h
/-! ### how a denotation is reckoned: one row for each combinator -/
section
variable {α β : Type} {Γ : Env} {a b c : Den} {f : D → D → Option Z} {s u : SDen} {t v : DenT} {i : Nat} {d : D}
@[simp ↓] theorem bindO_ap (m : Env → Out α) (k : α → Env → Out β) : bindO m k Γ = (match m Γ with | .ok a Γ1 => k a Γ1 | .exc x Γ1 => .exc x Γ1 | .stuck => .stuck) := nr rfl
@[simp] theorem liftO_some (x : α) (k : α → Out β) : liftO (some x) k = k x := nr rfl
@[simp] theorem get_frz : (R.frz d).get Γ = some d := nr rfl
@[simp] theorem get_own {x : T} : (R.own x).get Γ = x.toD := nr rfl
@[simp] theorem get_loc : (R.loc i).get Γ = (match Γ[i]? with | some (some t) => t.toD | _ => none) := nr rfl
@[simp] theorem toD_frz : (T.frz d).toD = some d := nr rfl
@[simp] theorem toD_lst {ds : List D} : (T.lst ds).toD = some (.lst ds) := nr rfl
@[simp] theorem toD_dct {ks : List Key} {ds : List D} : (T.dct ks ds).toD = some (.dct ks ds) := nr rfl
@[simp] theorem toR_val : (Z.val d).toR = .frz d := nr rfl
@[simp] theorem toR_lst {ds : List D} : (Z.lst ds).toR = .own (.lst ds) := nr rfl
@[simp] theorem toR_tup {ds : List D} : (Z.tup ds).toR = .frz (.tup ds) := nr rfl
@[simp] theorem toR_dct {ks : List Key} {ds : List D} : (Z.dct ks ds).toR = .own (.dct ks ds) := nr rfl
@[simp ↓] theorem dV_ap : dV a Γ = (match a Γ with | .ok (.frz d) Γ1 => .ok d Γ1 | .ok (.own t) Γ1 => liftO t.toD fun d => .ok d Γ1 | .ok (.loc i) Γ1 => liftO ((R.loc i).get Γ1) fun d => .ok d (Γ1.set i (some (.frz d))) | .exc x Γ1 => .exc x Γ1 | .stuck => .stuck) := by
  unfold dV bindO
  cases a Γ with
  | ok r Γ1 => cases r <;> rfl
  | exc x Γ1 => rfl
  | stuck => rfl
@[simp ↓] theorem dO_ap : dO a Γ = (match a Γ with | .ok (.frz d) Γ1 => .ok (.frz d) Γ1 | .ok (.own t) Γ1 => liftO t.toD fun d => .ok (.frz d) Γ1 | .ok (.loc i) Γ1 => .ok (.loc i) Γ1 | .exc x Γ1 => .exc x Γ1 | .stuck => .stuck) := by
  unfold dO bindO
  cases a Γ with
  | ok r Γ1 => cases r <;> rfl
  | exc x Γ1 => rfl
  | stuck => rfl
@[simp ↓] theorem dName_ap : dName i Γ = (match Γ[i]? with | some (some (.frz d)) => .ok (.frz d) Γ | some (some _) => .ok (.loc i) Γ | _ => .stuck) := by
  unfold dName; rfl
@[simp ↓] theorem dMove_ap : dMove i Γ = (match Γ[i]? with | some (some t) => .ok (.own t) (Γ.set i none) | _ => .stuck) := by unfold dMove; rfl
@[simp ↓] theorem dC_ap : dC d Γ = .ok (.frz d) Γ := nr rfl
@[simp ↓] theorem dBin_ap : dBin f a b Γ = bindO (dO a) (fun ra => bindO (dO b) fun rb Γ => liftO (ra.get Γ) fun x => liftO (rb.get Γ) fun y => liftO (f x y) fun z => .ok z.toR Γ) Γ := nr rfl
@[simp ↓] theorem dT_ap : dT a Γ = (match a Γ with | .ok (.frz (.bl b)) Γ1 => .ok b Γ1 | .ok _ _ => .stuck | .exc x Γ1 => .exc x Γ1 | .stuck => .stuck) := by
  unfold dT bindO
  cases a Γ with
  | ok r Γ1 => cases r with
    | frz d => cases d <;> rfl
    | _ => rfl
  | exc x Γ1 => rfl
  | stuck => rfl
@[simp ↓] theorem dAndT_ap : dAndT t v Γ = bindO t (fun c Γ => if c = true then v Γ else .ok false Γ) Γ := nr rfl
@[simp ↓] theorem dOrT_ap : dOrT t v Γ = bindO t (fun c Γ => if c = true then .ok true Γ else v Γ) Γ := nr rfl
@[simp ↓] theorem dNotT_ap : dNotT t Γ = bindO t (fun c Γ => .ok (!c) Γ) Γ := nr rfl
@[simp ↓] theorem dAnd_ap : dAnd a b Γ = bindO (dT a) (fun c Γ => if c = true then b Γ else .ok (.frz (.bl false)) Γ) Γ := nr rfl
@[simp ↓] theorem dOr_ap : dOr a b Γ = bindO (dT a) (fun c Γ => if c = true then .ok (.frz (.bl true)) Γ else b Γ) Γ := nr rfl
@[simp ↓] theorem dNot_ap : dNot a Γ = bindO (dT a) (fun c Γ => .ok (.frz (.bl (!c))) Γ) Γ := nr rfl
@[simp ↓] theorem dIf_ap : dIf t a b Γ = bindO t (fun c Γ => if c = true then a Γ else b Γ) Γ := nr rfl
@[simp ↓] theorem dUn_ap {g : D → Option Z} : dUn g a Γ = bindO (dO a) (fun ra Γ => liftO (ra.get Γ) fun x => liftO (g x) fun z => .ok z.toR Γ) Γ := nr rfl
@[simp ↓] theorem dChain_ap {g : D → D → Option Z} : dChain f g a b c Γ = bindO (dO a) (fun ra => bindO (dO b) fun rb Γ => liftO (ra.get Γ) fun x => liftO (rb.get Γ) fun y => liftO (f x y) fun z => match z with
  | .val (.bl true) => bindO (dO c) (fun rc Γ2 => liftO (rb.get Γ2) fun y => liftO (rc.get Γ2) fun u => liftO (g y u) fun z => .ok z.toR Γ2) Γ
  | .val (.bl false) => .ok (.frz (.bl false)) Γ
  | _ => .stuck) Γ := nr rfl
@[simp] theorem dOs_nil : dOs [] Γ = .ok [] Γ := nr rfl
@[simp ↓] theorem dOs_cons {e : Den} {es : List Den} : dOs (e :: es) Γ = bindO (dO e) (fun r => bindO (dOs es) fun rs Γ => .ok (r :: rs) Γ) Γ := nr rfl
@[simp] theorem dVs_nil : dVs [] Γ = .ok [] Γ := nr rfl
@[simp ↓] theorem dVs_cons {e : Den} {es : List Den} : dVs (e :: es) Γ = bindO (dV e) (fun r => bindO (dVs es) fun rs Γ => .ok (r :: rs) Γ) Γ := nr rfl
@[simp ↓] theorem dTup_ap {es : List Den} : dTup es Γ = bindO (dVs es) (fun ds Γ => .ok (.frz (.tup ds)) Γ) Γ := nr rfl
@[simp ↓] theorem dLst_ap {es : List Den} : dLst es Γ = bindO (dVs es) (fun ds Γ => .ok (.own (.lst ds)) Γ) Γ := nr rfl
@[simp ↓] theorem dDict0_ap : dDict0 Γ = .ok (.own (.dct [] [])) Γ := nr rfl
@[simp] theorem getL_nil : getL [] Γ = some [] := nr rfl
@[simp ↓] theorem getL_cons {r : R} {rs : List R} : getL (r :: rs) Γ = (match r.get Γ, getL rs Γ with | some d, some ds => some (d :: ds) | _, _ => none) := nr rfl
@[simp ↓] theorem dB_ap {g : List D → Option Z} {es : List Den} : dB g es Γ = bindO (dOs es) (fun rs Γ => liftO (getL rs Γ) fun ds => liftO (g ds) fun z => .ok z.toR Γ) Γ := nr rfl
@[simp ↓] theorem dM_ap {c : D → Bool} {g : D → List D → Option Z} {o : Den} {es : List Den} : dM c g o es Γ = bindO (dO o) (fun ro Γ0 => liftO (ro.get Γ0) fun d0 => if c d0 = true then bindO (dOs es) (fun rs Γ => liftO (ro.get Γ) fun d => liftO (getL rs Γ) fun ds => liftO (g d ds) fun z => .ok z.toR Γ) Γ0 else .stuck) Γ := nr rfl
@[simp ↓] theorem dArgs_nil : dArgs [] Γ = .ok [] Γ := nr rfl
@[simp ↓] theorem dArgs_v {e : Den} {es : List Arg} : dArgs (.v e :: es) Γ = bindO (dV e) (fun r => bindO (dArgs es) fun rs Γ => .ok (.d r :: rs) Γ) Γ := nr rfl
@[simp ↓] theorem dArgs_io {es : List Arg} : dArgs (.io i :: es) Γ = (match Γ[i]? with | some (some _) => bindO (dArgs es) (fun rs Γ => .ok (.io i :: rs) Γ) Γ | _ => .stuck) := by
  show (match Γ[i]? with | some (some _) => _ | _ => _) = _
  rfl
@[simp ↓] theorem takeArgs_nil : takeArgs [] Γ = some ([], Γ) := nr rfl
@[simp ↓] theorem takeArgs_d {as : List AV} : takeArgs (.d d :: as) Γ = (match takeArgs as Γ with | some (ts, Γ1) => some (.frz d :: ts, Γ1) | none => none) := nr rfl
@[simp ↓] theorem takeArgs_io {as : List AV} : takeArgs (.io i :: as) Γ = (match Γ[i]? with
    | some (some t) => match takeArgs as (Γ.set i none) with
      | some (ts, Γ1) => some (t :: ts, Γ1)
      | none => none
    | _ => none) := nr rfl
@[simp ↓] theorem putArgs_nil : putArgs [] [] Γ = Γ := nr rfl
@[simp ↓] theorem putArgs_d {as : List AV} {t : T} {ts : List T} : putArgs (.d d :: as) (t :: ts) Γ = putArgs as ts Γ := nr rfl
@[simp ↓] theorem putArgs_io {as : List AV} {t : T} {ts : List T} : putArgs (.io i :: as) (t :: ts) Γ = putArgs as ts (Γ.set i (some t)) := nr rfl
@[simp ↓] theorem dCall_ap {g : FDen} {as : List Arg} : dCall g as Γ = bindO (dArgs as) (fun avs Γ => liftO (takeArgs avs Γ) fun p => match g p.1 with
  | .ok t outs => .ok (match t with | .frz d => .frz d | t => .own t) (putArgs avs outs p.2)
  | .exc x outs => .exc x (putArgs avs outs p.2)
  | .stuck => .stuck) Γ := nr rfl
@[simp ↓] theorem sNext_ap : sNext Γ = .ok .next Γ := nr rfl
@[simp ↓] theorem sSeq_ap : sSeq s u Γ = (match s Γ with | .ok .next Γ1 => u Γ1 | .ok f Γ1 => .ok f Γ1 | .exc x Γ1 => .exc x Γ1 | .stuck => .stuck) := nr rfl
@[simp ↓] theorem sAsg_ap : sAsg i a Γ = (match a Γ with | .ok (.frz d) Γ => .ok .next (Γ.set i (some (.frz d))) | .ok (.own t) Γ => .ok .next (Γ.set i (some t)) | .ok (.loc j) Γ => liftO ((R.loc j).get Γ) fun d => .ok .next ((Γ.set j (some (.frz d))).set i (some (.frz d))) | .exc x Γ1 => .exc x Γ1 | .stuck => .stuck) := by
  unfold sAsg bindO
  cases a Γ with
  | ok r Γ1 => cases r <;> rfl
  | exc x Γ1 => rfl
  | stuck => rfl
@[simp ↓] theorem sDrop_ap : sDrop a Γ = bindO a (fun _ Γ => .ok .next Γ) Γ := nr rfl
@[simp ↓] theorem sRet_ap : sRet a Γ = (match a Γ with | .ok (.frz d) Γ => .ok (.ret (.frz d)) Γ | .ok (.own t) Γ => .ok (.ret t) Γ | .ok (.loc j) Γ => (match Γ[j]? with | some (some t) => .ok (.ret t) (Γ.set j none) | _ => .stuck) | .exc x Γ1 => .exc x Γ1 | .stuck => .stuck) := by
  unfold sRet bindO
  cases a Γ with
  | ok r Γ1 => cases r <;> rfl
  | exc x Γ1 => rfl
  | stuck => rfl
@[simp ↓] theorem sRetN_ap : sRetN Γ = .ok (.ret (.frz .non)) Γ := nr rfl
@[simp ↓] theorem sIf_ap : sIf t s u Γ = bindO t (fun c Γ => if c = true then s Γ else u Γ) Γ := nr rfl
@[simp ↓] theorem sBrk_ap : sBrk Γ = .ok .brk Γ := nr rfl
@[simp ↓] theorem sCont_ap : sCont Γ = .ok .cont Γ := nr rfl
@[simp ↓] theorem putN_ap : putN i d Γ = some (Γ.set i (some (.frz d))) := nr rfl
@[simp ↓] theorem putL0_ap : putL0 [] Γ = some Γ := nr rfl
@[simp ↓] theorem putLc_ap {p : Put} {q : PutL} {ds : List D} : putLc p q (d :: ds) Γ = (match p d Γ with | some Γ1 => q ds Γ1 | none => none) := nr rfl
@[simp ↓] theorem putT_ap {q : PutL} {ds : List D} : putT q (.tup ds) Γ = q ds Γ := nr rfl
@[simp ↓] theorem sAsgG_ap {p : Put} : sAsgG p a Γ = bindO (dV a) (fun d Γ => liftO (p d Γ) fun Γ1 => .ok .next Γ1) Γ := nr rfl
@[simp ↓] theorem sFor_ap {it : Env → Out (List D)} {p : Put} : sFor it p s Γ = bindO it (forL p s) Γ := nr rfl
@[simp ↓] theorem sWhile_ap : sWhile t s Γ = whileN t s fuel Γ := nr rfl
@[simp ↓] theorem iLst_ap : iLst a Γ = bindO (dV a) (fun d Γ => match d with | .lst ds => .ok ds Γ | .scr ds => .ok ds Γ | _ => .stuck) Γ := by unfold iLst; rfl
@[simp ↓] theorem iTupD_ap : iTupD a Γ = bindO (dV a) (fun d Γ => match d with | .tup ds => .ok ds Γ | _ => .stuck) Γ := by unfold iTupD; rfl
@[simp] theorem intD_int {j : Int} : intD (.int j) = some j := nr rfl
@[simp ↓] theorem iR1_ap : iR1 a Γ = bindO (dV a) (fun d Γ => liftO (intD d) fun j => if smallI j then .ok (rngD 0 1 j.toNat) Γ else .stuck) Γ := nr rfl
@[simp ↓] theorem iR2_ap : iR2 a b Γ = bindO (dV a) (fun d => bindO (dV b) fun d2 Γ => liftO (intD d) fun i => liftO (intD d2) fun j => if smallI i && smallI j then .ok (rngD i 1 (j - i).toNat) Γ else .stuck) Γ := nr rfl
@[simp ↓] theorem dComp_ap {it : Env → Out (List D)} {p : Put} {vs : List Nat} : dComp it p t a vs Γ = bindO it (fun ds Γ => if ds.length ≤ big then bindO (compL p t (dV a) vs ds []) (fun acc Γ => .ok (.own (.lst acc)) Γ) (wipeE Γ vs) else .stuck) Γ := nr rfl
@[simp ↓] theorem dYes_ap : dYes Γ = .ok true Γ := nr rfl
@[simp] theorem wipeE_nil : wipeE Γ [] = Γ := nr rfl
@[simp] theorem wipeE_cons {vs : List Nat} : wipeE Γ (i :: vs) = (wipeE Γ vs).set i none := nr rfl
@[simp ↓] theorem sSetI_ap : sSetI i a b Γ = bindO (dV b) (fun d Γ0 => match Γ0[i]? with
  | some (some _) => bindO (dV a) (fun k Γ => liftO (intD k) fun j => match Γ[i]? with
    | some (some (.lst ds)) => liftO (ixN ds.length j) fun n => .ok .next (Γ.set i (some (.lst (ds.set n d))))
    | _ => .stuck) Γ0
  | _ => .stuck) Γ := by unfold sSetI; rfl
@[simp] theorem avsOf_nil {k : Nat} : avsOf [] k [] = some [] := nr rfl
@[simp] theorem avsOf_t {k : Nat} {io : List Bool} {t : T} {ts : List T} : avsOf (true :: io) k (t :: ts) = (avsOf io (k + 1) ts).map (.io k :: ·) := by cases t <;> rfl
@[simp] theorem avsOf_f {k : Nat} {io : List Bool} {ts : List T} : avsOf (false :: io) k (.frz d :: ts) = (avsOf io (k + 1) ts).map (.d d :: ·) := nr rfl
@[simp ↓] theorem outsOf_ap {io : List Bool} {ts : List T} : outsOf io ts Γ = (match avsOf io 0 ts with | some as => (takeArgs as Γ).map (·.1) | none => none) := nr rfl
@[simp ↓] theorem dFun_ap {n : Nat} {io : List Bool} {ts : List T} : dFun n io s ts = (match s (ts.map some ++ List.replicate (n - ts.length) none) with
  | .ok (.ret t) Γ => match outsOf io ts Γ with
    | some outs => .ok t outs
    | none => .stuck
  | .ok .next Γ => match outsOf io ts Γ with
    | some outs => .ok (.frz .non) outs
    | none => .stuck
  | .exc x Γ => match outsOf io ts Γ with
    | some outs => .exc x outs
    | none => .stuck
  | _ => .stuck) := nr rfl
@[simp ↓] theorem dSl_ap {g : D → Option Int → Option Int → Option Z} {lo hi : Option Den} : dSl g a lo hi Γ = bindO (dO a) (fun ra =>
  bindO (match lo with | none => fun Γ => .ok none Γ | some l => bindO (dO l) fun r Γ => match r with | .frz (.int i) => .ok (some i) Γ | _ => .stuck) fun l =>
  bindO (match hi with | none => fun Γ => .ok none Γ | some l => bindO (dO l) fun r Γ => match r with | .frz (.int i) => .ok (some i) Γ | _ => .stuck) fun u Γ => liftO (ra.get Γ) fun x => liftO (g x l u) fun z => .ok z.toR Γ) Γ := nr rfl
end
/-! ### the operators on whole numbers -/
section
variable {x y : Int}
@[simp] theorem zAdd_i : zAdd (.int x) (.int y) = some (.val (.int (x + y))) := nr rfl
@[simp] theorem zSub_i : zSub (.int x) (.int y) = some (.val (.int (x - y))) := nr rfl
theorem zMul_i (h : mulOk x y = true) : zMul (.int x) (.int y) = some (.val (.int (x * y))) := by simp [zMul, h]
theorem mulOk_l (h : x.natAbs < 2 ^ 64) : mulOk x y = true := by simp only [mulOk, Bool.or_eq_true, decide_eq_true_eq]; exact .inl (.inl h)
theorem mulOk_r (h : y.natAbs < 2 ^ 64) : mulOk x y = true := by simp only [mulOk, Bool.or_eq_true, decide_eq_true_eq]; exact .inl (.inr h)
theorem mulOk_b (h : x.natAbs < 2 ^ 4000) (g : y.natAbs < 2 ^ 4000) : mulOk x y = true := by simp only [mulOk, Bool.or_eq_true, Bool.and_eq_true, decide_eq_true_eq]; exact .inr ⟨h, g⟩
theorem zMod_i (h : 0 < y) : zMod (.int x) (.int y) = some (.val (.int (x % y))) := by simp [zMod, h]
theorem zDiv_i (h : 0 < y) (g : y.natAbs < 2 ^ 64) : zDiv (.int x) (.int y) = some (.val (.int (x / y))) := by
  have : y.natAbs < 2 ^ 8000 := Nat.lt_of_lt_of_le g (Nat.pow_le_pow_right (by decide) (by decide))
  simp only [zDiv, h, this, and_self, if_true]
theorem zDiv_w (h : 0 < y) (g : y.natAbs < 2 ^ 4000) : zDiv (.int x) (.int y) = some (.val (.int (x / y))) := by
  have : y.natAbs < 2 ^ 8000 := Nat.lt_of_lt_of_le g (Nat.pow_le_pow_right (by decide) (by decide))
  simp only [zDiv, h, this, and_self, if_true]
theorem zPow_i (h : 0 ≤ y) (h2 : y ≤ 1000) (g : x.natAbs < 2 ^ 64) : zPow (.int x) (.int y) = some (.val (.int (x ^ y.toNat))) := by
  simp only [zPow, h, h2, g, and_self, if_true]
@[simp] theorem zLt_i : zLt (.int x) (.int y) = some (.val (.bl (decide (x < y)))) := nr rfl
@[simp] theorem zLe_i : zLe (.int x) (.int y) = some (.val (.bl (decide (x ≤ y)))) := nr rfl
@[simp] theorem zGt_i : zGt (.int x) (.int y) = some (.val (.bl (decide (y < x)))) := nr rfl
@[simp] theorem zGe_i : zGe (.int x) (.int y) = some (.val (.bl (decide (y ≤ x)))) := nr rfl
@[simp] theorem zEq_i : zEq (.int x) (.int y) = some (.val (.bl (decide (x = y)))) := by
  simp only [zEq, shp, deq, toPy, SeqAt.shaped, PyData.eqv, Bool.and_self, if_true]
  congr 3
@[simp] theorem zNe_i : zNe (.int x) (.int y) = some (.val (.bl (!decide (x = y)))) := by
  simp only [zNe, shp, deq, toPy, SeqAt.shaped, PyData.eqv, Bool.and_self, if_true]
  congr 3
@[simp] theorem zLen_l {ds : List D} : zLen [.lst ds] = some (.val (.int ds.length)) := nr rfl
@[simp] theorem zLen_s {ds : List D} : zLen [.scr ds] = some (.val (.int ds.length)) := nr rfl
@[simp] theorem zLen_t {ds : List D} : zLen [.tup ds] = some (.val (.int ds.length)) := nr rfl
theorem ixN_lt {n : Nat} (h : 0 ≤ x) (g : x < n) : ixN n x = some x.toNat := by simp [ixN, h, g]
theorem atI_lt {α : Type} {ds : List α} {d : α} {k : Nat} (g : ds[k]? = some d) (e : x = k) : atI ds x = some d := by
  subst e
  have : k < ds.length := by
    rcases Nat.lt_or_ge k ds.length with h | h
    · exact h
    · rw [List.getElem?_eq_none h] at g; cases g
  have hx : ixN ds.length (k : Int) = some k := by rw [ixN_lt (by omega) (by omega)]; rfl
  simp only [atI, hx]
  exact g
theorem zIx_l {ds : List D} {d : D} {k : Nat} (g : ds[k]? = some d) (e : x = k) : zIx (.lst ds) (.int x) = some (.val d) := by simp [zIx, atI_lt g e]
theorem zIx_t {ds : List D} {d : D} {k : Nat} (g : ds[k]? = some d) (e : x = k) : zIx (.tup ds) (.int x) = some (.val d) := by simp [zIx, atI_lt g e]
theorem zIx_s {ds : List D} {d : D} {k : Nat} (g : ds[k]? = some d) (e : x = k) : zIx (.scr ds) (.int x) = some (.val d) := by simp [zIx, atI_lt g e]
@[simp] theorem zSum_l (ns : List Int) : zSum [.lst (ns.map D.int)] = some (.val (.int ns.sum)) := by simp [zSum, listI, listD, intsD_map]
@[simp] theorem cutD_to {α : Type} (xs : List α) (n : Nat) : cutD xs none (some (n : Int)) = xs.take n := by
  have : ¬ ((n : Int) < 0) := by omega
  simp [cutD, HT.sIx, this]
end
end Fw
namespace Fw
open PySem L2

/-! ### loops by an invariant -/
theorem forL_ind {put : Put} {b : SDen} (I : Nat → Env → Prop) : ∀ (ds : List D) (k : Nat) (Γ : Env), I k Γ →
    (∀ j d Γ, ds[j]? = some d → I (k + j) Γ → ∃ Γ1 Γ2, put d Γ = some Γ1 ∧ b Γ1 = .ok .next Γ2 ∧ I (k + j + 1) Γ2) → ∃ Γ', forL put b ds Γ = .ok .next Γ' ∧ I (k + ds.length) Γ'
  | [], k, Γ, h, _ => ⟨Γ, rfl, h⟩
  | d :: ds, k, Γ, h, hs => by
    obtain ⟨Γ1, Γ2, e1, e2, h2⟩ := hs 0 d Γ rfl h
    obtain ⟨Γ', e3, h3⟩ := forL_ind I ds (k + 1) Γ2 h2 (fun j d Γ g q => by
      have := hs (j + 1) d Γ (by simpa using g)
      simpa only [Nat.add_assoc, Nat.add_comm 1 j] using this (by simpa only [Nat.add_assoc, Nat.add_comm 1 j] using q))
    refine ⟨Γ', ?_, by simpa only [List.length_cons, Nat.add_assoc, Nat.add_comm 1] using h3⟩
    simp only [forL, e1, e2, e3]
/-- a loop whose turns go on, or leave by a return -/
theorem forL_ret {put : Put} {b : SDen} (I : Nat → Env → Prop) (P : T → Env → Prop) : ∀ (ds : List D) (k : Nat) (Γ : Env), I k Γ →
    (∀ j d Γ, ds[j]? = some d → I (k + j) Γ → ∃ Γ1, put d Γ = some Γ1 ∧ ((∃ Γ2, (b Γ1 = .ok .next Γ2 ∨ b Γ1 = .ok .cont Γ2) ∧ I (k + j + 1) Γ2) ∨ ∃ t Γ2, b Γ1 = .ok (.ret t) Γ2 ∧ P t Γ2)) →
    (∃ Γ', forL put b ds Γ = .ok .next Γ' ∧ I (k + ds.length) Γ') ∨ ∃ t Γ', forL put b ds Γ = .ok (.ret t) Γ' ∧ P t Γ'
  | [], k, Γ, h, _ => .inl ⟨Γ, rfl, h⟩
  | d :: ds, k, Γ, h, hs => by
    obtain ⟨Γ1, e1, h2⟩ := hs 0 d Γ rfl h
    rcases h2 with ⟨Γ2, e2, h2⟩ | ⟨t, Γ2, e2, h2⟩
    · have h3 := forL_ret I P ds (k + 1) Γ2 h2 (fun j d Γ g q => by
        have := hs (j + 1) d Γ (by simpa using g)
        simpa only [Nat.add_assoc, Nat.add_comm 1 j] using this (by simpa only [Nat.add_assoc, Nat.add_comm 1 j] using q))
      have e : forL put b (d :: ds) Γ = forL put b ds Γ2 := by rcases e2 with e2 | e2 <;> simp only [forL, e1, e2]
      rw [e]
      simpa only [List.length_cons, Nat.add_assoc, Nat.add_comm 1] using h3
    · exact .inr ⟨t, Γ2, by simp only [forL, e1, e2], h2⟩
theorem rngD_len (lo c : Int) (n : Nat) : (rngD lo c n).length = n := by simp [rngD]
theorem rngD_at {lo c : Int} {n j : Nat} {d : D} (h : (rngD lo c n)[j]? = some d) : j < n ∧ d = .int (lo + (j : Int) * c) := by
  rcases Nat.lt_or_ge j n with g | g
  · refine ⟨g, ?_⟩
    simp only [rngD, List.getElem?_map, List.getElem?_range g, Option.map_some, Option.some.injEq] at h
    exact h.symm
  · rw [List.getElem?_eq_none (by rw [rngD_len]; exact g)] at h
    cases h
theorem forL_rng {put : Put} {b : SDen} (I : Nat → Env → Prop) (lo c : Int) (n : Nat) (Γ : Env) (h : I 0 Γ)
    (hs : ∀ j Γ, j < n → I j Γ → ∃ Γ1 Γ2, put (.int (lo + (j : Int) * c)) Γ = some Γ1 ∧ b Γ1 = .ok .next Γ2 ∧ I (j + 1) Γ2) : ∃ Γ', forL put b (rngD lo c n) Γ = .ok .next Γ' ∧ I n Γ' := by
  have := forL_ind (put := put) (b := b) I (rngD lo c n) 0 Γ h (fun j d Γ g q => by
    obtain ⟨hj, rfl⟩ := rngD_at g
    simpa only [Nat.zero_add] using hs j Γ hj (by simpa only [Nat.zero_add] using q))
  simpa only [rngD_len, Nat.zero_add] using this
/-- a comprehension without a test -/
theorem compL_ind {put : Put} {e : Env → Out D} {vs : List Nat} (I : Nat → List D → Env → Prop) : ∀ (ds : List D) (k : Nat) (acc : List D) (Γ : Env), I k acc Γ →
    (∀ j d acc Γ, ds[j]? = some d → I (k + j) acc Γ → ∃ Γ1 y Γ3, put d Γ = some Γ1 ∧ e Γ1 = .ok y Γ3 ∧ I (k + j + 1) (acc ++ [y]) (wipeE Γ3 vs)) →
    ∃ acc' Γ', compL put dYes e vs ds acc Γ = .ok acc' Γ' ∧ I (k + ds.length) acc' Γ'
  | [], k, acc, Γ, h, _ => ⟨acc, Γ, rfl, h⟩
  | d :: ds, k, acc, Γ, h, hs => by
    obtain ⟨Γ1, y, Γ3, e1, e2, h2⟩ := hs 0 d acc Γ rfl h
    obtain ⟨acc', Γ', e3, h3⟩ := compL_ind I ds (k + 1) (acc ++ [y]) (wipeE Γ3 vs) h2 (fun j d acc Γ g q => by
      have := hs (j + 1) d acc Γ (by simpa using g)
      simpa only [Nat.add_assoc, Nat.add_comm 1 j] using this (by simpa only [Nat.add_assoc, Nat.add_comm 1 j] using q))
    refine ⟨acc', Γ', ?_, by simpa only [List.length_cons, Nat.add_assoc, Nat.add_comm 1] using h3⟩
    simp only [compL, e1, dYes_ap, bindO_ap, if_true, e2, e3]
/-- while by a measure -/
theorem whileN_ind {c : DenT} {b : SDen} (I : Nat → Env → Prop) (Q : Env → Prop)
    (hs : ∀ m Γ, I m Γ → (∃ Γ1, c Γ = .ok false Γ1 ∧ Q Γ1) ∨ ∃ Γ1 Γ2 m2, c Γ = .ok true Γ1 ∧ (b Γ1 = .ok .next Γ2 ∨ b Γ1 = .ok .cont Γ2) ∧ m2 < m ∧ I m2 Γ2) :
    ∀ (m : Nat) (Γ : Env) (n : Nat), m < n → I m Γ → ∃ Γ', whileN c b n Γ = .ok .next Γ' ∧ Q Γ' := by
  intro m
  induction m using Nat.strongRecOn with
  | ind m ih =>
    intro Γ n hn h
    obtain ⟨n, rfl⟩ : ∃ k, n = k + 1 := ⟨n - 1, by omega⟩
    rcases hs m Γ h with ⟨Γ1, e1, q⟩ | ⟨Γ1, Γ2, m2, e1, e2, hm, h2⟩
    · exact ⟨Γ1, by simp only [whileN, e1], q⟩
    · obtain ⟨Γ', e3, q⟩ := ih m2 hm Γ2 n (by omega) h2
      refine ⟨Γ', ?_, q⟩
      rcases e2 with e2 | e2 <;> simp only [whileN, e1, e2, e3]

/-! ### the deck of numbers -/
def dMix : FDen := dFun 3 [false, false]
  (sSeq (sAsg 2 (dBin zAdd (dBin zMod (dName 0) (dC (.int 2147483629))) (dBin zMul (dBin zMul (dC (.int 1000003)) (dName 1)) (dName 1))))
  (sSeq (sAsg 2 (dBin zMod (dBin zAdd (dName 2) (dBin zMul (dC (.int 7919)) (dName 1))) (dC (.int 2147483629))))
  (sSeq (sAsg 2 (dBin zMod (dBin zMul (dName 2) (dName 2)) (dC (.int 2147483587))))
  (sRet (dBin zDiv (dBin zMod (dBin zMul (dName 2) (dBin zAdd (dName 2) (dC (.int 40961)))) (dC (.int 2147483563))) (dC (.int 4)))))))
theorem mix_ev (x k : Int) (h : k.natAbs < 2 ^ 64) : ∃ r : Int, dMix [.frz (.int x), .frz (.int k)] = .ok (.frz (.int r)) [.frz (.int x), .frz (.int k)] := by
  have e1 : zMul (.int 1000003) (.int k) = some (.val (.int (1000003 * k))) := zMul_i (mulOk_l (by decide))
  have e2 : zMul (.int (1000003 * k)) (.int k) = some (.val (.int (1000003 * k * k))) := zMul_i (mulOk_r h)
  have e3 : zMul (.int 7919) (.int k) = some (.val (.int (7919 * k))) := zMul_i (mulOk_l (by decide))
  have e4 : ∀ a : Int, zMul (.int (a % 2147483629)) (.int (a % 2147483629)) = some (.val (.int ((a % 2147483629) * (a % 2147483629)))) := fun a => zMul_i (mulOk_l (by omega))
  have e5 : ∀ a b : Int, zMul (.int (a % 2147483587)) (.int b) = some (.val (.int ((a % 2147483587) * b))) := fun a b => zMul_i (mulOk_l (by omega))
  have e6 : ∀ a : Int, zDiv (.int a) (.int 4) = some (.val (.int (a / 4))) := fun a => zDiv_i (by decide) (by decide)
  have m1 : ∀ a : Int, zMod (.int a) (.int 2147483629) = some (.val (.int (a % 2147483629))) := fun a => zMod_i (by decide)
  have m2 : ∀ a : Int, zMod (.int a) (.int 2147483587) = some (.val (.int (a % 2147483587))) := fun a => zMod_i (by decide)
  have m3 : ∀ a : Int, zMod (.int a) (.int 2147483563) = some (.val (.int (a % 2147483563))) := fun a => zMod_i (by decide)
  simp [dMix, e1, e2, e3, e4, e5, e6, m1, m2, m3]
/-- the deck: its numbers, the place, what is left of a great one, the count, the sum; N: how often it was asked -/
def DkA (N : Nat) (ds : List D) : Prop := ∃ (ns : List Int) (c s k z : Int), ds = [.lst (ns.map D.int), .int c, .int s, .int k, .int z] ∧ ns.length ≤ 63 ∧ 0 ≤ c ∧ c ≤ 63 ∧ 0 ≤ k ∧ k ≤ N
theorem DkA.mono {N M : Nat} {ds : List D} (h : DkA N ds) (g : N ≤ M) : DkA M ds := by
  obtain ⟨ns, c, s, k, z, e, h1, h2, h3, h4, h5⟩ := h
  exact ⟨ns, c, s, k, z, e, h1, h2, h3, h4, by omega⟩
def dDeckA : FDen := dFun 1 [false]
  (sRet (dLst [(dSl zSl (dName 0) none (some (dC (.int 63)))), (dC (.int 0)), (dC (.int 0)), (dC (.int 0)), (dB zSum [(dSl zSl (dName 0) none (some (dC (.int 63))))])]))
theorem deckA_ev (ns : List Int) : ∃ ds, dDeckA [.frz (.scr (ns.map D.int))] = .ok (.lst ds) [.frz (.scr (ns.map D.int))] ∧ DkA 0 ds := by
  have h : cutD (ns.map D.int) none (some 63) = (ns.take 63).map D.int := by
    have := cutD_to (ns.map D.int) 63
    rw [List.map_take]
    exact this
  refine ⟨[.lst ((ns.take 63).map D.int), .int 0, .int 0, .int 0, .int (ns.take 63).sum], ?_, ns.take 63, 0, 0, 0, (ns.take 63).sum, rfl, by simp; omega, by omega, by omega, by omega, by omega⟩
  simp only [dDeckA, dFun_ap, sRet_ap, dLst_ap, bindO_ap, dVs_cons, dVs_nil, dV_ap, dSl_ap, dO_ap, dName_ap, List.map_cons, List.map_nil, List.length_cons, List.length_nil, List.cons_append, List.nil_append, List.getElem?_cons_zero, dC_ap, get_frz, liftO_some, zSl, h, toR_lst, toD_lst, dB_ap, dOs_cons, dOs_nil, getL_cons, getL_nil, zSum_l, toR_val, outsOf_ap, avsOf_f, avsOf_nil, Option.map_some, takeArgs_d, takeArgs_nil]
def dNextA (p q : Int) : FDen := dFun 4 [true, false]
  (sSeq (sIf (dAndT (dT (dBin zEq (dBin zIx (dName 0) (dC (.int 2))) (dC (.int 0)))) (dT (dBin zLt (dBin zIx (dName 0) (dC (.int 1))) (dB zLen [(dBin zIx (dName 0) (dC (.int 0)))])))) (sSeq (sAsg 2 (dBin zIx (dBin zIx (dName 0) (dC (.int 0))) (dBin zIx (dName 0) (dC (.int 1)))))
  (sSeq (sSetI 0 (dC (.int 1)) (dBin zAdd (dBin zIx (dName 0) (dC (.int 1))) (dC (.int 1))))
  (sSeq (sIf (dT (dBin zLt (dName 2) (dBin zPow (dC (.int 10)) (dC (.int 18))))) (sRet (dBin zMod (dCall dMix [.v (dName 2), .v (dBin zIx (dName 0) (dC (.int 1)))]) (dName 1))) sNext)
  (sSetI 0 (dC (.int 2)) (dName 2))))) sNext)
  (sSeq (sIf (dT (dBin zGt (dBin zIx (dName 0) (dC (.int 2))) (dC (.int 0)))) (sSeq (sAsg 3 (dBin zMod (dBin zIx (dName 0) (dC (.int 2))) (dName 1)))
  (sSeq (sSetI 0 (dC (.int 2)) (dBin zDiv (dBin zIx (dName 0) (dC (.int 2))) (dName 1)))
  (sRet (dName 3)))) sNext)
  (sSeq (sSetI 0 (dC (.int 3)) (dBin zAdd (dBin zIx (dName 0) (dC (.int 3))) (dC (.int p))))
  (sRet (dBin zMod (dCall dMix [.v (dBin zIx (dName 0) (dC (.int 4))), .v (dBin zAdd (dBin zIx (dName 0) (dC (.int 3))) (dC (.int q)))]) (dName 1))))))
section
variable {L : D} {c s k z : Int}
theorem dk0 : zIx (.lst [L, .int c, .int s, .int k, .int z]) (.int 0) = some (.val L) := zIx_l rfl rfl
theorem dk1 : zIx (.lst [L, .int c, .int s, .int k, .int z]) (.int 1) = some (.val (.int c)) := zIx_l rfl rfl
theorem dk2 : zIx (.lst [L, .int c, .int s, .int k, .int z]) (.int 2) = some (.val (.int s)) := zIx_l rfl rfl
theorem dk3 : zIx (.lst [L, .int c, .int s, .int k, .int z]) (.int 3) = some (.val (.int k)) := zIx_l rfl rfl
theorem dk4 : zIx (.lst [L, .int c, .int s, .int k, .int z]) (.int 4) = some (.val (.int z)) := zIx_l rfl rfl
end
def dNext2 (q : Int) : SDen := (sSeq (sIf (dT (dBin zGt (dBin zIx (dName 0) (dC (.int 2))) (dC (.int 0)))) (sSeq (sAsg 3 (dBin zMod (dBin zIx (dName 0) (dC (.int 2))) (dName 1)))
      (sSeq (sSetI 0 (dC (.int 2)) (dBin zDiv (dBin zIx (dName 0) (dC (.int 2))) (dName 1)))
      (sRet (dName 3)))) sNext)
      (sSeq (sSetI 0 (dC (.int 3)) (dBin zAdd (dBin zIx (dName 0) (dC (.int 3))) (dC (.int 1))))
      (sRet (dBin zMod (dCall dMix [.v (dBin zIx (dName 0) (dC (.int 4))), .v (dBin zAdd (dBin zIx (dName 0) (dC (.int 3))) (dC (.int q)))]) (dName 1)))))
theorem next2a {q : Int} {m s c k z : Int} (hm : 0 < m) (hb : m.natAbs < 2 ^ 4000) (g : 0 < s) {L : D} {x : Option T} :
    dNext2 q [some (.lst [L, .int c, .int s, .int k, .int z]), some (.frz (.int m)), x, none] = .ok (.ret (.frz (.int (s % m)))) [some (.lst [L, .int c, .int (s / m), .int k, .int z]), some (.frz (.int m)), x, some (.frz (.int (s % m)))] := by
  have mm : ∀ a : Int, zMod (.int a) (.int m) = some (.val (.int (a % m))) := fun a => zMod_i hm
  have md : ∀ a : Int, zDiv (.int a) (.int m) = some (.val (.int (a / m))) := fun a => zDiv_w hm hb
  have i2 : ixN 5 2 = some 2 := rfl
  simp [dNext2, dk2, g, mm, md, i2]
theorem next2b {q : Int} {m s c k z r : Int} (hm : 0 < m) (g : ¬ 0 < s) {L : D} {x : Option T} (er : dMix [.frz (.int z), .frz (.int (k + 1 + q))] = .ok (.frz (.int r)) [.frz (.int z), .frz (.int (k + 1 + q))]) :
    dNext2 q [some (.lst [L, .int c, .int s, .int k, .int z]), some (.frz (.int m)), x, none] = .ok (.ret (.frz (.int (r % m)))) [some (.lst [L, .int c, .int s, .int (k + 1), .int z]), some (.frz (.int m)), x, none] := by
  have mm : ∀ a : Int, zMod (.int a) (.int m) = some (.val (.int (a % m))) := fun a => zMod_i hm
  have i3 : ixN 5 3 = some 3 := rfl
  simp [dNext2, dk2, g, dk3, dk4, i3, er, mm]
theorem next2_ev {q : Int} (hq : 0 ≤ q ∧ q ≤ 1000000) {N : Nat} {m : Int} (hm : 0 < m) (hb : m.natAbs < 2 ^ 4000) (hN : N ≤ 1000000000000) {ns : List Int} {c s k z : Int} {x : Option T} (h1 : ns.length ≤ 63) (h2 : 0 ≤ c) (h3 : c ≤ 63) (h4 : 0 ≤ k) (h5 : k ≤ N) :
    ∃ r ds' Γ', dNext2 q [some (.lst [.lst (ns.map D.int), .int c, .int s, .int k, .int z]), some (.frz (.int m)), x, none] = .ok (.ret (.frz (.int r))) (some (.lst ds') :: some (.frz (.int m)) :: Γ') ∧ 0 ≤ r ∧ r < m ∧ DkA (N + 1) ds' := by
  have hr : ∀ a : Int, 0 ≤ a % m ∧ a % m < m := fun a => ⟨Int.emod_nonneg _ (by omega), Int.emod_lt_of_pos _ hm⟩
  by_cases g : 0 < s
  · exact ⟨s % m, _, _, next2a hm hb g, (hr _).1, (hr _).2, ns, c, s / m, k, z, rfl, h1, h2, h3, h4, by omega⟩
  · have hk : (k + 1 + q).natAbs < 2 ^ 64 := by
      have : (18446744073709551616 : Nat) = 2 ^ 64 := by decide
      omega
    obtain ⟨r, er⟩ := mix_ev z (k + 1 + q) hk
    exact ⟨r % m, _, _, next2b hm g er, (hr _).1, (hr _).2, ns, c, s, k + 1, z, rfl, h1, h2, h3, by omega, by omega⟩
def dNext1 : SDen := (sSeq (sAsg 2 (dBin zIx (dBin zIx (dName 0) (dC (.int 0))) (dBin zIx (dName 0) (dC (.int 1)))))
  (sSeq (sSetI 0 (dC (.int 1)) (dBin zAdd (dBin zIx (dName 0) (dC (.int 1))) (dC (.int 1))))
  (sSeq (sIf (dT (dBin zLt (dName 2) (dBin zPow (dC (.int 10)) (dC (.int 18))))) (sRet (dBin zMod (dCall dMix [.v (dName 2), .v (dBin zIx (dName 0) (dC (.int 1)))]) (dName 1))) sNext)
  (sSetI 0 (dC (.int 2)) (dName 2)))))
theorem dNextA_body (p q : Int) (hp : p = 1) : dNextA p q = dFun 4 [true, false] (sSeq (sIf (dAndT (dT (dBin zEq (dBin zIx (dName 0) (dC (.int 2))) (dC (.int 0)))) (dT (dBin zLt (dBin zIx (dName 0) (dC (.int 1))) (dB zLen [(dBin zIx (dName 0) (dC (.int 0)))])))) dNext1 sNext) (dNext2 q)) := by
  subst hp; rfl
theorem pw18 : zPow (.int 10) (.int 18) = some (.val (.int 1000000000000000000)) := by
  rw [zPow_i (by decide) (by decide) (by decide)]
  rfl
theorem next1a {m c k z x r : Int} (hm : 0 < m) {L : List D} (cell : zIx (.lst L) (.int c) = some (.val (.int x))) (lt : x < 1000000000000000000) (er : dMix [.frz (.int x), .frz (.int (c + 1))] = .ok (.frz (.int r)) [.frz (.int x), .frz (.int (c + 1))]) :
    dNext1 [some (.lst [.lst L, .int c, .int 0, .int k, .int z]), some (.frz (.int m)), none, none] = .ok (.ret (.frz (.int (r % m)))) [some (.lst [.lst L, .int (c + 1), .int 0, .int k, .int z]), some (.frz (.int m)), some (.frz (.int x)), none] := by
  have mm : ∀ a : Int, zMod (.int a) (.int m) = some (.val (.int (a % m))) := fun a => zMod_i hm
  have i1 : ixN 5 1 = some 1 := rfl
  simp [dNext1, dk0, dk1, dk2, cell, i1, pw18, lt, er, mm]
theorem next1b {m c k z x : Int} {L : List D} (cell : zIx (.lst L) (.int c) = some (.val (.int x))) (lt : ¬ x < 1000000000000000000) :
    dNext1 [some (.lst [.lst L, .int c, .int 0, .int k, .int z]), some (.frz (.int m)), none, none] = .ok .next [some (.lst [.lst L, .int (c + 1), .int x, .int k, .int z]), some (.frz (.int m)), some (.frz (.int x)), none] := by
  have i1 : ixN 5 1 = some 1 := rfl
  have i2 : ixN 5 2 = some 2 := rfl
  simp [dNext1, dk0, dk1, dk2, cell, i1, i2, pw18, lt]
theorem next0 {m c s k z : Int} {L : List D} : sIf (dAndT (dT (dBin zEq (dBin zIx (dName 0) (dC (.int 2))) (dC (.int 0)))) (dT (dBin zLt (dBin zIx (dName 0) (dC (.int 1))) (dB zLen [(dBin zIx (dName 0) (dC (.int 0)))])))) dNext1 sNext [some (.lst [.lst L, .int c, .int s, .int k, .int z]), some (.frz (.int m)), none, none] =
    if s = 0 ∧ c < L.length then dNext1 [some (.lst [.lst L, .int c, .int s, .int k, .int z]), some (.frz (.int m)), none, none] else .ok .next [some (.lst [.lst L, .int c, .int s, .int k, .int z]), some (.frz (.int m)), none, none] := by
  by_cases h : s = 0 <;> by_cases g : c < L.length <;> simp [dk0, dk1, dk2, h, g]
theorem nextA_evW {p q : Int} (hp : p = 1) (hq : 0 ≤ q ∧ q ≤ 1000000) {N : Nat} {ds : List D} (h : DkA N ds) {m : Int} (hm : 0 < m) (hb : m.natAbs < 2 ^ 4000) (hN : N ≤ 1000000000000) :
    ∃ r ds', dNextA p q [.lst ds, .frz (.int m)] = .ok (.frz (.int r)) [.lst ds', .frz (.int m)] ∧ 0 ≤ r ∧ r < m ∧ DkA (N + 1) ds' := by
  rw [dNextA_body p q hp]
  obtain ⟨ns, c, s, k, z, rfl, h1, h2, h3, h4, h5⟩ := h
  have hr : ∀ a : Int, 0 ≤ a % m ∧ a % m < m := fun a => ⟨Int.emod_nonneg _ (by omega), Int.emod_lt_of_pos _ hm⟩
  simp only [dFun_ap, sSeq_ap, List.map_cons, List.map_nil, List.length_cons, List.length_nil, List.replicate, List.cons_append, List.nil_append, next0]
  by_cases g : s = 0 ∧ c < (ns.map D.int).length
  · rw [if_pos g]
    obtain ⟨g0, g⟩ := g
    subst g0
    rw [List.length_map] at g
    obtain ⟨j, rfl⟩ : ∃ j : Nat, c = j := ⟨c.toNat, by omega⟩
    obtain ⟨x, hx⟩ : ∃ x, ns[j]? = some x := ⟨_, List.getElem?_eq_getElem (show j < ns.length by omega)⟩
    have cell : zIx (.lst (ns.map D.int)) (.int j) = some (.val (.int x)) := zIx_l (k := j) (by simp [hx]) rfl
    by_cases lt : x < 1000000000000000000
    · have hk : ((j : Int) + 1).natAbs < 2 ^ 64 := by
        have : (18446744073709551616 : Nat) = 2 ^ 64 := by decide
        omega
      obtain ⟨r, er⟩ := mix_ev x (j + 1) hk
      rw [next1a hm cell lt er]
      exact ⟨r % m, _, by simp, (hr _).1, (hr _).2, ns, j + 1, 0, k, z, rfl, h1, by omega, by omega, h4, by omega⟩
    · rw [next1b cell lt]
      obtain ⟨r, ds', Γ', e, hr0, hr1, hd⟩ := next2_ev (x := some (.frz (.int x))) (s := x) (z := z) hq hm hb hN h1 (show 0 ≤ (j : Int) + 1 by omega) (by omega) h4 h5
      simp only [e]
      exact ⟨r, ds', by simp, hr0, hr1, hd⟩
  · rw [if_neg g]
    obtain ⟨r, ds', Γ', e, hr0, hr1, hd⟩ := next2_ev (x := none) (s := s) (z := z) hq hm hb hN h1 h2 h3 h4 h5
    simp only [e]
    exact ⟨r, ds', by simp, hr0, hr1, hd⟩
theorem nextA_ev {p q : Int} (hp : p = 1) (hq : 0 ≤ q ∧ q ≤ 1000000) {N : Nat} {ds : List D} (h : DkA N ds) {m : Int} (hm : 0 < m) (hb : m.natAbs < 2 ^ 64) (hN : N ≤ 1000000000000) :
    ∃ r ds', dNextA p q [.lst ds, .frz (.int m)] = .ok (.frz (.int r)) [.lst ds', .frz (.int m)] ∧ 0 ≤ r ∧ r < m ∧ DkA (N + 1) ds' :=
  nextA_evW hp hq h hm (Nat.lt_of_lt_of_le hb (Nat.pow_le_pow_right (by decide) (by decide))) hN
end Fw
namespace Fw
open PySem L2

/-! ### list(range(..)) -/
theorem rngD_rep {K : PySem.W.Frag} {Hf : Hp} : ∀ (xs : List Nat) (a : Int), RepL K Hf (xs.map fun (i : Nat) => D.int (a + (i : Int) * 1)) (xs.map fun i => V.int (a + (i : Nat)))
  | [], _ => by simp only [List.map_nil, RepL]
  | x :: xs, a => by
    simp only [List.map_cons, RepL]
    exact ⟨_, _, rfl, by simp only [Rep, Int.mul_one], rngD_rep xs a⟩
theorem rgV_rep {K : PySem.W.Frag} {Hf : Hp} (a b : Int) : RepL K Hf (rngD a 1 (b - a).toNat) (rgV a b) := rngD_rep _ a
def dLR1 (e : Den) : Den := bindO (dV e) fun d Γ => liftO (intD d) fun j => if smallI j && decide (j.toNat ≤ big) then .ok (.own (.lst (rngD 0 1 j.toNat))) Γ else .stuck
def dLR2 (e e2 : Den) : Den := bindO (dV e) fun d => bindO (dV e2) fun d2 Γ => liftO (intD d) fun i => liftO (intD d2) fun j => if smallI i && smallI j && decide ((j - i).toNat ≤ big) then .ok (.own (.lst (rngD i 1 (j - i).toNat))) Γ else .stuck
theorem se_lr1 {K : PySem.W.Frag} {te : TE} {e : Den} (h : SE K te e) : SE K (tLstRg (tRg1 te)) (dLR1 e) := by
  intro σ Γ r Γ' he Hf H fp E w Q q
  obtain ⟨d, Γ1, g1, he1⟩ := bindO_ok he
  clear he
  obtain ⟨j, g, he2⟩ := liftO_ok he1
  clear he1
  obtain rfl := intD_eq g
  split at he2
  case isFalse => cases he2
  rename_i hj
  cases he2
  unfold smallI at hj
  simp only [Bool.and_eq_true, decide_eq_true_eq] at hj
  refine SV.of h σ Γ _ _ g1 Hf H fp E w _ fun v Hf1 H1 fp1 E1 w1 s1 r1 => ?_
  simp only [Rep] at r1
  subst r1
  have hb : j.toNat ≤ 16000000 := hj.2
  refine ⟨j, rfl, ⟨by omega, by omega, by omega, by omega, by omega⟩, fun p hp => ?_⟩
  have hr : RepL K Hf1 (rngD 0 1 j.toNat) (rgV 0 j) := by
    have := rgV_rep (K := K) (Hf := Hf1) 0 j
    rwa [Int.sub_zero] at this
  obtain ⟨Hf3, ft, E3, w3, s3, r3⟩ := Made.res (z := .lst (rngD 0 1 j.toNat)) (v := .ref p) E1 w1 ⟨p, rgV 0 j, hp, rfl, rfl, hr⟩
  exact q _ Hf3 _ fp1 ft E3 w3 (s1.trans s3) r3
theorem se_lr2 {K : PySem.W.Frag} {te te2 : TE} {e e2 : Den} (h : SE K te e) (h2 : SE K te2 e2) : SE K (tLstRg (tRg2 te te2)) (dLR2 e e2) := by
  intro σ Γ r Γ' he Hf H fp E w Q q
  obtain ⟨d, Γ1, g1, he1⟩ := bindO_ok he
  clear he
  obtain ⟨d2, Γ2, g2, he2⟩ := bindO_ok he1
  clear he1
  obtain ⟨i, g, he3⟩ := liftO_ok he2
  clear he2
  obtain ⟨j, g', he4⟩ := liftO_ok he3
  clear he3
  obtain rfl := intD_eq g
  obtain rfl := intD_eq g'
  split at he4
  case isFalse => cases he4
  rename_i hj
  cases he4
  unfold smallI at hj
  simp only [Bool.and_eq_true, decide_eq_true_eq] at hj
  refine SV.of h σ Γ _ _ g1 Hf H fp E w _ fun v Hf1 H1 fp1 E1 w1 s1 r1 => ?_
  refine SV.of h2 σ _ _ _ g2 Hf1 H1 fp1 E1 w1 _ fun v2 Hf2 H2 fp2 E2 w2 s2 r2 => ?_
  simp only [Rep] at r1 r2
  subst r1 r2
  have hb : (j - i).toNat ≤ 16000000 := hj.2
  refine ⟨i, j, rfl, rfl, ⟨by omega, by omega, by omega, by omega, by omega⟩, fun p hp => ?_⟩
  obtain ⟨Hf3, ft, E3, w3, s3, r3⟩ := Made.res (z := .lst (rngD i 1 (j - i).toNat)) (v := .ref p) E2 w2 ⟨p, rgV i j, hp, rfl, rfl, rgV_rep i j⟩
  exact q _ Hf3 _ fp2 ft E3 w3 ((s1.trans s2).trans s3) r3
section
variable {F : Fam} {a b : Expr} {da db : Den} {p p2 p3 pos : Pos}
theorem sd_lr1 (hm : F.mg "list" = none) (hm2 : F.mg "range" = none) (ha : PED F a da) (hg : F.sc.names.lookup ("list" : Str) = some .globalImplicit := by rfl) (hg2 : F.sc.names.lookup ("range" : Str) = some .globalImplicit := by rfl)
    (na : ∀ env, starEach [a] env = (false, eval a env) :: starEach [] env := by intro _; rfl) (nb : ∀ env, starEach [.Call (.Name "range" p2) [a] [] p3] env = (false, eval (.Call (.Name "range" p2) [a] [] p3) env) :: starEach [] env := by intro _; rfl) :
    PED F (.Call (.Name "list" p) [.Call (.Name "range" p2) [a] [] p3] [] pos) (dLR1 da) :=
  let ⟨_, p1, s1⟩ := ha; ⟨_, fun i => pe_listRg (F.calm i) (Fam.gl hg i) (Fam.mgx hm i) (prg_1 (Fam.gl hg2 i) (Fam.mgx hm2 i) (p1 i) (na _)) (nb _), se_lr1 s1⟩
theorem sd_lr2 (hm : F.mg "list" = none) (hm2 : F.mg "range" = none) (ha : PED F a da) (hb : PED F b db) (hg : F.sc.names.lookup ("list" : Str) = some .globalImplicit := by rfl) (hg2 : F.sc.names.lookup ("range" : Str) = some .globalImplicit := by rfl)
    (na : ∀ env, starEach [a, b] env = (false, eval a env) :: starEach [b] env := by intro _; rfl) (nb : ∀ env, starEach [b] env = (false, eval b env) :: starEach [] env := by intro _; rfl) (hp : ∀ env, (backTo p3 (starEach [b] env)).any (·.1) = false := by intro _; rfl)
    (nc : ∀ env, starEach [.Call (.Name "range" p2) [a, b] [] p3] env = (false, eval (.Call (.Name "range" p2) [a, b] [] p3) env) :: starEach [] env := by intro _; rfl) :
    PED F (.Call (.Name "list" p) [.Call (.Name "range" p2) [a, b] [] p3] [] pos) (dLR2 da db) :=
  let ⟨_, p1, s1⟩ := ha; let ⟨_, q1, s2⟩ := hb; ⟨_, fun i => pe_listRg (F.calm i) (Fam.gl hg i) (Fam.mgx hm i) (prg_2 (Fam.gl hg2 i) (Fam.mgx hm2 i) (p1 i) (q1 i) (na _) (nb _) (hp _)) (nc _), se_lr2 s1 s2⟩
end
@[simp ↓] theorem dLR1_ap {a : Den} {Γ : Env} : dLR1 a Γ = bindO (dV a) (fun d Γ => liftO (intD d) fun j => if smallI j && decide (j.toNat ≤ big) then .ok (.own (.lst (rngD 0 1 j.toNat))) Γ else .stuck) Γ := nr rfl
@[simp ↓] theorem dLR2_ap {a b : Den} {Γ : Env} : dLR2 a b Γ = bindO (dV a) (fun d => bindO (dV b) fun d2 Γ => liftO (intD d) fun i => liftO (intD d2) fun j => if smallI i && smallI j && decide ((j - i).toNat ≤ big) then .ok (.own (.lst (rngD i 1 (j - i).toNat))) Γ else .stuck) Γ := nr rfl
/-- arguments that are values alone come back as they were -/
theorem putd1 {x : D} {o : List T} {Γ : Env} : putArgs [.d x] o Γ = Γ := by
  match o with
  | [] => rfl
  | [_] => rfl
  | _ :: _ :: _ => rfl
theorem putd2 {x y : D} {o : List T} {Γ : Env} : putArgs [.d x, .d y] o Γ = Γ := by
  match o with
  | [] => rfl
  | [_] => rfl
  | [_, _] => rfl
  | _ :: _ :: _ :: _ => rfl
theorem putd3 {x y z : D} {o : List T} {Γ : Env} : putArgs [.d x, .d y, .d z] o Γ = Γ := by
  match o with
  | [] => rfl
  | [_] => rfl
  | [_, _] => rfl
  | [_, _, _] => rfl
  | _ :: _ :: _ :: _ :: _ => rfl
theorem putd4 {x y z u : D} {o : List T} {Γ : Env} : putArgs [.d x, .d y, .d z, .d u] o Γ = Γ := by
  match o with
  | [] => rfl
  | [_] => rfl
  | [_, _] => rfl
  | [_, _, _] => rfl
  | [_, _, _, _] => rfl
  | _ :: _ :: _ :: _ :: _ :: _ => rfl
end Fw
namespace Fw
open PySem L2

/-! ### small defs that stand in many laws -/
theorem e64 : (2 : Nat) ^ 64 = 18446744073709551616 := by decide
theorem nat64 {n : Nat} (h : n < 18446744073709551616) : n < 2 ^ 64 := by rw [e64]; exact h
def dPow : FDen := dFun 4 [false, false]
  (sSeq (sAsg 2 (dC (.int 1)))
  (sSeq (sFor (iR1 (dName 1)) (putN 3) (sAsg 2 (dBin zMul (dName 2) (dName 0))))
  (sRet (dName 2))))
theorem small_of {j : Int} (h : -(1000000000000000000) ≤ j) (g : j ≤ 1000000000000000000) : smallI j = true := by
  unfold smallI
  simp only [Bool.and_eq_true, decide_eq_true_eq]
  omega
theorem pow_ev (a : Int) (n : Nat) (h : a.natAbs < 2 ^ 64) (hn : n ≤ 1000000000000000000) : dPow [.frz (.int a), .frz (.int n)] = .ok (.frz (.int (a ^ n))) [.frz (.int a), .frz (.int n)] := by
  obtain ⟨Γ', e, x, rfl⟩ := forL_rng (put := putN 3) (b := sAsg 2 (dBin zMul (dName 2) (dName 0))) (fun k Γ => ∃ x, Γ = [some (.frz (.int a)), some (.frz (.int n)), some (.frz (.int (a ^ k))), x]) 0 1 n
    [some (.frz (.int a)), some (.frz (.int n)), some (.frz (.int 1)), none] ⟨none, by simp⟩ (by
      rintro j Γ hj ⟨x, rfl⟩
      refine ⟨_, _, rfl, ?_, some (.frz (.int (0 + (j : Int) * 1))), rfl⟩
      have : zMul (.int (a ^ j)) (.int a) = some (.val (.int (a ^ (j + 1)))) := by rw [zMul_i (mulOk_r h), Int.pow_succ]
      simp [this])
  have hs : smallI (n : Int) = true := small_of (by omega) (by omega)
  simp [dPow, hs, e]
def dWhole : FDen := dFun 2 [false, false]
  (sRet (dAnd (dB zIsi [(dName 0), (dC (.ty "int"))]) (dAnd (dNot (dB zIsi [(dName 0), (dC (.ty "bool"))])) (dBin zEq (dName 0) (dName 1)))))
theorem whole_ev (n : Int) : dWhole [.frz (.int n), .frz (.int n)] = .ok (.frz (.bl true)) [.frz (.int n), .frz (.int n)] := by
  have i1 : zIsi [.int n, .ty "int"] = some (.val (.bl true)) := rfl
  have i2 : zIsi [.int n, .ty "bool"] = some (.val (.bl false)) := rfl
  simp [dWhole, i1, i2]
def mostL : List Int := [10, 9, 6, 4, 4, 3, 3, 3, 3, 3, 2, 2, 2, 2, 2]
def PairOk (b p : Int) : Prop := ∃ (i j : Nat) (q : Int), i < 15 ∧ mostL[i]? = some q ∧ b = 2 + i ∧ p = 1 + j ∧ (j : Int) < q
def dPairA (p q : Int) : FDen := dFun 3 [true]
  (sSeq (sAsg 1 (dBin zAdd (dC (.int 2)) (dCall (dNextA p q) [.io 0, .v (dC (.int 15))])))
  (sSeq (sAsg 2 (dBin zIx (dLst [(dC (.int 10)), (dC (.int 9)), (dC (.int 6)), (dC (.int 4)), (dC (.int 4)), (dC (.int 3)), (dC (.int 3)), (dC (.int 3)), (dC (.int 3)), (dC (.int 3)), (dC (.int 2)), (dC (.int 2)), (dC (.int 2)), (dC (.int 2)), (dC (.int 2))]) (dBin zSub (dName 1) (dC (.int 2)))))
  (sRet (dBin zIx (dLst [(dTup [(dName 1), (dBin zAdd (dC (.int 1)) (dCall (dNextA p q) [.io 0, .v (dName 2)]))]), (dTup [(dName 1), (dName 2)])]) (dCall (dNextA p q) [.io 0, .v (dC (.int 2))])))))
theorem pairA_ev {w v : Int} (hw : w = 1) (hv : 0 ≤ v ∧ v ≤ 1000000) {N : Nat} {ds : List D} (h : DkA N ds) (hN : N ≤ 100000000000) :
    ∃ b p ds', dPairA w v [.lst ds] = .ok (.frz (.tup [.int b, .int p])) [.lst ds'] ∧ PairOk b p ∧ DkA (N + 3) ds' := by
  have nx : ∀ {N : Nat} {ds : List D} (h : DkA N ds) {m : Int} (hm : 0 < m) (hb : m.natAbs < 2 ^ 64) (hN : N ≤ 1000000000000), ∃ r ds', dNextA w v [.lst ds, .frz (.int m)] = .ok (.frz (.int r)) [.lst ds', .frz (.int m)] ∧ 0 ≤ r ∧ r < m ∧ DkA (N + 1) ds' := nextA_ev hw hv
  obtain ⟨r, d1, e1, hr0, hr1, h1⟩ := nx h (m := 15) (by decide) (by decide) (by omega)
  obtain ⟨i, rfl⟩ : ∃ i : Nat, r = i := ⟨r.toNat, by omega⟩
  have hi : i < 15 := by omega
  obtain ⟨q, hq⟩ : ∃ q, mostL[i]? = some q := ⟨_, List.getElem?_eq_getElem (show i < mostL.length from hi)⟩
  have hqp : 1 ≤ q ∧ q ≤ 10 := by
    have := List.mem_of_getElem? hq
    simp [mostL] at this
    omega
  have ix : zIx (.lst [.int 10, .int 9, .int 6, .int 4, .int 4, .int 3, .int 3, .int 3, .int 3, .int 3, .int 2, .int 2, .int 2, .int 2, .int 2]) (.int (2 + i - 2)) = some (.val (.int q)) := zIx_l (k := i) (by
    have : (mostL.map D.int)[i]? = some (.int q) := by simp [hq]
    exact this) (by omega)
  obtain ⟨s, d2, e2, hs0, hs1, h2⟩ := nx h1 (m := q) (by omega) (nat64 (by omega)) (by omega)
  obtain ⟨u, d3, e3, hu0, hu1, h3⟩ := nx h2 (m := 2) (by decide) (by decide) (by omega)
  have hu : u = 0 ∨ u = 1 := by omega
  rcases hu with rfl | rfl
  · refine ⟨2 + i, 1 + s, d3, ?_, ⟨i, s.toNat, q, hi, hq, rfl, by omega, by omega⟩, h3⟩
    have ix2 : zIx (.lst [.tup [.int (2 + i), .int (1 + s)], .tup [.int (2 + i), .int q]]) (.int 0) = some (.val (.tup [.int (2 + i), .int (1 + s)])) := zIx_l (k := 0) rfl rfl
    simp [dPairA, e1, ix, e2, e3, ix2]
  · refine ⟨2 + i, q, d3, ?_, ⟨i, (q - 1).toNat, q, hi, hq, rfl, by omega, by omega⟩, h3⟩
    have ix2 : zIx (.lst [.tup [.int (2 + i), .int (1 + s)], .tup [.int (2 + i), .int q]]) (.int 1) = some (.val (.tup [.int (2 + i), .int q])) := zIx_l (k := 1) rfl rfl
    simp [dPairA, e1, ix, e2, e3, ix2]
theorem PairOk.bd {b p : Int} (h : PairOk b p) : 2 ≤ b ∧ b ≤ 16 ∧ 1 ≤ p ∧ p ≤ 10 := by
  obtain ⟨i, j, q, hi, hq, rfl, rfl, hj⟩ := h
  have := List.mem_of_getElem? hq
  simp [mostL] at this
  omega
/-- what is true of every pair, looked at one by one -/
def allPairs (c : Nat → Nat → Bool) : Bool := (List.range 15).all fun i => (List.range (mostL[i]?.getD 0).toNat).all fun j => c (2 + i) (1 + j)
theorem allPairs_ok {c : Nat → Nat → Bool} (h : allPairs c = true) {b p : Int} (g : PairOk b p) : ∃ i j : Nat, b = i ∧ p = j ∧ c i j = true := by
  obtain ⟨i, j, q, hi, hq, rfl, rfl, hj⟩ := g
  have := List.all_eq_true.mp h i (by simpa using hi)
  have := List.all_eq_true.mp this j (by simp [hq]; omega)
  exact ⟨2 + i, 1 + j, by omega, by omega, this⟩
/-- a number that a def tells -/
def tellsI : FOut → Option Int
  | .ok (.frz (.int x)) _ => some x
  | _ => none
theorem tellsI_eq {f : FOut} {x : Int} (h : tellsI f = some x) : ∃ o, f = .ok (.frz (.int x)) o := by
  unfold tellsI at h
  split at h
  · cases h; exact ⟨_, rfl⟩
  · cases h
end Fw
namespace Fw
open PySem L2

/-! ### more rows of reckoning -/
section
variable {Γ : Env} {i : Nat} {x : Int}
@[simp] theorem zNeg_i : zNeg (.int x) = some (.val (.int (-x))) := nr rfl
@[simp] theorem zRev_l {ds : List D} : zRev (.lst ds) = some (.lst ds.reverse) := nr rfl
@[simp] theorem zTuple_l {ds : List D} : zTuple [.lst ds] = some (.tup ds) := nr rfl
@[simp] theorem zTuple_t {ds : List D} : zTuple [.tup ds] = some (.tup ds) := nr rfl
@[simp] theorem zList_l {ds : List D} : zList [.lst ds] = some (.lst ds) := nr rfl
@[simp] theorem zList_t {ds : List D} : zList [.tup ds] = some (.lst ds) := nr rfl
@[simp] theorem zInt_b {b : Bool} : zInt [.bl b] = some (.val (.int (if b then 1 else 0))) := nr rfl
@[simp ↓] theorem dMut_ap {f : List D → List D → Option (List D × D)} {es : List Den} : dMut f i es Γ = (match Γ[i]? with
  | some (some (.lst _)) => bindO (dVs es) (fun as Γ => match Γ[i]? with
    | some (some (.lst ds)) => liftO (f ds as) fun p => .ok (.frz p.2) (Γ.set i (some (.lst p.1)))
    | _ => .stuck) Γ
  | _ => .stuck) := by unfold dMut; rfl
theorem mAppend_ok {ds : List D} {d : D} (h : ds.length < big) : mAppend ds [d] = some (ds ++ [d], .non) := by simp [mAppend, h]
theorem zIx_last {ds : List D} {d : D} : zIx (.lst (ds ++ [d])) (.int (-1)) = some (.val d) := by
  have : ixN (ds ++ [d]).length (-1) = some ds.length := by
    have h1 : ¬ (0 : Int) ≤ -1 := by decide
    have h2 : -(((ds ++ [d]).length : Nat) : Int) ≤ -1 := by simp; omega
    have h3 : (-1 + (((ds ++ [d]).length : Nat) : Int)).toNat = ds.length := by simp; omega
    simp only [ixN, h1, h2, h3, if_true, if_false]
  simp only [zIx, atI, this]
  simp
end
/-! ### figures -/
def nats (ns : List Nat) : List D := ns.map fun (n : Nat) => D.int (n : Int)
theorem nats_len (ns : List Nat) : (nats ns).length = ns.length := by simp [nats]
theorem nats_app (a b : List Nat) : nats (a ++ b) = nats a ++ nats b := by simp [nats]
theorem nats_rev (a : List Nat) : nats a.reverse = (nats a).reverse := by simp [nats]
theorem nats_at {ns : List Nat} {j : Nat} {d : D} (h : (nats ns)[j]? = some d) : ∃ n, ns[j]? = some n ∧ d = .int n := by
  simp only [nats, List.getElem?_map, Option.map_eq_some_iff] at h
  obtain ⟨n, h1, h2⟩ := h
  exact ⟨n, h1, h2.symm⟩
/-- the figures from the least place on -/
def dg (b n k : Nat) : List Nat := (List.range (k + 1)).map fun i => n / b ^ i % b
/-- the figures from the greatest place on -/
def fg (b n k : Nat) : List Nat := (dg b n k).reverse
/-- the greatest place -/
structure Tk (b n k : Nat) : Prop where
  lt : n < b ^ (k + 1)
  ge : ∀ j, j < k → b ^ (j + 1) ≤ n
theorem Tk.le {b n m : Nat} (hb : 0 < b) (h : n < b ^ (m + 1)) : ∃ k, k ≤ m ∧ Tk b n k := by
  induction m with
  | zero => exact ⟨0, Nat.le_refl _, h, fun j hj => absurd hj (by omega)⟩
  | succ m ih =>
    by_cases g : n < b ^ (m + 1)
    · obtain ⟨k, hk, t⟩ := ih g
      exact ⟨k, by omega, t⟩
    · exact ⟨m + 1, Nat.le_refl _, h, fun j hj => Nat.le_trans (Nat.pow_le_pow_right hb (by omega)) (Nat.le_of_not_lt g)⟩
theorem dg_len (b n k : Nat) : (dg b n k).length = k + 1 := by simp [dg]
theorem fg_len (b n k : Nat) : (fg b n k).length = k + 1 := by simp [fg, dg]
theorem dg_at {b n k j : Nat} (h : j ≤ k) : (dg b n k)[j]? = some (n / b ^ j % b) := by
  simp only [dg, List.getElem?_map, List.getElem?_range (show j < k + 1 by omega), Option.map_some]
theorem fg_at {b n k s : Nat} (h : s ≤ k) : (fg b n k)[s]? = some (n / b ^ (k - s) % b) := by
  have hl : s < (dg b n k).length := by rw [dg_len]; omega
  rw [fg, List.getElem?_reverse hl, dg_len, dg_at (by omega)]
  congr 4
theorem fg_lt {b n k : Nat} (hb : 0 < b) : ∀ d ∈ fg b n k, d < b := by
  intro d hd
  simp only [fg, dg, List.mem_reverse, List.mem_map] at hd
  obtain ⟨i, _, rfl⟩ := hd
  exact Nat.mod_lt _ hb
/-- what a row of numbers is by its first so many -/
theorem take_at {α : Type} {xs : List α} {t : Nat} {x : α} (h : xs[t]? = some x) : xs.take (t + 1) = xs.take t ++ [x] := by
  rw [List.take_add_one, h]; rfl
def dFigC : DenT := dT (dBin zGe (dName 0) (dName 1))
def dFigB : SDen := sSeq (sDrop (dMut mAppend 2 [(dBin zMod (dName 0) (dName 1))])) (sAsg 0 (dBin zDiv (dName 0) (dName 1)))
def dFig : FDen := dFun 3 [false, false]
  (sSeq (sAsg 2 (dLst [])) (sSeq (sWhile dFigC dFigB) (sSeq (sDrop (dMut mAppend 2 [(dName 0)])) (sRet (dB zTuple [(dUn zRev (dName 2))])))))
theorem fig_turn {x b q r : Int} {ds : List D} (hb : 0 < b) (h64 : b.natAbs < 2 ^ 64) (hm : x % b = r) (hd : x / b = q) (hl : ds.length < big) :
    dFigB [some (.frz (.int x)), some (.frz (.int b)), some (.lst ds)] = .ok .next [some (.frz (.int q)), some (.frz (.int b)), some (.lst (ds ++ [.int r]))] := by
  have e1 : zMod (.int x) (.int b) = some (.val (.int r)) := by rw [zMod_i hb, hm]
  have e2 : zDiv (.int x) (.int b) = some (.val (.int q)) := by rw [zDiv_i hb h64, hd]
  simp [dFigB, e1, e2, mAppend_ok hl]
theorem fig_cond {x b : Int} {t : Option T} : dFigC [some (.frz (.int x)), some (.frz (.int b)), t] = .ok (decide (b ≤ x)) [some (.frz (.int x)), some (.frz (.int b)), t] := by simp [dFigC]
theorem fig_end {x b : Int} {ds : List D} (hl : ds.length < big) : sSeq (sDrop (dMut mAppend 2 [(dName 0)])) (sRet (dB zTuple [(dUn zRev (dName 2))])) [some (.frz (.int x)), some (.frz (.int b)), some (.lst ds)]
    = .ok (.ret (.frz (.tup (ds ++ [D.int x]).reverse))) [some (.frz (.int x)), some (.frz (.int b)), some (.lst (ds ++ [.int x]))] := by
  simp [mAppend_ok hl]
theorem fig_ev {b n k : Nat} (hb : 2 ≤ b) (hb2 : b < 1000) (hk : k < 100000) (t : Tk b n k) : dFig [.frz (.int n), .frz (.int b)] = .ok (.frz (.tup (nats (fg b n k)))) [.frz (.int n), .frz (.int b)] := by
  have h64 : (b : Int).natAbs < 2 ^ 64 := nat64 (by omega)
  have hbig : ∀ j, j ≤ k → (nats ((dg b n k).take j)).length < big := fun j hj => by rw [nats_len, List.length_take, dg_len, big]; omega
  obtain ⟨Γ', e, rfl⟩ := whileN_ind (c := dFigC) (b := dFigB)
    (fun m Γ => ∃ j, j ≤ k ∧ m = k - j ∧ Γ = [some (.frz (.int ((n / b ^ j : Nat) : Int))), some (.frz (.int b)), some (.lst (nats ((dg b n k).take j)))])
    (fun Γ => Γ = [some (.frz (.int ((n / b ^ k : Nat) : Int))), some (.frz (.int b)), some (.lst (nats ((dg b n k).take k)))])
    (by
      rintro m Γ ⟨j, hj, rfl, rfl⟩
      by_cases g : j = k
      · subst g
        refine .inl ⟨_, ?_, rfl⟩
        rw [fig_cond]
        have : ¬ (b : Int) ≤ ((n / b ^ j : Nat) : Int) := by
          have := Nat.div_lt_of_lt_mul (show n < b ^ j * b by rw [← Nat.pow_succ]; exact t.lt)
          omega
        rw [decide_eq_false this]
      · have h1 : b ≤ n / b ^ j := by
          rw [Nat.le_div_iff_mul_le (Nat.pow_pos (by omega))]
          have := t.ge j (by omega)
          rwa [Nat.pow_succ, Nat.mul_comm] at this
        have h2 : (b : Int) ≤ ((n / b ^ j : Nat) : Int) := by omega
        refine .inr ⟨_, _, k - (j + 1), by rw [fig_cond, decide_eq_true h2], .inl (fig_turn (q := ((n / b ^ (j + 1) : Nat) : Int)) (r := ((n / b ^ j % b : Nat) : Int)) (by omega) h64 (Int.natCast_emod _ _).symm ?_ (hbig j hj)), by omega, j + 1, by omega, rfl, ?_⟩
        · rw [Nat.pow_succ, ← Nat.div_div_eq_div_mul]; exact (Int.natCast_ediv _ _).symm
        · rw [take_at (dg_at hj), nats_app]; rfl)
    k [some (.frz (.int n)), some (.frz (.int b)), some (.lst [])] fuel (by have : fuel = 1000000000000 := rfl; omega) ⟨0, by omega, rfl, by simp [nats]⟩
  have fin : (nats ((dg b n k).take k) ++ [D.int ((n / b ^ k : Nat) : Int)]).reverse = nats (fg b n k) := by
    rw [fg, nats_rev]
    congr 1
    have h1 : n / b ^ k % b = n / b ^ k := Nat.mod_eq_of_lt (Nat.div_lt_of_lt_mul (by rw [← Nat.pow_succ]; exact t.lt))
    have h2 := take_at (dg_at (b := b) (n := n) (Nat.le_refl k))
    rw [List.take_of_length_le (by rw [dg_len]; omega), h1] at h2
    rw [h2, List.take_left' (by rw [List.length_take, dg_len]; omega), nats_app]; rfl
  have st : sSeq (sAsg 2 (dLst [])) (sSeq (sWhile dFigC dFigB) (sSeq (sDrop (dMut mAppend 2 [(dName 0)])) (sRet (dB zTuple [(dUn zRev (dName 2))])))) [some (.frz (.int n)), some (.frz (.int b)), none]
      = .ok (.ret (.frz (.tup (nats (fg b n k))))) [some (.frz (.int ((n / b ^ k : Nat) : Int))), some (.frz (.int b)), some (.lst (nats ((dg b n k).take k) ++ [.int ((n / b ^ k : Nat) : Int)]))] := by
    have s1 : sAsg 2 (dLst []) [some (.frz (.int n)), some (.frz (.int b)), none] = .ok .next [some (.frz (.int n)), some (.frz (.int b)), some (.lst [])] := by simp
    rw [sSeq_ap, s1]
    show sSeq _ _ _ = _
    rw [sSeq_ap, sWhile_ap, e]
    show sSeq _ _ _ = _
    rw [fig_end (hbig k (Nat.le_refl _)), fin]
  simp only [dFig, dFun_ap, List.map_cons, List.map_nil, List.length_cons, List.length_nil, List.replicate, List.cons_append, List.nil_append, st]
  simp
end Fw
namespace Fw
open PySem L2

/-! ### steps -/
def stp (b p n k : Nat) : Nat := ((fg b n k).map (· ^ p)).sum
theorem intsD_nats (ns : List Nat) : intsD (nats ns) = some (ns.map fun (n : Nat) => (n : Int)) := by
  have : nats ns = (ns.map fun (n : Nat) => (n : Int)).map D.int := by simp [nats]
  rw [this, intsD_map]
theorem sum_cast (ns : List Nat) : (ns.map fun (n : Nat) => (n : Int)).sum = ((ns.sum : Nat) : Int) := by
  induction ns with
  | nil => rfl
  | cons n ns ih => simp [ih]
theorem zSum_nats (ns : List Nat) : zSum [.lst (nats ns)] = some (.val (.int ((ns.sum : Nat) : Int))) := by
  simp [zSum, listI, listD, intsD_nats, sum_cast]
def dStep : FDen := dFun 4 [false, false, false] (sRet (dB zSum [(dComp (iTupD (dCall dFig [.v (dName 0), .v (dName 1)])) (putN 3) dYes (dCall dPow [.v (dName 3), .v (dName 2)]) [3])]))
theorem step_el {N B : D} {P Y X : Int} {o : List T} (e : dPow [.frz (.int Y), .frz (.int P)] = .ok (.frz (.int X)) o) : dV (dCall dPow [.v (dName 3), .v (dName 2)]) [some (.frz N), some (.frz B), some (.frz (.int P)), some (.frz (.int Y))] = .ok (.int X) [some (.frz N), some (.frz B), some (.frz (.int P)), some (.frz (.int Y))] := by
  simp [e, putd2]
theorem step_out {N B P : D} {f g : List D} {s : Int} {o : List T} (e1 : dFig [.frz N, .frz B] = .ok (.frz (.tup f)) o) (h1 : f.length ≤ big) (e2 : compL (putN 3) dYes (dV (dCall dPow [.v (dName 3), .v (dName 2)])) [3] f [] [some (.frz N), some (.frz B), some (.frz P), none] = .ok g [some (.frz N), some (.frz B), some (.frz P), none])
    (h2 : zSum [.lst g] = some (.val (.int s))) : dStep [.frz N, .frz B, .frz P] = .ok (.frz (.int s)) [.frz N, .frz B, .frz P] := by
  simp [dStep, e1, putd2, h1, e2, h2]
theorem step_ev {b n k p : Nat} (hb : 2 ≤ b) (hb2 : b < 1000) (hk : k < 100000) (hp : p ≤ 1000) (t : Tk b n k) : dStep [.frz (.int n), .frz (.int b), .frz (.int p)] = .ok (.frz (.int ((stp b p n k : Nat) : Int))) [.frz (.int n), .frz (.int b), .frz (.int p)] := by
  have e1 := fig_ev hb hb2 hk t
  have hlt := fg_lt (b := b) (n := n) (k := k) (by omega)
  have hlen := fg_len b n k
  obtain ⟨acc, Γ', e2, hacc, rfl⟩ := compL_ind (put := putN 3) (e := dV (dCall dPow [.v (dName 3), .v (dName 2)])) (vs := [3])
    (fun j acc Γ => acc = nats (((fg b n k).map (· ^ p)).take j) ∧ Γ = [some (.frz (.int n)), some (.frz (.int b)), some (.frz (.int p)), none])
    (nats (fg b n k)) 0 [] [some (.frz (.int n)), some (.frz (.int b)), some (.frz (.int p)), none] ⟨by simp [nats], rfl⟩ (by
      rintro j d acc Γ hj ⟨rfl, rfl⟩
      obtain ⟨m, hm, rfl⟩ := nats_at hj
      have hmb := hlt m (List.mem_of_getElem? hm)
      refine ⟨_, _, _, rfl, step_el (pow_ev (m : Int) p (nat64 (by omega)) (by omega)), ?_, rfl⟩
      have : ((fg b n k).map (· ^ p))[0 + j]? = some (m ^ p) := by rw [Nat.zero_add, List.getElem?_map, hm]; rfl
      rw [take_at this, nats_app]
      simp [nats])
  have hall : ((fg b n k).map (· ^ p)).take (0 + (nats (fg b n k)).length) = (fg b n k).map (· ^ p) := List.take_of_length_le (by rw [nats_len]; simp)
  rw [hall] at hacc
  subst hacc
  exact step_out e1 (by rw [nats_len, hlen, big]; omega) e2 (zSum_nats _)
/-! ### the law's own figures, from the greatest power down -/
def pws (b j : Nat) : List D := nats ((List.range j).map fun i => b ^ i)
theorem pws_succ (b j : Nat) : pws b (j + 1) = pws b j ++ [.int ((b ^ j : Nat) : Int)] := by simp [pws, nats, List.range_succ]
theorem pws_len (b j : Nat) : (pws b j).length = j := by simp [pws, nats]
def dLFigC : DenT := dT (dBin zLe (dBin zMul (dBin zIx (dName 2) (dUn zNeg (dC (.int 1)))) (dName 1)) (dName 0))
def dLFigB : SDen := sDrop (dMut mAppend 2 [(dBin zMul (dBin zIx (dName 2) (dUn zNeg (dC (.int 1)))) (dName 1))])
def dLFigE : SDen := sSeq (sDrop (dMut mAppend 3 [(dBin zDiv (dName 0) (dName 4))])) (sAsg 0 (dBin zMod (dName 0) (dName 4)))
def dLFig : FDen := dFun 5 [false, false]
  (sSeq (sAsg 2 (dLst [(dC (.int 1))])) (sSeq (sWhile dLFigC dLFigB) (sSeq (sAsg 3 (dLst [])) (sSeq (sFor (iLst (dUn zRev (dName 2))) (putN 4) dLFigE) (sRet (dName 3))))))
theorem lfig_cond {x b y w : Int} {ds : List D} (hw : zMul (.int y) (.int b) = some (.val (.int w))) : dLFigC [some (.frz (.int x)), some (.frz (.int b)), some (.lst (ds ++ [.int y])), none, none] = .ok (decide (w ≤ x)) [some (.frz (.int x)), some (.frz (.int b)), some (.lst (ds ++ [.int y])), none, none] := by
  simp [dLFigC, zIx_last, hw]
theorem lfig_turn {x b y w : Int} {ds : List D} (hw : zMul (.int y) (.int b) = some (.val (.int w))) (hl : (ds ++ [D.int y]).length < big) : dLFigB [some (.frz (.int x)), some (.frz (.int b)), some (.lst (ds ++ [.int y])), none, none] = .ok .next [some (.frz (.int x)), some (.frz (.int b)), some (.lst ((ds ++ [.int y]) ++ [.int w])), none, none] := by
  have h := mAppend_ok (d := .int w) hl
  generalize hL : ds ++ [D.int y] = L at *
  have hz : zIx (.lst L) (.int (-1)) = some (.val (.int y)) := by rw [← hL]; exact zIx_last
  simp [dLFigB, hz, hw, h]
theorem lfig_el {x q r y : Int} {B ps : T} {ds : List D} (h1 : zDiv (.int x) (.int y) = some (.val (.int q))) (h2 : zMod (.int x) (.int y) = some (.val (.int r))) (hl : ds.length < big) :
    dLFigE [some (.frz (.int x)), some B, some ps, some (.lst ds), some (.frz (.int y))] = .ok .next [some (.frz (.int r)), some B, some ps, some (.lst (ds ++ [.int q])), some (.frz (.int y))] := by
  simp [dLFigE, h1, h2, mAppend_ok hl]
theorem lfig_out {N N' : D} {B : D} {ps f : List D} {y : Option T} (e1 : whileN dLFigC dLFigB fuel [some (.frz N), some (.frz B), some (.lst [.int 1]), none, none] = .ok .next [some (.frz N), some (.frz B), some (.lst ps), none, none])
    (e2 : forL (putN 4) dLFigE ps.reverse [some (.frz N), some (.frz B), some (.lst ps), some (.lst []), none] = .ok .next [some (.frz N'), some (.frz B), some (.lst ps), some (.lst f), y]) : ∃ o, dLFig [.frz N, .frz B] = .ok (.lst f) o := by
  refine ⟨[.frz N, .frz B], ?_⟩
  simp [dLFig, e1, e2]
theorem lfig_ev {b n k : Nat} (hb : 2 ≤ b) (hb2 : b < 1000) (hk : k < 100000) (hn : n < 2 ^ 4000) (t : Tk b n k) : ∃ o, dLFig [.frz (.int n), .frz (.int b)] = .ok (.lst (nats (fg b n k))) o := by
  have h64 : (b : Int).natAbs < 2 ^ 64 := nat64 (by omega)
  have hw : ∀ j : Nat, zMul (.int ((b ^ j : Nat) : Int)) (.int b) = some (.val (.int ((b ^ (j + 1) : Nat) : Int))) := fun j => by
    rw [zMul_i (mulOk_r h64), ← Int.natCast_mul, ← Nat.pow_succ]
  obtain ⟨Γ1, e1, rfl⟩ := whileN_ind (c := dLFigC) (b := dLFigB)
    (fun m Γ => ∃ j, j ≤ k ∧ m = k - j ∧ Γ = [some (.frz (.int n)), some (.frz (.int b)), some (.lst (pws b j ++ [.int ((b ^ j : Nat) : Int)])), none, none])
    (fun Γ => Γ = [some (.frz (.int n)), some (.frz (.int b)), some (.lst (pws b (k + 1))), none, none])
    (by
      rintro m Γ ⟨j, hj, rfl, rfl⟩
      by_cases g : j = k
      · subst g
        refine .inl ⟨_, ?_, by rw [pws_succ]⟩
        rw [lfig_cond (hw j)]
        have : ¬ ((b ^ (j + 1) : Nat) : Int) ≤ (n : Int) := by have := t.lt; omega
        rw [decide_eq_false this]
      · have : ((b ^ (j + 1) : Nat) : Int) ≤ (n : Int) := by have := t.ge j (by omega); omega
        refine .inr ⟨_, _, k - (j + 1), by rw [lfig_cond (hw j), decide_eq_true this], .inl (lfig_turn (hw j) (by rw [List.length_append, pws_len, big]; simp; omega)), by omega, j + 1, by omega, rfl, ?_⟩
        rw [pws_succ])
    k [some (.frz (.int n)), some (.frz (.int b)), some (.lst [.int 1]), none, none] fuel (by have : fuel = 1000000000000 := rfl; omega) ⟨0, by omega, rfl, rfl⟩
  have hp : ∀ s, s ≤ k → (pws b (k + 1)).reverse[s]? = some (.int ((b ^ (k - s) : Nat) : Int)) := by
    intro s hs
    rw [List.getElem?_reverse (by rw [pws_len]; omega), pws_len]
    have : k + 1 - 1 - s = k - s := by omega
    rw [this]
    simp [pws, nats, List.getElem?_range (show k - s < k + 1 by omega)]
  obtain ⟨Γ2, e2, y, rfl⟩ := forL_ind (put := putN 4) (b := dLFigE)
    (fun s Γ => ∃ y, Γ = [some (.frz (.int ((n % b ^ (k + 1 - s) : Nat) : Int))), some (.frz (.int b)), some (.lst (pws b (k + 1))), some (.lst (nats ((fg b n k).take s))), y])
    (pws b (k + 1)).reverse 0 [some (.frz (.int n)), some (.frz (.int b)), some (.lst (pws b (k + 1))), some (.lst []), none] ⟨none, by rw [Nat.sub_zero, Nat.mod_eq_of_lt t.lt]; simp [nats]⟩ (by
      rintro s d Γ hs ⟨y, rfl⟩
      rw [Nat.zero_add] at *
      have hsk : s < k + 1 := by
        rcases Nat.lt_or_ge s (k + 1) with g | g
        · exact g
        · rw [List.getElem?_eq_none (by rw [List.length_reverse, pws_len]; exact g)] at hs; cases hs
      rw [hp s (by omega)] at hs
      cases hs
      have hpos : 0 < b ^ (k - s) := Nat.pow_pos (by omega)
      have hle : b ^ (k - s) < 2 ^ 4000 := by
        rcases Nat.eq_zero_or_pos (k - s) with z | z
        · rw [z]; exact Nat.lt_of_lt_of_le (show b ^ 0 < 2 ^ 1 by simp) (Nat.pow_le_pow_right (by decide) (by decide))
        · have := t.ge (k - s - 1) (by omega)
          rw [show k - s - 1 + 1 = k - s by omega] at this
          omega
      refine ⟨_, _, rfl, lfig_el (q := ((n / b ^ (k - s) % b : Nat) : Int)) (r := ((n % b ^ (k + 1 - (s + 1)) : Nat) : Int)) ?_ ?_ (by rw [nats_len, List.length_take, fg_len, big]; omega), some (.frz (.int ((b ^ (k - s) : Nat) : Int))), ?_⟩
      · rw [zDiv_w (by omega) (by rw [Int.natAbs_natCast]; exact hle), ← Int.natCast_ediv]
        have : b ^ (k + 1 - s) = b ^ (k - s) * b := by rw [← Nat.pow_succ]; congr 1; omega
        rw [this, Nat.mod_mul_right_div_self]
      · rw [zMod_i (by omega), ← Int.natCast_emod]
        have : b ^ (k + 1 - s) = b ^ (k - s) * b := by rw [← Nat.pow_succ]; congr 1; omega
        rw [this, Nat.mod_mul_right_mod, show k + 1 - (s + 1) = k - s by omega]
      · have := take_at (fg_at (b := b) (n := n) (k := k) (s := s) (by omega))
        rw [this, nats_app]; simp [nats])
  rw [Nat.zero_add, List.length_reverse, pws_len] at e2
  have hall : (fg b n k).take (k + 1) = fg b n k := List.take_of_length_le (by rw [fg_len]; omega)
  rw [hall] at e2
  exact lfig_out e1 e2
end Fw
namespace Fw
open PySem L2

/-! ### the law's own step -/
def dLStepB : SDen := sAsg 3 (dBin zAdd (dName 3) (dCall dPow [.v (dName 4), .v (dName 2)]))
def dLStep : FDen := dFun 5 [false, false, false] (sSeq (sAsg 3 (dC (.int 0))) (sSeq (sFor (iLst (dCall dLFig [.v (dName 0), .v (dName 1)])) (putN 4) dLStepB) (sRet (dName 3))))
theorem lstep_el {N B : D} {P Y X s : Int} {o : List T} (e : dPow [.frz (.int Y), .frz (.int P)] = .ok (.frz (.int X)) o) : dLStepB [some (.frz N), some (.frz B), some (.frz (.int P)), some (.frz (.int s)), some (.frz (.int Y))] = .ok .next [some (.frz N), some (.frz B), some (.frz (.int P)), some (.frz (.int (s + X))), some (.frz (.int Y))] := by
  simp [dLStepB, e, putd2]
theorem lstep_out {N B P : D} {f : List D} {s : Int} {o : List T} {y : Option T} (e1 : dLFig [.frz N, .frz B] = .ok (.lst f) o) (e2 : forL (putN 4) dLStepB f [some (.frz N), some (.frz B), some (.frz P), some (.frz (.int 0)), none] = .ok .next [some (.frz N), some (.frz B), some (.frz P), some (.frz (.int s)), y]) :
    dLStep [.frz N, .frz B, .frz P] = .ok (.frz (.int s)) [.frz N, .frz B, .frz P] := by
  simp [dLStep, e1, putd2, e2]
theorem lstep_ev {b n k p : Nat} (hb : 2 ≤ b) (hb2 : b < 1000) (hk : k < 100000) (hp : p ≤ 1000) (hn : n < 2 ^ 4000) (t : Tk b n k) : dLStep [.frz (.int n), .frz (.int b), .frz (.int p)] = .ok (.frz (.int ((stp b p n k : Nat) : Int))) [.frz (.int n), .frz (.int b), .frz (.int p)] := by
  obtain ⟨o, e1⟩ := lfig_ev hb hb2 hk hn t
  have hlt := fg_lt (b := b) (n := n) (k := k) (by omega)
  obtain ⟨Γ', e2, y, rfl⟩ := forL_ind (put := putN 4) (b := dLStepB)
    (fun j Γ => ∃ y, Γ = [some (.frz (.int n)), some (.frz (.int b)), some (.frz (.int p)), some (.frz (.int (((((fg b n k).map (· ^ p)).take j).sum : Nat) : Int))), y])
    (nats (fg b n k)) 0 [some (.frz (.int n)), some (.frz (.int b)), some (.frz (.int p)), some (.frz (.int 0)), none] ⟨none, rfl⟩ (by
      rintro j d Γ hj ⟨y, rfl⟩
      obtain ⟨m, hm, rfl⟩ := nats_at hj
      have hmb := hlt m (List.mem_of_getElem? hm)
      refine ⟨_, _, rfl, lstep_el (pow_ev (m : Int) p (nat64 (by omega)) (by omega)), some (.frz (.int m)), ?_⟩
      have : ((fg b n k).map (· ^ p))[0 + j]? = some (m ^ p) := by rw [Nat.zero_add, List.getElem?_map, hm]; rfl
      rw [take_at this]
      simp)
  have hall : ((fg b n k).map (· ^ p)).take (0 + (nats (fg b n k)).length) = (fg b n k).map (· ^ p) := List.take_of_length_le (by rw [nats_len]; simp)
  rw [hall] at e2
  exact lstep_out e1 e2
/-! ### rows -/
theorem sum_le (f : Nat → Nat) (c : Nat) : ∀ (xs : List Nat), (∀ x ∈ xs, f x ≤ c) → (xs.map f).sum ≤ xs.length * c
  | [], _ => by simp
  | x :: xs, h => by
    have h1 := h x (by simp)
    have h2 := sum_le f c xs fun y hy => h y (by simp [hy])
    simp only [List.map_cons, List.sum_cons, List.length_cons, Nat.succ_mul]
    omega
theorem stp_le {b p n k : Nat} (hb : 0 < b) : stp b p n k ≤ (k + 1) * b ^ p := by
  have := sum_le (· ^ p) (b ^ p) (fg b n k) fun x hx => Nat.pow_le_pow_left (Nat.le_of_lt (fg_lt hb x hx)) p
  rwa [fg_len] at this
/-- a number below 2 ^ 160 -/
theorem Tk.small {b n : Nat} (hb : 2 ≤ b) (h : n < 2 ^ 160) : ∃ k, k ≤ 159 ∧ Tk b n k := Tk.le (by omega) (Nat.lt_of_lt_of_le h (Nat.pow_le_pow_left hb 160))
/-- a base and a power that are let: the greatest figure's worth is small -/
def StOk (b p : Nat) : Prop := 2 ≤ b ∧ b < 1000 ∧ p ≤ 1000 ∧ b ^ p < 2 ^ 150
def tkF (b n : Nat) : Nat → Nat → Nat
  | 0, k => k
  | f + 1, k => if n < b ^ (k + 1) then k else tkF b n f (k + 1)
theorem tkF_ok {b n : Nat} : ∀ (f k : Nat), (∀ j, j < k → b ^ (j + 1) ≤ n) → n < b ^ (k + f + 1) → tkF b n f k ≤ k + f ∧ Tk b n (tkF b n f k)
  | 0, k, h, g => ⟨Nat.le_refl _, g, h⟩
  | f + 1, k, h, g => by
    unfold tkF
    split
    · rename_i c
      exact ⟨by omega, c, h⟩
    · rename_i c
      have := tkF_ok f (k + 1) (fun j hj => by
        rcases Nat.lt_or_ge j k with z | z
        · exact h j z
        · obtain rfl : j = k := by omega
          exact Nat.le_of_not_lt c) (by rwa [show k + 1 + f + 1 = k + (f + 1) + 1 by omega])
      exact ⟨by omega, this.2⟩
def tk (b n : Nat) : Nat := tkF b n 159 0
theorem tk_ok {b n : Nat} (hb : 2 ≤ b) (h : n < 2 ^ 160) : tk b n ≤ 159 ∧ Tk b n (tk b n) := by
  have := tkF_ok (b := b) (n := n) 159 0 (fun j hj => absurd hj (by omega)) (Nat.lt_of_lt_of_le h (Nat.pow_le_pow_left hb 160))
  exact ⟨by have := this.1; unfold tk; omega, this.2⟩
/-- the step of a number -/
def st (b p n : Nat) : Nat := stp b p n (tk b n)
theorem st_lt {b p n : Nat} (h : StOk b p) (hn : n < 2 ^ 160) : st b p n < 2 ^ 160 := by
  obtain ⟨h1, _, _, h4⟩ := h
  have h5 := (tk_ok h1 hn).1
  have h6 : st b p n ≤ (tk b n + 1) * b ^ p := stp_le (by omega)
  have h7 : (tk b n + 1) * b ^ p ≤ 160 * 2 ^ 150 := Nat.mul_le_mul (by omega) (Nat.le_of_lt h4)
  have h8 : 160 * 2 ^ 150 < 2 ^ 160 := by decide
  omega
theorem lt4000 {n : Nat} (h : n < 2 ^ 160) : n < 2 ^ 4000 := Nat.lt_of_lt_of_le h (Nat.pow_le_pow_right (by decide) (by decide))
def dgs (b n : Nat) : List Nat := fg b n (tk b n)
section
variable {b p n : Nat}
theorem figN_ev (hb : 2 ≤ b) (hb2 : b < 1000) (h : n < 2 ^ 160) : dFig [.frz (.int n), .frz (.int b)] = .ok (.frz (.tup (nats (dgs b n)))) [.frz (.int n), .frz (.int b)] := fig_ev hb hb2 (by have := (tk_ok hb h).1; omega) (tk_ok hb h).2
theorem lfigN_ev (hb : 2 ≤ b) (hb2 : b < 1000) (h : n < 2 ^ 160) : ∃ o, dLFig [.frz (.int n), .frz (.int b)] = .ok (.lst (nats (dgs b n))) o := lfig_ev hb hb2 (by have := (tk_ok hb h).1; omega) (lt4000 h) (tk_ok hb h).2
theorem stepN_ev (s : StOk b p) (h : n < 2 ^ 160) : dStep [.frz (.int n), .frz (.int b), .frz (.int p)] = .ok (.frz (.int ((st b p n : Nat) : Int))) [.frz (.int n), .frz (.int b), .frz (.int p)] := step_ev s.1 s.2.1 (by have := (tk_ok s.1 h).1; omega) s.2.2.1 (tk_ok s.1 h).2
theorem lstepN_ev (s : StOk b p) (h : n < 2 ^ 160) : dLStep [.frz (.int n), .frz (.int b), .frz (.int p)] = .ok (.frz (.int ((st b p n : Nat) : Int))) [.frz (.int n), .frz (.int b), .frz (.int p)] := lstep_ev s.1 s.2.1 (by have := (tk_ok s.1 h).1; omega) s.2.2.1 (lt4000 h) (tk_ok s.1 h).2
end
/-- a number and what comes of it by steps -/
def its (b p : Nat) : Nat → Nat → Nat
  | n, 0 => n
  | n, j + 1 => st b p (its b p n j)
theorem its_lt {b p n : Nat} (h : StOk b p) (hn : n < 2 ^ 160) : ∀ j, its b p n j < 2 ^ 160
  | 0 => hn
  | j + 1 => st_lt h (its_lt h hn j)
def row (b p n m : Nat) : List Nat := (List.range m).map fun j => its b p n j
theorem row_at {b p n m j : Nat} (h : j < m) : (row b p n m)[j]? = some (its b p n j) := by simp [row, List.getElem?_range h]
theorem row_len (b p n m : Nat) : (row b p n m).length = m := by simp [row]
def dRowB (S : FDen) : SDen := sSeq (sDrop (dMut mAppend 4 [(dName 0)])) (sAsg 0 (dCall S [.v (dName 0), .v (dName 1), .v (dName 2)]))
def dRowF (S : FDen) : SDen := sSeq (sAsg 4 (dLst [])) (sFor (iR1 (dName 3)) (putN 5) (dRowB S))
theorem row_el {S : FDen} {N N' : D} {B P M : D} {o : List T} {ds : List D} {y : Option T} (e : S [.frz N, .frz B, .frz P] = .ok (.frz N') o) (hl : ds.length < big) : dRowB S [some (.frz N), some (.frz B), some (.frz P), some (.frz M), some (.lst ds), y] = .ok .next [some (.frz N'), some (.frz B), some (.frz P), some (.frz M), some (.lst (ds ++ [N])), y] := by
  simp [dRowB, mAppend_ok hl, e, putd3]
theorem row_ev {S : FDen} {b p n m : Nat} (s : StOk b p) (hn : n < 2 ^ 160) (hm : m < 1000) (hS : ∀ x, x < 2 ^ 160 → ∃ o, S [.frz (.int (x : Nat)), .frz (.int b), .frz (.int p)] = .ok (.frz (.int ((st b p x : Nat) : Int))) o) :
    ∃ x y, dRowF S [some (.frz (.int n)), some (.frz (.int b)), some (.frz (.int p)), some (.frz (.int m)), none, none] = .ok .next [x, some (.frz (.int b)), some (.frz (.int p)), some (.frz (.int m)), some (.lst (nats (row b p n m))), y] := by
  obtain ⟨Γ', e, y, rfl⟩ := forL_rng (put := putN 5) (b := dRowB S) (fun j Γ => ∃ y, Γ = [some (.frz (.int (its b p n j : Nat))), some (.frz (.int b)), some (.frz (.int p)), some (.frz (.int m)), some (.lst (nats ((row b p n m).take j))), y]) 0 1 m
    [some (.frz (.int n)), some (.frz (.int b)), some (.frz (.int p)), some (.frz (.int m)), some (.lst []), none] ⟨none, rfl⟩ (by
      rintro j Γ hj ⟨y, rfl⟩
      obtain ⟨o, e⟩ := hS _ (its_lt s hn j)
      refine ⟨_, _, rfl, row_el e (by rw [nats_len, List.length_take, row_len, big]; omega), some (.frz (.int (0 + (j : Int) * 1))), ?_⟩
      rw [take_at (row_at hj), nats_app]
      simp [nats, its])
  have hall : (row b p n m).take m = row b p n m := List.take_of_length_le (by rw [row_len]; omega)
  rw [hall] at e
  have hs : smallI (m : Int) = true := small_of (by omega) (by omega)
  exact ⟨some (.frz (.int (its b p n m : Nat))), y, by simp [dRowF, hs, e]⟩
def dRow : FDen := dFun 6 [false, false, false, false] (sSeq (sAsg 4 (dLst [])) (sSeq (sFor (iR1 (dName 3)) (putN 5) (dRowB dStep)) (sRet (dB zTuple [(dName 4)]))))
def dLRow : FDen := dFun 6 [false, false, false, false] (sSeq (sAsg 4 (dLst [])) (sSeq (sFor (iR1 (dName 3)) (putN 5) (dRowB dLStep)) (sRet (dName 4))))
theorem sSeq_assoc {a b c : SDen} {Γ : Env} : sSeq a (sSeq b c) Γ = sSeq (sSeq a b) c Γ := by
  simp only [sSeq_ap]
  cases a Γ with
  | ok f Γ1 => cases f <;> rfl
  | exc x Γ1 => rfl
  | stuck => rfl
theorem rowN_ev {b p n m : Nat} (s : StOk b p) (hn : n < 2 ^ 160) (hm : m < 1000) : ∃ o, dRow [.frz (.int n), .frz (.int b), .frz (.int p), .frz (.int m)] = .ok (.frz (.tup (nats (row b p n m)))) o := by
  obtain ⟨x, y, e⟩ := row_ev (S := dStep) s hn hm fun x hx => ⟨_, stepN_ev s hx⟩
  refine ⟨[.frz (.int n), .frz (.int b), .frz (.int p), .frz (.int m)], ?_⟩
  unfold dRowF at e
  simp only [dRow, dFun_ap, List.map_cons, List.map_nil, List.length_cons, List.length_nil, List.replicate, List.cons_append, List.nil_append, sSeq_assoc, sSeq_ap (s := sSeq _ _), e]
  simp
theorem lrowN_ev {b p n m : Nat} (s : StOk b p) (hn : n < 2 ^ 160) (hm : m < 1000) : ∃ o, dLRow [.frz (.int n), .frz (.int b), .frz (.int p), .frz (.int m)] = .ok (.lst (nats (row b p n m))) o := by
  obtain ⟨x, y, e⟩ := row_ev (S := dLStep) s hn hm fun x hx => ⟨_, lstepN_ev s hx⟩
  refine ⟨[.frz (.int n), .frz (.int b), .frz (.int p), .frz (.int m)], ?_⟩
  unfold dRowF at e
  simp only [dLRow, dFun_ap, List.map_cons, List.map_nil, List.length_cons, List.length_nil, List.replicate, List.cons_append, List.nil_append, sSeq_assoc, sSeq_ap (s := sSeq _ _), e]
  simp
end Fw
namespace Fw
open PySem L2

/-! ### data that == reads -/
def pl (h : Nat) (d : D) : Prop := PyData.canLay0 (toPy d) = true ∧ PyData.depth (toPy d) ≤ h
theorem pl.mono {h k : Nat} {d : D} (p : pl h d) (g : h ≤ k) : pl k d := ⟨p.1, Nat.le_trans p.2 g⟩
theorem pl_int {h : Nat} {i : Int} : pl h (.int i) := ⟨by simp [toPy, PyData.canLay0], by simp [toPy, PyData.depth]⟩
theorem pl_bl {h : Nat} {b : Bool} : pl h (.bl b) := ⟨by simp [toPy, PyData.canLay0], by simp [toPy, PyData.depth]⟩
theorem pl_non {h : Nat} : pl h .non := ⟨by simp [toPy, PyData.canLay0], by simp [toPy, PyData.depth]⟩
theorem plL {h : Nat} : ∀ (ds : List D), (∀ d ∈ ds, pl h d) → PyData.canLayAll0 (toPyL ds) = true ∧ PyData.depthAll (toPyL ds) ≤ h
  | [], _ => by simp [toPyL, PyData.canLayAll0, PyData.depthAll]
  | d :: ds, g => by
    have h1 := g d (by simp)
    have h2 := plL ds fun x hx => g x (by simp [hx])
    simp only [toPyL, PyData.canLayAll0, PyData.depthAll, Bool.and_eq_true]
    exact ⟨⟨h1.1, h2.1⟩, Nat.max_le.mpr ⟨h1.2, h2.2⟩⟩
theorem pl_lst {h : Nat} {ds : List D} (g : ∀ d ∈ ds, pl h d) : pl (h + 1) (.lst ds) := by
  have := plL ds g
  exact ⟨by simp only [toPy, PyData.canLay0]; exact this.1, by simp only [toPy, PyData.depth]; omega⟩
theorem pl_tup {h : Nat} {ds : List D} (g : ∀ d ∈ ds, pl h d) : pl (h + 1) (.tup ds) := by
  have := plL ds g
  exact ⟨by simp only [toPy, PyData.canLay0]; exact this.1, by simp only [toPy, PyData.depth]; omega⟩
theorem pl.shp {d : D} (p : pl 64 d) : shp d = true := by
  unfold Fw.shp SeqAt.shaped
  rw [p.1, decide_eq_true p.2]; rfl
mutual
theorem eqv_refl : ∀ d : PyData, d.canLay0 = true → PyData.eqv d d = true
  | .none, _ => by simp [PyData.eqv]
  | .bool _, _ => by simp [PyData.eqv]
  | .int _, _ => by simp [PyData.eqv]
  | .str _, _ => by simp [PyData.eqv]
  | .list xs, h => by
    simp only [PyData.eqv]
    exact eqvAll_refl xs (by simpa [PyData.canLay0] using h)
  | .tuple xs, h => by
    simp only [PyData.eqv]
    exact eqvAll_refl xs (by simpa [PyData.canLay0] using h)
  | .dict _, h => by simp [PyData.canLay0] at h
theorem eqvAll_refl : ∀ xs : List PyData, PyData.canLayAll0 xs = true → PyData.eqvAll xs xs = true
  | [], _ => by simp [PyData.eqvAll]
  | x :: xs, h => by
    have h' : x.canLay0 = true ∧ PyData.canLayAll0 xs = true := by simpa [PyData.canLayAll0] using h
    simp only [PyData.eqvAll, eqv_refl x h'.1, eqvAll_refl xs h'.2, Bool.and_self]
end
theorem zEq_same {d : D} (p : pl 64 d) : zEq d d = some (.val (.bl true)) := by
  simp only [zEq, p.shp, deq, eqv_refl _ p.1, Bool.and_self, if_true]
theorem zNe_same {d : D} (p : pl 64 d) : zNe d d = some (.val (.bl false)) := by
  simp only [zNe, p.shp, deq, eqv_refl _ p.1, Bool.and_self, if_true, Bool.not_true]
theorem eqvAll_ints : ∀ (a b : List Int), PyData.eqvAll (toPyL (a.map D.int)) (toPyL (b.map D.int)) = decide (a = b)
  | [], [] => by simp [toPyL, PyData.eqvAll]
  | [], _ :: _ => by simp [toPyL, PyData.eqvAll]
  | _ :: _, [] => by simp [toPyL, PyData.eqvAll]
  | x :: a, y :: b => by
    simp only [List.map_cons, toPyL, PyData.eqvAll, toPy, PyData.eqv, eqvAll_ints a b]
    by_cases h : x = y <;> by_cases g : a = b <;> simp [h, g]
theorem pl_ints {h : Nat} (a : List Int) : ∀ d ∈ a.map D.int, pl h d := by
  intro d hd
  obtain ⟨i, _, rfl⟩ := List.mem_map.mp hd
  exact pl_int
theorem zEq_ints (a b : List Int) : zEq (.lst (a.map D.int)) (.lst (b.map D.int)) = some (.val (.bl (decide (a = b)))) := by
  have h1 := (pl_lst (pl_ints (h := 5) a)).mono (k := 64) (by decide)
  have h2 := (pl_lst (pl_ints (h := 5) b)).mono (k := 64) (by decide)
  simp only [zEq, h1.shp, h2.shp, deq, toPy, PyData.eqv, eqvAll_ints, Bool.and_self, if_true]
theorem zEq_tints (a b : List Int) : zEq (.tup (a.map D.int)) (.tup (b.map D.int)) = some (.val (.bl (decide (a = b)))) := by
  have h1 := (pl_tup (pl_ints (h := 5) a)).mono (k := 64) (by decide)
  have h2 := (pl_tup (pl_ints (h := 5) b)).mono (k := 64) (by decide)
  simp only [zEq, h1.shp, h2.shp, deq, toPy, PyData.eqv, eqvAll_ints, Bool.and_self, if_true]
theorem pl_nats {h : Nat} (a : List Nat) : ∀ d ∈ nats a, pl h d := by
  intro d hd
  obtain ⟨i, _, rfl⟩ := List.mem_map.mp hd
  exact pl_int
theorem zNe_nats (a : List Nat) : zNe (.lst (nats a)) (.lst (nats a)) = some (.val (.bl false)) := zNe_same ((pl_lst (pl_nats (h := 5) a)).mono (by decide))
/-! ### a comprehension with a test that nothing passes -/
theorem compL_none {put : Put} {c : DenT} {e : Env → Out D} {vs : List Nat} {Γ : Env} : ∀ (ds : List D), (∀ d ∈ ds, ∃ Γ1 Γ2, put d Γ = some Γ1 ∧ c Γ1 = .ok false Γ2 ∧ wipeE Γ2 vs = Γ) → ∀ acc, compL put c e vs ds acc Γ = .ok acc Γ
  | [], _, acc => rfl
  | d :: ds, h, acc => by
    obtain ⟨Γ1, Γ2, h1, h2, h3⟩ := h d (by simp)
    simp only [compL, h1, bindO_ap, h2, if_false, h3, Bool.false_eq_true]
    exact compL_none ds (fun x hx => h x (by simp [hx])) acc
/-! ### a told tuple of whole numbers -/
def dAreC : DenT := (dOrT (dT (dB zIsi [(dName 2), (dC (.ty "bool"))])) (dNotT (dT (dB zIsi [(dName 2), (dC (.ty "int"))]))))
def dAre : FDen := dFun 3 [false, false]
  (sSeq (sIf (dOrT (dNotT (dT (dB zIsi [(dName 0), (dC (.ty "tuple"))]))) (dT (dBin zNe (dB zList [(dName 0)]) (dName 1)))) (sRet (dC (.bl false))) sNext)
  (sRet (dBin zEq (dComp (iTupD (dName 0)) (putN 2) dAreC (dName 2) [2]) (dLst []))))
theorem are_out {f g : List D} (h1 : zNe (.lst f) (.lst g) = some (.val (.bl false))) (hl : f.length ≤ big) (h2 : compL (putN 2) dAreC (dV (dName 2)) [2] f [] [some (.frz (.tup f)), some (.frz (.lst g)), none] = .ok [] [some (.frz (.tup f)), some (.frz (.lst g)), none]) :
    dAre [.frz (.tup f), .frz (.lst g)] = .ok (.frz (.bl true)) [.frz (.tup f), .frz (.lst g)] := by
  have i1 : zIsi [.tup f, .ty "tuple"] = some (.val (.bl true)) := rfl
  have i2 : zEq (.lst []) (.lst []) = some (.val (.bl true)) := zEq_ints [] []
  simp [dAre, i1, h1, hl, h2, i2]
theorem are_ev {ns : List Nat} (hl : ns.length ≤ big) : dAre [.frz (.tup (nats ns)), .frz (.lst (nats ns))] = .ok (.frz (.bl true)) [.frz (.tup (nats ns)), .frz (.lst (nats ns))] := by
  refine are_out (zNe_nats ns) (by rw [nats_len]; exact hl) (compL_none _ (fun d hd => ?_) _)
  obtain ⟨i, _, rfl⟩ := List.mem_map.mp hd
  generalize (i : Int) = x
  have i1 : zIsi [.int x, .ty "bool"] = some (.val (.bl false)) := rfl
  have i2 : zIsi [.int x, .ty "int"] = some (.val (.bl true)) := rfl
  generalize nats ns = l
  exact ⟨[some (.frz (.tup l)), some (.frz (.lst l)), some (.frz (.int x))], [some (.frz (.tup l)), some (.frz (.lst l)), some (.frz (.int x))], by simp, by simp [dAreC, i1, i2], by simp⟩
/-! ### a drawn number -/
def dNum1B (p q : Int) : SDen := sAsg 2 (dBin zAdd (dBin zMul (dName 2) (dBin zPow (dC (.int 10)) (dC (.int 6)))) (dCall (dNextA p q) [.io 0, .v (dBin zPow (dC (.int 10)) (dC (.int 6)))]))
def dNum2B : SDen := sAsg 4 (dBin zAdd (dBin zMul (dName 1) (dName 4)) (dName 5))
def dNum3B : SDen := sAsg 6 (dBin zMul (dName 6) (dBin zIx (dLst [(dC (.int 1)), (dName 1)]) (dB zInt [(dBin zLt (dBin zMul (dName 6) (dName 1)) (dBin zPow (dC (.int 16)) (dC (.int 40))))])))
def dNum (p q : Int) : FDen := dFun 8 [true, false]
  (sSeq (sAsg 2 (dC (.int 0)))
  (sSeq (sFor (iR1 (dC (.int 9))) (putN 3) (dNum1B p q))
  (sSeq (sAsg 2 (dBin zMod (dName 2) (dBin zPow (dC (.int 16)) (dC (.int 40)))))
  (sSeq (sAsg 4 (dC (.int 0)))
  (sSeq (sAsg 5 (dCall (dNextA p q) [.io 0, .v (dName 1)]))
  (sSeq (sFor (iR1 (dBin zAdd (dC (.int 1)) (dCall (dNextA p q) [.io 0, .v (dC (.int 40))]))) (putN 3) dNum2B)
  (sSeq (sAsg 6 (dC (.int 1)))
  (sSeq (sFor (iR1 (dCall (dNextA p q) [.io 0, .v (dC (.int 160))])) (putN 3) dNum3B)
  (sSeq (sAsg 7 (dLst [(dCall (dNextA p q) [.io 0, .v (dC (.int 40))]), (dCall (dNextA p q) [.io 0, .v (dBin zPow (dC (.int 10)) (dC (.int 6)))]), (dName 2), (dBin zSub (dBin zSub (dBin zPow (dC (.int 16)) (dC (.int 40))) (dC (.int 1))) (dCall (dNextA p q) [.io 0, .v (dC (.int 9))])), (dName 4)]))
  (sRet (dBin zIx (dBin zAdd (dName 7) (dLst [(dB zMax [(dC (.int 0)), (dBin zSub (dName 6) (dCall (dNextA p q) [.io 0, .v (dC (.int 3))]))]), (dBin zDiv (dName 2) (dName 6))])) (dCall (dNextA p q) [.io 0, .v (dC (.int 7))]))))))))))))
theorem pw6 : zPow (.int 10) (.int 6) = some (.val (.int 1000000)) := by
  rw [zPow_i (by decide) (by decide) (by decide)]; rfl
/-- 16 ** 40 -/
def E40 : Int := 1461501637330902918203684832716283019655932542976
theorem pw1640 : zPow (.int 16) (.int 40) = some (.val (.int E40)) := by
  rw [zPow_i (by decide) (by decide) (by decide)]; rfl
section
variable {p q : Int} {S1 : Option T} {d0 d1 d2 d3 d4 d5 : List D} {b : Int} {x2 x3 x4 x5 x6 x7 : Option T}
theorem num1_el {g r w : Int} (e : dNextA p q [.lst d0, .frz (.int 1000000)] = .ok (.frz (.int r)) [.lst d1, .frz (.int 1000000)]) (hw : zMul (.int g) (.int 1000000) = some (.val (.int w))) :
    dNum1B p q [some (.lst d0), S1, some (.frz (.int g)), x3, x4, x5, x6, x7] = .ok .next [some (.lst d1), S1, some (.frz (.int (w + r))), x3, x4, x5, x6, x7] := by
  simp [dNum1B, pw6, hw, e]
theorem num2_el {s f w : Int} (hw : zMul (.int b) (.int s) = some (.val (.int w))) :
    dNum2B [x3, some (.frz (.int b)), x2, x4, some (.frz (.int s)), some (.frz (.int f)), x6, x7] = .ok .next [x3, some (.frz (.int b)), x2, x4, some (.frz (.int (w + f))), some (.frz (.int f)), x6, x7] := by
  simp [dNum2B, hw]
theorem num3_el {e w m u : Int} (hm : zPow (.int 16) (.int 40) = some (.val (.int m))) (hw : zMul (.int e) (.int b) = some (.val (.int w))) (hu : zMul (.int e) (.int (if w < m then b else 1)) = some (.val (.int u))) :
    dNum3B [x3, some (.frz (.int b)), x2, x4, x5, S1, some (.frz (.int e)), x7] = .ok .next [x3, some (.frz (.int b)), x2, x4, x5, S1, some (.frz (.int u)), x7] := by
  by_cases h : w < m
  · have i1 : zIx (.lst [.int 1, .int b]) (.int 1) = some (.val (.int b)) := zIx_l (k := 1) rfl rfl
    rw [if_pos h, hw] at hu
    cases hu
    simp [dNum3B, hm, hw, h, i1]
  · have i1 : zIx (.lst [.int 1, .int b]) (.int 0) = some (.val (.int 1)) := zIx_l (k := 0) rfl rfl
    rw [if_neg h] at hu
    simp [dNum3B, hm, hw, h, i1, hu]
theorem num4 {g e s r1 r2 r3 r4 r5 m h1 h2 : Int} {z : D} (hm : zPow (.int 16) (.int 40) = some (.val (.int m)))
    (e1 : dNextA p q [.lst d0, .frz (.int 40)] = .ok (.frz (.int r1)) [.lst d1, .frz (.int 40)]) (e2 : dNextA p q [.lst d1, .frz (.int 1000000)] = .ok (.frz (.int r2)) [.lst d2, .frz (.int 1000000)])
    (e3 : dNextA p q [.lst d2, .frz (.int 9)] = .ok (.frz (.int r3)) [.lst d3, .frz (.int 9)]) (e4 : dNextA p q [.lst d3, .frz (.int 3)] = .ok (.frz (.int r4)) [.lst d4, .frz (.int 3)])
    (e5 : dNextA p q [.lst d4, .frz (.int 7)] = .ok (.frz (.int r5)) [.lst d5, .frz (.int 7)]) (hh1 : zMax [.int 0, .int (e - r4)] = some (.val (.int h1))) (hh2 : zDiv (.int g) (.int e) = some (.val (.int h2)))
    (hz : zIx (.lst [.int r1, .int r2, .int g, .int (m - 1 - r3), .int s, .int h1, .int h2]) (.int r5) = some (.val z)) :
    ∃ Γ, (sSeq (sAsg 7 (dLst [(dCall (dNextA p q) [.io 0, .v (dC (.int 40))]), (dCall (dNextA p q) [.io 0, .v (dBin zPow (dC (.int 10)) (dC (.int 6)))]), (dName 2), (dBin zSub (dBin zSub (dBin zPow (dC (.int 16)) (dC (.int 40))) (dC (.int 1))) (dCall (dNextA p q) [.io 0, .v (dC (.int 9))])), (dName 4)]))
      (sRet (dBin zIx (dBin zAdd (dName 7) (dLst [(dB zMax [(dC (.int 0)), (dBin zSub (dName 6) (dCall (dNextA p q) [.io 0, .v (dC (.int 3))]))]), (dBin zDiv (dName 2) (dName 6))])) (dCall (dNextA p q) [.io 0, .v (dC (.int 7))]))))
      [some (.lst d0), S1, some (.frz (.int g)), x3, some (.frz (.int s)), x5, some (.frz (.int e)), x7] = .ok (.ret (.frz z)) (some (.lst d5) :: S1 :: Γ) := by
  have a1 : ∀ a b c d e f g : D, zAdd (.lst [a, b, c, d, e]) (.lst [f, g]) = some (.lst [a, b, c, d, e, f, g]) := fun a b c d e f g => by simp [zAdd, big]
  refine ⟨_, by simp [e1, pw6, e2, hm, e3, e4, hh1, hh2, a1, e5, hz]; rfl⟩
end
theorem E40_eq : E40 = 2 ^ 160 := by decide
theorem num_out {p q : Int} {d0 d1 d2 d3 d4 d5 : List D} {b g0 g1 g f r r' s e : Int} {z : D} {x3 x4 x5 : Option T} {Γ : List (Option T)}
    (l1 : forL (putN 3) (dNum1B p q) (rngD 0 1 9) [some (.lst d0), some (.frz (.int b)), some (.frz (.int 0)), none, none, none, none, none] = .ok .next [some (.lst d1), some (.frz (.int b)), some (.frz (.int g0)), x3, none, none, none, none])
    (hm : zPow (.int 16) (.int 40) = some (.val (.int g1))) (hg : zMod (.int g0) (.int g1) = some (.val (.int g)))
    (e1 : dNextA p q [.lst d1, .frz (.int b)] = .ok (.frz (.int f)) [.lst d2, .frz (.int b)]) (e2 : dNextA p q [.lst d2, .frz (.int 40)] = .ok (.frz (.int r)) [.lst d3, .frz (.int 40)])
    (s1 : smallI (1 + r) = true) (l2 : forL (putN 3) dNum2B (rngD 0 1 (1 + r).toNat) [some (.lst d3), some (.frz (.int b)), some (.frz (.int g)), x3, some (.frz (.int 0)), some (.frz (.int f)), none, none] = .ok .next [some (.lst d3), some (.frz (.int b)), some (.frz (.int g)), x4, some (.frz (.int s)), some (.frz (.int f)), none, none])
    (e3 : dNextA p q [.lst d3, .frz (.int 160)] = .ok (.frz (.int r')) [.lst d4, .frz (.int 160)])
    (s2 : smallI r' = true) (l3 : forL (putN 3) dNum3B (rngD 0 1 r'.toNat) [some (.lst d4), some (.frz (.int b)), some (.frz (.int g)), x4, some (.frz (.int s)), some (.frz (.int f)), some (.frz (.int 1)), none] = .ok .next [some (.lst d4), some (.frz (.int b)), some (.frz (.int g)), x5, some (.frz (.int s)), some (.frz (.int f)), some (.frz (.int e)), none])
    (l4 : (sSeq (sAsg 7 (dLst [(dCall (dNextA p q) [.io 0, .v (dC (.int 40))]), (dCall (dNextA p q) [.io 0, .v (dBin zPow (dC (.int 10)) (dC (.int 6)))]), (dName 2), (dBin zSub (dBin zSub (dBin zPow (dC (.int 16)) (dC (.int 40))) (dC (.int 1))) (dCall (dNextA p q) [.io 0, .v (dC (.int 9))])), (dName 4)]))
      (sRet (dBin zIx (dBin zAdd (dName 7) (dLst [(dB zMax [(dC (.int 0)), (dBin zSub (dName 6) (dCall (dNextA p q) [.io 0, .v (dC (.int 3))]))]), (dBin zDiv (dName 2) (dName 6))])) (dCall (dNextA p q) [.io 0, .v (dC (.int 7))]))))
      [some (.lst d4), some (.frz (.int b)), some (.frz (.int g)), x5, some (.frz (.int s)), some (.frz (.int f)), some (.frz (.int e)), none] = .ok (.ret (.frz z)) (some (.lst d5) :: some (.frz (.int b)) :: Γ)) :
    dNum p q [.lst d0, .frz (.int b)] = .ok (.frz z) [.lst d5, .frz (.int b)] := by
  have s3 : smallI 9 = true := by decide
  have l1' : forL (putN 3) (dNum1B p q) (rngD 0 1 (9 : Int).toNat) [some (.lst d0), some (.frz (.int b)), some (.frz (.int 0)), none, none, none, none, none] = _ := l1
  have c1 : sSeq (sAsg 2 (dC (.int 0))) (sFor (iR1 (dC (.int 9))) (putN 3) (dNum1B p q)) [some (.lst d0), some (.frz (.int b)), none, none, none, none, none, none] = .ok .next [some (.lst d1), some (.frz (.int b)), some (.frz (.int g0)), x3, none, none, none, none] := by
    simp only [sSeq_ap, sAsg_ap, dC_ap, List.set_cons_succ, List.set_cons_zero, sFor_ap, bindO_ap, iR1_ap, dV_ap, intD_int, liftO_some, s3, if_true, l1']
  have c2 : sAsg 2 (dBin zMod (dName 2) (dBin zPow (dC (.int 16)) (dC (.int 40)))) [some (.lst d1), some (.frz (.int b)), some (.frz (.int g0)), x3, none, none, none, none] = .ok .next [some (.lst d1), some (.frz (.int b)), some (.frz (.int g)), x3, none, none, none, none] := by simp [hm, hg]
  have c3 : sAsg 4 (dC (.int 0)) [some (.lst d1), some (.frz (.int b)), some (.frz (.int g)), x3, none, none, none, none] = .ok .next [some (.lst d1), some (.frz (.int b)), some (.frz (.int g)), x3, some (.frz (.int 0)), none, none, none] := by simp
  have c4 : sAsg 5 (dCall (dNextA p q) [.io 0, .v (dName 1)]) [some (.lst d1), some (.frz (.int b)), some (.frz (.int g)), x3, some (.frz (.int 0)), none, none, none] = .ok .next [some (.lst d2), some (.frz (.int b)), some (.frz (.int g)), x3, some (.frz (.int 0)), some (.frz (.int f)), none, none] := by simp [e1]
  have c5 : sFor (iR1 (dBin zAdd (dC (.int 1)) (dCall (dNextA p q) [.io 0, .v (dC (.int 40))]))) (putN 3) dNum2B [some (.lst d2), some (.frz (.int b)), some (.frz (.int g)), x3, some (.frz (.int 0)), some (.frz (.int f)), none, none] = .ok .next [some (.lst d3), some (.frz (.int b)), some (.frz (.int g)), x4, some (.frz (.int s)), some (.frz (.int f)), none, none] := by simp [e2, s1, l2]
  have c6 : sAsg 6 (dC (.int 1)) [some (.lst d3), some (.frz (.int b)), some (.frz (.int g)), x4, some (.frz (.int s)), some (.frz (.int f)), none, none] = .ok .next [some (.lst d3), some (.frz (.int b)), some (.frz (.int g)), x4, some (.frz (.int s)), some (.frz (.int f)), some (.frz (.int 1)), none] := by simp
  have c7 : sFor (iR1 (dCall (dNextA p q) [.io 0, .v (dC (.int 160))])) (putN 3) dNum3B [some (.lst d3), some (.frz (.int b)), some (.frz (.int g)), x4, some (.frz (.int s)), some (.frz (.int f)), some (.frz (.int 1)), none] = .ok .next [some (.lst d4), some (.frz (.int b)), some (.frz (.int g)), x5, some (.frz (.int s)), some (.frz (.int f)), some (.frz (.int e)), none] := by simp [e3, s2, l3]
  simp only [dNum, dFun_ap, List.map_cons, List.map_nil, List.length_cons, List.length_nil, List.replicate, List.cons_append, List.nil_append]
  rw [sSeq_assoc, sSeq_ap (s := sSeq _ (sFor _ _ _)), c1]
  simp only [sSeq_ap (s := sAsg 2 _), c2, sSeq_ap (s := sAsg 4 _), c3, sSeq_ap (s := sAsg 5 _), c4, sSeq_ap (s := sFor _ _ _), c5, sSeq_ap (s := sAsg 6 _), c6, c7, l4]
  simp
theorem num_ev {p q : Int} (hp : p = 1) (hq : 0 ≤ q ∧ q ≤ 1000000) {N : Nat} {ds : List D} (h : DkA N ds) (hN : N ≤ 100000000000) {b : Int} (hb : 2 ≤ b) (hb2 : b ≤ 16) :
    ∃ (n : Nat) (ds' : List D), dNum p q [.lst ds, .frz (.int b)] = .ok (.frz (.int n)) [.lst ds', .frz (.int b)] ∧ n < 2 ^ 160 ∧ DkA (N + 17) ds' := by
  have nx : ∀ {N : Nat} {ds : List D} (h : DkA N ds) {m : Int} (hm : 0 < m) (hb : m.natAbs < 18446744073709551616) (hN : N ≤ 1000000000000), ∃ r ds', dNextA p q [.lst ds, .frz (.int m)] = .ok (.frz (.int r)) [.lst ds', .frz (.int m)] ∧ 0 ≤ r ∧ r < m ∧ DkA (N + 1) ds' := fun h _ hm hb hN => nextA_ev hp hq h hm (nat64 hb) hN
  have hE : E40 = 1461501637330902918203684832716283019655932542976 := rfl
  obtain ⟨Γ1, l1, d1, g0, x3, rfl, h1⟩ := forL_rng (put := putN 3) (b := dNum1B p q) (fun j Γ => ∃ ds g x3, Γ = [some (.lst ds), some (.frz (.int b)), some (.frz (.int g)), x3, none, none, none, none] ∧ DkA (N + j) ds) 0 1 9
    [some (.lst ds), some (.frz (.int b)), some (.frz (.int 0)), none, none, none, none, none] ⟨ds, 0, none, rfl, h⟩ (by
      rintro j Γ hj ⟨ds, g, x3, rfl, hd⟩
      obtain ⟨r, d1, e, _, _, hd1⟩ := nx hd (m := 1000000) (by omega) (by omega) (by omega)
      exact ⟨_, _, rfl, num1_el e (zMul_i (mulOk_r (nat64 (by omega)))), d1, _, _, rfl, hd1⟩)
  have hg0 : 0 ≤ g0 % E40 := Int.emod_nonneg _ (by omega)
  have hg1 : g0 % E40 < E40 := Int.emod_lt_of_pos _ (by omega)
  have hg : zMod (.int g0) (.int E40) = some (.val (.int (g0 % E40))) := zMod_i (by omega)
  generalize g0 % E40 = g at hg hg0 hg1
  obtain ⟨f, d2, e1, hf0, hf1, h2⟩ := nx h1 (m := b) (by omega) (by omega) (by omega)
  obtain ⟨r, d3, e2, hr0, hr1, h3⟩ := nx h2 (m := 40) (by omega) (by omega) (by omega)
  obtain ⟨Γ2, l2, s, x4, rfl, hs0, hs1⟩ := forL_rng (put := putN 3) (b := dNum2B) (fun j Γ => ∃ s x4, Γ = [some (.lst d3), some (.frz (.int b)), some (.frz (.int g)), x4, some (.frz (.int s)), some (.frz (.int f)), none, none] ∧ 0 ≤ s ∧ s < b ^ j) 0 1 (1 + r).toNat
    [some (.lst d3), some (.frz (.int b)), some (.frz (.int g)), x3, some (.frz (.int 0)), some (.frz (.int f)), none, none] ⟨0, x3, rfl, by omega, by simp⟩ (by
      rintro j Γ hj ⟨s, x4, rfl, hs0, hs1⟩
      refine ⟨_, _, rfl, num2_el (zMul_i (mulOk_l (nat64 (by omega)))), _, _, rfl, ?_, ?_⟩
      · have := Int.mul_nonneg (show 0 ≤ b by omega) hs0
        omega
      · rw [Int.pow_succ, Int.mul_comm (b ^ j) b]
        have h1 : b * (s + 1) ≤ b * b ^ j := Int.mul_le_mul_of_nonneg_left (by omega) (by omega)
        rw [Int.mul_add, Int.mul_one] at h1
        omega)
  have hsE : s < E40 := by
    obtain ⟨c, rfl⟩ : ∃ c : Nat, b = c := ⟨b.toNat, by omega⟩
    have h1 : c ^ (1 + r).toNat ≤ 16 ^ 40 := Nat.le_trans (Nat.pow_le_pow_left (show c ≤ 16 by omega) _) (Nat.pow_le_pow_right (by decide) (by omega))
    have h2 : ((c ^ (1 + r).toNat : Nat) : Int) ≤ ((16 ^ 40 : Nat) : Int) := by omega
    rw [Int.natCast_pow] at h2
    have h3 : ((16 ^ 40 : Nat) : Int) = E40 := by decide
    omega
  obtain ⟨r', d4, e3, hr0', hr1', h4⟩ := nx h3 (m := 160) (by omega) (by omega) (by omega)
  obtain ⟨Γ3, l3, e, x5, rfl, he0, he1⟩ := forL_rng (put := putN 3) (b := dNum3B) (fun j Γ => ∃ e x5, Γ = [some (.lst d4), some (.frz (.int b)), some (.frz (.int g)), x5, some (.frz (.int s)), some (.frz (.int f)), some (.frz (.int e)), none] ∧ 1 ≤ e ∧ e < E40) 0 1 r'.toNat
    [some (.lst d4), some (.frz (.int b)), some (.frz (.int g)), x4, some (.frz (.int s)), some (.frz (.int f)), some (.frz (.int 1)), none] ⟨1, x4, rfl, by omega, by omega⟩ (by
      rintro j Γ hj ⟨e, x5, rfl, he0, he1⟩
      by_cases hlt : e * b < E40
      · have hmul : zMul (.int e) (.int b) = some (.val (.int (e * b))) := zMul_i (mulOk_r (nat64 (by omega)))
        refine ⟨_, _, rfl, num3_el (u := e * b) pw1640 hmul (by rw [if_pos hlt]; exact hmul), _, _, rfl, ?_, hlt⟩
        have := Int.mul_le_mul_of_nonneg_left (show (1 : Int) ≤ b by omega) (show 0 ≤ e by omega)
        omega
      · have hmul : zMul (.int e) (.int b) = some (.val (.int (e * b))) := zMul_i (mulOk_r (nat64 (by omega)))
        refine ⟨_, _, rfl, num3_el (u := e) pw1640 hmul (by rw [if_neg hlt, zMul_i (mulOk_r (nat64 (by omega))), Int.mul_one]), _, _, rfl, he0, he1⟩)
  obtain ⟨r1, d5, e4, q1, q1', h5⟩ := nx h4 (m := 40) (by omega) (by omega) (by omega)
  obtain ⟨r2, d6, e5, q2, q2', h6⟩ := nx h5 (m := 1000000) (by omega) (by omega) (by omega)
  obtain ⟨r3, d7, e6, q3, q3', h7⟩ := nx h6 (m := 9) (by omega) (by omega) (by omega)
  obtain ⟨r4, d8, e7, q4, q4', h8⟩ := nx h7 (m := 3) (by omega) (by omega) (by omega)
  obtain ⟨r5, d9, e8, q5, q5', h9⟩ := nx h8 (m := 7) (by omega) (by omega) (by omega)
  have hdiv : zDiv (.int g) (.int e) = some (.val (.int (g / e))) := zDiv_w (by omega) (Nat.lt_trans (show e.natAbs < 1461501637330902918203684832716283019655932542976 by omega) (by decide +kernel))
  have hd0 : 0 ≤ g / e := Int.ediv_nonneg hg0 (by omega)
  have hd1 : g / e ≤ g := Int.ediv_le_self _ hg0
  have hmax : zMax [.int 0, .int (e - r4)] = some (.val (.int (if e - r4 > 0 then e - r4 else 0))) := rfl
  have hz : ∃ v : Int, zIx (.lst [.int r1, .int r2, .int g, .int (E40 - 1 - r3), .int s, .int (if e - r4 > 0 then e - r4 else 0), .int (g / e)]) (.int r5) = some (.val (.int v)) ∧ 0 ≤ v ∧ v < E40 := by
    have h7 : r5 = 0 ∨ r5 = 1 ∨ r5 = 2 ∨ r5 = 3 ∨ r5 = 4 ∨ r5 = 5 ∨ r5 = 6 := by omega
    rcases h7 with rfl | rfl | rfl | rfl | rfl | rfl | rfl
    · exact ⟨_, zIx_l (k := 0) rfl rfl, by omega, by omega⟩
    · exact ⟨_, zIx_l (k := 1) rfl rfl, by omega, by omega⟩
    · exact ⟨_, zIx_l (k := 2) rfl rfl, by omega, by omega⟩
    · exact ⟨_, zIx_l (k := 3) rfl rfl, by omega, by omega⟩
    · exact ⟨_, zIx_l (k := 4) rfl rfl, by omega, by omega⟩
    · exact ⟨_, zIx_l (k := 5) rfl rfl, by split <;> omega, by split <;> omega⟩
    · exact ⟨_, zIx_l (k := 6) rfl rfl, by omega, by omega⟩
  obtain ⟨v, hz, hv0, hv1⟩ := hz
  obtain ⟨n, rfl⟩ : ∃ n : Nat, v = n := ⟨v.toNat, by omega⟩
  obtain ⟨Γ, l4⟩ := num4 (S1 := some (.frz (.int b))) (x3 := x5) (x5 := some (.frz (.int f))) (x7 := none) pw1640 e4 e5 e6 e7 e8 hmax hdiv hz
  refine ⟨n, d9, num_out l1 pw1640 hg e1 e2 (small_of (by omega) (by omega)) l2 e3 (small_of (by omega) (by omega)) l3 l4, ?_, h9⟩
  have : (2 ^ 160 : Nat) = 1461501637330902918203684832716283019655932542976 := by decide +kernel
  omega
end Fw
namespace Fw
open PySem L2

/-! ### steps by the lesser number -/
theorem Tk.uniq {b n k j : Nat} (hb : 2 ≤ b) (h : Tk b n k) (g : Tk b n j) : k = j := by
  rcases Nat.lt_trichotomy k j with z | z | z
  · have h1 := g.ge k z
    have h2 := h.lt
    omega
  · exact z
  · have h1 := h.ge j z
    have h2 := g.lt
    omega
theorem st_of {b p n k : Nat} (hb : 2 ≤ b) (hn : n < 2 ^ 160) (h : Tk b n k) : st b p n = ((dg b n k).map (· ^ p)).sum := by
  have := (tk_ok hb hn).2.uniq hb h
  unfold st stp fg
  rw [this, List.map_reverse, List.sum_reverse]
theorem tk_lt {b n : Nat} (h : n < b) : Tk b n 0 := ⟨by simpa using h, fun j hj => absurd hj (by omega)⟩
theorem st_small {b p n : Nat} (hb : 2 ≤ b) (hb2 : b < 1000) (h : n < b) : st b p n = n ^ p := by
  have hn : n < 2 ^ 160 := Nat.lt_trans (show n < 1000 by omega) (by decide +kernel)
  rw [st_of hb hn (tk_lt h)]
  simp [dg, List.range_succ, Nat.mod_eq_of_lt h]
theorem st_rec {b p n : Nat} (hb : 2 ≤ b) (hn : n < 2 ^ 160) (h : b ≤ n) : st b p n = st b p (n / b) + (n % b) ^ p := by
  have hq : n / b < 2 ^ 160 := Nat.lt_of_le_of_lt (Nat.div_le_self _ _) hn
  obtain ⟨_, t⟩ := tk_ok hb hq
  generalize tk b (n / b) = k at t
  have t2 : Tk b n (k + 1) := by
    refine ⟨?_, fun j hj => ?_⟩
    · have := t.lt
      rw [Nat.div_lt_iff_lt_mul (by omega), ← Nat.pow_succ] at this
      exact this
    · rcases j with _ | j
      · simpa using h
      · have := t.ge j (by omega)
        rw [Nat.le_div_iff_mul_le (by omega), ← Nat.pow_succ] at this
        exact this
  rw [st_of hb hn t2, st_of hb hq t]
  have : dg b n (k + 1) = n % b :: dg b (n / b) k := by
    unfold dg
    rw [List.range_succ_eq_map, List.map_cons, List.map_map]
    congr 1
    · simp
    · apply List.map_congr_left
      intro i _
      simp only [Function.comp]
      rw [Nat.pow_succ, Nat.mul_comm, ← Nat.div_div_eq_div_mul]
  rw [this, List.map_cons, List.sum_cons, Nat.add_comm]
/-- the greatest number, to a bound, whose step is not less -/
def gkF (b p : Nat) : Nat → Nat
  | 0 => 0
  | n + 1 => if n + 1 ≤ st b p (n + 1) then n + 1 else gkF b p n
theorem gkF_le {b p : Nat} : ∀ n, gkF b p n ≤ n
  | 0 => Nat.le_refl _
  | n + 1 => by
    unfold gkF
    split
    · exact Nat.le_refl _
    · have := gkF_le (b := b) (p := p) n; omega
theorem gkF_kept {b p : Nat} : ∀ n, gkF b p n ≤ st b p (gkF b p n)
  | 0 => Nat.zero_le _
  | n + 1 => by
    unfold gkF
    split
    · assumption
    · exact gkF_kept n
theorem gkF_max {b p : Nat} : ∀ n x, x ≤ n → x ≤ st b p x → x ≤ gkF b p n
  | 0, x, h, _ => by omega
  | n + 1, x, h, g => by
    unfold gkF
    split
    · exact h
    · rename_i c
      rcases Nat.lt_or_ge x (n + 1) with z | z
      · exact gkF_max n x (by omega) g
      · obtain rfl : x = n + 1 := by omega
        exact absurd g c
/-! ### lengths from which all go down -/
def goN (b p l : Nat) : Bool := decide (1 < l) && decide (l * (b - 1) ^ p < b ^ (l - 1))
def ldN (b p : Nat) : Nat := ((List.range 100).find? fun l => goN b p l).getD 0
def dGoes : FDen := dFun 3 [false, false, false]
  (sRet (dAnd (dBin zGt (dName 2) (dC (.int 1))) (dBin zLt (dBin zMul (dName 2) (dCall dPow [.v (dBin zSub (dName 0) (dC (.int 1))), .v (dName 1)])) (dCall dPow [.v (dName 0), .v (dBin zSub (dName 2) (dC (.int 1)))]))))
def dLenDown : FDen := dFun 3 [false, false]
  (sSeq (sAsg 2 (dC (.int 2)))
  (sSeq (sWhile (dNotT (dT (dCall dGoes [.v (dName 0), .v (dName 1), .v (dName 2)]))) (sAsg 2 (dBin zAdd (dName 2) (dC (.int 1)))))
  (sRet (dName 2))))
/-- the greatest number that does not go down stands at or below this -/
def topN (b p : Nat) : Nat := (ldN b p - 1) * (b - 1) ^ p
def ldC (b p : Nat) : Bool := (tellsI (dLenDown [.frz (.int b), .frz (.int p)]) == some (ldN b p : Int)) && decide (2 ≤ ldN b p) && decide (ldN b p ≤ 50) && decide (b ≤ topN b p + 1) && decide (topN b p ≤ 100000) && goN b p (ldN b p) && (List.range (ldN b p)).all fun l => !goN b p l
theorem ld_all : allPairs ldC = true := by decide +kernel
structure LdOk (b p : Nat) : Prop where
  ev : ∃ o, dLenDown [.frz (.int b), .frz (.int p)] = .ok (.frz (.int (ldN b p : Nat))) o
  two : 2 ≤ ldN b p
  le : ldN b p ≤ 50
  top : b ≤ topN b p + 1
  small : topN b p ≤ 100000
  go : goN b p (ldN b p) = true
  lst : ∀ l, l < ldN b p → goN b p l = false
/-- a pair that is let -/
structure PairN (b p : Nat) : Prop where
  b2 : 2 ≤ b
  b16 : b ≤ 16
  p1 : 1 ≤ p
  p10 : p ≤ 10
  stk : StOk b p
  ld : LdOk b p
theorem PairOk.nat {b p : Int} (h : PairOk b p) : ∃ i j : Nat, b = i ∧ p = j ∧ PairN i j := by
  obtain ⟨h1, h2, h3, h4⟩ := h.bd
  obtain ⟨i, j, rfl, rfl, hc⟩ := allPairs_ok ld_all h
  refine ⟨i, j, rfl, rfl, by omega, by omega, by omega, by omega, ⟨by omega, by omega, by omega, ?_⟩, ?_⟩
  · have e1 : i ^ j ≤ 16 ^ 10 := Nat.le_trans (Nat.pow_le_pow_left (show i ≤ 16 by omega) _) (Nat.pow_le_pow_right (by decide) (by omega))
    exact Nat.lt_of_le_of_lt e1 (by decide +kernel)
  · simp only [ldC, Bool.and_eq_true, decide_eq_true_eq, List.all_eq_true, beq_iff_eq, List.mem_range, Bool.not_eq_true'] at hc
    obtain ⟨⟨⟨⟨⟨⟨c1, c2⟩, c3⟩, c4⟩, c5⟩, c6⟩, c7⟩ := hc
    exact ⟨tellsI_eq c1, c2, c3, c4, c5, c6, c7⟩
/-! ### the greatest number that does not go down -/
def dGreatC : DenT := dT (dBin zLt (dCall dStep [.v (dName 3), .v (dName 0), .v (dName 1)]) (dName 3))
def dGreatB : SDen := sAsg 3 (dBin zSub (dName 3) (dC (.int 1)))
def dGreat : FDen := dFun 4 [false, false]
  (sSeq (sAsg 2 (dBin zSub (dCall dLenDown [.v (dName 0), .v (dName 1)]) (dC (.int 1)))) (sSeq (sAsg 3 (dBin zMul (dName 2) (dCall dPow [.v (dBin zSub (dName 0) (dC (.int 1))), .v (dName 1)]))) (sSeq (sWhile dGreatC dGreatB) (sRet (dName 3)))))
theorem great_cond {b p : D} {x s : Int} {y : Option T} {o : List T} (e : dStep [.frz (.int x), .frz b, .frz p] = .ok (.frz (.int s)) o) : dGreatC [some (.frz b), some (.frz p), y, some (.frz (.int x))] = .ok (decide (s < x)) [some (.frz b), some (.frz p), y, some (.frz (.int x))] := by
  simp [dGreatC, e, putd3]
theorem great_el {b p : Option T} {x x' : Int} {y : Option T} (h : x - 1 = x') : dGreatB [b, p, y, some (.frz (.int x))] = .ok .next [b, p, y, some (.frz (.int x'))] := by
  simp [dGreatB, h]
theorem great_out {b p b1 l l1 w m g : Int} {o o2 : List T} (e1 : dLenDown [.frz (.int b), .frz (.int p)] = .ok (.frz (.int l)) o) (h1 : l - 1 = l1) (hb : b - 1 = b1) (e2 : dPow [.frz (.int b1), .frz (.int p)] = .ok (.frz (.int w)) o2) (hm : zMul (.int l1) (.int w) = some (.val (.int m)))
    (e3 : whileN dGreatC dGreatB fuel [some (.frz (.int b)), some (.frz (.int p)), some (.frz (.int l1)), some (.frz (.int m))] = .ok .next [some (.frz (.int b)), some (.frz (.int p)), some (.frz (.int l1)), some (.frz (.int g))]) :
    dGreat [.frz (.int b), .frz (.int p)] = .ok (.frz (.int g)) [.frz (.int b), .frz (.int p)] := by
  have s1 : sAsg 2 (dBin zSub (dCall dLenDown [.v (dName 0), .v (dName 1)]) (dC (.int 1))) [some (.frz (.int b)), some (.frz (.int p)), none, none] = .ok .next [some (.frz (.int b)), some (.frz (.int p)), some (.frz (.int l1)), none] := by simp [e1, putd2, h1]
  have s2 : sAsg 3 (dBin zMul (dName 2) (dCall dPow [.v (dBin zSub (dName 0) (dC (.int 1))), .v (dName 1)])) [some (.frz (.int b)), some (.frz (.int p)), some (.frz (.int l1)), none] = .ok .next [some (.frz (.int b)), some (.frz (.int p)), some (.frz (.int l1)), some (.frz (.int m))] := by simp [hb, e2, putd2, hm]
  simp only [dGreat, dFun_ap, List.map_cons, List.map_nil, List.length_cons, List.length_nil, List.replicate, List.cons_append, List.nil_append, sSeq_ap (s := sAsg 2 _), s1, sSeq_ap (s := sAsg 3 _), s2, sSeq_ap (s := sWhile _ _), sWhile_ap, e3]
  simp
theorem lt160 {n : Nat} (h : n ≤ 1000000000) : n < 2 ^ 160 := Nat.lt_of_le_of_lt h (by decide +kernel)
theorem great_ev {b p : Nat} (h : PairN b p) : dGreat [.frz (.int b), .frz (.int p)] = .ok (.frz (.int (gkF b p (topN b p) : Nat))) [.frz (.int b), .frz (.int p)] := by
  obtain ⟨o, e1⟩ := h.ld.ev
  have h2 := h.ld.two
  have h3 := h.ld.le
  have h4 := h.ld.small
  have hb2 := h.b2
  have hb16 := h.b16
  have hp := h.p10
  have hm : zMul (.int ((ldN b p - 1 : Nat) : Int)) (.int (((b - 1 : Nat) : Int) ^ p)) = some (.val (.int (topN b p : Nat))) := by
    rw [zMul_i (mulOk_l (nat64 (by omega)))]
    simp [topN]
  obtain ⟨Γ', e3, rfl⟩ := whileN_ind (c := dGreatC) (b := dGreatB)
    (fun m Γ => m ≤ topN b p ∧ gkF b p (topN b p) = gkF b p m ∧ Γ = [some (.frz (.int b)), some (.frz (.int p)), some (.frz (.int ((ldN b p - 1 : Nat) : Int))), some (.frz (.int (m : Nat)))])
    (fun Γ => Γ = [some (.frz (.int b)), some (.frz (.int p)), some (.frz (.int ((ldN b p - 1 : Nat) : Int))), some (.frz (.int (gkF b p (topN b p) : Nat)))])
    (by
      rintro m Γ ⟨hm, hg, rfl⟩
      have es := stepN_ev h.stk (lt160 (show m ≤ 1000000000 by omega))
      by_cases c : m ≤ st b p m
      · refine .inl ⟨[some (.frz (.int b)), some (.frz (.int p)), some (.frz (.int ((ldN b p - 1 : Nat) : Int))), some (.frz (.int (m : Nat)))], ?_, ?_⟩
        · rw [great_cond es, decide_eq_false (show ¬ ((st b p m : Nat) : Int) < (m : Int) by omega)]
        · have : gkF b p m = m := by
            have h1 := gkF_le (b := b) (p := p) m
            have h2 := gkF_max m m (Nat.le_refl _) c
            omega
          rw [hg, this]
      · obtain ⟨y, rfl⟩ : ∃ y, m = y + 1 := ⟨m - 1, by omega⟩
        refine .inr ⟨[some (.frz (.int b)), some (.frz (.int p)), some (.frz (.int ((ldN b p - 1 : Nat) : Int))), some (.frz (.int ((y + 1 : Nat) : Int)))], _, y, ?_, .inl (great_el (x := ((y + 1 : Nat) : Int)) (x' := (y : Int)) (by omega)), by omega, by omega, ?_, rfl⟩
        · rw [great_cond es, decide_eq_true (show ((st b p (y + 1) : Nat) : Int) < ((y + 1 : Nat) : Int) by omega)]
        · rw [hg]
          show (if y + 1 ≤ st b p (y + 1) then y + 1 else gkF b p y) = _
          rw [if_neg c])
    (topN b p) [some (.frz (.int b)), some (.frz (.int p)), some (.frz (.int ((ldN b p - 1 : Nat) : Int))), some (.frz (.int (topN b p : Nat)))] fuel (by have : fuel = 1000000000000 := rfl; omega) ⟨Nat.le_refl _, rfl, rfl⟩
  exact great_out e1 (by omega) (by omega) (pow_ev ((b - 1 : Nat) : Int) p (nat64 (by omega)) (by omega)) hm e3
end Fw
namespace Fw
open PySem L2

/-- a comprehension with a test: what passes, in its order -/
theorem compL_filter {put : Put} {c : DenT} {e : Env → Out D} {vs : List Nat} {Γ : Env} (f : D → Bool) (g : D → D) : ∀ (ds : List D), (∀ d ∈ ds, ∃ Γ1 Γ2, put d Γ = some Γ1 ∧ c Γ1 = .ok (f d) Γ2 ∧ (f d = false → wipeE Γ2 vs = Γ) ∧ (f d = true → ∃ Γ3, e Γ2 = .ok (g d) Γ3 ∧ wipeE Γ3 vs = Γ)) →
    ∀ acc, compL put c e vs ds acc Γ = .ok (acc ++ (ds.filter f).map g) Γ
  | [], _, acc => by simp [compL]
  | d :: ds, h, acc => by
    obtain ⟨Γ1, Γ2, h1, h2, h3, h4⟩ := h d (by simp)
    have ih := compL_filter (c := c) (e := e) (put := put) (vs := vs) (Γ := Γ) f g ds fun x hx => h x (by simp [hx])
    cases hf : f d with
    | false => 
      rw [hf] at h2
      simp only [compL, h1, bindO_ap, h2, h3 hf, Bool.false_eq_true, if_false, ih, List.filter_cons, hf]
    | true =>
      rw [hf] at h2
      obtain ⟨Γ3, h5, h6⟩ := h4 hf
      simp only [compL, h1, bindO_ap, h2, h5, h6, if_true, ih, List.filter_cons, hf, List.map_cons, List.append_assoc, List.singleton_append]
theorem maxL_eq : ∀ (xs : List Int) (m : Int), m ∈ xs → (∀ x ∈ xs, x ≤ m) → maxL xs = m
  | [], _, h, _ => by simp at h
  | [x], m, h, _ => by simp at h; simp [maxL, h]
  | x :: y :: xs, m, h, g => by
    show (if maxL (y :: xs) < x then x else maxL (y :: xs)) = m
    have hx := g x (by simp)
    rcases List.mem_cons.mp h with rfl | h'
    · split
      · rfl
      · rename_i c
        have key : ∀ (zs : List Int) (k : Int), zs ≠ [] → (∀ z ∈ zs, z ≤ k) → maxL zs ≤ k := by
          intro zs
          induction zs with
          | nil => intro k e _; exact absurd rfl e
          | cons z zs ih =>
            intro k _ hk
            cases zs with
            | nil => exact hk z (by simp)
            | cons w ws =>
              show (if maxL (w :: ws) < z then z else maxL (w :: ws)) ≤ k
              split
              · exact hk z (by simp)
              · exact ih k (by simp) fun a ha => hk a (by simp [ha])
        have := key (y :: xs) m (by simp) fun z hz => g z (by simp [hz])
        omega
    · have := maxL_eq (y :: xs) m h' fun z hz => g z (by simp [hz])
      rw [this]
      split <;> omega
theorem zMax_l {ns : List Int} {m : Int} (h : m ∈ ns) (g : ∀ x ∈ ns, x ≤ m) : zMax [.lst (ns.map D.int)] = some (.val (.int m)) := by
  have h0 : ns ≠ [] := fun e => by rw [e] at h; simp at h
  simp only [zMax, listI, listD, Option.bind_some, intsD_map, h0, if_false, maxL_eq ns m h g]
theorem zIx_nats {ns : List Nat} {j n : Nat} {i : Int} (h : ns[j]? = some n) (e : i = j) : zIx (.lst (nats ns)) (.int i) = some (.val (.int n)) := zIx_l (k := j) (by simp [nats, h]) e
theorem nats_last (ns : List Nat) (n : Nat) : zIx (.lst (nats (ns ++ [n]))) (.int (-1)) = some (.val (.int n)) := by
  rw [nats_app]; exact zIx_last
/-- enumerate -/
theorem enumD_at : ∀ (ds : List D) (k : Int) (j : Nat) (d : D), (enumD k ds)[j]? = some d → ∃ x, ds[j]? = some x ∧ d = .tup [.int (k + j), x]
  | [], _, _, _, h => by simp [enumD] at h
  | x :: xs, k, 0, d, h => by
    simp [enumD] at h
    exact ⟨x, rfl, by rw [← h]; simp⟩
  | x :: xs, k, j + 1, d, h => by
    simp only [enumD, List.getElem?_cons_succ] at h
    obtain ⟨y, h1, h2⟩ := enumD_at xs (k + 1) j d h
    exact ⟨y, by simpa using h1, by rw [h2]; congr 3; omega⟩
theorem enumD_len : ∀ (ds : List D) (k : Int), (enumD k ds).length = ds.length
  | [], _ => rfl
  | x :: xs, k => by simp [enumD, enumD_len xs]
@[simp ↓] theorem iEnu_ap {a : Den} {Γ : Env} : iEnu a Γ = bindO (dV a) (fun d Γ => match d with | .lst ds => .ok (enumD 0 ds) Γ | _ => .stuck) Γ := by unfold iEnu; rfl
/-- a while whose turns can't be told by a number alone: the test is pure -/
theorem sWhile_ok {c : DenT} {b : SDen} {Γ Γ' : Env} (h : whileN c b fuel Γ = .ok .next Γ') : sWhile c b Γ = .ok .next Γ' := h
end Fw
namespace Fw
open PySem L2

/-! ### which numbers go down -/
theorem stp_leW {b p n k : Nat} (hb : 0 < b) : stp b p n k ≤ (k + 1) * (b - 1) ^ p := by
  have := sum_le (· ^ p) ((b - 1) ^ p) (fg b n k) fun x hx => Nat.pow_le_pow_left (by have := fg_lt hb x hx; omega) p
  rwa [fg_len] at this
theorem st_leW {b p n : Nat} (hb : 0 < b) : st b p n ≤ (tk b n + 1) * (b - 1) ^ p := stp_leW hb
theorem goN_iff {b p l : Nat} : goN b p l = true ↔ 1 < l ∧ l * (b - 1) ^ p < b ^ (l - 1) := by simp [goN]
theorem goN_succ {b p l : Nat} (hb : 2 ≤ b) (h : goN b p l = true) : goN b p (l + 1) = true := by
  rw [goN_iff] at *
  obtain ⟨h1, h2⟩ := h
  refine ⟨by omega, ?_⟩
  have e : b ^ (l + 1 - 1) = b ^ (l - 1) * b := by rw [← Nat.pow_succ]; congr 1; omega
  rw [e, Nat.succ_mul]
  have h3 : (b - 1) ^ p ≤ l * (b - 1) ^ p := Nat.le_mul_of_pos_left _ (by omega)
  have h4 : b ^ (l - 1) * 2 ≤ b ^ (l - 1) * b := Nat.mul_le_mul_left _ hb
  omega
theorem LdOk.ge {b p : Nat} (h : LdOk b p) (hb : 2 ≤ b) : ∀ d, goN b p (ldN b p + d) = true
  | 0 => h.go
  | d + 1 => goN_succ hb (LdOk.ge h hb d)
theorem Tk.ge' {b n k : Nat} (h : Tk b n k) (hk : 0 < k) : b ^ k ≤ n := by
  have := h.ge (k - 1) (by omega)
  rwa [show k - 1 + 1 = k by omega] at this
theorem low_top {b p : Nat} (h : PairN b p) : topN b p < b ^ (ldN b p - 1) := by
  have h1 := (goN_iff.mp h.ld.go).2
  have : topN b p ≤ ldN b p * (b - 1) ^ p := Nat.mul_le_mul_right _ (by omega)
  omega
/-- few figures: the step is not above the top -/
theorem st_few {b p n : Nat} (h : PairN b p) (hn : n < 2 ^ 160) (g : n < b ^ (ldN b p - 1)) : tk b n + 1 ≤ ldN b p - 1 ∧ st b p n ≤ topN b p := by
  have hb := h.b2
  have hl := h.ld.two
  obtain ⟨_, t⟩ := tk_ok hb hn
  have hk : tk b n + 1 ≤ ldN b p - 1 := by
    rcases Nat.lt_or_ge (tk b n) (ldN b p - 1) with z | z
    · omega
    · have h1 := t.ge' (by omega)
      have h2 := Nat.pow_le_pow_right (n := b) (by omega) z
      omega
  exact ⟨hk, Nat.le_trans (st_leW (by omega)) (Nat.mul_le_mul_right _ hk)⟩
theorem st_down {b p n : Nat} (h : PairN b p) (hn : n < 2 ^ 160) (g : topN b p < n) : st b p n < n := by
  have hb := h.b2
  have hl := h.ld.two
  rcases Nat.lt_or_ge n (b ^ (ldN b p - 1)) with z | z
  · have := (st_few h hn z).2
    omega
  · obtain ⟨_, t⟩ := tk_ok hb hn
    have hk : ldN b p ≤ tk b n + 1 := by
      rcases Nat.lt_or_ge (tk b n + 1) (ldN b p) with y | y
      · have h1 := t.lt
        have h2 := Nat.pow_le_pow_right (n := b) (by omega) (show tk b n + 1 ≤ ldN b p - 1 by omega)
        omega
      · exact y
    have h1 := (goN_iff.mp (h.ld.ge hb (tk b n + 1 - ldN b p))).2
    rw [show ldN b p + (tk b n + 1 - ldN b p) = tk b n + 1 by omega, Nat.add_sub_cancel] at h1
    have h2 := t.ge' (by omega)
    have h3 := st_leW (b := b) (p := p) (n := n) (by omega)
    omega
theorem st_above {b p n : Nat} (h : PairN b p) (hn : n < 2 ^ 160) (g : gkF b p (topN b p) < n) : st b p n < n := by
  rcases Nat.lt_or_ge (topN b p) n with z | z
  · exact st_down h hn z
  · rcases Nat.lt_or_ge (st b p n) n with y | y
    · exact y
    · have := gkF_max _ n z y
      omega
/-- at or below the top it stays there -/
theorem its_top {b p n j : Nat} (h : PairN b p) (hn : n < 2 ^ 160) (g : its b p n j ≤ topN b p) : ∀ d, its b p n (j + d) ≤ topN b p
  | 0 => g
  | d + 1 => by
    have ih := its_top h hn g d
    have := low_top h
    exact (st_few h (its_lt h.stk hn (j + d)) (Nat.lt_of_le_of_lt ih this)).2
/-- how far numbers come in so many steps -/
def upF (b p : Nat) : Nat → Nat
  | 0 => 2 ^ 160 - 1
  | j + 1 => (tk b (upF b p j) + 1) * (b - 1) ^ p
theorem tk_mono {b n m : Nat} (hb : 2 ≤ b) (h : n ≤ m) (hm : m < 2 ^ 160) : tk b n ≤ tk b m := by
  obtain ⟨_, t1⟩ := tk_ok hb (Nat.lt_of_le_of_lt h hm)
  obtain ⟨_, t2⟩ := tk_ok hb hm
  rcases Nat.lt_or_ge (tk b m) (tk b n) with z | z
  · have h1 := t1.ge (tk b m) z
    have h2 := t2.lt
    omega
  · exact z
def upC (b p : Nat) : Bool := (List.range 31).all (fun j => decide (upF b p j < 2 ^ 160)) && decide (upF b p 30 ≤ topN b p) && decide (b ^ ldN b p < 2 ^ 40)
theorem up_all : allPairs upC = true := by decide +kernel
theorem PairOk.up {b p : Nat} (h : PairOk b p) : (∀ j, j ≤ 30 → upF b p j < 2 ^ 160) ∧ upF b p 30 ≤ topN b p ∧ b ^ ldN b p < 2 ^ 40 := by
  obtain ⟨i, j, h1, h2, hc⟩ := allPairs_ok up_all h
  obtain rfl : b = i := by omega
  obtain rfl : p = j := by omega
  simp only [upC, Bool.and_eq_true, decide_eq_true_eq, List.all_eq_true, List.mem_range] at hc
  exact ⟨fun j hj => hc.1.1 j (by omega), hc.1.2, hc.2⟩
theorem its_up {b p n : Nat} (h : PairN b p) (u : ∀ j, j ≤ 30 → upF b p j < 2 ^ 160) (hn : n < 2 ^ 160) : ∀ j, j ≤ 30 → its b p n j ≤ upF b p j
  | 0, _ => by show n ≤ 2 ^ 160 - 1; omega
  | j + 1, hj => by
    have ih := its_up h u hn j (by omega)
    have hb := h.b2
    exact Nat.le_trans (st_leW (by omega)) (Nat.mul_le_mul_right _ (by have := tk_mono hb ih (u j (by omega)); omega))
theorem its_far {b p n j : Nat} (h : PairN b p) (u : (∀ j, j ≤ 30 → upF b p j < 2 ^ 160) ∧ upF b p 30 ≤ topN b p ∧ b ^ ldN b p < 2 ^ 40) (hn : n < 2 ^ 160) (hj : 30 ≤ j) : its b p n j ≤ topN b p := by
  have h1 := Nat.le_trans (its_up h u.1 hn 30 (by omega)) u.2.1
  have := its_top h hn h1 (j - 30)
  rwa [show 30 + (j - 30) = j by omega] at this
theorem zNe_b {x y : Bool} : zNe (.bl x) (.bl y) = some (.val (.bl (!decide (x = y)))) := by cases x <;> cases y <;> rfl
theorem zNe_nil : zNe (.lst []) (.lst []) = some (.val (.bl false)) := rfl
theorem zEq_nil : zEq (.lst []) (.lst []) = some (.val (.bl true)) := rfl
@[simp] theorem zSl_t {ds : List D} {lo hi : Option Int} : zSl (.tup ds) lo hi = some (.tup (cutD ds lo hi)) := nr rfl
@[simp] theorem zSl_l {ds : List D} {lo hi : Option Int} : zSl (.lst ds) lo hi = some (.lst (cutD ds lo hi)) := nr rfl
theorem cutD_from {α : Type} (xs : List α) (n : Nat) (h : n ≤ xs.length) : cutD xs (some (n : Int)) none = xs.drop n := by
  have : ¬ ((n : Int) < 0) := by omega
  simp [cutD, HT.sIx, this]
  rw [List.take_of_length_le (by rw [List.length_drop]; omega)]
  congr 1
  omega
end Fw
namespace Fw
open PySem L2

/-! ### a, b = a list -/
def putU (q : PutL) : Put := fun d Γ => match d with
  | .lst ds => q ds Γ
  | _ => none
theorem sg_unl {K : PySem.W.Frag} {n : Nat} {g : TGs} {q : PutL} {ks : List Nat} (hg : SGs K g q ks) (hn : ∀ ds Γ Γ', q ds Γ = some Γ' → ds.length = n) : SG K (gUnl K n g) (putU q) ks := by
  intro σ Γ d Γ' he Hf H fp v E w r Q k
  unfold putU at he
  split at he
  · rename_i ds
    simp only [Rep] at r
    obtain ⟨a, xs, rfl, ha, ra⟩ := r
    exact ⟨a, xs, rfl, .inl (.inl (w.same a _ ha)), by rw [ra.len]; exact hn ds Γ Γ' he, hg σ Γ ds Γ' he Hf H fp xs E w ra Q k⟩
  · cases he
theorem g_unl {F : Fam} {es : List Expr} {q : PutL} {ks : List Nat} {k n : Nat} {pos : Pos} (h : PGsD F es q ks) (hq : ∀ ds Γ Γ', q ds Γ = some Γ' → ds.length = n) (hn : ∀ i, (assignEach es (F.X i).env).length = n := by intro _; rfl) (hst : ∀ i, (assignEach es (F.X i).env).findIdx? (·.1) = none := by intro _; rfl) :
    PGD F (.Tuple es k pos) (putU q) ks :=
  let ⟨_, p1, s1⟩ := h; ⟨_, fun i => Fam.pg (t := fun K => gUnl K n _) (pg_unl (F.calm i) (p1 i) (hn i) (hst i)), sg_unl s1 hq⟩
@[simp ↓] theorem putU_ap {q : PutL} {ds : List D} {Γ : Env} : putU q (.lst ds) Γ = q ds Γ := nr rfl
end Fw
namespace Fw
open PySem L2

/-! ### the law's end where the script's sizes are asked for -/
def spLawB (K : PySem.W.Frag) : Sp := fun vs H Q _ => ∃ (a : Addr) (ns : List Int), vs = [.ref a] ∧ SqL K H a (ns.map V.int) ∧ ns.length ≤ 63 ∧ (∀ z ∈ ns, Builtin.Int.intBits z ≤ 1048576) ∧ ∀ v H', v = .bl true → Q v H'
theorem law_spB {P : Program} {w : World} {K : PySem.W.Frag} {mg : Str → Option Value} {base : Heap} {k : Nat} {a : Addr} {fd : FuncData} {ps : List Str} {f : FDen} (F : FnOk P w K mg base CX0 k a fd ps (spD K f)) (h : ∀ ns : List Int, ns.length ≤ 63 → (∀ z ∈ ns, Builtin.Int.intBits z ≤ 1048576) → ∃ outs, f [.frz (.scr (ns.map D.int))] = .ok (.frz (.bl true)) outs) : FnOk P w K mg base CX0 k a fd ps (spLawB K) :=
  F.imp fun vs H Q E hs => by
    obtain ⟨l, ns, rfl, hS, hl, hb, q⟩ := hs
    obtain ⟨outs, ho⟩ := h ns hl hb
    refine ⟨H, _, [], _, outs, .cons (f1 := []) (f2 := []) (.frz ?_) .nil, ⟨Same.refl _, List.nodup_nil, by simp⟩, ho, fun v Hf' H' fo fr _ ov _ _ => ?_⟩
    · simp only [Rep]
      exact ⟨l, _, rfl, hS, .ofInts ns⟩
    · cases ov with
      | frz r =>
      simp only [Rep] at r
      exact q v H' r
theorem bits_lt {z : Int} {b : Nat} (h : Builtin.Int.intBits z ≤ b) : z.natAbs < 2 ^ b := by
  unfold Builtin.Int.intBits at h
  split at h
  · rename_i e
    have : z.natAbs = 0 := by first | omega | simp_all
    rw [this]; exact Nat.pow_pos (by decide)
  · rename_i e
    have hz : z.natAbs ≠ 0 := by first | omega | simp_all
    exact Nat.lt_of_lt_of_le (Nat.lt_log2_self) (Nat.pow_le_pow_right (by decide) h)
end Fw
namespace Fw
open PySem L2

/-! ### the other deck: one great number, one mixed, how often it was asked -/
def DkB (N : Nat) (ds : List D) : Prop := ∃ g m t : Int, ds = [.int g, .int m, .int t] ∧ 0 ≤ g ∧ 0 ≤ t ∧ t ≤ N
theorem DkB.mono {N M : Nat} {ds : List D} (h : DkB N ds) (k : N ≤ M) : DkB M ds := by
  obtain ⟨g, m, t, e, h1, h2, h3⟩ := h
  exact ⟨g, m, t, e, h1, h2, by omega⟩
def dDrawB2 : SDen := (sIf (dT (dBin zGt (dBin zIx (dName 0) (dC (.int 0))) (dC (.int 0)))) (sSeq (sAsg 2 (dBin zMod (dBin zIx (dName 0) (dC (.int 0))) (dName 1)))
  (sSeq (sSetI 0 (dC (.int 0)) (dBin zDiv (dBin zIx (dName 0) (dC (.int 0))) (dName 1)))
  (sRet (dName 2)))) sNext)
def dDrawB4 : SDen := (sAsg 4 (dBin zMod (dBin zAdd (dBin zAdd (dBin zIx (dName 0) (dC (.int 1))) (dBin zMul (dBin zMul (dC (.int 70003)) (dName 3)) (dName 3))) (dBin zMul (dC (.int 5003)) (dName 3))) (dC (.int 2147483543))))
def dDrawB5 : SDen := (sAsg 4 (dBin zMod (dBin zMul (dName 4) (dName 4)) (dC (.int 2147483497))))
def dDrawB6 : SDen := (sRet (dBin zMod (dBin zDiv (dBin zMod (dBin zAdd (dBin zMul (dName 4) (dC (.int 38333))) (dBin zMul (dName 3) (dC (.int 67)))) (dC (.int 2147483477))) (dC (.int 13))) (dName 1)))
def dDrawB : FDen := dFun 5 [true, false]
  (sSeq (sSetI 0 (dC (.int 2)) (dBin zAdd (dBin zIx (dName 0) (dC (.int 2))) (dC (.int 1))))
  (sSeq dDrawB2 (sSeq (sAsg 3 (dBin zIx (dName 0) (dC (.int 2)))) (sSeq dDrawB4 (sSeq dDrawB5 dDrawB6)))))
section
variable {g m t : Int}
theorem db0 : zIx (.lst [.int g, .int m, .int t]) (.int 0) = some (.val (.int g)) := zIx_l rfl rfl
theorem db1 : zIx (.lst [.int g, .int m, .int t]) (.int 1) = some (.val (.int m)) := zIx_l rfl rfl
theorem db2 : zIx (.lst [.int g, .int m, .int t]) (.int 2) = some (.val (.int t)) := zIx_l rfl rfl
theorem drawB_1 {t1 b : Int} (h : t + 1 = t1) : sSetI 0 (dC (.int 2)) (dBin zAdd (dBin zIx (dName 0) (dC (.int 2))) (dC (.int 1))) [some (.lst [.int g, .int m, .int t]), some (.frz (.int b)), none, none, none] = .ok .next [some (.lst [.int g, .int m, .int t1]), some (.frz (.int b)), none, none, none] := by
  have i2 : ixN 3 2 = some 2 := rfl
  simp [db2, h, i2]
theorem drawB_2a {b q r : Int} (h : 0 < g) (h1 : zMod (.int g) (.int b) = some (.val (.int r))) (h2 : zDiv (.int g) (.int b) = some (.val (.int q))) : dDrawB2 [some (.lst [.int g, .int m, .int t]), some (.frz (.int b)), none, none, none] = .ok (.ret (.frz (.int r))) [some (.lst [.int q, .int m, .int t]), some (.frz (.int b)), some (.frz (.int r)), none, none] := by
  have i0 : ixN 3 0 = some 0 := rfl
  simp [dDrawB2, db0, h, h1, h2, i0]
theorem drawB_2b {b : Int} (h : ¬ 0 < g) : dDrawB2 [some (.lst [.int g, .int m, .int t]), some (.frz (.int b)), none, none, none] = .ok .next [some (.lst [.int g, .int m, .int t]), some (.frz (.int b)), none, none, none] := by
  simp [dDrawB2, db0, h]
theorem drawB_4 {b u v w : Int} (h1 : zMul (.int 70003) (.int t) = some (.val (.int u))) (h2 : zMul (.int u) (.int t) = some (.val (.int v))) (h3 : zMul (.int 5003) (.int t) = some (.val (.int w))) : dDrawB4 [some (.lst [.int g, .int m, .int t]), some (.frz (.int b)), none, some (.frz (.int t)), none] = .ok .next [some (.lst [.int g, .int m, .int t]), some (.frz (.int b)), none, some (.frz (.int t)), some (.frz (.int ((m + v + w) % 2147483543)))] := by
  have m1 : ∀ a : Int, zMod (.int a) (.int 2147483543) = some (.val (.int (a % 2147483543))) := fun a => zMod_i (by decide)
  simp [dDrawB4, db1, h1, h2, h3, m1]
theorem drawB_5 {b x y : Int} {L : T} (h1 : zMul (.int x) (.int x) = some (.val (.int y))) : dDrawB5 [some L, some (.frz (.int b)), none, some (.frz (.int t)), some (.frz (.int x))] = .ok .next [some L, some (.frz (.int b)), none, some (.frz (.int t)), some (.frz (.int (y % 2147483497)))] := by
  have m1 : ∀ a : Int, zMod (.int a) (.int 2147483497) = some (.val (.int (a % 2147483497))) := fun a => zMod_i (by decide)
  simp [dDrawB5, h1, m1]
theorem drawB_6 {b x u v q : Int} {L : T} (h1 : zMul (.int x) (.int 38333) = some (.val (.int u))) (h2 : zMul (.int t) (.int 67) = some (.val (.int v))) (h3 : ∀ a, zMod (.int a) (.int b) = some (.val (.int (a % b)))) : ∃ r, dDrawB6 [some L, some (.frz (.int b)), none, some (.frz (.int t)), some (.frz (.int x))] = .ok (.ret (.frz (.int (r % b)))) [some L, some (.frz (.int b)), none, some (.frz (.int t)), some (.frz (.int x))] := by
  have m1 : ∀ a : Int, zMod (.int a) (.int 2147483477) = some (.val (.int (a % 2147483477))) := fun a => zMod_i (by decide)
  have d1 : ∀ a : Int, zDiv (.int a) (.int 13) = some (.val (.int (a / 13))) := fun a => zDiv_i (by decide) (by decide)
  exact ⟨(u + v) % 2147483477 / 13, by simp [dDrawB6, h1, h2, h3, m1, d1]⟩
end
theorem drawB_ev {N : Nat} {ds : List D} (h : DkB N ds) {b : Int} (hb : 0 < b) (hb2 : b.natAbs < 2 ^ 64) (hN : N ≤ 1000000000000) :
    ∃ r ds', dDrawB [.lst ds, .frz (.int b)] = .ok (.frz (.int r)) [.lst ds', .frz (.int b)] ∧ 0 ≤ r ∧ r < b ∧ DkB (N + 1) ds' := by
  obtain ⟨g, m, t, rfl, h1, h2, h3⟩ := h
  have hr : ∀ a : Int, 0 ≤ a % b ∧ a % b < b := fun a => ⟨Int.emod_nonneg _ (by omega), Int.emod_lt_of_pos _ hb⟩
  have e1 := drawB_1 (g := g) (m := m) (t := t) (b := b) rfl
  simp only [dDrawB, dFun_ap, List.map_cons, List.map_nil, List.length_cons, List.length_nil, List.replicate, List.cons_append, List.nil_append, sSeq_ap (s := sSetI _ _ _), e1]
  by_cases c : 0 < g
  · simp only [sSeq_ap (s := dDrawB2), drawB_2a c (zMod_i hb) (zDiv_i hb hb2)]
    exact ⟨g % b, _, by simp, (hr _).1, (hr _).2, g / b, m, t + 1, rfl, Int.ediv_nonneg h1 (by omega), by omega, by omega⟩
  · simp only [sSeq_ap (s := dDrawB2), drawB_2b c]
    obtain ⟨s, hs⟩ : ∃ s, t + 1 = s := ⟨_, rfl⟩
    rw [hs]
    have e3 : sAsg 3 (dBin zIx (dName 0) (dC (.int 2))) [some (.lst [.int g, .int m, .int s]), some (.frz (.int b)), none, none, none] = .ok .next [some (.lst [.int g, .int m, .int s]), some (.frz (.int b)), none, some (.frz (.int s)), none] := by simp [db2]
    have hs64 : s.natAbs < 2 ^ 64 := nat64 (by omega)
    have e4 := drawB_4 (g := g) (m := m) (t := s) (b := b) (zMul_i (mulOk_l (by decide))) (zMul_i (mulOk_r hs64)) (zMul_i (mulOk_l (by decide)))
    have hx : ((m + 70003 * s * s + 5003 * s) % 2147483543).natAbs < 2 ^ 64 := nat64 (by omega)
    generalize (m + 70003 * s * s + 5003 * s) % 2147483543 = x at e4 hx
    have e5 := drawB_5 (t := s) (b := b) (L := .lst [.int g, .int m, .int s]) (zMul_i (mulOk_l hx))
    have hy : (x * x % 2147483497).natAbs < 2 ^ 64 := nat64 (by omega)
    generalize x * x % 2147483497 = y at e5 hy
    obtain ⟨r, e6⟩ := drawB_6 (t := s) (b := b) (q := 0) (L := .lst [.int g, .int m, .int s]) (zMul_i (mulOk_l hy)) (zMul_i (mulOk_r (by decide))) (fun a => zMod_i hb)
    simp only [sSeq_ap (s := sAsg 3 _), e3, sSeq_ap (s := dDrawB4), e4, sSeq_ap (s := dDrawB5), e5, e6]
    exact ⟨r % b, _, by simp, (hr _).1, (hr _).2, g, m, s, rfl, h1, by omega, by omega⟩
/-! ### the deck made of the script -/
def dDeckBB : SDen := (sIf (dT (dBin zGe (dB zAbs [(dName 3)]) (dBin zPow (dC (.int 10)) (dC (.int 18))))) (sAsg 1 (dBin zAdd (dBin zShl (dName 1) (dC (.int 205))) (dB zAbs [(dName 3)]))) (sAsg 2 (dBin zMod (dBin zAdd (dBin zMul (dName 2) (dC (.int 43))) (dName 3)) (dC (.int 1999999871)))))
theorem deckB_a {S : T} {g m c a : Int} {x : Int} (ha : zAbs [.int c] = some (.val (.int a))) (h : 1000000000000000000 ≤ a) (hs : zShl (.int g) (.int 205) = some (.val (.int x))) : dDeckBB [some S, some (.frz (.int g)), some (.frz (.int m)), some (.frz (.int c))] = .ok .next [some S, some (.frz (.int (x + a))), some (.frz (.int m)), some (.frz (.int c))] := by
  simp [dDeckBB, ha, pw18, h, hs]
theorem deckB_b {S : T} {g m c a u : Int} (ha : zAbs [.int c] = some (.val (.int a))) (h : ¬ 1000000000000000000 ≤ a) (hs : zMul (.int m) (.int 43) = some (.val (.int u))) : dDeckBB [some S, some (.frz (.int g)), some (.frz (.int m)), some (.frz (.int c))] = .ok .next [some S, some (.frz (.int g)), some (.frz (.int ((u + c) % 1999999871))), some (.frz (.int c))] := by
  have m1 : ∀ a : Int, zMod (.int a) (.int 1999999871) = some (.val (.int (a % 1999999871))) := fun a => zMod_i (by decide)
  simp [dDeckBB, ha, pw18, h, hs, m1]
end Fw
namespace Fw
open PySem L2
def dDeckB : FDen := dFun 4 [false] (sSeq (sAsg 1 (dC (.int 0))) (sSeq (sAsg 2 (dBin zAdd (dBin zMul (dC (.int 17)) (dB zLen [(dName 0)])) (dC (.int 11)))) (sSeq (sFor (iLst (dSl zSl (dName 0) none (some (dC (.int 63))))) (putN 3) dDeckBB) (sRet (dLst [(dName 1), (dName 2), (dC (.int 0))])))))
theorem zShl_i {a : Int} {n : Nat} (h : a.natAbs.log2 + n < 134000000) : zShl (.int a) (.int n) = some (.val (.int (a * 2 ^ n))) := by
  have : shlOk a n = true := by simp [shlOk, h]
  simp [zShl, this]
theorem zAbs_i (c : Int) : zAbs [.int c] = some (.val (.int (c.natAbs : Int))) := by
  show some (Z.val (D.int (if c < 0 then -c else c))) = _
  congr 3
  split <;> omega
theorem pow_le {a b : Nat} (h : a ≤ b) : (2 : Nat) ^ a ≤ 2 ^ b := Nat.pow_le_pow_right (by decide) h
theorem log_lt {n B : Nat} (h : n < 2 ^ B) (hB : 0 < B) : n.log2 < B := by
  rcases Nat.eq_zero_or_pos n with z | z
  · rw [z]; simpa using hB
  · exact (Nat.log2_lt (by omega)).mpr h
theorem grow {W j x c : Nat} (hx : x < 2 ^ (W + 206 * j)) (hc : c < 2 ^ W) : x * 2 ^ 205 + c < 2 ^ (W + 206 * (j + 1)) := by
  have h1 : x * 2 ^ 205 + 2 ^ 205 ≤ 2 ^ (W + 206 * j) * 2 ^ 205 := by
    rw [← Nat.succ_mul]; exact Nat.mul_le_mul_right _ hx
  rw [← Nat.pow_add] at h1
  have h2 : 2 ^ W ≤ 2 ^ (W + 206 * j + 205) := pow_le (by omega)
  have h3 : 2 ^ (W + 206 * (j + 1)) = 2 ^ (W + 206 * j + 205) * 2 := by rw [← Nat.pow_succ]; congr 1
  have h4 : 0 < 2 ^ 205 := by decide
  generalize 2 ^ (W + 206 * j + 205) = A at *
  generalize 2 ^ (W + 206 * (j + 1)) = B at *
  generalize 2 ^ W = C at *
  generalize x * 2 ^ 205 = X at *
  omega
theorem deckB_out {S : D} {g m u l : Int} {ls : List D} {x3 : Option T} (hl : zLen [S] = some (.val (.int l))) (hu : zMul (.int 17) (.int l) = some (.val (.int u))) (hc : zSl S none (some 63) = some (.lst ls))
    (e : forL (putN 3) dDeckBB ls [some (.frz S), some (.frz (.int 0)), some (.frz (.int (u + 11))), none] = .ok .next [some (.frz S), some (.frz (.int g)), some (.frz (.int m)), x3]) : dDeckB [.frz S] = .ok (.lst [.int g, .int m, .int 0]) [.frz S] := by
  simp [dDeckB, hl, hu, hc, e]
theorem deckB_ev {W : Nat} (hW : W ≤ 1048576) (ns : List Int) (hb : ∀ z ∈ ns, z.natAbs < 2 ^ W) (hn : ns.length ≤ 63) : ∃ ds, dDeckB [.frz (.scr (ns.map D.int))] = .ok (.lst ds) [.frz (.scr (ns.map D.int))] ∧ DkB 0 ds := by
  have hc : zSl (.scr (ns.map D.int)) none (some 63) = some (.lst ((ns.take 63).map D.int)) := by
    show some (Z.lst (cutD (ns.map D.int) none (some ((63 : Nat) : Int)))) = _
    rw [cutD_to, List.map_take]
  have hl : zLen [.scr (ns.map D.int)] = some (.val (.int (ns.length : Int))) := by simp
  have hu : zMul (.int 17) (.int (ns.length : Int)) = some (.val (.int (17 * (ns.length : Int)))) := zMul_i (mulOk_l (by decide))
  have hmem : ∀ d ∈ (ns.take 63).map D.int, ∃ z : Int, d = .int z ∧ z.natAbs < 2 ^ W := by
    intro d hd
    obtain ⟨z, hz, rfl⟩ := List.mem_map.mp hd
    exact ⟨z, rfl, hb z (List.mem_of_mem_take hz)⟩
  have hlen : ((ns.take 63).map D.int).length ≤ 63 := by rw [List.length_map, List.length_take]; omega
  generalize (ns.take 63).map D.int = ls at *
  generalize 17 * (ns.length : Int) = u at *
  generalize (ns.length : Int) = l at *
  generalize D.scr (ns.map D.int) = S at *
  obtain ⟨Γ', e, g, m, x3, rfl, hg⟩ := forL_ind (put := putN 3) (b := dDeckBB) (fun j Γ => ∃ (g : Nat) (m : Int) (x3 : Option T), Γ = [some (.frz S), some (.frz (.int (g : Int))), some (.frz (.int m)), x3] ∧ (j ≤ 63 → g < 2 ^ (W + 206 * j)))
    ls 0 [some (.frz S), some (.frz (.int 0)), some (.frz (.int (u + 11))), none] ⟨0, _, _, rfl, fun _ => Nat.pow_pos (by decide)⟩ (by
      rintro j d Γ hj ⟨g, m, x3, rfl, hg⟩
      rw [Nat.zero_add] at *
      have hjl : j < ls.length := by
        rcases Nat.lt_or_ge j ls.length with z | z
        · exact z
        · rw [List.getElem?_eq_none z] at hj; cases hj
      obtain ⟨z, rfl, hz⟩ := hmem d (List.mem_of_getElem? hj)
      have hg := hg (by omega)
      by_cases c : (1000000000000000000 : Int) ≤ (z.natAbs : Int)
      · have hlog : ((g : Int).natAbs).log2 + 205 < 134000000 := by
          rw [Int.natAbs_natCast]
          rcases Nat.eq_zero_or_pos (W + 206 * j) with y | y
          · rw [y] at hg
            have : g = 0 := by simpa using hg
            rw [this]; decide
          · have := log_lt hg y
            omega
        refine ⟨_, _, rfl, deckB_a (zAbs_i z) c (zShl_i (n := 205) hlog), g * 2 ^ 205 + z.natAbs, m, some (.frz (.int z)), ?_, fun _ => grow hg hz⟩
        have : ((g : Int) * 2 ^ 205 + (z.natAbs : Int)) = ((g * 2 ^ 205 + z.natAbs : Nat) : Int) := by
          rw [Int.natCast_add, Int.natCast_mul, Int.natCast_pow]; rfl
        rw [this]
      · refine ⟨_, _, rfl, deckB_b (zAbs_i z) c (zMul_i (mulOk_r (by decide))), g, _, some (.frz (.int z)), rfl, fun _ => ?_⟩
        exact Nat.lt_of_lt_of_le hg (pow_le (by omega)))
  exact ⟨[.int g, .int m, .int 0], deckB_out hl hu hc e, g, m, 0, rfl, by omega, by omega, by omega⟩
end Fw
namespace Fw
open PySem L2

/-! ### the powers of the figures, a pair by the second deck -/
def pwl (b p : Nat) : List Nat := (List.range b).map (· ^ p)
theorem pwl_at {b p j : Nat} (h : j < b) : (pwl b p)[j]? = some (j ^ p) := by simp [pwl, List.getElem?_range h]
theorem pwl_len (b p : Nat) : (pwl b p).length = b := by simp [pwl]
theorem pwl_last {b p : Nat} (h : 1 ≤ b) : zIx (.lst (nats (pwl b p))) (.int (-1)) = some (.val (.int (((b - 1) ^ p : Nat) : Int))) := by
  obtain ⟨c, rfl⟩ : ∃ c, b = c + 1 := ⟨b - 1, by omega⟩
  have : pwl (c + 1) p = pwl c p ++ [c ^ p] := by simp [pwl, List.range_succ]
  rw [this, nats_last]; rfl
def dPwsI : SDen := sAsg 4 (dBin zMul (dName 4) (dName 3))
def dPwsB : SDen := sSeq (sAsg 4 (dC (.int 1))) (sSeq (sFor (iR1 (dName 1)) (putN 5) dPwsI) (sDrop (dMut mAppend 2 [(dName 4)])))
def dPws : FDen := dFun 6 [false, false] (sSeq (sAsg 2 (dLst [])) (sSeq (sFor (iR1 (dName 0)) (putN 3) dPwsB) (sRet (dName 2))))
theorem pws_el {b p f w : Int} {ds : List D} {x4 x5 y5 : Option T} (hs : smallI p = true) (e : forL (putN 5) dPwsI (rngD 0 1 p.toNat) [some (.frz (.int b)), some (.frz (.int p)), some (.lst ds), some (.frz (.int f)), some (.frz (.int 1)), x5] = .ok .next [some (.frz (.int b)), some (.frz (.int p)), some (.lst ds), some (.frz (.int f)), some (.frz (.int w)), y5]) (hl : ds.length < big) :
    dPwsB [some (.frz (.int b)), some (.frz (.int p)), some (.lst ds), some (.frz (.int f)), x4, x5] = .ok .next [some (.frz (.int b)), some (.frz (.int p)), some (.lst (ds ++ [.int w])), some (.frz (.int f)), some (.frz (.int w)), y5] := by
  simp [dPwsB, hs, e, mAppend_ok hl]
theorem pws_in {b p : D} {ds : T} {f : Int} {k : Nat} {x5 : Option T} (hf : f.natAbs < 2 ^ 64) : ∃ y5, forL (putN 5) dPwsI (rngD 0 1 k) [some (.frz b), some (.frz p), some ds, some (.frz (.int f)), some (.frz (.int 1)), x5] = .ok .next [some (.frz b), some (.frz p), some ds, some (.frz (.int f)), some (.frz (.int (f ^ k))), y5] := by
  obtain ⟨Γ', e, y, rfl⟩ := forL_rng (put := putN 5) (b := dPwsI) (fun j Γ => ∃ y, Γ = [some (.frz b), some (.frz p), some ds, some (.frz (.int f)), some (.frz (.int (f ^ j))), y]) 0 1 k
    [some (.frz b), some (.frz p), some ds, some (.frz (.int f)), some (.frz (.int 1)), x5] ⟨x5, by simp⟩ (by
      rintro j Γ hj ⟨y, rfl⟩
      refine ⟨_, _, rfl, ?_, some (.frz (.int (0 + (j : Int) * 1))), rfl⟩
      have : zMul (.int (f ^ j)) (.int f) = some (.val (.int (f ^ (j + 1)))) := by rw [zMul_i (mulOk_r hf), Int.pow_succ]
      simp [dPwsI, this])
  exact ⟨y, e⟩
theorem pws_out {b : Int} {p : D} {ds : List D} {x3 x4 x5 : Option T} (hs : smallI b = true) (e : forL (putN 3) dPwsB (rngD 0 1 b.toNat) [some (.frz (.int b)), some (.frz p), some (.lst []), none, none, none] = .ok .next [some (.frz (.int b)), some (.frz p), some (.lst ds), x3, x4, x5]) : dPws [.frz (.int b), .frz p] = .ok (.lst ds) [.frz (.int b), .frz p] := by
  simp [dPws, hs, e]
theorem pws_ev {b p : Nat} (hb : b ≤ 100000) (hp : p ≤ 100000) : dPws [.frz (.int b), .frz (.int p)] = .ok (.lst (nats (pwl b p))) [.frz (.int b), .frz (.int p)] := by
  obtain ⟨Γ', e, x3, x4, x5, rfl⟩ := forL_rng (put := putN 3) (b := dPwsB) (fun j Γ => ∃ x3 x4 x5, Γ = [some (.frz (.int b)), some (.frz (.int p)), some (.lst (nats ((pwl b p).take j))), x3, x4, x5]) 0 1 b
    [some (.frz (.int b)), some (.frz (.int p)), some (.lst []), none, none, none] ⟨_, _, _, rfl⟩ (by
      rintro j Γ hj ⟨x3, x4, x5, rfl⟩
      have hz : (0 : Int) + (j : Int) * 1 = (j : Int) := by omega
      rw [hz]
      obtain ⟨y5, e⟩ := pws_in (b := .int b) (p := .int p) (ds := .lst (nats ((pwl b p).take j))) (f := (j : Int)) (k := p) (x5 := x5) (nat64 (by omega))
      refine ⟨_, _, rfl, pws_el (small_of (by omega) (by omega)) (by rw [Int.toNat_natCast]; exact e) (by rw [nats_len, List.length_take, pwl_len, big]; omega), some (.frz (.int (j : Int))), some (.frz (.int ((j : Int) ^ p))), y5, ?_⟩
      rw [take_at (pwl_at hj), nats_app, ← Int.natCast_pow]
      rfl)
  have hall : (pwl b p).take b = pwl b p := List.take_of_length_le (by rw [pwl_len]; omega)
  rw [hall] at e
  exact pws_out (small_of (by omega) (by omega)) (by rw [Int.toNat_natCast]; exact e)
def dPairB1 : SDen := (sAsg 1 (dBin zIx (dLst [(dBin zAdd (dC (.int 2)) (dCall dDrawB [.io 0, .v (dC (.int 15))])), (dC (.int 10)), (dC (.int 2)), (dC (.int 16))]) (dB zMax [(dC (.int 0)), (dBin zSub (dCall dDrawB [.io 0, .v (dC (.int 8))]) (dC (.int 4)))])))
def dPairBC : DenT := (dT (dBin zLe (dBin zIx (dCall dPws [.v (dName 1), .v (dName 3)]) (dUn zNeg (dC (.int 1)))) (dC (.int 1000))))
def dPairB2 : SDen := (sAsg 2 (dB zMax [(dComp (iR2 (dC (.int 1)) (dC (.int 11))) (putN 3) dPairBC (dName 3) [3])]))
def dPairB3 : SDen := (sRet (dTup [(dName 1), (dBin zIx (dLst [(dBin zAdd (dC (.int 1)) (dCall dDrawB [.io 0, .v (dName 2)])), (dName 2), (dB zMin [(dName 2), (dC (.int 2))])]) (dCall dDrawB [.io 0, .v (dC (.int 3))]))]))
def dPairB : FDen := dFun 4 [true] (sSeq dPairB1 (sSeq dPairB2 dPairB3))
theorem pairB_1 {d0 d1 d2 : List D} {r s m b : Int} (e1 : dDrawB [.lst d0, .frz (.int 15)] = .ok (.frz (.int r)) [.lst d1, .frz (.int 15)]) (e2 : dDrawB [.lst d1, .frz (.int 8)] = .ok (.frz (.int s)) [.lst d2, .frz (.int 8)]) (hm : zMax [.int 0, .int (s - 4)] = some (.val (.int m)))
    (hb : zIx (.lst [.int (2 + r), .int 10, .int 2, .int 16]) (.int m) = some (.val (.int b))) : dPairB1 [some (.lst d0), none, none, none] = .ok .next [some (.lst d2), some (.frz (.int b)), none, none] := by
  simp [dPairB1, e1, e2, hm, hb]
theorem pairB_c {dk : List D} {b p w : Int} {l : List D} {x2 : Option T} {o : List T} (e : dPws [.frz (.int b), .frz (.int p)] = .ok (.lst l) o) (hw : zIx (.lst l) (.int (-1)) = some (.val (.int w))) : dPairBC [some (.lst dk), some (.frz (.int b)), x2, some (.frz (.int p))] = .ok (decide (w ≤ 1000)) [some (.lst dk), some (.frz (.int b)), x2, some (.frz (.int p))] := by
  simp [dPairBC, e, hw, putd2]
theorem pairB_2 {dk : List D} {b m : Int} {l : List D} (e : compL (putN 3) dPairBC (dV (dName 3)) [3] (rngD 1 1 10) [] [some (.lst dk), some (.frz (.int b)), none, none] = .ok l [some (.lst dk), some (.frz (.int b)), none, none]) (hm : zMax [.lst l] = some (.val (.int m))) : dPairB2 [some (.lst dk), some (.frz (.int b)), none, none] = .ok .next [some (.lst dk), some (.frz (.int b)), some (.frz (.int m)), none] := by
  have s1 : smallI 1 = true := by decide
  have s2 : smallI 11 = true := by decide
  have e' : compL (putN 3) dPairBC (dV (dName 3)) [3] (rngD 1 1 ((11 : Int) - 1).toNat) [] [some (.lst dk), some (.frz (.int b)), none, none] = _ := e
  have b1 : (rngD 1 1 ((11 : Int) - 1).toNat).length ≤ big := by rw [rngD_len]; decide
  simp only [dPairB2, sAsg_ap, dB_ap, bindO_ap, dOs_cons, dOs_nil, dO_ap, dComp_ap, iR2_ap, dV_ap, dC_ap, intD_int, liftO_some, s1, s2, Bool.and_self, if_true, wipeE_cons, wipeE_nil, List.set_cons_succ, List.set_cons_zero, e']
  rw [if_pos b1]
  simp [hm]
theorem pairB_3 {d0 d1 d2 : List D} {b m r s p q : Int} (e1 : dDrawB [.lst d0, .frz (.int m)] = .ok (.frz (.int r)) [.lst d1, .frz (.int m)]) (e2 : dDrawB [.lst d1, .frz (.int 3)] = .ok (.frz (.int s)) [.lst d2, .frz (.int 3)]) (hq : zMin [.int m, .int 2] = some (.val (.int q)))
    (hp : zIx (.lst [.int (1 + r), .int m, .int q]) (.int s) = some (.val (.int p))) : dPairB3 [some (.lst d0), some (.frz (.int b)), some (.frz (.int m)), none] = .ok (.ret (.frz (.tup [.int b, .int p]))) [some (.lst d2), some (.frz (.int b)), some (.frz (.int m)), none] := by
  simp [dPairB3, e1, e2, hq, hp]
def mostC (i : Nat) : Bool := match mostL[i]? with
  | some q => decide (1 ≤ q) && decide (q ≤ 10) && decide ((i + 1) ^ q.toNat ≤ 1000) && (List.range 10).all fun j => !decide ((i + 1) ^ (j + 1) ≤ 1000) || decide ((j : Int) + 1 ≤ q)
  | none => false
theorem most_all : ((List.range 15).all mostC) = true := by decide +kernel
theorem most_ok {i : Nat} (h : i < 15) : ∃ q : Nat, mostL[i]? = some (q : Int) ∧ 1 ≤ q ∧ q ≤ 10 ∧ (i + 1) ^ q ≤ 1000 ∧ ∀ j, j < 10 → (i + 1) ^ (j + 1) ≤ 1000 → j + 1 ≤ q := by
  have := List.all_eq_true.mp most_all i (by simpa using h)
  unfold mostC at this
  split at this
  case h_2 => cases this
  rename_i q hq
  simp only [Bool.and_eq_true, decide_eq_true_eq, List.all_eq_true, List.mem_range, Bool.or_eq_true, Bool.not_eq_true', decide_eq_false_iff_not] at this
  obtain ⟨⟨⟨h1, h2⟩, h3⟩, h4⟩ := this
  obtain ⟨k, rfl⟩ : ∃ k : Nat, q = k := ⟨q.toNat, by omega⟩
  refine ⟨k, hq, by omega, by omega, h3, fun j hj hle => ?_⟩
  rcases h4 j hj with z | z
  · exact absurd hle z
  · omega
theorem pairB_ev {N : Nat} {ds : List D} (h : DkB N ds) (hN : N ≤ 100000000000) : ∃ b p ds', dPairB [.lst ds] = .ok (.frz (.tup [.int b, .int p])) [.lst ds'] ∧ PairOk b p ∧ DkB (N + 4) ds' := by
  have nx : ∀ {N : Nat} {ds : List D} (h : DkB N ds) {m : Int} (hm : 0 < m) (hb : m.natAbs < 18446744073709551616) (hN : N ≤ 1000000000000), ∃ r ds', dDrawB [.lst ds, .frz (.int m)] = .ok (.frz (.int r)) [.lst ds', .frz (.int m)] ∧ 0 ≤ r ∧ r < m ∧ DkB (N + 1) ds' := fun h _ hm hb hN => drawB_ev h hm (nat64 hb) hN
  obtain ⟨r, d1, e1, hr0, hr1, h1⟩ := nx h (m := 15) (by omega) (by omega) (by omega)
  obtain ⟨s, d2, e2, hs0, hs1, h2⟩ := nx h1 (m := 8) (by omega) (by omega) (by omega)
  have hmx : zMax [.int 0, .int (s - 4)] = some (.val (.int (if s - 4 > 0 then s - 4 else 0))) := rfl
  have hb : ∃ i : Nat, i < 15 ∧ zIx (.lst [.int (2 + r), .int 10, .int 2, .int 16]) (.int (if s - 4 > 0 then s - 4 else 0)) = some (.val (.int ((i + 2 : Nat) : Int))) := by
    have h4 : (if s - 4 > 0 then s - 4 else 0) = 0 ∨ (if s - 4 > 0 then s - 4 else 0) = 1 ∨ (if s - 4 > 0 then s - 4 else 0) = 2 ∨ (if s - 4 > 0 then s - 4 else 0) = 3 := by split <;> omega
    obtain ⟨r, rfl⟩ : ∃ k : Nat, r = k := ⟨r.toNat, by omega⟩
    rcases h4 with z | z | z | z <;> rw [z]
    · exact ⟨r, by omega, zIx_l (k := 0) (by rw [List.getElem?_cons_zero]; exact congrArg (fun x => some (D.int x)) (by omega)) rfl⟩
    · exact ⟨8, by omega, zIx_l (k := 1) rfl rfl⟩
    · exact ⟨0, by omega, zIx_l (k := 2) rfl rfl⟩
    · exact ⟨14, by omega, zIx_l (k := 3) rfl rfl⟩
  obtain ⟨i, hi, hb⟩ := hb
  have c1 := pairB_1 e1 e2 hmx hb
  obtain ⟨q, hq, q1, q2, q3, q4⟩ := most_ok hi
  have cf := compL_filter (put := putN 3) (c := dPairBC) (e := dV (dName 3)) (vs := [3]) (Γ := [some (.lst d2), some (.frz (.int ((i + 2 : Nat) : Int))), none, none]) (fun d => match d with | .int p => decide (((i + 1) ^ p.toNat : Nat) ≤ 1000) | _ => false) id (rngD 1 1 10) (by
    intro d hd
    obtain ⟨j, hj⟩ := List.getElem?_of_mem hd
    obtain ⟨hj, rfl⟩ := rngD_at hj
    have hz : (1 : Int) + (j : Int) * 1 = ((j + 1 : Nat) : Int) := by omega
    rw [hz]
    have ce := pairB_c (dk := d2) (x2 := none) (pws_ev (b := i + 2) (p := j + 1) (by omega) (by omega)) (pwl_last (by omega))
    have hd : decide (((((i + 2 - 1) ^ (j + 1) : Nat) : Int)) ≤ 1000) = decide (((i + 1) ^ ((j + 1 : Nat) : Int).toNat : Nat) ≤ 1000) := by
      rw [Int.toNat_natCast, show i + 2 - 1 = i + 1 by omega]
      exact decide_eq_decide.mpr (by omega)
    rw [hd] at ce
    generalize ((i + 2 : Nat) : Int) = B at *
    refine ⟨_, _, rfl, ce, fun _ => rfl, fun _ => ⟨_, rfl, rfl⟩⟩) []
  rw [List.nil_append, List.map_id] at cf
  obtain ⟨g, hg, hg1, hg2⟩ : ∃ g : List Int, ((rngD 1 1 10).filter fun d => match d with | .int p => decide (((i + 1) ^ p.toNat : Nat) ≤ 1000) | _ => false) = g.map D.int ∧ (q : Int) ∈ g ∧ ∀ x ∈ g, x ≤ (q : Int) := by
    refine ⟨((rngD 1 1 10).filter fun d => match d with | .int p => decide (((i + 1) ^ p.toNat : Nat) ≤ 1000) | _ => false).map (fun d => match d with | .int x => x | _ => 0), ?_, ?_, ?_⟩
    · rw [List.map_map]
      refine (List.map_id _).symm.trans (List.map_congr_left fun d hd => ?_)
      obtain ⟨j, hj⟩ := List.getElem?_of_mem (List.mem_filter.mp hd).1
      obtain ⟨_, rfl⟩ := rngD_at hj
      rfl
    · refine List.mem_map.mpr ⟨.int (q : Int), List.mem_filter.mpr ⟨?_, ?_⟩, rfl⟩
      · have : (rngD 1 1 10)[q - 1]? = some (.int (q : Int)) := by
          simp only [rngD, List.getElem?_map, List.getElem?_range (show q - 1 < 10 by omega), Option.map_some]
          exact congrArg (fun x => some (D.int x)) (by omega)
        exact List.mem_of_getElem? this
      · show decide (((i + 1) ^ (q : Int).toNat : Nat) ≤ 1000) = true
        rw [Int.toNat_natCast]; exact decide_eq_true q3
    · intro x hx
      obtain ⟨d, hd, rfl⟩ := List.mem_map.mp hx
      obtain ⟨h1, h2⟩ := List.mem_filter.mp hd
      obtain ⟨j, hj⟩ := List.getElem?_of_mem h1
      obtain ⟨hjb, rfl⟩ := rngD_at hj
      have hz : (1 : Int) + (j : Int) * 1 = ((j + 1 : Nat) : Int) := by omega
      rw [hz] at h2 ⊢
      have h3 : (i + 1) ^ ((j + 1 : Nat) : Int).toNat ≤ 1000 := of_decide_eq_true h2
      rw [Int.toNat_natCast] at h3
      have := q4 j hjb h3
      show ((j + 1 : Nat) : Int) ≤ (q : Int)
      omega
  rw [hg] at cf
  have c2 := pairB_2 cf (zMax_l hg1 hg2)
  obtain ⟨u, d3, e3, hu0, hu1, h3⟩ := nx h2 (m := (q : Int)) (by omega) (by omega) (by omega)
  obtain ⟨v, d4, e4, hv0, hv1, h4⟩ := nx h3 (m := 3) (by omega) (by omega) (by omega)
  have hmn : zMin [.int (q : Int), .int 2] = some (.val (.int (if (2 : Int) < q then 2 else q))) := rfl
  have hp : ∃ j : Nat, (j : Int) < q ∧ zIx (.lst [.int (1 + u), .int (q : Int), .int (if (2 : Int) < q then 2 else q)]) (.int v) = some (.val (.int (1 + (j : Int)))) := by
    have h3 : v = 0 ∨ v = 1 ∨ v = 2 := by omega
    rcases h3 with rfl | rfl | rfl
    · exact ⟨u.toNat, by omega, zIx_l (k := 0) (congrArg (fun x => some (D.int x)) (by omega)) rfl⟩
    · exact ⟨q - 1, by omega, zIx_l (k := 1) (congrArg (fun x => some (D.int x)) (by omega)) rfl⟩
    · by_cases c : (2 : Int) < q
      · rw [if_pos c]; exact ⟨1, by omega, zIx_l (k := 2) rfl rfl⟩
      · rw [if_neg c]; exact ⟨q - 1, by omega, zIx_l (k := 2) (congrArg (fun x => some (D.int x)) (by omega)) rfl⟩
  obtain ⟨j, hj, hp⟩ := hp
  have c3 := pairB_3 (b := ((i + 2 : Nat) : Int)) e3 e4 hmn hp
  refine ⟨((i + 2 : Nat) : Int), 1 + (j : Int), d4, ?_, ⟨i, j, q, hi, hq, by omega, rfl, hj⟩, h4⟩
  simp only [dPairB, dFun_ap, List.map_cons, List.map_nil, List.length_cons, List.length_nil, List.replicate, List.cons_append, List.nil_append, sSeq_ap, c1, c2, c3]
  simp
end Fw
namespace Fw
open PySem L2

/-! ### sums of so many out of a row of numbers -/
def rch (P : List Nat) : Nat → Nat → Bool
  | 0, s => decide (s = 0)
  | j + 1, s => P.any fun one => decide (one ≤ s) && rch P j (s - one)
theorem rch_succ {P : List Nat} {j s : Nat} : rch P (j + 1) s = true ↔ ∃ one ∈ P, one ≤ s ∧ rch P j (s - one) = true := by
  simp [rch, List.any_eq_true]
/-- as many ones -/
theorem rch_ones {P : List Nat} (h1 : 1 ∈ P) : ∀ s, rch P s s = true
  | 0 => by simp [rch]
  | s + 1 => rch_succ.mpr ⟨1, h1, by omega, by simpa using rch_ones h1 s⟩
/-- the fewest -/
def fws (P : List Nat) (s : Nat) : Nat := ((List.range (s + 1)).find? fun j => rch P j s).getD 0
theorem fws_spec {P : List Nat} (h1 : 1 ∈ P) (s : Nat) : rch P (fws P s) s = true ∧ fws P s ≤ s ∧ ∀ j, j < fws P s → rch P j s = false := by
  unfold fws
  cases hf : (List.range (s + 1)).find? fun j => rch P j s with
  | none =>
    have := List.find?_eq_none.mp hf s (by simp)
    exact absurd (rch_ones h1 s) (by simpa using this)
  | some k =>
    obtain ⟨h2, as, bs, h3, h4⟩ := List.find?_eq_some_iff_append.mp hf
    have hk : k = as.length := by
      have := congrArg (fun l => l[as.length]?) h3
      simp at this
      obtain ⟨a, b⟩ := List.getElem?_eq_some_iff.mp (by simpa using this)
      simpa using b.symm
    have hlen : as.length ≤ s := by
      have := congrArg List.length h3
      simp at this
      omega
    refine ⟨h2, by simp only [Option.getD_some]; omega, fun j hj => ?_⟩
    simp only [Option.getD_some] at hj
    have hm : j ∈ as := by
      have : (List.range (s + 1))[j]? = some j := List.getElem?_range (by omega)
      rw [h3, List.getElem?_append_left (by omega)] at this
      exact List.mem_of_getElem? this
    have := h4 j hm
    simpa using this
theorem fws_le {P : List Nat} (h1 : 1 ∈ P) {s j : Nat} (h : rch P j s = true) : fws P s ≤ j := by
  rcases Nat.lt_or_ge j (fws P s) with z | z
  · rw [(fws_spec h1 s).2.2 j z] at h; cases h
  · exact z
theorem fws_step {P : List Nat} (h1 : 1 ∈ P) {s one : Nat} (h : one ∈ P) (hs : one ≤ s) : fws P s ≤ fws P (s - one) + 1 :=
  fws_le h1 (rch_succ.mpr ⟨one, h, hs, (fws_spec h1 (s - one)).1⟩)
theorem fws_zero {P : List Nat} (h1 : 1 ∈ P) : fws P 0 = 0 := Nat.le_zero.mp (fws_spec h1 0).2.1
theorem fws_pos {P : List Nat} (h1 : 1 ∈ P) {s : Nat} (hs : 0 < s) : 0 < fws P s := by
  rcases Nat.eq_zero_or_pos (fws P s) with z | z
  · have := (fws_spec h1 s).1
    rw [z] at this
    simp [rch] at this
    omega
  · exact z
theorem fws_pred {P : List Nat} (h1 : 1 ∈ P) {s : Nat} (hs : 0 < s) : ∃ one ∈ P, one ≤ s ∧ fws P (s - one) + 1 = fws P s := by
  have hp := fws_pos h1 hs
  have h2 := (fws_spec h1 s).1
  obtain ⟨k, hk⟩ : ∃ k, fws P s = k + 1 := ⟨fws P s - 1, by omega⟩
  rw [hk] at h2
  obtain ⟨one, ho, hl, hr⟩ := rch_succ.mp h2
  have h3 := fws_le h1 hr
  have h4 := fws_step h1 ho hl
  exact ⟨one, ho, hl, by omega⟩
/-- what is left of a sum of the fewest is one of one fewer: just these have the mark -/
theorem fws_mark {P : List Nat} (h1 : 1 ∈ P) {s one k : Nat} (h : one ∈ P) (hs : one ≤ s) (hk : fws P s = k + 1) : rch P k (s - one) = true ↔ fws P (s - one) = k := by
  constructor
  · intro hr
    have h3 := fws_le h1 hr
    have h4 := fws_step h1 h hs
    omega
  · intro he
    have := (fws_spec h1 (s - one)).1
    rwa [he] at this
theorem minL_eq : ∀ (xs : List Int) (m : Int), m ∈ xs → (∀ x ∈ xs, m ≤ x) → minL xs = m
  | [], _, h, _ => by simp at h
  | [x], m, h, _ => by simp at h; simp [minL, h]
  | x :: y :: xs, m, h, g => by
    show (if x < minL (y :: xs) then x else minL (y :: xs)) = m
    have hx := g x (by simp)
    rcases List.mem_cons.mp h with rfl | h'
    · split
      · rfl
      · rename_i c
        have key : ∀ (zs : List Int) (k : Int), zs ≠ [] → (∀ z ∈ zs, k ≤ z) → k ≤ minL zs := by
          intro zs
          induction zs with
          | nil => intro k e _; exact absurd rfl e
          | cons z zs ih =>
            intro k _ hk
            cases zs with
            | nil => exact hk z (by simp)
            | cons w ws =>
              show k ≤ (if z < minL (w :: ws) then z else minL (w :: ws))
              split
              · exact hk z (by simp)
              · exact ih k (by simp) fun a ha => hk a (by simp [ha])
        have := key (y :: xs) m (by simp) fun z hz => g z (by simp [hz])
        omega
    · have := minL_eq (y :: xs) m h' fun z hz => g z (by simp [hz])
      rw [this]
      split <;> omega
theorem zMin_l {ns : List Int} {m : Int} (h : m ∈ ns) (g : ∀ x ∈ ns, m ≤ x) : zMin [.lst (ns.map D.int)] = some (.val (.int m)) := by
  have h0 : ns ≠ [] := fun e => by rw [e] at h; simp at h
  simp only [zMin, listI, listD, Option.bind_some, intsD_map, h0, if_false, minL_eq ns m h g]
end Fw
namespace Fw
open PySem L2

/-! ### the table of the fewest -/
def dFewC : DenT := (dT (dBin zLe (dName 4) (dName 3)))
def dFewE : Den := (dBin zIx (dName 2) (dBin zSub (dName 3) (dName 4)))
def dFewB : SDen := (sDrop (dMut mAppend 2 [(dBin zAdd (dC (.int 1)) (dB zMin [(dComp (iLst (dSl zSl (dName 1) (some (dC (.int 1))) none)) (putN 4) dFewC dFewE [4])]))]))
def dFew : FDen := dFun 5 [false, false]
  (sSeq (sAsg 2 (dLst [(dC (.int 0))])) (sSeq (sFor (iR2 (dC (.int 1)) (dBin zAdd (dName 0) (dC (.int 1)))) (putN 3) dFewB) (sRet (dName 2))))
def tbF (P : List Nat) (m : Nat) : List Nat := (List.range m).map (fws P)
theorem tbF_at {P : List Nat} {m j : Nat} (h : j < m) : (tbF P m)[j]? = some (fws P j) := by simp [tbF, List.getElem?_range h]
theorem tbF_len (P : List Nat) (m : Nat) : (tbF P m).length = m := by simp [tbF]
theorem few_el {T0 : T} {ps pd ds g : List D} {n m : Int} {x4 : Option T} (h : cutD ps (some 1) none = pd) (hl : pd.length ≤ big) (e : compL (putN 4) dFewC (dV dFewE) [4] pd [] [some T0, some (.frz (.lst ps)), some (.lst ds), some (.frz (.int n)), none] = .ok g [some T0, some (.frz (.lst ps)), some (.lst ds), some (.frz (.int n)), none])
    (hm : zMin [.lst g] = some (.val (.int m))) (hd : ds.length < big) : dFewB [some T0, some (.frz (.lst ps)), some (.lst ds), some (.frz (.int n)), x4] = .ok .next [some T0, some (.frz (.lst ps)), some (.lst (ds ++ [.int (1 + m)])), some (.frz (.int n)), none] := by
  simp [dFewB, h, hl, e, hm, mAppend_ok hd]
theorem few_c {T0 T1 T2 : T} {n y : Int} : dFewC [some T0, some T1, some T2, some (.frz (.int n)), some (.frz (.int y))] = .ok (decide (y ≤ n)) [some T0, some T1, some T2, some (.frz (.int n)), some (.frz (.int y))] := by simp [dFewC]
theorem few_e {T0 T1 : T} {ds : List D} {n y z x : Int} (h1 : n - y = z) (h2 : zIx (.lst ds) (.int z) = some (.val (.int x))) : dV dFewE [some T0, some T1, some (.lst ds), some (.frz (.int n)), some (.frz (.int y))] = .ok (.int x) [some T0, some T1, some (.lst ds), some (.frz (.int n)), some (.frz (.int y))] := by
  simp [dFewE, h1, h2]
theorem few_out {n : Int} {ps ds : List D} {x3 x4 : Option T} (s1 : smallI (n + 1) = true) (e : forL (putN 3) dFewB (rngD 1 1 (n + 1 - 1).toNat) [some (.frz (.int n)), some (.frz (.lst ps)), some (.lst [.int 0]), none, none] = .ok .next [some (.frz (.int n)), some (.frz (.lst ps)), some (.lst ds), x3, x4]) : dFew [.frz (.int n), .frz (.lst ps)] = .ok (.lst ds) [.frz (.int n), .frz (.lst ps)] := by
  have s0 : smallI 1 = true := by decide
  have a1 : sAsg 2 (dLst [(dC (.int 0))]) [some (.frz (.int n)), some (.frz (.lst ps)), none, none, none] = .ok .next [some (.frz (.int n)), some (.frz (.lst ps)), some (.lst [.int 0]), none, none] := by simp
  have a2 : sFor (iR2 (dC (.int 1)) (dBin zAdd (dName 0) (dC (.int 1)))) (putN 3) dFewB [some (.frz (.int n)), some (.frz (.lst ps)), some (.lst [.int 0]), none, none] = .ok .next [some (.frz (.int n)), some (.frz (.lst ps)), some (.lst ds), x3, x4] := by
    simp only [sFor_ap, bindO_ap, iR2_ap, dV_ap, dC_ap, dBin_ap, dO_ap, dName_ap, List.getElem?_cons_zero, get_frz, liftO_some, zAdd_i, toR_val, intD_int, s0, s1, Bool.and_self, if_true, e]
  simp only [dFew, dFun_ap, List.map_cons, List.map_nil, List.length_cons, List.length_nil, List.replicate, List.cons_append, List.nil_append, sSeq_ap (s := sAsg 2 _), a1, sSeq_ap (s := sFor _ _ _), a2]
  simp
theorem few_list {P Q : List Nat} {n : Nat} : (((nats Q).filter fun d => match d with | .int y => decide (y ≤ (n : Int)) | _ => false).map fun d => match d with | .int y => D.int (fws P (n - y.toNat) : Nat) | _ => .non) = ((Q.filter fun y => decide (y ≤ n)).map fun y => ((fws P (n - y) : Nat) : Int)).map D.int := by
  induction Q with
  | nil => rfl
  | cons y Q ih =>
    have hn : nats (y :: Q) = D.int (y : Int) :: nats Q := rfl
    have hd : decide ((y : Int) ≤ (n : Int)) = decide (y ≤ n) := decide_eq_decide.mpr (by omega)
    rw [hn, List.filter_cons, List.filter_cons]
    simp only [hd]
    by_cases h : y ≤ n
    · simp only [h, decide_true, if_true, List.map_cons, ih, Int.toNat_natCast]
    · simp only [h, decide_false, Bool.false_eq_true, if_false, ih]
theorem few_ev {ps : List Nat} (h1 : 1 ∈ ps.drop 1) (hpos : ∀ y ∈ ps.drop 1, 1 ≤ y) {n : Nat} (hn : n ≤ 1000000) (hl : ps.length ≤ 1000) : dFew [.frz (.int n), .frz (.lst (nats ps))] = .ok (.lst (nats (tbF (ps.drop 1) (n + 1)))) [.frz (.int n), .frz (.lst (nats ps))] := by
  have hps : 1 ≤ ps.length := by
    rcases ps with _ | ⟨a, ps⟩
    · simp at h1
    · simp
  have hcut : cutD (nats ps) (some 1) none = nats (ps.drop 1) := by
    have := cutD_from (nats ps) 1 (by rw [nats_len]; exact hps)
    rw [show ((1 : Nat) : Int) = 1 from rfl] at this
    rw [this]; simp [nats]
  have hPl : (ps.drop 1).length ≤ 1000 := by rw [List.length_drop]; omega
  generalize ps.drop 1 = P at *
  obtain ⟨Γ', e, x3, rfl⟩ := forL_rng (put := putN 3) (b := dFewB) (fun j Γ => ∃ x3, Γ = [some (.frz (.int n)), some (.frz (.lst (nats ps))), some (.lst (nats (tbF P (j + 1)))), x3, none]) 1 1 n
    [some (.frz (.int n)), some (.frz (.lst (nats ps))), some (.lst [.int 0]), none, none] ⟨none, by
      have : tbF P (0 + 1) = [0] := by simp [tbF, List.range_succ, fws_zero h1]
      rw [this]; rfl⟩ (by
      rintro j Γ hj ⟨x3, rfl⟩
      have hz : (1 : Int) + (j : Int) * 1 = ((j + 1 : Nat) : Int) := by omega
      rw [hz]
      have cf := compL_filter (put := putN 4) (c := dFewC) (e := dV dFewE) (vs := [4]) (Γ := [some (.frz (.int n)), some (.frz (.lst (nats ps))), some (.lst (nats (tbF P (j + 1)))), some (.frz (.int ((j + 1 : Nat) : Int))), none])
        (fun d => match d with | .int y => decide (y ≤ ((j + 1 : Nat) : Int)) | _ => false) (fun d => match d with | .int y => .int (fws P (j + 1 - y.toNat) : Nat) | _ => .non) (nats P) (by
          intro d hd
          obtain ⟨y, hy, rfl⟩ := List.mem_map.mp hd
          refine ⟨_, _, rfl, few_c, fun _ => rfl, fun hle => ?_⟩
          have hle : y ≤ j + 1 := by have : (y : Int) ≤ ((j + 1 : Nat) : Int) := of_decide_eq_true hle; omega
          have hy1 := hpos y hy
          refine ⟨_, few_e (z := ((j + 1 - y : Nat) : Int)) (by omega) (zIx_nats (tbF_at (by omega)) rfl), rfl⟩) []
      rw [List.nil_append, few_list] at cf
      obtain ⟨y, hy, hyl, hyf⟩ := fws_pred h1 (s := j + 1) (by omega)
      have hmin := zMin_l (ns := (P.filter fun y => decide (y ≤ j + 1)).map fun y => ((fws P (j + 1 - y) : Nat) : Int)) (m := ((fws P (j + 1) - 1 : Nat) : Int)) (List.mem_map.mpr ⟨y, List.mem_filter.mpr ⟨hy, decide_eq_true hyl⟩, by omega⟩) (by
        intro x hx
        obtain ⟨z, hz, rfl⟩ := List.mem_map.mp hx
        obtain ⟨h2, h3⟩ := List.mem_filter.mp hz
        have h3 : z ≤ j + 1 := of_decide_eq_true h3
        have := fws_step h1 h2 h3
        omega)
      refine ⟨_, _, rfl, few_el hcut (by rw [nats_len, big]; omega) cf hmin (by rw [nats_len, tbF_len, big]; omega), some (.frz (.int ((j + 1 : Nat) : Int))), ?_⟩
      have h5 : (1 : Int) + ((fws P (j + 1) - 1 : Nat) : Int) = ((fws P (j + 1) : Nat) : Int) := by omega
      have h6 : tbF P (j + 1 + 1) = tbF P (j + 1) ++ [fws P (j + 1)] := by simp [tbF, List.range_succ]
      rw [h5, h6, nats_app]
      rfl)
  have ht : (((n : Nat) : Int) + 1 - 1).toNat = n := by omega
  exact few_out (small_of (by omega) (by omega)) (by rw [ht]; exact e)
end Fw
namespace Fw
open PySem L2

/-! ### a number by its figures; the least figures of a sum -/
def numBy (b : Nat) : List Nat → Nat → Nat
  | [], a => a
  | f :: fs, a => numBy b fs (a * b + f)
def dNumByB : SDen := sAsg 2 (dBin zAdd (dBin zMul (dName 2) (dName 1)) (dName 3))
def dNumBy : FDen := dFun 4 [false, false] (sSeq (sAsg 2 (dC (.int 0))) (sSeq (sFor (iLst (dName 0)) (putN 3) dNumByB) (sRet (dName 2))))
theorem numBy_el {L : D} {b a f w : Int} (hw : zMul (.int a) (.int b) = some (.val (.int w))) : dNumByB [some (.frz L), some (.frz (.int b)), some (.frz (.int a)), some (.frz (.int f))] = .ok .next [some (.frz L), some (.frz (.int b)), some (.frz (.int (w + f))), some (.frz (.int f))] := by
  simp [dNumByB, hw]
theorem numBy_loop {L : D} {b : Nat} (hb : b < 1000) : ∀ (fs : List Nat) (a : Nat) (x : Option T), ∃ y, forL (putN 3) dNumByB (nats fs) [some (.frz L), some (.frz (.int b)), some (.frz (.int a)), x] = .ok .next [some (.frz L), some (.frz (.int b)), some (.frz (.int (numBy b fs a : Nat))), y]
  | [], a, x => ⟨x, rfl⟩
  | f :: fs, a, x => by
    have hw : zMul (.int (a : Int)) (.int (b : Int)) = some (.val (.int ((a * b : Nat) : Int))) := by rw [zMul_i (mulOk_r (nat64 (by omega))), ← Int.natCast_mul]
    have e := numBy_el (L := L) (f := (f : Int)) hw
    have hc : ((a * b : Nat) : Int) + (f : Int) = ((a * b + f : Nat) : Int) := by omega
    rw [hc] at e
    obtain ⟨y, ih⟩ := numBy_loop (L := L) hb fs (a * b + f) (some (.frz (.int f)))
    refine ⟨y, ?_⟩
    have hn : nats (f :: fs) = D.int (f : Int) :: nats fs := rfl
    simp only [hn, forL, putN_ap, List.set_cons_succ, List.set_cons_zero, e, ih, numBy]
theorem numBy_out {L : List D} {b r : Int} {y : Option T} (e : forL (putN 3) dNumByB L [some (.frz (.lst L)), some (.frz (.int b)), some (.frz (.int 0)), none] = .ok .next [some (.frz (.lst L)), some (.frz (.int b)), some (.frz (.int r)), y]) : dNumBy [.frz (.lst L), .frz (.int b)] = .ok (.frz (.int r)) [.frz (.lst L), .frz (.int b)] := by
  simp [dNumBy, e]
theorem numBy_ev {b : Nat} (hb : b < 1000) (fs : List Nat) : dNumBy [.frz (.lst (nats fs)), .frz (.int b)] = .ok (.frz (.int (numBy b fs 0 : Nat))) [.frz (.lst (nats fs)), .frz (.int b)] := by
  obtain ⟨y, e⟩ := numBy_loop (L := .lst (nats fs)) hb fs 0 none
  exact numBy_out e
/-- the powers of the figures that are no 0 -/
def pwP (b p : Nat) : List Nat := (pwl b p).drop 1
theorem pwP_mem {b p y : Nat} : y ∈ pwP b p ↔ ∃ k, 1 ≤ k ∧ k < b ∧ y = k ^ p := by
  unfold pwP
  constructor
  · intro h
    obtain ⟨i, hi⟩ := List.getElem?_of_mem h
    rw [List.getElem?_drop] at hi
    have hlt : 1 + i < b := by
      rcases Nat.lt_or_ge (1 + i) b with z | z
      · exact z
      · rw [List.getElem?_eq_none (by rw [pwl_len]; exact z)] at hi; cases hi
    rw [pwl_at hlt] at hi
    cases hi
    exact ⟨1 + i, by omega, hlt, rfl⟩
  · rintro ⟨k, h1, h2, rfl⟩
    have : ((pwl b p).drop 1)[k - 1]? = some (k ^ p) := by
      rw [List.getElem?_drop, show 1 + (k - 1) = k by omega, pwl_at h2]
    exact List.mem_of_getElem? this
theorem pwP_one {b p : Nat} (hb : 2 ≤ b) : 1 ∈ pwP b p := pwP_mem.mpr ⟨1, by omega, by omega, by simp⟩
theorem pwP_pos {b p : Nat} : ∀ y ∈ pwP b p, 1 ≤ y := by
  intro y hy
  obtain ⟨k, h1, _, rfl⟩ := pwP_mem.mp hy
  exact Nat.pow_pos (by omega)
/-- the least figure that a sum of the fewest may begin with -/
def lstK (b p l : Nat) : Nat := ((List.range b).find? fun k => decide (1 ≤ k) && decide (k ^ p ≤ l) && decide (fws (pwP b p) (l - k ^ p) + 1 = fws (pwP b p) l)).getD 0
def grd (b p : Nat) : Nat → Nat → List Nat
  | 0, _ => []
  | j + 1, l => lstK b p l :: grd b p j (l - lstK b p l ^ p)
theorem lstK_ok {b p l : Nat} (hb : 2 ≤ b) (hl : 0 < l) : 1 ≤ lstK b p l ∧ lstK b p l < b ∧ lstK b p l ^ p ≤ l ∧ fws (pwP b p) (l - lstK b p l ^ p) + 1 = fws (pwP b p) l ∧ ∀ k, 1 ≤ k → k < lstK b p l → k ^ p ≤ l → fws (pwP b p) (l - k ^ p) + 1 ≠ fws (pwP b p) l := by
  unfold lstK
  cases hf : (List.range b).find? fun k => decide (1 ≤ k) && decide (k ^ p ≤ l) && decide (fws (pwP b p) (l - k ^ p) + 1 = fws (pwP b p) l) with
  | none =>
    obtain ⟨y, hy, h2, h3⟩ := fws_pred (pwP_one (p := p) hb) hl
    obtain ⟨k, h4, h5, rfl⟩ := pwP_mem.mp hy
    have := List.find?_eq_none.mp hf k (by simpa using h5)
    simp [h4, h2, h3] at this
  | some k =>
    obtain ⟨h2, as, bs, h3, h4⟩ := List.find?_eq_some_iff_append.mp hf
    simp only [Bool.and_eq_true, decide_eq_true_eq] at h2
    have hkb : k < b := by
      have : k ∈ List.range b := by rw [h3]; simp
      simpa using this
    refine ⟨h2.1.1, hkb, h2.1.2, h2.2, fun i hi1 hi2 hi3 hi4 => ?_⟩
    simp only [Option.getD_some] at hi2
    have hk : (List.range b)[as.length]? = some k := by rw [h3]; simp
    have hka : k = as.length := by
      obtain ⟨a, e⟩ := List.getElem?_eq_some_iff.mp hk
      simpa using e.symm
    have hm : i ∈ as := by
      have : (List.range b)[i]? = some i := List.getElem?_range (by omega)
      rw [h3, List.getElem?_append_left (by omega)] at this
      exact List.mem_of_getElem? this
    have := h4 i hm
    simp [hi1, hi3, hi4] at this
end Fw
namespace Fw
open PySem L2

/-! ### marks: a number whose bits are the sums of so many -/
theorem bitAnd_nat (a b : Nat) : Builtin.bitAnd (a : Int) (b : Int) = ((a &&& b : Nat) : Int) := by
  unfold Builtin.bitAnd
  rw [decide_eq_true (show (0 : Int) ≤ (a : Int) by omega), decide_eq_true (show (0 : Int) ≤ (b : Int) by omega)]
  rfl
theorem bitNot_nat (a : Nat) : Builtin.bitNot (a : Int) = -(a : Int) - 1 := by
  unfold Builtin.bitNot; omega
theorem bitOr_nat (a b : Nat) : Builtin.bitOr (a : Int) (b : Int) = ((a ||| b : Nat) : Int) := by
  unfold Builtin.bitOr
  rw [bitNot_nat, bitNot_nat]
  unfold Builtin.bitAnd
  rw [decide_eq_false (show ¬ (0 : Int) ≤ -(a : Int) - 1 by omega), decide_eq_false (show ¬ (0 : Int) ≤ -(b : Int) - 1 by omega)]
  have h1 : ∀ c : Nat, (Builtin.bitNot (-(c : Int) - 1)).toNat = c := fun c => by unfold Builtin.bitNot; omega
  simp only [h1]
  unfold Builtin.bitNot
  omega
@[simp] theorem zAnd_n {a b : Nat} : zAnd (.int a) (.int b) = some (.val (.int ((a &&& b : Nat) : Int))) := by
  show some (Z.val (.int (Builtin.bitAnd (a : Int) (b : Int)))) = _
  rw [bitAnd_nat]
@[simp] theorem zOr_n {a b : Nat} : zOr (.int a) (.int b) = some (.val (.int ((a ||| b : Nat) : Int))) := by
  show some (Z.val (.int (Builtin.bitOr (a : Int) (b : Int)))) = _
  rw [bitOr_nat]
/-- the marks of the sums, to t, of exactly j -/
def Mk (P : List Nat) (t j m : Nat) : Prop := ∀ s, m.testBit s = (decide (s ≤ t) && rch P j s)
def orS (m : Nat) : List Nat → Nat → Nat
  | [], a => a
  | one :: P, a => orS m P (a ||| (m * 2 ^ one))
theorem orS_bit (m s : Nat) : ∀ (P : List Nat) (a : Nat), (orS m P a).testBit s = (a.testBit s || P.any fun one => decide (one ≤ s) && m.testBit (s - one))
  | [], a => by simp [orS]
  | one :: P, a => by
    rw [orS, orS_bit m s P, Nat.testBit_or, ← Nat.shiftLeft_eq, Nat.testBit_shiftLeft, List.any_cons, Bool.or_assoc]
theorem Mk.zero {P : List Nat} {t : Nat} : Mk P t 0 1 := by
  intro s
  rcases s with _ | s
  · simp [rch]
  · have : (1 : Nat).testBit (s + 1) = false := by simp [Nat.testBit_succ]
    simp [this, rch]
theorem Mk.succ {P : List Nat} {t j m : Nat} (h : Mk P t j m) : Mk P t (j + 1) (orS m P 0 &&& (2 ^ (t + 1) - 1)) := by
  intro s
  rw [Nat.testBit_and, orS_bit, Nat.testBit_two_pow_sub_one]
  simp only [Nat.zero_testBit, Bool.false_or]
  by_cases c : s ≤ t
  · have c2 : s < t + 1 := by omega
    simp only [c, c2, decide_true, Bool.and_true, Bool.true_and, rch]
    congr 1
    funext one
    rw [h (s - one), decide_eq_true (show s - one ≤ t by omega), Bool.true_and]
  · have c2 : ¬ s < t + 1 := by omega
    simp [c, c2]
theorem Mk.get {P : List Nat} {t j m s : Nat} (h : Mk P t j m) (hs : s ≤ t) : m / 2 ^ s % 2 = if rch P j s = true then 1 else 0 := by
  have h1 := h s
  rw [decide_eq_true hs, Bool.true_and, Nat.testBit_eq_decide_div_mod_eq] at h1
  by_cases c : rch P j s = true
  · rw [c] at h1
    rw [if_pos c]
    exact of_decide_eq_true h1
  · rw [if_neg c]
    have : rch P j s = false := by simpa using c
    rw [this] at h1
    have := of_decide_eq_false h1
    omega
end Fw
namespace Fw
open PySem L2

/-! ### the least number with a sum -/
/-- the sum of the lowest j figures' powers -/
def ssum (b p : Nat) : Nat → Nat → Nat
  | 0, _ => 0
  | j + 1, m => (m / b ^ j % b) ^ p + ssum b p j (m % b ^ j)
theorem ssum_le {b p : Nat} (hb : 2 ≤ b) (hp : 1 ≤ p) : ∀ j m, fws (pwP b p) (ssum b p j m) ≤ j
  | 0, m => by rw [ssum, fws_zero (pwP_one hb)]; exact Nat.le_refl _
  | j + 1, m => by
    have ih := ssum_le hb hp j (m % b ^ j)
    rw [ssum]
    have hd : m / b ^ j % b < b := Nat.mod_lt _ (by omega)
    generalize m / b ^ j % b = d at *
    generalize ssum b p j (m % b ^ j) = s at *
    rcases Nat.eq_zero_or_pos d with z | z
    · rw [z, Nat.zero_pow (by omega), Nat.zero_add]; omega
    · have := fws_step (pwP_one (p := p) hb) (pwP_mem.mpr ⟨d, z, hd, rfl⟩) (show d ^ p ≤ d ^ p + s by omega)
      rw [Nat.add_sub_cancel_left] at this
      omega
theorem numBy_app (b : Nat) : ∀ (fs : List Nat) (a : Nat), numBy b fs a = a * b ^ fs.length + numBy b fs 0
  | [], a => by simp [numBy]
  | f :: fs, a => by
    rw [numBy, numBy_app b fs (a * b + f), numBy, numBy_app b fs (0 * b + f), List.length_cons, Nat.pow_succ]
    rw [Nat.zero_mul, Nat.zero_add, Nat.add_mul, Nat.mul_assoc, Nat.mul_comm b (b ^ fs.length)]
    omega
theorem grd_len (b p : Nat) : ∀ j s, (grd b p j s).length = j
  | 0, _ => rfl
  | j + 1, s => by simp [grd, grd_len b p j]
/-- the number told -/
def lw (b p j s : Nat) : Nat := numBy b (grd b p j s) 0
theorem lw_succ (b p j s : Nat) : lw b p (j + 1) s = lstK b p s * b ^ j + lw b p j (s - lstK b p s ^ p) := by
  unfold lw
  rw [grd, numBy, numBy_app, grd_len, Nat.zero_mul, Nat.zero_add]
theorem lw_lt {b p : Nat} (hb : 2 ≤ b) : ∀ j s, fws (pwP b p) s = j → lw b p j s < b ^ j
  | 0, s, _ => by simp [lw, grd, numBy]
  | j + 1, s, h => by
    have hs : 0 < s := by
      rcases Nat.eq_zero_or_pos s with z | z
      · rw [z, fws_zero (pwP_one hb)] at h; omega
      · exact z
    obtain ⟨h1, h2, h3, h4, _⟩ := lstK_ok (p := p) hb hs
    have ih := lw_lt (p := p) hb j (s - lstK b p s ^ p) (by omega)
    rw [lw_succ, Nat.pow_succ]
    have : (lstK b p s + 1) * b ^ j ≤ b * b ^ j := Nat.mul_le_mul_right _ (by omega)
    rw [Nat.add_mul, Nat.one_mul] at this
    rw [Nat.mul_comm (b ^ j) b]
    omega
theorem ssum_lw {b p : Nat} (hb : 2 ≤ b) : ∀ j s, fws (pwP b p) s = j → ssum b p j (lw b p j s) = s
  | 0, s, h => by
    rcases Nat.eq_zero_or_pos s with z | z
    · rw [z]; rfl
    · have := fws_pos (pwP_one (p := p) hb) z; omega
  | j + 1, s, h => by
    have hs : 0 < s := by
      rcases Nat.eq_zero_or_pos s with z | z
      · rw [z, fws_zero (pwP_one hb)] at h; omega
      · exact z
    obtain ⟨h1, h2, h3, h4, _⟩ := lstK_ok (p := p) hb hs
    have hf : fws (pwP b p) (s - lstK b p s ^ p) = j := by omega
    have ih := ssum_lw hb j _ hf
    have hl := lw_lt hb j _ hf
    have hpos : 0 < b ^ j := Nat.pow_pos (by omega)
    rw [lw_succ, ssum]
    have e1 : (lstK b p s * b ^ j + lw b p j (s - lstK b p s ^ p)) / b ^ j = lstK b p s := by
      rw [Nat.mul_comm, Nat.mul_add_div hpos, Nat.div_eq_of_lt hl, Nat.add_zero]
    have e2 : (lstK b p s * b ^ j + lw b p j (s - lstK b p s ^ p)) % b ^ j = lw b p j (s - lstK b p s ^ p) := by
      rw [Nat.mul_comm, Nat.mul_add_mod, Nat.mod_eq_of_lt hl]
    rw [e1, e2, ih, Nat.mod_eq_of_lt h2]
    omega
theorem lw_least {b p : Nat} (hb : 2 ≤ b) (hp : 1 ≤ p) : ∀ j s m, fws (pwP b p) s = j → m < b ^ j → ssum b p j m = s → lw b p j s ≤ m
  | 0, s, m, _, _, _ => by simp [lw, grd, numBy]
  | j + 1, s, m, h, hm, hs => by
    have hs0 : 0 < s := by
      rcases Nat.eq_zero_or_pos s with z | z
      · rw [z, fws_zero (pwP_one hb)] at h; omega
      · exact z
    obtain ⟨h1, h2, h3, h4, h5⟩ := lstK_ok (p := p) hb hs0
    have hpos : 0 < b ^ j := Nat.pow_pos (by omega)
    have hd : m / b ^ j < b := Nat.div_lt_of_lt_mul (by rwa [← Nat.pow_succ])
    rw [ssum, Nat.mod_eq_of_lt hd] at hs
    have hle := ssum_le hb hp j (m % b ^ j)
    have hmm := Nat.div_add_mod m (b ^ j)
    have hml := Nat.mod_lt m hpos
    generalize m / b ^ j = d at *
    generalize m % b ^ j = r at *
    have hd1 : 1 ≤ d := by
      rcases Nat.eq_zero_or_pos d with z | z
      · rw [z, Nat.zero_pow (by omega), Nat.zero_add] at hs
        rw [hs] at hle; omega
      · exact z
    have hdp : d ^ p ≤ s := by omega
    have hr : ssum b p j r = s - d ^ p := by omega
    rw [hr] at hle
    have hge := fws_step (pwP_one (p := p) hb) (pwP_mem.mpr ⟨d, hd1, hd, rfl⟩) hdp
    have hf : fws (pwP b p) (s - d ^ p) = j := by omega
    rw [lw_succ]
    rcases Nat.lt_trichotomy d (lstK b p s) with z | z | z
    · exact absurd (by omega) (h5 d hd1 z hdp)
    · have ih := lw_least hb hp j (s - d ^ p) r hf hml hr
      rw [← z]
      rw [Nat.mul_comm] at hmm
      omega
    · have hl := lw_lt (p := p) hb j (s - lstK b p s ^ p) (by omega)
      have : (lstK b p s + 1) * b ^ j ≤ d * b ^ j := Nat.mul_le_mul_right _ z
      rw [Nat.add_mul, Nat.one_mul] at this
      rw [Nat.mul_comm] at hmm
      omega
end Fw
namespace Fw
open PySem L2

/-! ### the step of a number of at most so many figures -/
theorem ssum_low {b p : Nat} : ∀ j m, ssum b p (j + 1) m = ssum b p j (m / b) + (m % b) ^ p
  | 0, m => by simp [ssum]
  | j + 1, m => by
    have h1 : m % b ^ (j + 1) / b = m / b % b ^ j := by rw [Nat.pow_succ, Nat.mul_comm, Nat.mod_mul_right_div_self]
    have h2 : m % b ^ (j + 1) % b = m % b := by rw [Nat.pow_succ, Nat.mul_comm, Nat.mod_mul_right_mod]
    have h3 : m / b ^ (j + 1) = m / b / b ^ j := by rw [Nat.pow_succ, Nat.mul_comm, ← Nat.div_div_eq_div_mul]
    rw [ssum, ssum_low j (m % b ^ (j + 1)), h1, h2, h3]
    show _ = (m / b / b ^ j % b) ^ p + ssum b p j (m / b % b ^ j) + (m % b) ^ p
    omega
theorem ssum_zero {b p : Nat} (hp : 1 ≤ p) : ∀ j, ssum b p j 0 = 0
  | 0 => rfl
  | j + 1 => by rw [ssum_low, Nat.zero_div, Nat.zero_mod, ssum_zero hp j, Nat.zero_pow (by omega)]
theorem st_ssum {b p : Nat} (hb : 2 ≤ b) (hb2 : b < 1000) (hp : 1 ≤ p) : ∀ j n, n < b ^ j → n < 2 ^ 160 → st b p n = ssum b p j n
  | 0, n, h, _ => by
    have : n = 0 := by simpa using h
    rw [this, st_small hb hb2 (by omega), Nat.zero_pow (by omega)]; rfl
  | j + 1, n, h, hn => by
    rw [ssum_low]
    rcases Nat.lt_or_ge n b with z | z
    · rw [st_small hb hb2 z, Nat.div_eq_of_lt z, Nat.mod_eq_of_lt z, ssum_zero hp]; omega
    · rw [st_rec hb hn z, st_ssum hb hb2 hp j (n / b) (Nat.div_lt_of_lt_mul (by rwa [Nat.pow_succ, Nat.mul_comm] at h)) (Nat.lt_of_le_of_lt (Nat.div_le_self _ _) hn)]
/-- the number told is the least one whose step is the sum -/
theorem lw_st {b p s : Nat} (hb : 2 ≤ b) (hb2 : b < 1000) (hp : 1 ≤ p) (hl : lw b p (fws (pwP b p) s) s < 2 ^ 160) : st b p (lw b p (fws (pwP b p) s) s) = s := by
  rw [st_ssum hb hb2 hp _ _ (lw_lt hb _ _ rfl) hl, ssum_lw hb _ _ rfl]
theorem lw_min {b p s n : Nat} (hb : 2 ≤ b) (hb2 : b < 1000) (hp : 1 ≤ p) (hn : n < 2 ^ 160) (h : st b p n = s) : lw b p (fws (pwP b p) s) s ≤ n := by
  rcases Nat.lt_or_ge n (b ^ fws (pwP b p) s) with z | z
  · exact lw_least hb hp _ s n rfl z (by rw [← st_ssum hb hb2 hp _ _ z hn]; exact h)
  · have := lw_lt (p := p) hb _ s rfl
    omega
end Fw
namespace Fw
open PySem L2

/-! ### least_with -/
def dLwC : DenT := (dT (dBin zGt (dName 6) (dC (.int 0))))
def dLwK : DenT := (dAndT (dT (dBin zLe (dBin zIx (dName 3) (dName 8)) (dName 6))) (dT (dBin zEq (dBin zIx (dName 4) (dBin zSub (dName 6) (dBin zIx (dName 3) (dName 8)))) (dBin zSub (dBin zIx (dName 4) (dName 6)) (dC (.int 1))))))
def dLwB1 : SDen := (sAsg 7 (dComp (iR2 (dC (.int 1)) (dName 1)) (putN 8) dLwK (dName 8) [8]))
def dLwB2 : SDen := (sDrop (dMut mAppend 5 [(dBin zIx (dName 7) (dC (.int 0)))]))
def dLwB3 : SDen := (sAsg 6 (dBin zSub (dName 6) (dBin zIx (dName 3) (dBin zIx (dName 7) (dC (.int 0))))))
def dLwB : SDen := sSeq dLwB1 (sSeq dLwB2 dLwB3)
section
variable {S0 S2 : T} {ps tb fs g : List D} {b l k y w f0 f1 : Int} {x7 : Option T}
theorem lwk_ev (h1 : zIx (.lst ps) (.int k) = some (.val (.int y))) (h2 : zIx (.lst tb) (.int l) = some (.val (.int f0))) (h3 : y ≤ l → zIx (.lst tb) (.int (l - y)) = some (.val (.int f1))) :
    dLwK [some S0, some (.frz (.int b)), some S2, some (.frz (.lst ps)), some (.lst tb), some (.lst fs), some (.frz (.int l)), x7, some (.frz (.int k))] = .ok (decide (y ≤ l) && decide (f1 = f0 - 1)) [some S0, some (.frz (.int b)), some S2, some (.frz (.lst ps)), some (.lst tb), some (.lst fs), some (.frz (.int l)), x7, some (.frz (.int k))] := by
  by_cases c : y ≤ l
  · simp [dLwK, h1, h2, h3 c, c]
  · simp [dLwK, h1, c]
theorem lwb_1 (s1 : smallI b = true) (hl : (b - 1).toNat ≤ big) (e : compL (putN 8) dLwK (dV (dName 8)) [8] (rngD 1 1 (b - 1).toNat) [] [some S0, some (.frz (.int b)), some S2, some (.frz (.lst ps)), some (.lst tb), some (.lst fs), some (.frz (.int l)), x7, none] = .ok g [some S0, some (.frz (.int b)), some S2, some (.frz (.lst ps)), some (.lst tb), some (.lst fs), some (.frz (.int l)), x7, none]) :
    dLwB1 [some S0, some (.frz (.int b)), some S2, some (.frz (.lst ps)), some (.lst tb), some (.lst fs), some (.frz (.int l)), x7, none] = .ok .next [some S0, some (.frz (.int b)), some S2, some (.frz (.lst ps)), some (.lst tb), some (.lst fs), some (.frz (.int l)), some (.lst g), none] := by
  have s0 : smallI 1 = true := by decide
  have b1 : (rngD 1 1 (b - 1).toNat).length ≤ big := by rw [rngD_len]; exact hl
  simp [dLwB1, s0, s1, b1, e, -Int.pred_toNat]
theorem lwb_2 (h1 : zIx (.lst g) (.int 0) = some (.val (.int k))) (h2 : zIx (.lst ps) (.int k) = some (.val (.int y))) (hl : fs.length < big) (hw : l - y = w) :
    sSeq dLwB2 dLwB3 [some S0, some (.frz (.int b)), some S2, some (.frz (.lst ps)), some (.lst tb), some (.lst fs), some (.frz (.int l)), some (.lst g), none] = .ok .next [some S0, some (.frz (.int b)), some S2, some (.frz (.lst ps)), some (.lst tb), some (.lst (fs ++ [.int k])), some (.frz (.int w)), some (.lst g), none] := by
  simp [dLwB2, dLwB3, h1, h2, mAppend_ok hl, hw]
end
end Fw
namespace Fw
open PySem L2
/-- the first that passes, of a range -/
theorem rng_first {f : D → Bool} {lo : Int} {n j : Nat} (hj : j < n) (h : f (.int (lo + (j : Int) * 1)) = true) (hn : ∀ i, i < j → f (.int (lo + (i : Int) * 1)) = false) : ((rngD lo 1 n).filter f)[0]? = some (.int (lo + (j : Int) * 1)) := by
  rw [← List.head?_eq_getElem?, List.head?_filter]
  have e : rngD lo 1 n = (rngD lo 1 n).take j ++ (rngD lo 1 n).drop j := (List.take_append_drop j _).symm
  have hjd : (rngD lo 1 n)[j]? = some (.int (lo + (j : Int) * 1)) := by simp [rngD, List.getElem?_range hj]
  have hdrop : (rngD lo 1 n).drop j = .int (lo + (j : Int) * 1) :: (rngD lo 1 n).drop (j + 1) := by
    have hlt : j < (rngD lo 1 n).length := by rw [rngD_len]; exact hj
    rw [List.drop_eq_getElem_cons hlt]
    congr 1
    rw [List.getElem?_eq_getElem hlt] at hjd
    exact Option.some.inj hjd
  rw [e, List.find?_append, hdrop, List.find?_cons, h]
  have : ((rngD lo 1 n).take j).find? f = none := by
    apply List.find?_eq_none.mpr
    intro d hd
    obtain ⟨i, hi⟩ := List.getElem?_of_mem hd
    rw [List.getElem?_take] at hi
    split at hi
    · rename_i c
      obtain ⟨_, rfl⟩ := rngD_at hi
      rw [hn i c]; decide
    · cases hi
  rw [this]; rfl
end Fw
namespace Fw
open PySem L2
def lwT (b p l : Nat) : D → Bool := fun d => match d with
  | .int k => decide (k.toNat ^ p ≤ l) && decide (fws (pwP b p) (l - k.toNat ^ p) + 1 = fws (pwP b p) l)
  | _ => false
theorem lwb_ev {S0 S2 : T} {b p t l : Nat} {fs : List D} {x7 : Option T} (hb : 2 ≤ b) (hb2 : b ≤ 1000) (hl : 0 < l) (hlt : l ≤ t) (hfs : fs.length < big) :
    ∃ y7, dLwB [some S0, some (.frz (.int b)), some S2, some (.frz (.lst (nats (pwl b p)))), some (.lst (nats (tbF (pwP b p) (t + 1)))), some (.lst fs), some (.frz (.int l)), x7, none] = .ok .next [some S0, some (.frz (.int b)), some S2, some (.frz (.lst (nats (pwl b p)))), some (.lst (nats (tbF (pwP b p) (t + 1)))), some (.lst (fs ++ [.int (lstK b p l : Nat)])), some (.frz (.int (l - lstK b p l ^ p : Nat))), y7, none] := by
  obtain ⟨h1, h2, h3, h4, h5⟩ := lstK_ok (p := p) hb hl
  have cf := compL_filter (put := putN 8) (c := dLwK) (e := dV (dName 8)) (vs := [8]) (Γ := [some S0, some (.frz (.int b)), some S2, some (.frz (.lst (nats (pwl b p)))), some (.lst (nats (tbF (pwP b p) (t + 1)))), some (.lst fs), some (.frz (.int l)), x7, none]) (lwT b p l) id (rngD 1 1 (b - 1)) (by
    intro d hd
    obtain ⟨j, hj⟩ := List.getElem?_of_mem hd
    obtain ⟨hjb, rfl⟩ := rngD_at hj
    have hz : (1 : Int) + (j : Int) * 1 = ((j + 1 : Nat) : Int) := by omega
    rw [hz]
    have ce := lwk_ev (S0 := S0) (S2 := S2) (b := (b : Int)) (fs := fs) (x7 := x7) (k := ((j + 1 : Nat) : Int)) (l := (l : Int)) (f1 := (fws (pwP b p) (l - (j + 1) ^ p) : Nat)) (zIx_nats (pwl_at (b := b) (p := p) (show j + 1 < b by omega)) rfl) (zIx_nats (tbF_at (P := pwP b p) (m := t + 1) (show l < t + 1 by omega)) rfl) (fun hle => zIx_nats (tbF_at (P := pwP b p) (m := t + 1) (show l - (j + 1) ^ p < t + 1 by omega)) (by omega))
    have hT : (decide ((((j + 1) ^ p : Nat) : Int) ≤ (l : Int)) && decide (((fws (pwP b p) (l - (j + 1) ^ p) : Nat) : Int) = ((fws (pwP b p) l : Nat) : Int) - 1)) = lwT b p l (.int ((j + 1 : Nat) : Int)) := by
      show _ = (decide (((j + 1 : Nat) : Int).toNat ^ p ≤ l) && decide (fws (pwP b p) (l - ((j + 1 : Nat) : Int).toNat ^ p) + 1 = fws (pwP b p) l))
      rw [Int.toNat_natCast]
      congr 1
      · exact decide_eq_decide.mpr (by omega)
      · exact decide_eq_decide.mpr (by omega)
    rw [hT] at ce
    exact ⟨_, _, rfl, ce, fun _ => rfl, fun _ => ⟨_, rfl, rfl⟩⟩) []
  rw [List.nil_append, List.map_id] at cf
  have hfirst : ((rngD 1 1 (b - 1)).filter (lwT b p l))[0]? = some (.int (lstK b p l : Nat)) := by
    have := rng_first (f := lwT b p l) (lo := 1) (n := b - 1) (j := lstK b p l - 1) (by omega) ?_ ?_
    · rw [this]; exact congrArg (fun x => some (D.int x)) (by omega)
    · have hz : (1 : Int) + ((lstK b p l - 1 : Nat) : Int) * 1 = ((lstK b p l : Nat) : Int) := by omega
      rw [hz]
      show (decide (((lstK b p l : Nat) : Int).toNat ^ p ≤ l) && decide (fws (pwP b p) (l - ((lstK b p l : Nat) : Int).toNat ^ p) + 1 = fws (pwP b p) l)) = true
      rw [Int.toNat_natCast, decide_eq_true h3, decide_eq_true h4]; rfl
    · intro i hi
      have hz : (1 : Int) + (i : Int) * 1 = ((i + 1 : Nat) : Int) := by omega
      rw [hz]
      show (decide (((i + 1 : Nat) : Int).toNat ^ p ≤ l) && decide (fws (pwP b p) (l - ((i + 1 : Nat) : Int).toNat ^ p) + 1 = fws (pwP b p) l)) = false
      rw [Int.toNat_natCast]
      by_cases c : (i + 1) ^ p ≤ l
      · rw [decide_eq_false (h5 (i + 1) (by omega) (by omega) c), Bool.and_false]
      · rw [decide_eq_false c, Bool.false_and]
  have hbn : ((b : Int) - 1).toNat = b - 1 := by omega
  have c1 := lwb_1 (b := (b : Int)) (small_of (by omega) (by omega)) (by rw [big]; omega) (by rw [hbn]; exact cf)
  have c2 := lwb_2 (S0 := S0) (S2 := S2) (b := (b : Int)) (tb := nats (tbF (pwP b p) (t + 1))) (fs := fs) (l := (l : Int)) (w := ((l - lstK b p l ^ p : Nat) : Int)) (zIx_l (k := 0) hfirst rfl) (zIx_nats (pwl_at (b := b) (p := p) h2) rfl) hfs (by omega)
  refine ⟨some (.lst ((rngD 1 1 (b - 1)).filter (lwT b p l))), ?_⟩
  rw [dLwB, sSeq_ap, c1]
  exact c2
end Fw
namespace Fw
open PySem L2
theorem lwc_ev {S0 S1 S2 S3 S4 S5 : T} {l : Int} {x7 : Option T} : dLwC [some S0, some S1, some S2, some S3, some S4, some S5, some (.frz (.int l)), x7, none] = .ok (decide (0 < l)) [some S0, some S1, some S2, some S3, some S4, some S5, some (.frz (.int l)), x7, none] := by simp [dLwC]
theorem lw_loop {S0 S2 : T} {b p t : Nat} {x7 : Option T} (hb : 2 ≤ b) (hb2 : b ≤ 1000) (ht : t ≤ 1000000) :
    ∃ y7, whileN dLwC dLwB fuel [some S0, some (.frz (.int b)), some S2, some (.frz (.lst (nats (pwl b p)))), some (.lst (nats (tbF (pwP b p) (t + 1)))), some (.lst []), some (.frz (.int t)), x7, none] = .ok .next [some S0, some (.frz (.int b)), some S2, some (.frz (.lst (nats (pwl b p)))), some (.lst (nats (tbF (pwP b p) (t + 1)))), some (.lst (nats (grd b p (fws (pwP b p) t) t))), some (.frz (.int 0)), y7, none] := by
  have hft : fws (pwP b p) t ≤ t := (fws_spec (pwP_one hb) t).2.1
  obtain ⟨Γ', e, y7, rfl⟩ := whileN_ind (c := dLwC) (b := dLwB)
    (fun m Γ => ∃ (fs : List Nat) (x7 : Option T), m ≤ t ∧ fs ++ grd b p (fws (pwP b p) m) m = grd b p (fws (pwP b p) t) t ∧ Γ = [some S0, some (.frz (.int b)), some S2, some (.frz (.lst (nats (pwl b p)))), some (.lst (nats (tbF (pwP b p) (t + 1)))), some (.lst (nats fs)), some (.frz (.int (m : Nat))), x7, none])
    (fun Γ => ∃ y7, Γ = [some S0, some (.frz (.int b)), some S2, some (.frz (.lst (nats (pwl b p)))), some (.lst (nats (tbF (pwP b p) (t + 1)))), some (.lst (nats (grd b p (fws (pwP b p) t) t))), some (.frz (.int 0)), y7, none])
    (by
      rintro m Γ ⟨fs, x7, hm, hf, rfl⟩
      rcases Nat.eq_zero_or_pos m with z | z
      · subst z
        rw [fws_zero (pwP_one hb), grd, List.append_nil] at hf
        subst hf
        exact .inl ⟨_, by rw [lwc_ev]; rfl, x7, rfl⟩
      · have hlen : (nats fs).length < big := by
          have := congrArg List.length hf
          rw [List.length_append, grd_len, grd_len] at this
          rw [nats_len, big]; omega
        obtain ⟨y7, e⟩ := lwb_ev (S0 := S0) (S2 := S2) (p := p) (t := t) (x7 := x7) hb hb2 z hm hlen
        obtain ⟨h1, h2, h3, h4, _⟩ := lstK_ok (p := p) hb z
        have hpos : 0 < lstK b p m ^ p := Nat.pow_pos (by omega)
        refine .inr ⟨_, _, m - lstK b p m ^ p, by rw [lwc_ev, decide_eq_true (show (0 : Int) < (m : Int) by omega)], .inl e, by omega, fs ++ [lstK b p m], y7, by omega, ?_, by rw [nats_app]; rfl⟩
        rw [← hf, ← h4, List.append_assoc]
        rfl)
    t [some S0, some (.frz (.int b)), some S2, some (.frz (.lst (nats (pwl b p)))), some (.lst (nats (tbF (pwP b p) (t + 1)))), some (.lst []), some (.frz (.int t)), x7, none] fuel (by have : fuel = 1000000000000 := rfl; omega) ⟨[], x7, Nat.le_refl _, rfl, rfl⟩
  exact ⟨y7, e⟩
end Fw
namespace Fw
open PySem L2
def dLw1 : SDen := (sAsg 3 (dCall dPws [.v (dName 1), .v (dName 2)]))
def dLw2 : SDen := (sIf (dT (dBin zGt (dName 0) (dBin zMul (dC (.int 40)) (dBin zIx (dName 3) (dUn zNeg (dC (.int 1))))))) (sRet (dC .non)) sNext)
def dLw3 : SDen := (sAsg 4 (dCall dFew [.v (dName 0), .v (dName 3)]))
def dLw4 : SDen := (sIf (dT (dBin zGt (dBin zIx (dName 4) (dName 0)) (dC (.int 40)))) (sRet (dC .non)) sNext)
def dLw8 : SDen := (sRet (dCall dNumBy [.v (dName 5), .v (dName 1)]))
def dLw : FDen := dFun 9 [false, false, false]
  (sSeq dLw1 (sSeq dLw2 (sSeq dLw3 (sSeq dLw4 (sSeq (sAsg 5 (dLst [])) (sSeq (sAsg 6 (dName 0)) (sSeq (sWhile dLwC dLwB) dLw8)))))))
section
variable {t b p w v f : Int} {P tb : List D} {o : List T}
theorem lw1 (e : dPws [.frz (.int b), .frz (.int p)] = .ok (.lst P) o) : dLw1 [some (.frz (.int t)), some (.frz (.int b)), some (.frz (.int p)), none, none, none, none, none, none] = .ok .next [some (.frz (.int t)), some (.frz (.int b)), some (.frz (.int p)), some (.lst P), none, none, none, none, none] := by
  simp [dLw1, e, putd2]
theorem lw2a (h1 : zIx (.lst P) (.int (-1)) = some (.val (.int w))) (h2 : zMul (.int 40) (.int w) = some (.val (.int v))) (h : v < t) : dLw2 [some (.frz (.int t)), some (.frz (.int b)), some (.frz (.int p)), some (.lst P), none, none, none, none, none] = .ok (.ret (.frz .non)) [some (.frz (.int t)), some (.frz (.int b)), some (.frz (.int p)), some (.lst P), none, none, none, none, none] := by
  simp [dLw2, h1, h2, h]
theorem lw2b (h1 : zIx (.lst P) (.int (-1)) = some (.val (.int w))) (h2 : zMul (.int 40) (.int w) = some (.val (.int v))) (h : ¬ v < t) : dLw2 [some (.frz (.int t)), some (.frz (.int b)), some (.frz (.int p)), some (.lst P), none, none, none, none, none] = .ok .next [some (.frz (.int t)), some (.frz (.int b)), some (.frz (.int p)), some (.lst P), none, none, none, none, none] := by
  simp [dLw2, h1, h2, h]
theorem lw3 (e : dFew [.frz (.int t), .frz (.lst P)] = .ok (.lst tb) o) : dLw3 [some (.frz (.int t)), some (.frz (.int b)), some (.frz (.int p)), some (.lst P), none, none, none, none, none] = .ok .next [some (.frz (.int t)), some (.frz (.int b)), some (.frz (.int p)), some (.frz (.lst P)), some (.lst tb), none, none, none, none] := by
  simp [dLw3, e, putd2]
theorem lw4a (h1 : zIx (.lst tb) (.int t) = some (.val (.int f))) (h : 40 < f) : dLw4 [some (.frz (.int t)), some (.frz (.int b)), some (.frz (.int p)), some (.frz (.lst P)), some (.lst tb), none, none, none, none] = .ok (.ret (.frz .non)) [some (.frz (.int t)), some (.frz (.int b)), some (.frz (.int p)), some (.frz (.lst P)), some (.lst tb), none, none, none, none] := by
  simp [dLw4, h1, h]
theorem lw4b (h1 : zIx (.lst tb) (.int t) = some (.val (.int f))) (h : ¬ 40 < f) : dLw4 [some (.frz (.int t)), some (.frz (.int b)), some (.frz (.int p)), some (.frz (.lst P)), some (.lst tb), none, none, none, none] = .ok .next [some (.frz (.int t)), some (.frz (.int b)), some (.frz (.int p)), some (.frz (.lst P)), some (.lst tb), none, none, none, none] := by
  simp [dLw4, h1, h]
end
end Fw
namespace Fw
open PySem L2
/-- what least_with tells: the number, or None -/
def lwD (b p t : Nat) : D := if 40 * (b - 1) ^ p < t then .non else if 40 < fws (pwP b p) t then .non else .int (lw b p (fws (pwP b p) t) t : Nat)
theorem lw_tail {b p t : Int} {P tb fs : List D} {r : Int} {y7 : Option T} {o : List T} (e : whileN dLwC dLwB fuel [some (.frz (.int t)), some (.frz (.int b)), some (.frz (.int p)), some (.frz (.lst P)), some (.lst tb), some (.lst []), some (.frz (.int t)), none, none] = .ok .next [some (.frz (.int t)), some (.frz (.int b)), some (.frz (.int p)), some (.frz (.lst P)), some (.lst tb), some (.lst fs), some (.frz (.int 0)), y7, none])
    (e2 : dNumBy [.frz (.lst fs), .frz (.int b)] = .ok (.frz (.int r)) o) : ∃ Γ, sSeq (sAsg 5 (dLst [])) (sSeq (sAsg 6 (dName 0)) (sSeq (sWhile dLwC dLwB) dLw8)) [some (.frz (.int t)), some (.frz (.int b)), some (.frz (.int p)), some (.frz (.lst P)), some (.lst tb), none, none, none, none] = .ok (.ret (.frz (.int r))) Γ := by
  refine ⟨[some (.frz (.int t)), some (.frz (.int b)), some (.frz (.int p)), some (.frz (.lst P)), some (.lst tb), some (.frz (.lst fs)), some (.frz (.int 0)), y7, none], ?_⟩
  simp [e, dLw8, e2, putd2]
theorem lw_ev {b p t : Nat} (hb : 2 ≤ b) (hb2 : b ≤ 900) (hp : p ≤ 1000) (ht : t ≤ 1000000) : ∃ o, dLw [.frz (.int t), .frz (.int b), .frz (.int p)] = .ok (.frz (lwD b p t)) o := by
  have e1 := lw1 (t := (t : Int)) (pws_ev (b := b) (p := p) (by omega) (by omega))
  have hw : zMul (.int 40) (.int (((b - 1) ^ p : Nat) : Int)) = some (.val (.int ((40 * (b - 1) ^ p : Nat) : Int))) := by rw [zMul_i (mulOk_l (by decide))]; simp
  have hlast := pwl_last (b := b) (p := p) (by omega)
  refine ⟨[.frz (.int t), .frz (.int b), .frz (.int p)], ?_⟩
  simp only [dLw, dFun_ap, List.map_cons, List.map_nil, List.length_cons, List.length_nil, List.replicate, List.cons_append, List.nil_append, sSeq_ap (s := dLw1), e1]
  by_cases c : 40 * (b - 1) ^ p < t
  · simp only [sSeq_ap (s := dLw2), lw2a hlast hw (show ((40 * (b - 1) ^ p : Nat) : Int) < (t : Int) by omega), lwD, if_pos c]
    simp
  · have e3 := lw3 (b := (b : Int)) (p := (p : Int)) (few_ev (ps := pwl b p) (n := t) (pwP_one hb) pwP_pos ht (by rw [pwl_len]; omega))
    have hz : zIx (.lst (nats (tbF ((pwl b p).drop 1) (t + 1)))) (.int (t : Int)) = some (.val (.int (fws (pwP b p) t : Nat))) := zIx_nats (tbF_at (P := pwP b p) (m := t + 1) (show t < t + 1 by omega)) rfl
    simp only [sSeq_ap (s := dLw2), lw2b hlast hw (show ¬ ((40 * (b - 1) ^ p : Nat) : Int) < (t : Int) by omega), sSeq_ap (s := dLw3), e3, lwD, if_neg c]
    by_cases c2 : 40 < fws (pwP b p) t
    · simp only [sSeq_ap (s := dLw4), lw4a hz (show (40 : Int) < ((fws (pwP b p) t : Nat) : Int) by omega), if_pos c2]
      simp
    · simp only [sSeq_ap (s := dLw4), lw4b hz (show ¬ (40 : Int) < ((fws (pwP b p) t : Nat) : Int) by omega), if_neg c2]
      obtain ⟨y7, e⟩ := lw_loop (S0 := .frz (.int t)) (S2 := .frz (.int p)) (p := p) (x7 := none) hb (by omega) ht
      obtain ⟨Γ, e5⟩ := lw_tail e (numBy_ev (b := b) (by omega) _)
      have e5' : sSeq (sAsg 5 (dLst [])) (sSeq (sAsg 6 (dName 0)) (sSeq (sWhile dLwC dLwB) dLw8)) [some (.frz (.int t)), some (.frz (.int b)), some (.frz (.int p)), some (.frz (.lst (nats (pwl b p)))), some (.lst (nats (tbF ((pwl b p).drop 1) (t + 1)))), none, none, none, none] = _ := e5
      simp only [e5']
      simp [lw]
end Fw
namespace Fw
open PySem L2
/-- _law_same over numbers and None (its branch for tuples is not reached) -/
def dSame : FDen := dFun 4 [false, false]
  (sSeq (sIf (dT (dUn zIsN (dName 1))) (sRet (dUn zIsN (dName 0))) sNext)
  (sSeq (sIf (dT (dB zIsi [(dName 1), (dC (.ty "tuple"))])) (sSeq sNever sNever) sNext)
  (sSeq (sIf (dT (dB zIsi [(dName 1), (dC (.ty "str"))])) (sRet (dAnd (dB zIsi [(dName 0), (dC (.ty "str"))]) (dBin zEq (dName 0) (dName 1)))) sNext)
  (sRet (dAnd (dB zIsi [(dName 0), (dC (.ty "int"))]) (dAnd (dNot (dB zIsi [(dName 0), (dC (.ty "bool"))])) (dBin zEq (dName 0) (dName 1))))))))
theorem same_non : dSame [.frz .non, .frz .non] = .ok (.frz (.bl true)) [.frz .non, .frz .non] := by
  have i1 : zIsN .non = some (.val (.bl true)) := rfl
  simp [dSame, i1]
theorem same_int (x : Int) : dSame [.frz (.int x), .frz (.int x)] = .ok (.frz (.bl true)) [.frz (.int x), .frz (.int x)] := by
  have i1 : zIsN (.int x) = some (.val (.bl false)) := rfl
  have i2 : zIsi [.int x, .ty "tuple"] = some (.val (.bl false)) := rfl
  have i3 : zIsi [.int x, .ty "str"] = some (.val (.bl false)) := rfl
  have i4 : zIsi [.int x, .ty "int"] = some (.val (.bl true)) := rfl
  have i5 : zIsi [.int x, .ty "bool"] = some (.val (.bl false)) := rfl
  simp [dSame, i1, i2, i3, i4, i5]
theorem same_lw (b p t : Nat) : dSame [.frz (lwD b p t), .frz (lwD b p t)] = .ok (.frz (.bl true)) [.frz (lwD b p t), .frz (lwD b p t)] := by
  unfold lwD
  split
  · exact same_non
  · split
    · exact same_non
    · exact same_int _
end Fw
namespace Fw
open PySem L2

/-! ### the law's step by the powers told -/
def dPSt1 : SDen := (sAsg 2 (dBin zAdd (dName 2) (dBin zIx (dName 1) (dBin zMod (dName 0) (dB zLen [(dName 1)])))))
def dPSt2 : SDen := (sAsg 0 (dBin zDiv (dName 0) (dB zLen [(dName 1)])))
def dPStC : DenT := (dT (dBin zGt (dName 0) (dC (.int 0))))
def dPStB : SDen := sSeq dPSt1 dPSt2
def dPSt : FDen := dFun 3 [false, false] (sSeq (sAsg 2 (dC (.int 0))) (sSeq (sWhile dPStC dPStB) (sRet (dName 2))))
section
variable {n t b q r y : Int} {P : List D} {S1 S2 : T} {L : D}
theorem pst_b (hl : ((P.length : Nat) : Int) = b) (hm : zMod (.int n) (.int b) = some (.val (.int r))) (hd : zDiv (.int n) (.int b) = some (.val (.int q))) (hy : zIx (.lst P) (.int r) = some (.val (.int y))) :
    dPStB [some (.frz (.int n)), some (.frz (.lst P)), some (.frz (.int t))] = .ok .next [some (.frz (.int q)), some (.frz (.lst P)), some (.frz (.int (t + y)))] := by
  simp [dPStB, dPSt1, dPSt2, hl, hm, hd, hy]
theorem pst_c : dPStC [some (.frz (.int n)), some S1, some S2] = .ok (decide (0 < n)) [some (.frz (.int n)), some S1, some S2] := by simp [dPStC]
theorem pst_out (e : whileN dPStC dPStB fuel [some (.frz (.int n)), some (.frz L), some (.frz (.int 0))] = .ok .next [some (.frz (.int q)), some (.frz L), some (.frz (.int t))]) : dPSt [.frz (.int n), .frz L] = .ok (.frz (.int t)) [.frz (.int n), .frz L] := by
  simp [dPSt, e]
end
theorem st_z {b p : Nat} (hb : 2 ≤ b) (hb2 : b < 1000) (hp : 1 ≤ p) : st b p 0 = 0 := by
  rw [st_small hb hb2 (by omega), Nat.zero_pow (by omega)]
theorem st_rec0 {b p n : Nat} (hb : 2 ≤ b) (hb2 : b < 1000) (hp : 1 ≤ p) (hn : n < 2 ^ 160) : st b p n = st b p (n / b) + (n % b) ^ p := by
  rcases Nat.lt_or_ge n b with z | z
  · rw [st_small hb hb2 z, Nat.div_eq_of_lt z, Nat.mod_eq_of_lt z, st_z hb hb2 hp]; omega
  · exact st_rec hb hn z
theorem pst_ev {b p n : Nat} (hb : 2 ≤ b) (hb2 : b < 1000) (hp : 1 ≤ p) (hn : n ≤ 1000000000) : dPSt [.frz (.int n), .frz (.lst (nats (pwl b p)))] = .ok (.frz (.int (st b p n : Nat))) [.frz (.int n), .frz (.lst (nats (pwl b p)))] := by
  obtain ⟨Γ', e, rfl⟩ := whileN_ind (c := dPStC) (b := dPStB)
    (fun m Γ => ∃ t : Nat, m ≤ n ∧ t + st b p m = st b p n ∧ Γ = [some (.frz (.int (m : Nat))), some (.frz (.lst (nats (pwl b p)))), some (.frz (.int (t : Nat)))])
    (fun Γ => Γ = [some (.frz (.int 0)), some (.frz (.lst (nats (pwl b p)))), some (.frz (.int (st b p n : Nat)))])
    (by
      rintro m Γ ⟨t, hm, ht, rfl⟩
      rcases Nat.eq_zero_or_pos m with z | z
      · subst z
        rw [st_z hb hb2 hp, Nat.add_zero] at ht
        subst ht
        exact .inl ⟨_, by rw [pst_c]; rfl, rfl⟩
      · have hlt : m % b < b := Nat.mod_lt _ (by omega)
        have hdv : m / b < m := Nat.div_lt_self z (by omega)
        have hr := st_rec0 (n := m) hb hb2 hp (lt160 (by omega))
        have c := pst_b (n := (m : Int)) (t := (t : Int)) (b := (b : Int)) (q := ((m / b : Nat) : Int)) (r := ((m % b : Nat) : Int)) (y := (((m % b) ^ p : Nat) : Int)) (P := nats (pwl b p)) (by rw [nats_len, pwl_len]) (by rw [zMod_i (by omega), ← Int.natCast_emod]) (by rw [zDiv_i (by omega) (nat64 (by omega)), ← Int.natCast_ediv]) (zIx_nats (pwl_at hlt) rfl)
        refine .inr ⟨_, _, m / b, by rw [pst_c, decide_eq_true (show (0 : Int) < (m : Int) by omega)], .inl c, hdv, t + (m % b) ^ p, by omega, by omega, ?_⟩
        rw [Int.natCast_add])
    n [some (.frz (.int n)), some (.frz (.lst (nats (pwl b p)))), some (.frz (.int 0))] fuel (by have : fuel = 1000000000000 := rfl; omega) ⟨0, Nat.le_refl _, by omega, rfl⟩
  exact pst_out e
/-! ### bounds -/
theorem rch_le {P : List Nat} {M : Nat} (h : ∀ y ∈ P, y ≤ M) : ∀ j s, rch P j s = true → s ≤ j * M
  | 0, s, e => by simp [rch] at e; omega
  | j + 1, s, e => by
    obtain ⟨y, hy, h1, h2⟩ := rch_succ.mp e
    have := rch_le h j _ h2
    have := h y hy
    rw [Nat.succ_mul]; omega
theorem pwP_le {b p : Nat} : ∀ y ∈ pwP b p, y ≤ (b - 1) ^ p := by
  intro y hy
  obtain ⟨k, h1, h2, rfl⟩ := pwP_mem.mp hy
  exact Nat.pow_le_pow_left (by omega) _
theorem fws_big {b p s : Nat} (hb : 2 ≤ b) (h : 40 * (b - 1) ^ p < s) : 40 < fws (pwP b p) s := by
  have := rch_le (pwP_le (b := b) (p := p)) _ _ (fws_spec (pwP_one (p := p) hb) s).1
  rcases Nat.lt_or_ge 40 (fws (pwP b p) s) with z | z
  · exact z
  · have := Nat.mul_le_mul_right ((b - 1) ^ p) z
    omega
theorem lwD_if {b p s : Nat} (hb : 2 ≤ b) : lwD b p s = if 40 < fws (pwP b p) s then .non else .int (lw b p (fws (pwP b p) s) s : Nat) := by
  unfold lwD
  by_cases c : 40 * (b - 1) ^ p < s
  · rw [if_pos c, if_pos (fws_big hb c)]
  · rw [if_neg c]
theorem ssum_max {b p : Nat} (hb : 2 ≤ b) : ∀ j m, ssum b p j m ≤ j * (b - 1) ^ p
  | 0, m => by simp [ssum]
  | j + 1, m => by
    have h1 : (m / b ^ j % b) ^ p ≤ (b - 1) ^ p := Nat.pow_le_pow_left (by have := Nat.mod_lt (m / b ^ j) (show b > 0 by omega); omega) _
    have := ssum_max (p := p) hb j (m % b ^ j)
    rw [ssum, Nat.succ_mul]; omega
theorem st_bound {b p n j : Nat} (hb : 2 ≤ b) (hb2 : b < 1000) (hp : 1 ≤ p) (hn : n < 2 ^ j) (hj : j ≤ 160) : st b p n ≤ j * (b - 1) ^ p := by
  have h1 : n < b ^ j := Nat.lt_of_lt_of_le hn (Nat.pow_le_pow_left hb _)
  rw [st_ssum hb hb2 hp j n h1 (Nat.lt_of_lt_of_le hn (Nat.pow_le_pow_right (by decide) hj))]
  exact ssum_max hb j n
theorem pwP_drop (b p : Nat) : (nats (pwl b p)).drop 1 = nats (pwP b p) := by unfold pwP nats; rw [List.map_drop]
end Fw
namespace Fw
open PySem L2

/-! ### the law's own least number: marks of the sums -/
def dDueC : DenT := (dAndT (dT (dBin zLt (dB zLen [(dName 2)]) (dC (.int 42)))) (dT (dBin zEq (dBin zAnd (dBin zShr (dBin zIx (dName 2) (dUn zNeg (dC (.int 1)))) (dName 0)) (dC (.int 1))) (dC (.int 0)))))
def dDueI : SDen := (sAsg 3 (dBin zOr (dName 3) (dBin zShl (dBin zIx (dName 2) (dUn zNeg (dC (.int 1)))) (dName 4))))
def dDueL : SDen := (sFor (iLst (dSl zSl (dName 1) (some (dC (.int 1))) none)) (putN 4) dDueI)
def dDueA : SDen := (sDrop (dMut mAppend 2 [(dBin zAnd (dName 3) (dBin zSub (dBin zShl (dC (.int 1)) (dBin zAdd (dName 0) (dC (.int 1)))) (dC (.int 1))))]))
def dDueB : SDen := sSeq (sAsg 3 (dC (.int 0))) (sSeq dDueL dDueA)
section
variable {t l m s a v w u one : Int} {P Q R : List D} {x3 x4 : Option T}
theorem due_c (hl : ((R.length : Nat) : Int) = l) (h1 : zIx (.lst R) (.int (-1)) = some (.val (.int m))) (h2 : zShr (.int m) (.int t) = some (.val (.int s))) (h3 : zAnd (.int s) (.int 1) = some (.val (.int a))) :
    dDueC [some (.frz (.int t)), some (.frz (.lst P)), some (.lst R), x3, x4, none, none, none, none] = .ok (decide (l < 42) && decide (a = 0)) [some (.frz (.int t)), some (.frz (.lst P)), some (.lst R), x3, x4, none, none, none, none] := by
  by_cases c : l < 42
  · simp [dDueC, hl, h1, h2, h3, c]
  · simp [dDueC, hl, c]
theorem due_i (h1 : zIx (.lst R) (.int (-1)) = some (.val (.int m))) (h2 : zShl (.int m) (.int one) = some (.val (.int v))) (h3 : zOr (.int a) (.int v) = some (.val (.int w))) :
    dDueI [some (.frz (.int t)), some (.frz (.lst P)), some (.lst R), some (.frz (.int a)), some (.frz (.int one)), none, none, none, none] = .ok .next [some (.frz (.int t)), some (.frz (.lst P)), some (.lst R), some (.frz (.int w)), some (.frz (.int one)), none, none, none, none] := by
  simp [dDueI, h1, h2, h3]
theorem due_b {x y : Option T} (hc : cutD P (some 1) none = Q)
    (e : forL (putN 4) dDueI Q [some (.frz (.int t)), some (.frz (.lst P)), some (.lst R), some (.frz (.int 0)), x4, none, none, none, none] = .ok .next [some (.frz (.int t)), some (.frz (.lst P)), some (.lst R), some (.frz (.int w)), y, none, none, none, none])
    (h1 : zShl (.int 1) (.int (t + 1)) = some (.val (.int v))) (h2 : v - 1 = s) (h3 : zAnd (.int w) (.int s) = some (.val (.int u))) (hR : R.length < big) :
    dDueB [some (.frz (.int t)), some (.frz (.lst P)), some (.lst R), x3, x4, none, none, none, none] = .ok .next [some (.frz (.int t)), some (.frz (.lst P)), some (.lst (R ++ [.int u])), some (.frz (.int w)), y, none, none, none, none] := by
  simp [dDueB, dDueL, dDueA, hc, e, h1, h2, h3, mAppend_ok hR]
end
theorem due_in {t : Int} {P R : List D} {m : Nat} (h1 : zIx (.lst R) (.int (-1)) = some (.val (.int (m : Int)))) (hm : m.log2 < 10000000) : ∀ (ones : List Nat) (a : Nat) (x4 : Option T), (∀ o ∈ ones, o ≤ 10000000) →
    ∃ y, forL (putN 4) dDueI (nats ones) [some (.frz (.int t)), some (.frz (.lst P)), some (.lst R), some (.frz (.int a)), x4, none, none, none, none] = .ok .next [some (.frz (.int t)), some (.frz (.lst P)), some (.lst R), some (.frz (.int (orS m ones a : Nat))), y, none, none, none, none]
  | [], a, x4, _ => ⟨x4, rfl⟩
  | one :: ones, a, x4, h => by
    have ho := h one (by simp)
    have h2 : zShl (.int (m : Int)) (.int (one : Int)) = some (.val (.int ((m * 2 ^ one : Nat) : Int))) := by
      rw [zShl_i (by rw [Int.natAbs_natCast]; omega), Int.natCast_mul, Int.natCast_pow]; rfl
    have e := due_i (t := t) (P := P) h1 h2 (zOr_n (a := a))
    obtain ⟨y, ih⟩ := due_in (t := t) (P := P) h1 hm ones (a ||| m * 2 ^ one) (some (.frz (.int (one : Int)))) (fun o g => h o (by simp [g]))
    refine ⟨y, ?_⟩
    have hn : nats (one :: ones) = D.int (one : Int) :: nats ones := rfl
    simp only [hn, forL, putN_ap, List.set_cons_succ, List.set_cons_zero, e, ih, orS]
theorem Mk.lt {P : List Nat} {t j m : Nat} (h : Mk P t j m) : m < 2 ^ (t + 1) := by
  apply Nat.lt_pow_two_of_testBit
  intro i hi
  rw [h i, decide_eq_false (by omega), Bool.false_and]
/-- the marks, one behind the other -/
def mks (P : List Nat) (t : Nat) : Nat → Nat
  | 0 => 1
  | j + 1 => orS (mks P t j) P 0 &&& (2 ^ (t + 1) - 1)
theorem mks_ok (P : List Nat) (t : Nat) : ∀ j, Mk P t j (mks P t j)
  | 0 => Mk.zero
  | j + 1 => (mks_ok P t j).succ
def mkL (P : List Nat) (t n : Nat) : List D := nats ((List.range n).map (mks P t))
theorem mkL_succ (P : List Nat) (t n : Nat) : mkL P t (n + 1) = mkL P t n ++ [.int (mks P t n : Nat)] := by simp [mkL, nats, List.range_succ]
theorem mkL_len (P : List Nat) (t n : Nat) : (mkL P t n).length = n := by simp [mkL, nats]
theorem zShr_n {m t : Nat} : zShr (.int (m : Int)) (.int (t : Int)) = some (.val (.int ((m / 2 ^ t : Nat) : Int))) := by
  have : (0 : Int) ≤ (t : Int) := by omega
  simp only [zShr, this, if_true, Int.toNat_natCast]
  rw [Int.natCast_ediv, Int.natCast_pow]; rfl
theorem zAnd_1 {s : Nat} : zAnd (.int (s : Int)) (.int 1) = some (.val (.int ((s % 2 : Nat) : Int))) := by
  have := zAnd_n (a := s) (b := 1)
  rwa [Nat.and_one_is_mod] at this
theorem due_while {b p t : Nat} (hb : 2 ≤ b) (hp : (b - 1) ^ p ≤ 1000000) (ht : t ≤ 1000000) :
    ∃ x3 x4, whileN dDueC dDueB fuel [some (.frz (.int t)), some (.frz (.lst (nats (pwl b p)))), some (.lst [.int 1]), none, none, none, none, none, none] = .ok .next [some (.frz (.int t)), some (.frz (.lst (nats (pwl b p)))), some (.lst (mkL (pwP b p) t ((if 40 < fws (pwP b p) t then 41 else fws (pwP b p) t) + 1))), x3, x4, none, none, none, none] := by
  have hone := pwP_one (p := p) hb
  obtain ⟨Γ', e, x3, x4, rfl⟩ := whileN_ind (c := dDueC) (b := dDueB)
    (fun m Γ => ∃ (j : Nat) (x3 x4 : Option T), m = 41 - j ∧ j ≤ 41 ∧ (∀ i, i < j → rch (pwP b p) i t = false) ∧ Γ = [some (.frz (.int t)), some (.frz (.lst (nats (pwl b p)))), some (.lst (mkL (pwP b p) t (j + 1))), x3, x4, none, none, none, none])
    (fun Γ => ∃ x3 x4, Γ = [some (.frz (.int t)), some (.frz (.lst (nats (pwl b p)))), some (.lst (mkL (pwP b p) t ((if 40 < fws (pwP b p) t then 41 else fws (pwP b p) t) + 1))), x3, x4, none, none, none, none])
    (by
      rintro m Γ ⟨j, x3, x4, rfl, hj, hr, rfl⟩
      have hk := mks_ok (pwP b p) t j
      have hg := hk.get (Nat.le_refl t)
      have hlast : zIx (.lst (mkL (pwP b p) t (j + 1))) (.int (-1)) = some (.val (.int (mks (pwP b p) t j : Nat))) := by rw [mkL_succ]; exact zIx_last
      have hc := due_c (t := (t : Int)) (P := nats (pwl b p)) (R := mkL (pwP b p) t (j + 1)) (x3 := x3) (x4 := x4) rfl hlast zShr_n zAnd_1
      rw [mkL_len, hg] at hc
      by_cases c : j < 41 ∧ rch (pwP b p) j t = false
      · obtain ⟨c1, c2⟩ := c
        refine .inr ?_
        have hlog : (mks (pwP b p) t j).log2 < 10000000 := by have := log_lt hk.lt (by omega); omega
        obtain ⟨y, e⟩ := due_in (t := (t : Int)) (P := nats (pwl b p)) hlast hlog (pwP b p) 0 x4 (fun o ho => by have := pwP_le o ho; omega)
        have hcut : cutD (nats (pwl b p)) (some 1) none = nats (pwP b p) := by
          have := cutD_from (nats (pwl b p)) 1 (by rw [nats_len, pwl_len]; omega)
          rw [pwP_drop] at this
          exact this
        have hv : zShl (.int 1) (.int ((t : Int) + 1)) = some (.val (.int (2 ^ (t + 1)))) := by
          have := zShl_i (a := 1) (n := t + 1) (by have : ((1 : Int).natAbs).log2 = 0 := by decide
                                                   omega)
          rw [Int.one_mul] at this
          rw [← this]; rfl
        have hs : (2 : Int) ^ (t + 1) - 1 = ((2 ^ (t + 1) - 1 : Nat) : Int) := by
          have : 0 < 2 ^ (t + 1) := Nat.pow_pos (by decide)
          rw [Int.natCast_sub (by omega), Int.natCast_pow]; rfl
        have eb := due_b (x := none) (x3 := x3) hcut e hv hs zAnd_n (by rw [mkL_len, big]; omega)
        refine ⟨_, _, 41 - (j + 1), by rw [hc, if_neg (by simp [c2]), decide_eq_true (show (((j + 1 : Nat) : Int)) < 42 by omega)]; rfl, .inl eb, by omega, j + 1, some (.frz (.int (orS (mks (pwP b p) t j) (pwP b p) 0 : Nat))), y, rfl, by omega, fun i hi => ?_, ?_⟩
        · rcases Nat.lt_succ_iff_lt_or_eq.mp hi with z | rfl
          · exact hr i z
          · exact c2
        · rw [mkL_succ (n := j + 1)]; rfl
      · have hff : (decide (((j + 1 : Nat) : Int) < 42) && decide (((if rch (pwP b p) j t = true then 1 else 0 : Nat) : Int) = 0)) = false := by
          by_cases c2 : rch (pwP b p) j t = true
          · rw [if_pos c2]; simp
          · have : ¬ (((j + 1 : Nat) : Int) < 42) := by
              have : ¬ j < 41 := fun g => c ⟨g, by simpa using c2⟩
              omega
            rw [decide_eq_false this, Bool.false_and]
        rw [hff] at hc
        refine .inl ⟨_, hc, x3, x4, ?_⟩
        · have hfw := fws_spec hone t
          have hj' : j = if 40 < fws (pwP b p) t then 41 else fws (pwP b p) t := by
            have hle : j ≤ fws (pwP b p) t := by
              rcases Nat.lt_or_ge (fws (pwP b p) t) j with z | z
              · have := hr _ z
                rw [hfw.1] at this; cases this
              · exact z
            by_cases c2 : rch (pwP b p) j t = true
            · have := fws_le hone c2
              have : fws (pwP b p) t = j := by omega
              rw [this]
              split <;> omega
            · have : ¬ j < 41 := fun g => c ⟨g, by simpa using c2⟩
              have : j = 41 := by omega
              rw [if_pos (by omega)]; exact this
          rw [← hj'])
    41 [some (.frz (.int t)), some (.frz (.lst (nats (pwl b p)))), some (.lst [.int 1]), none, none, none, none, none, none] fuel (by have : fuel = 1000000000000 := rfl; omega) ⟨0, none, none, rfl, by omega, fun i hi => absurd hi (by omega), rfl⟩
  exact ⟨x3, x4, e⟩
end Fw
namespace Fw
open PySem L2
def dDueK : DenT := (dAndT (dT (dBin zLe (dBin zIx (dName 1) (dName 8)) (dName 6))) (dT (dBin zEq (dBin zAnd (dBin zShr (dName 3) (dBin zSub (dName 6) (dBin zIx (dName 1) (dName 8)))) (dC (.int 1))) (dC (.int 1)))))
def dDueG1 : SDen := (sAsg 7 (dComp (iR2 (dC (.int 1)) (dB zLen [(dName 1)])) (putN 8) dDueK (dName 8) [8]))
def dDueG2 : SDen := (sDrop (dMut mAppend 5 [(dBin zIx (dName 7) (dC (.int 0)))]))
def dDueG3 : SDen := (sAsg 6 (dBin zSub (dName 6) (dBin zIx (dName 1) (dBin zIx (dName 7) (dC (.int 0))))))
def dDueG : SDen := sSeq dDueG1 (sSeq dDueG2 dDueG3)
section
variable {S0 S2 : T} {P fs g : List D} {b l k y w mk s a : Int} {x4 x7 x8 : Option T}
theorem duek_ev (h1 : zIx (.lst P) (.int k) = some (.val (.int y))) (h2 : y ≤ l → zShr (.int mk) (.int (l - y)) = some (.val (.int s))) (h3 : zAnd (.int s) (.int 1) = some (.val (.int a))) :
    dDueK [some S0, some (.frz (.lst P)), some S2, some (.frz (.int mk)), x4, some (.lst fs), some (.frz (.int l)), x7, some (.frz (.int k))] = .ok (decide (y ≤ l) && decide (a = 1)) [some S0, some (.frz (.lst P)), some S2, some (.frz (.int mk)), x4, some (.lst fs), some (.frz (.int l)), x7, some (.frz (.int k))] := by
  by_cases c : y ≤ l
  · simp [dDueK, h1, h2 c, h3, c]
  · simp [dDueK, h1, c]
theorem dueg_1 (hb : ((P.length : Nat) : Int) = b) (s1 : smallI b = true) (hl : (b - 1).toNat ≤ big) (e : compL (putN 8) dDueK (dV (dName 8)) [8] (rngD 1 1 (b - 1).toNat) [] [some S0, some (.frz (.lst P)), some S2, some (.frz (.int mk)), x4, some (.lst fs), some (.frz (.int l)), x7, none] = .ok g [some S0, some (.frz (.lst P)), some S2, some (.frz (.int mk)), x4, some (.lst fs), some (.frz (.int l)), x7, none]) :
    dDueG1 [some S0, some (.frz (.lst P)), some S2, some (.frz (.int mk)), x4, some (.lst fs), some (.frz (.int l)), x7, none] = .ok .next [some S0, some (.frz (.lst P)), some S2, some (.frz (.int mk)), x4, some (.lst fs), some (.frz (.int l)), some (.lst g), none] := by
  have s0 : smallI 1 = true := by decide
  have b1 : (rngD 1 1 (b - 1).toNat).length ≤ big := by rw [rngD_len]; exact hl
  simp [dDueG1, hb, s0, s1, b1, e, -Int.pred_toNat]
theorem dueg_2 (h1 : zIx (.lst g) (.int 0) = some (.val (.int k))) (h2 : zIx (.lst P) (.int k) = some (.val (.int y))) (hl : fs.length < big) (hw : l - y = w) :
    sSeq dDueG2 dDueG3 [some S0, some (.frz (.lst P)), some S2, some (.frz (.int mk)), x4, some (.lst fs), some (.frz (.int l)), some (.lst g), none] = .ok .next [some S0, some (.frz (.lst P)), some S2, some (.frz (.int mk)), x4, some (.lst (fs ++ [.int k])), some (.frz (.int w)), some (.lst g), none] := by
  simp [dDueG2, dDueG3, h1, h2, mAppend_ok hl, hw]
end
theorem dueg_ev {S0 S2 : T} {b p t l mk j : Nat} {fs : List D} {x4 x7 : Option T} (hb : 2 ≤ b) (hb2 : b ≤ 1000) (hj : fws (pwP b p) l = j + 1) (hlt : l ≤ t) (hm : Mk (pwP b p) t j mk) (hfs : fs.length < big) :
    ∃ y7, dDueG [some S0, some (.frz (.lst (nats (pwl b p)))), some S2, some (.frz (.int mk)), x4, some (.lst fs), some (.frz (.int l)), x7, none] = .ok .next [some S0, some (.frz (.lst (nats (pwl b p)))), some S2, some (.frz (.int mk)), x4, some (.lst (fs ++ [.int (lstK b p l : Nat)])), some (.frz (.int (l - lstK b p l ^ p : Nat))), y7, none] := by
  have hone := pwP_one (p := p) hb
  have hl : 0 < l := by
    rcases Nat.eq_zero_or_pos l with z | z
    · rw [z, fws_zero hone] at hj; omega
    · exact z
  obtain ⟨h1, h2, h3, h4, h5⟩ := lstK_ok (p := p) hb hl
  have cf := compL_filter (put := putN 8) (c := dDueK) (e := dV (dName 8)) (vs := [8]) (Γ := [some S0, some (.frz (.lst (nats (pwl b p)))), some S2, some (.frz (.int mk)), x4, some (.lst fs), some (.frz (.int l)), x7, none]) (lwT b p l) id (rngD 1 1 (b - 1)) (by
    intro d hd
    obtain ⟨i, hi⟩ := List.getElem?_of_mem hd
    obtain ⟨hib, rfl⟩ := rngD_at hi
    have hz : (1 : Int) + (i : Int) * 1 = ((i + 1 : Nat) : Int) := by omega
    rw [hz]
    have hmem : (i + 1) ^ p ∈ pwP b p := pwP_mem.mpr ⟨i + 1, by omega, by omega, rfl⟩
    have ce := duek_ev (S0 := S0) (S2 := S2) (mk := (mk : Int)) (fs := fs) (x4 := x4) (x7 := x7) (k := ((i + 1 : Nat) : Int)) (l := (l : Int)) (zIx_nats (pwl_at (b := b) (p := p) (show i + 1 < b by omega)) rfl) (fun hle => by
      have e1 : (l : Int) - (((i + 1) ^ p : Nat) : Int) = ((l - (i + 1) ^ p : Nat) : Int) := by omega
      rw [e1]; exact zShr_n) zAnd_1
    have hT : (decide ((((i + 1) ^ p : Nat) : Int) ≤ (l : Int)) && decide (((mk / 2 ^ (l - (i + 1) ^ p) % 2 : Nat) : Int) = 1)) = lwT b p l (.int ((i + 1 : Nat) : Int)) := by
      show _ = (decide (((i + 1 : Nat) : Int).toNat ^ p ≤ l) && decide (fws (pwP b p) (l - ((i + 1 : Nat) : Int).toNat ^ p) + 1 = fws (pwP b p) l))
      rw [Int.toNat_natCast]
      by_cases c : (i + 1) ^ p ≤ l
      · rw [decide_eq_true c, decide_eq_true (show ((((i + 1) ^ p : Nat) : Int) ≤ (l : Int)) by omega), Bool.true_and, Bool.true_and]
        rw [hm.get (show l - (i + 1) ^ p ≤ t by omega)]
        have hmk := fws_mark hone hmem c hj
        apply decide_eq_decide.mpr
        by_cases c2 : rch (pwP b p) j (l - (i + 1) ^ p) = true
        · have := hmk.mp c2
          rw [if_pos c2]; omega
        · have : fws (pwP b p) (l - (i + 1) ^ p) ≠ j := fun g => c2 (hmk.mpr g)
          rw [if_neg c2]; omega
      · rw [decide_eq_false c, decide_eq_false (show ¬ ((((i + 1) ^ p : Nat) : Int) ≤ (l : Int)) by omega), Bool.false_and, Bool.false_and]
    rw [hT] at ce
    exact ⟨_, _, rfl, ce, fun _ => rfl, fun _ => ⟨_, rfl, rfl⟩⟩) []
  rw [List.nil_append, List.map_id] at cf
  have hfirst : ((rngD 1 1 (b - 1)).filter (lwT b p l))[0]? = some (.int (lstK b p l : Nat)) := by
    have := rng_first (f := lwT b p l) (lo := 1) (n := b - 1) (j := lstK b p l - 1) (by omega) ?_ ?_
    · rw [this]; exact congrArg (fun x => some (D.int x)) (by omega)
    · have hz : (1 : Int) + ((lstK b p l - 1 : Nat) : Int) * 1 = ((lstK b p l : Nat) : Int) := by omega
      rw [hz]
      show (decide (((lstK b p l : Nat) : Int).toNat ^ p ≤ l) && decide (fws (pwP b p) (l - ((lstK b p l : Nat) : Int).toNat ^ p) + 1 = fws (pwP b p) l)) = true
      rw [Int.toNat_natCast, decide_eq_true h3, decide_eq_true h4]; rfl
    · intro i hi
      have hz : (1 : Int) + (i : Int) * 1 = ((i + 1 : Nat) : Int) := by omega
      rw [hz]
      show (decide (((i + 1 : Nat) : Int).toNat ^ p ≤ l) && decide (fws (pwP b p) (l - ((i + 1 : Nat) : Int).toNat ^ p) + 1 = fws (pwP b p) l)) = false
      rw [Int.toNat_natCast]
      by_cases c : (i + 1) ^ p ≤ l
      · rw [decide_eq_false (h5 (i + 1) (by omega) (by omega) c), Bool.and_false]
      · rw [decide_eq_false c, Bool.false_and]
  have hbn : ((b : Int) - 1).toNat = b - 1 := by omega
  have c1 := dueg_1 (P := nats (pwl b p)) (b := (b : Int)) (by rw [nats_len, pwl_len]) (small_of (by omega) (by omega)) (by rw [big]; omega) (by rw [hbn]; exact cf)
  have c2 := dueg_2 (S0 := S0) (S2 := S2) (P := nats (pwl b p)) (mk := (mk : Int)) (x4 := x4) (fs := fs) (l := (l : Int)) (w := ((l - lstK b p l ^ p : Nat) : Int)) (zIx_l (k := 0) hfirst rfl) (zIx_nats (pwl_at (b := b) (p := p) h2) rfl) hfs (by omega)
  refine ⟨some (.lst ((rngD 1 1 (b - 1)).filter (lwT b p l))), ?_⟩
  rw [dDueG, sSeq_ap, c1]
  exact c2
theorem mkL_rev {P : List Nat} {t j i : Nat} {d : D} (h : (mkL P t j).reverse[i]? = some d) : i < j ∧ d = .int (mks P t (j - 1 - i) : Nat) := by
  rcases Nat.lt_or_ge i j with g | g
  · refine ⟨g, ?_⟩
    rw [List.getElem?_reverse (by rw [mkL_len]; exact g), mkL_len] at h
    simp only [mkL, nats, List.getElem?_map, List.getElem?_range (show j - 1 - i < j by omega), Option.map_some, Option.some.injEq] at h
    exact h.symm
  · rw [List.getElem?_eq_none (by rw [List.length_reverse, mkL_len]; exact g)] at h; cases h
theorem due_figs {S0 S2 : T} {b p t j : Nat} {x3' x4 : Option T} (hb : 2 ≤ b) (hb2 : b ≤ 1000) (hj : fws (pwP b p) t = j) (hj2 : j ≤ 1000) :
    ∃ x3 l x7, forL (putN 3) dDueG (mkL (pwP b p) t j).reverse [some S0, some (.frz (.lst (nats (pwl b p)))), some S2, x3', x4, some (.lst []), some (.frz (.int t)), none, none] = .ok .next [some S0, some (.frz (.lst (nats (pwl b p)))), some S2, x3, x4, some (.lst (nats (grd b p j t))), l, x7, none] := by
  obtain ⟨Γ', e, l, fs, x3, x7, h1, h2, h3, rfl⟩ := forL_ind (put := putN 3) (b := dDueG)
    (fun i Γ => ∃ (l : Nat) (fs : List Nat) (x3 x7 : Option T), fws (pwP b p) l = j - i ∧ l ≤ t ∧ fs ++ grd b p (j - i) l = grd b p j t ∧ Γ = [some S0, some (.frz (.lst (nats (pwl b p)))), some S2, x3, x4, some (.lst (nats fs)), some (.frz (.int (l : Nat))), x7, none])
    (mkL (pwP b p) t j).reverse 0 [some S0, some (.frz (.lst (nats (pwl b p)))), some S2, x3', x4, some (.lst []), some (.frz (.int t)), none, none] ⟨t, [], x3', none, hj, Nat.le_refl _, rfl, rfl⟩ (by
      rintro i d Γ hi ⟨l, fs, x3, x7, h1, h2, h3, rfl⟩
      rw [Nat.zero_add] at *
      obtain ⟨hij, rfl⟩ := mkL_rev hi
      obtain ⟨q, hq⟩ : ∃ q, j - i = q + 1 := ⟨j - i - 1, by omega⟩
      rw [hq] at h1 h3
      have hlen : (nats fs).length < big := by
        have := congrArg List.length h3
        rw [List.length_append, grd_len, grd_len] at this
        rw [nats_len, big]; omega
      have hm := mks_ok (pwP b p) t q
      obtain ⟨y7, e⟩ := dueg_ev (S0 := S0) (S2 := S2) (x4 := x4) (x7 := x7) hb hb2 h1 h2 hm hlen
      have hl : 0 < l := by
        rcases Nat.eq_zero_or_pos l with z | z
        · rw [z, fws_zero (pwP_one hb)] at h1; omega
        · exact z
      obtain ⟨k1, k2, k3, k4, _⟩ := lstK_ok (p := p) hb hl
      have e1 : j - 1 - i = q := by omega
      rw [e1]
      refine ⟨_, _, rfl, e, l - lstK b p l ^ p, fs ++ [lstK b p l], _, y7, by omega, by omega, ?_, by rw [nats_app]; rfl⟩
      have e2 : j - (i + 1) = q := by omega
      rw [e2, ← h3, List.append_assoc]
      rfl)
  have e2 : j - (0 + (mkL (pwP b p) t j).reverse.length) = 0 := by rw [List.length_reverse, mkL_len]; omega
  rw [e2, grd, List.append_nil] at h3
  subst h3
  exact ⟨x3, _, x7, e⟩
theorem cutD_m1 {xs : List D} {d : D} : cutD (xs ++ [d]) none (some (-1)) = xs := by
  have h2 : (-1 + ((xs.length : Int) + 1)).toNat = xs.length := by omega
  simp [cutD, HT.sIx, h2]
def dDue3 : SDen := (sIf (dT (dBin zGt (dB zLen [(dName 2)]) (dC (.int 41)))) (sRet (dC .non)) sNext)
def dDue6 : SDen := (sFor (iLst (dUn zRev (dSl zSl (dName 2) none (some (dUn zNeg (dC (.int 1))))))) (putN 3) dDueG)
def dDue7 : SDen := (sRet (dCall dNumBy [.v (dName 5), .v (dB zLen [(dName 1)])]))
def dDue : FDen := dFun 9 [false, false]
  (sSeq (sAsg 2 (dLst [(dC (.int 1))])) (sSeq (sWhile dDueC dDueB) (sSeq dDue3 (sSeq (sAsg 5 (dLst [])) (sSeq (sAsg 6 (dName 0)) (sSeq dDue6 dDue7))))))
section
variable {t b l r : Int} {P R : List D} {x3 x4 : Option T}
theorem due_non (e : whileN dDueC dDueB fuel [some (.frz (.int t)), some (.frz (.lst P)), some (.lst [.int 1]), none, none, none, none, none, none] = .ok .next [some (.frz (.int t)), some (.frz (.lst P)), some (.lst R), x3, x4, none, none, none, none]) (hl : ((R.length : Nat) : Int) = l) (h : 41 < l) :
    dDue [.frz (.int t), .frz (.lst P)] = .ok (.frz .non) [.frz (.int t), .frz (.lst P)] := by
  simp [dDue, dDue3, e, hl, h]
theorem due_some {Q fs : List D} {y3 x7 l6 : Option T} {o : List T} (e : whileN dDueC dDueB fuel [some (.frz (.int t)), some (.frz (.lst P)), some (.lst [.int 1]), none, none, none, none, none, none] = .ok .next [some (.frz (.int t)), some (.frz (.lst P)), some (.lst R), x3, x4, none, none, none, none]) (hl : ((R.length : Nat) : Int) = l) (h : ¬ 41 < l)
    (hc : cutD R none (some (-1)) = Q) (e2 : forL (putN 3) dDueG Q.reverse [some (.frz (.int t)), some (.frz (.lst P)), some (.lst R), x3, x4, some (.lst []), some (.frz (.int t)), none, none] = .ok .next [some (.frz (.int t)), some (.frz (.lst P)), some (.lst R), y3, x4, some (.lst fs), l6, x7, none])
    (hb : ((P.length : Nat) : Int) = b) (e3 : dNumBy [.frz (.lst fs), .frz (.int b)] = .ok (.frz (.int r)) o) :
    dDue [.frz (.int t), .frz (.lst P)] = .ok (.frz (.int r)) [.frz (.int t), .frz (.lst P)] := by
  have n1 : zNeg (.int 1) = some (.val (.int (-1))) := rfl
  simp [dDue, dDue3, dDue6, dDue7, e, hl, h, n1, hc, e2, hb, e3, putd2]
end
theorem due_ev {b p t : Nat} (hb : 2 ≤ b) (hb2 : b ≤ 900) (hp : (b - 1) ^ p ≤ 1000000) (ht : t ≤ 1000000) : dDue [.frz (.int t), .frz (.lst (nats (pwl b p)))] = .ok (.frz (lwD b p t)) [.frz (.int t), .frz (.lst (nats (pwl b p)))] := by
  obtain ⟨x3, x4, e⟩ := due_while (p := p) hb hp ht
  rw [lwD_if hb]
  by_cases c : 40 < fws (pwP b p) t
  · rw [if_pos c] at e ⊢
    exact due_non e rfl (by rw [mkL_len]; decide)
  · rw [if_neg c] at e ⊢
    obtain ⟨y3, l6, x7, e2⟩ := due_figs (S0 := .frz (.int t)) (S2 := .lst (mkL (pwP b p) t (fws (pwP b p) t + 1))) (x3' := x3) (x4 := x4) hb (by omega) (t := t) (j := fws (pwP b p) t) rfl (by omega)
    exact due_some e rfl (by rw [mkL_len]; omega) (by rw [mkL_succ]; exact cutD_m1) e2 (by rw [nats_len, pwl_len]) (numBy_ev (by omega) _)
end Fw
namespace Fw
open PySem L2

/-! ### the least number by going up from 0 -/
def dTrialB : SDen := (sIf (dT (dBin zEq (dCall dPSt [.v (dName 2), .v (dName 1)]) (dName 0))) (sRet (dName 2)) sNext)
def dTrial : FDen := dFun 3 [false, false] (sSeq (sFor (iR1 (dC (.int 400))) (putN 2) dTrialB) (sRet (dC .non)))
section
variable {t n s : Int} {P : D} {o : List T} {Γ : Env} {x2 : Option T}
theorem trial_no (e : dPSt [.frz (.int n), .frz P] = .ok (.frz (.int s)) o) (h : s ≠ t) : dTrialB [some (.frz (.int t)), some (.frz P), some (.frz (.int n))] = .ok .next [some (.frz (.int t)), some (.frz P), some (.frz (.int n))] := by
  simp [dTrialB, e, h, putd2]
theorem trial_yes (e : dPSt [.frz (.int n), .frz P] = .ok (.frz (.int s)) o) (h : s = t) : dTrialB [some (.frz (.int t)), some (.frz P), some (.frz (.int n))] = .ok (.ret (.frz (.int n))) [some (.frz (.int t)), some (.frz P), some (.frz (.int n))] := by
  simp [dTrialB, e, h, putd2]
theorem trial_out1 (e : forL (putN 2) dTrialB (rngD 0 1 400) [some (.frz (.int t)), some (.frz P), none] = .ok .next [some (.frz (.int t)), some (.frz P), x2]) : dTrial [.frz (.int t), .frz P] = .ok (.frz .non) [.frz (.int t), .frz P] := by
  have s1 : smallI 400 = true := by decide
  have e' : forL (putN 2) dTrialB (rngD 0 1 (400 : Int).toNat) [some (.frz (.int t)), some (.frz P), none] = _ := e
  simp [dTrial, s1, e', -Int.reduceToNat]
theorem trial_out2 (e : forL (putN 2) dTrialB (rngD 0 1 400) [some (.frz (.int t)), some (.frz P), none] = .ok (.ret (.frz (.int n))) [some (.frz (.int t)), some (.frz P), x2]) : dTrial [.frz (.int t), .frz P] = .ok (.frz (.int n)) [.frz (.int t), .frz P] := by
  have s1 : smallI 400 = true := by decide
  have e' : forL (putN 2) dTrialB (rngD 0 1 (400 : Int).toNat) [some (.frz (.int t)), some (.frz P), none] = _ := e
  simp [dTrial, s1, e', -Int.reduceToNat]
end
def NearOk (b p t : Nat) (d : D) : Prop := (d = .non ∧ ∀ i, i < 400 → st b p i ≠ t) ∨ ∃ n : Nat, d = .int n ∧ n < 400 ∧ st b p n = t ∧ ∀ i, i < n → st b p i ≠ t
theorem trial_ev {b p t : Nat} (hb : 2 ≤ b) (hb2 : b < 1000) (hp : 1 ≤ p) : ∃ d, dTrial [.frz (.int t), .frz (.lst (nats (pwl b p)))] = .ok (.frz d) [.frz (.int t), .frz (.lst (nats (pwl b p)))] ∧ NearOk b p t d := by
  rcases forL_ret (put := putN 2) (b := dTrialB)
    (fun k Γ => (∀ i, i < k → st b p i ≠ t) ∧ ∃ x2, Γ = [some (.frz (.int t)), some (.frz (.lst (nats (pwl b p)))), x2])
    (fun r Γ => ∃ n : Nat, r = .frz (.int n) ∧ n < 400 ∧ st b p n = t ∧ (∀ i, i < n → st b p i ≠ t) ∧ Γ = [some (.frz (.int t)), some (.frz (.lst (nats (pwl b p)))), some (.frz (.int n))])
    (rngD 0 1 400) 0 [some (.frz (.int t)), some (.frz (.lst (nats (pwl b p)))), none] ⟨fun i hi => absurd hi (by omega), none, rfl⟩ (by
      rintro j d Γ hj ⟨hlo, x2, rfl⟩
      rw [Nat.zero_add] at *
      obtain ⟨hjb, rfl⟩ := rngD_at hj
      have hz : (0 : Int) + (j : Int) * 1 = (j : Int) := by omega
      rw [hz]
      refine ⟨_, rfl, ?_⟩
      have e := pst_ev (b := b) (p := p) (n := j) hb hb2 hp (by omega)
      by_cases c : st b p j = t
      · exact .inr ⟨_, _, trial_yes e (by omega), j, rfl, hjb, c, hlo, rfl⟩
      · refine .inl ⟨_, .inl (trial_no e (by omega)), fun i hi => ?_, _, rfl⟩
        rcases Nat.lt_succ_iff_lt_or_eq.mp hi with z | rfl
        · exact hlo i z
        · exact c) with ⟨Γ', e, h1, x2, rfl⟩ | ⟨r, Γ', e, n, rfl, h1, h2, h3, rfl⟩
  · refine ⟨_, trial_out1 e, .inl ⟨rfl, fun i hi => h1 i (by rw [rngD_len]; omega)⟩⟩
  · exact ⟨_, trial_out2 e, .inr ⟨n, rfl, h1, h2, h3⟩⟩
theorem near_due {b p t : Nat} {d : D} (hb : 2 ≤ b) (hb2 : b < 1000) (hp : 1 ≤ p) (h : NearOk b p t d) :
    (d = .non ∧ (lwD b p t = .non ∨ ∃ v : Nat, lwD b p t = .int v ∧ 400 ≤ v)) ∨ ∃ n : Nat, d = .int n ∧ lwD b p t = .int n := by
  rw [lwD_if hb]
  rcases h with ⟨rfl, h⟩ | ⟨n, rfl, h1, h2, h3⟩
  · refine .inl ⟨rfl, ?_⟩
    by_cases c : 40 < fws (pwP b p) t
    · rw [if_pos c]; exact .inl rfl
    · rw [if_neg c]
      refine .inr ⟨_, rfl, ?_⟩
      rcases Nat.lt_or_ge (lw b p (fws (pwP b p) t) t) 400 with z | z
      · exact absurd (lw_st hb hb2 hp (lt160 (by omega))) (h _ z)
      · exact z
  · refine .inr ⟨n, rfl, ?_⟩
    have hn9 : n < b ^ 9 := Nat.lt_of_lt_of_le (show n < 2 ^ 9 by omega) (Nat.pow_le_pow_left hb _)
    have hs := st_ssum (p := p) hb hb2 hp 9 n hn9 (lt160 (by omega))
    have hf := ssum_le (p := p) hb hp 9 n
    rw [← hs, h2] at hf
    rw [if_neg (by omega)]
    have hm := lw_min hb hb2 hp (lt160 (show n ≤ 1000000000 by omega)) h2
    have hst := lw_st (s := t) hb hb2 hp (lt160 (by omega))
    generalize lw b p (fws (pwP b p) t) t = v at *
    have : ¬ v < n := fun z => h3 v z hst
    have : v = n := by omega
    rw [this]
theorem lwD_ne (b p t : Nat) : zNe (lwD b p t) (lwD b p t) = some (.val (.bl false)) := by
  unfold lwD
  split
  · rfl
  · split
    · rfl
    · simp
end Fw
namespace Fw
open PySem L2

/-! ### d.get(k, x), x a whole number; {k: v} of a name or a constant and a whole number -/
def isDct : D → Bool
  | .dct _ _ => true
  | _ => false
def zGet : D → List D → Option Z
  | .dct ks vs, [k, .int z] => match keyD k with
    | some k => some (.val ((findK ks vs k).getD (.int z)))
    | none => none
  | _, _ => none
theorem se_dget {K : PySem.W.Frag} {td ty tx : TE} {o e f : Den} (ho : SE K td o) (he : SE K ty e) (hf : SE K tx f) : SE K (tDGet2 td ty tx) (dM isDct zGet o [e, f]) := by
  intro σ Γ res Γ' he0 Hf H fp E w Q q
  obtain ⟨ro, Γ0, h0, he1⟩ := bindO_ok he0
  obtain ⟨d0, g0, he2⟩ := liftO_ok he1
  split at he2
  case isFalse => cases he2
  rename_i hc
  obtain ⟨rs, Γ1, h1, he3⟩ := bindO_ok he2
  obtain ⟨d, gd, he4⟩ := liftO_ok he3
  obtain ⟨ds, gx, he5⟩ := liftO_ok he4
  obtain ⟨z, hz, he6⟩ := liftO_ok he5
  cases he6
  refine SO.of ho σ Γ ro Γ0 h0 Hf H fp E w _ fun x Hf1 H1 fp1 E1 w1 s1 r1 => ?_
  have hx := r1.top E1 g0
  cases d0 with
  | dct ks0 ds0 =>
    obtain ⟨a, ws0, rfl, ha0, _, _⟩ := hx.dict w1.same
    refine ⟨a, rfl, .inl ⟨_, ha0⟩, ?_⟩
    refine (sos_cons he (sos_cons hf sos_nil)) σ Γ0 rs _ h1 Hf1 H1 fp1 E1 w1 (fun xs H3 => match xs with | [y, z] => ∃ ov, DGet H3 a y ov ∧ Q (ov.getD z) H3 | _ => False) fun xs Hf2 H2 fp2 E2 w2 s2 r2 => ?_
    have hd := (r1.ext s2.ext).top E2 gd
    have hxs := r2.top E2 gx
    unfold zGet at hz
    split at hz
    case h_2 => cases hz
    rename_i ks vs k zi
    split at hz
    case h_2 => cases hz
    rename_i kk hk
    cases hz
    obtain ⟨a', ws, ea, ha, hks, rv⟩ := hd.dict w2.same
    cases ea
    subst hks
    rcases hxs with _ | ⟨hy, hys⟩
    rcases hys with _ | ⟨hu, hus⟩
    cases hus
    obtain rfl := hy.key hk
    obtain rfl := hu.int
    refine ⟨valV ws kk, .inl ⟨ws, kk, ha, rfl, rfl⟩, ?_⟩
    have hfin : ∀ v, Rep K Hf2 ((findK (ws.map (·.1)) vs kk).getD (.int zi)) v → Q v H2 := fun v r => by
      obtain ⟨Hf3, ft, E3, w3, s3, r3⟩ := Made.res (z := .val ((findK (ws.map (·.1)) vs kk).getD (.int zi))) (v := v) E2 w2 ⟨rfl, r⟩
      exact q v Hf3 _ fp2 ft E3 w3 ((s1.trans s2).trans s3) r3
    cases hfk : findK (ws.map (·.1)) vs kk with
    | none =>
      rw [(rv.find (k := kk)).2 hfk]
      exact hfin _ (by rw [hfk]; simp only [Option.getD_none, Rep])
    | some d' =>
      obtain ⟨v, e1, e2⟩ := (rv.find (k := kk)).1 d' hfk
      rw [e1]
      exact hfin v (by rw [hfk]; exact e2)
  | _ => simp [isDct] at hc
def dDisp (kd : Den) (b : Int) : Den := fun Γ => match kd Γ with
  | .ok (.frz d) Γ1 => (match keyD d with
    | some k => .ok (.own (.dct [k] [.int b])) Γ1
    | none => .stuck)
  | _ => .stuck
/-- a key that is read without the heap -/
def KeyR (K : PySem.W.Frag) (tk : TE) (kd : Den) : Prop := ∀ (σ : L2.St) (Γ Γ1 : Env) (d : D), kd Γ = .ok (.frz d) Γ1 → Γ1 = Γ ∧ ∀ (Hf H : Hp) (fp : List Addr), EnvR K Hf H σ Γ fp → ∃ v, Rep K Hf d v ∧ ∀ (H' : Hp) (Q : VK), Q v H' → tk σ H' Q
theorem kr_int {K : PySem.W.Frag} {i : Int} : KeyR K (tC (.int i)) (dC (.int i)) := by
  intro σ Γ Γ1 d e
  cases e
  exact ⟨rfl, fun Hf H fp E => ⟨.int i, by simp only [Rep], fun _ _ q => q⟩⟩
theorem kr_name {K : PySem.W.Frag} {i : Nat} : KeyR K (tVar i) (dName i) := by
  intro σ Γ Γ1 d e
  unfold dName at e
  split at e
  · rename_i d0 hi
    cases e
    refine ⟨rfl, fun Hf H fp E => ?_⟩
    obtain ⟨v, f1, f2, hv, o, _, _⟩ := E.split hi
    cases o with
    | frz r => exact ⟨v, r, fun _ _ q => ⟨v, hv, q⟩⟩
  · cases e
  · cases e
theorem se_disp {K : PySem.W.Frag} {tk : TE} {kd : Den} {b : Int} (hk : KeyR K tk kd) : SE K (tDisp [(tk, tC (.int b))]) (dDisp kd b) := by
  intro σ Γ r Γ' he Hf H fp E w Q q
  unfold dDisp at he
  split at he
  case h_2 => cases he
  rename_i d Γ1 hd
  split at he
  case h_2 => cases he
  rename_i k hkd
  cases he
  obtain ⟨rfl, hr⟩ := hk σ Γ _ d hd
  obtain ⟨v, rv, ht⟩ := hr Hf H fp E
  intro p hp
  obtain rfl := rv.key hkd
  refine ht _ _ ⟨upd_same, [(k, .int b)], rfl, by simp, ?_⟩
  have e1 : mergeK [] [(k, V.int b)] = [(k, .int b)] := rfl
  rw [e1, upd_upd]
  obtain ⟨Hf3, ft, E3, w3, s3, r3⟩ := Made.res (z := .dct [k] [.int b]) (v := .ref p) E w ⟨p, [(k, .int b)], hp, rfl, rfl, rfl, by simp [RepL, Rep]⟩
  exact q _ Hf3 _ fp ft E3 w3 s3 r3
section
variable {F : Fam} {de dz df : Den}
theorem sd_dget {o e f : Expr} {apos cpos : Pos} (ho : PED F o dz) (he : PED F e de) (hf : PED F f df) (hbase : ∀ i, attributeBase o "get" (F.X i).env (eval o (F.X i).env) = eval o (F.X i).env := by intro _; rfl)
    (hfew : ∀ env, ((backTo cpos (starEach [e, f] env)).all (fun x => !x.1) && (backToKw cpos (keywordEach [] env)).all (fun x => x.1.isSome)
      && decide (([e, f] : List Expr).length + ([] : List Keyword).length + (if ([] : List Keyword).isEmpty then 0 else 1) < 30)) = true := by intro _; rfl)
    (hline : (apos.endLine == cpos.line) = true := by rfl) (htr : ∀ env, backTo cpos (starEach [e, f] env) = [(false, eval e env), (false, eval f env)] := by intro _; rfl) :
    PED F (.Call (.Attribute o "get" apos) [e, f] [] cpos) (dM isDct zGet dz [de, df]) := by
  obtain ⟨_, p0, s0⟩ := ho
  obtain ⟨_, p1, s1⟩ := he
  obtain ⟨_, p2, s2⟩ := hf
  exact ⟨_, fun i => pe_dget2 (by have := (F.room i).un; omega) (p0 i) (p1 i) (p2 i) ⟨hbase i, hfew _, hline, htr _⟩, se_dget s0 s1 s2⟩
def PKD (F : Fam) (e : Expr) (d : Den) : Prop := ∃ t, (∀ i, PE (F.X i) e t) ∧ KeyR F.K t d
theorem k_int {i : Int} {j} {pos : Pos} : PKD F (.Constant (.int i) j pos) (dC (.int i)) := ⟨tC (.int i), fun _ => pe_int, kr_int⟩
theorem k_name {x : Str} {pos : Pos} (i : Nat) (hN : F.N[i]? = some x := by rfl) (hv : Vis F.sc x := by first | exact Or.inl rfl | exact Or.inr (Or.inl rfl) | exact Or.inr (Or.inr rfl)) (hd : (x == ("__debug__" : Str)) = false := by decide) (hcd : (x == ("__classdict__" : Str)) = false := by decide) : PKD F (.Name x pos) (dName i) :=
  ⟨tVar i, fun z => pe_var (Fam.at hN z) (Fam.vis hv z) hd hcd, kr_name⟩
theorem sd_disp {k : Expr} {b : Int} {j} {p2 pos : Pos} (h : PKD F k de) : PED F (.Dict [some k] [.Constant (.int b) j p2] pos) (dDisp de b) := by
  obtain ⟨_, p1, s1⟩ := h
  exact ⟨_, fun i => pe_disp (pps_cons (p1 i) pe_int pps_nil) (by rfl) (by rfl) (fun z => by cases z) (by simp), se_disp s1⟩
end
end Fw
namespace Fw
open PySem PySem.Spec PyProof.Rows L2

/-! ### sorted(xs), xs a list or a tuple of whole numbers -/
section
variable {P : Program} {W : World} {B : Around} {E : Value → Shared → Prop} {z : Shared}
theorem collect_tp {t : Addr} {us : List Value} {R : List Value → Shared → Prop} (ht : ∃ o, z.heap.get? t = some o ∧ o.cls = .type "tuple" ∧ ∃ n, o.data = .seq us.toArray n) (hn : us.length ≤ sizeLine)
    (q : R us { z with heap := (z.heap.push (seqObj "list" #[] 0)).update z.heap.objs.size (Obj.mapSeq (· ++ us.toArray)) }) : wpAny (model P W) B (collect (.ref t)) R E z := by
  obtain ⟨o, g, c, m, dd⟩ := ht
  have g2 : (z.heap.push (seqObj "list" #[] 0)).get? t = some o := Heap.get?_push_of_some _ g
  unfold collect
  apply wpAny_bind
  apply wpAny_runValue
  refine codeAny_builtin entry_proto_collect' (show wpAny _ _ (do again (.builtin "list.__iadd__" ⟨[← newList [], .ref t], []⟩)) _ _ z from ?_)
  refine wpAny_bind (wpAny_newList (wpAny_pure ?_))
  refine ⟨Code.quiet_builtin _ (by decide +kernel), codeAny_builtin entry_list_iadd' (show wpAny _ _ (Builtin.List.listExtendWith (.ref z.heap.objs.size) (.ref t) (.ref z.heap.objs.size)) _ _ { z with heap := z.heap.push (seqObj "list" #[] 0) } from ?_)⟩
  unfold Builtin.List.listExtendWith
  refine wpAny_bind (wpAny_typeOf (T := "tuple") ⟨o, g2, c⟩ ?_)
  have tt : (Value.type "tuple" == Value.type "tuple") = true := by rfl
  rw [if_pos (by rw [tt, Bool.or_true])]
  apply wpAny_bind
  refine listItems_at g2 dd ?_
  apply wpAny_bind
  refine listItems_at (xs := #[]) (n := 0) (Heap.get?_push_size _ rfl) rfl ?_
  rw [if_neg (by simp)]
  apply wpAny_bind
  refine listUpdate_at (xs := #[]) (n := 0) (Heap.get?_push_size _ rfl) rfl ?_ (Nat.zero_le _) (by
    have : (#[] ++ us.toArray).size = us.length := by simp
    show (#[] ++ us.toArray).size ≤ _
    omega)
  refine wpAny_pure (show wpAny (model P W) B (do
      let o ← load z.heap.objs.size
      match o.data with
      | .seq ys _ => pure ys.toList
      | _ => unsupported "internal:collect") R E { z with heap := (z.heap.push (seqObj "list" #[] 0)).update z.heap.objs.size (Obj.mapSeq (· ++ us.toArray)) } from ?_)
  refine wpAny_bind (wpAny_load (get?_update_seq (Heap.get?_push_size _ rfl) _) (show wpAny _ _ (pure ((#[] : Array Value) ++ us.toArray).toList) R E _ from ?_))
  have e : ((#[] : Array Value) ++ us.toArray).toList = us := by simp
  rw [e]
  exact wpAny_pure q
theorem sorted_tp {t : Addr} {us : List Value} {ns : List Int} {R : Value → Shared → Prop} (ht : ∃ o, z.heap.get? t = some o ∧ o.cls = .type "tuple" ∧ ∃ n, o.data = .seq us.toArray n) (hn : us.length ≤ sizeLine) (hI : IntsAre us ns)
    (q : ∀ out : List Value, SrtO.Srtd SrtO.ltIv out → SrtO.Stb SrtO.ltIv out us → R (.ref (z.heap.objs.size + 1)) { z with heap := sortedAll z.heap us out.toArray }) : wpAny (model P W) B (call (.builtin "sorted") [.ref t]) R E z := by
  refine Calls.call_function_entry kind_sorted plain_sorted entry_sorted (args_sorted1 _) ?_
  unfold Builtin.«sorted»
  refine wpAny_bind (m := checkCount "sorted" 1 1 _) (wpAny_pure (wpAny_bind (collect_tp ht hn (wpAny_bind (wpAny_newList ?_ hn)))))
  have e1 : ((z.heap.push (seqObj "list" #[] 0)).update z.heap.objs.size (Obj.mapSeq (· ++ us.toArray))).objs.size = z.heap.objs.size + 1 := (Heap.size_update ..).trans (size_push' ..)
  have e2 : (((z.heap.push (seqObj "list" #[] 0)).update z.heap.objs.size (Obj.mapSeq (· ++ us.toArray))).push (seqObj "list" us.toArray 0)).get? (z.heap.objs.size + 1) = some (seqObj "list" us.toArray 0) := e1 ▸ Heap.get?_push_size _ rfl
  refine (show wpAny (model P W) _ _ _ _ { z with heap := ((z.heap.push (seqObj "list" #[] 0)).update z.heap.objs.size (Obj.mapSeq (· ++ us.toArray))).push (seqObj "list" us.toArray 0) } from ?_)
  rw [e1]
  refine wpAny_bind (wpAny_holding (wpAny_call_entry slot_list_sort ⟨_, e2, rfl⟩ entry_list_sort ?_ (args_list_sort _)))
  exact SrtO.list_sort_ord SrtO.swo_int e2 hn (fun h2 => SrtO.ints_sortable hI h2) fun out a1 a2 => ⟨_, rfl, wpAny_pure ⟨_, rfl, q out a1 a2⟩⟩
end
def rSortTI (K : PySem.W.Frag) : List V → Hp → VK → Prop := fun vs H Q => ∃ (a : Addr) (ns : List Int), vs = [V.ref a] ∧ SqT K H a (ns.map V.int) ∧
  ∀ (ms : List Int) (p : Addr), ms.Perm ns → ms.Pairwise (· ≤ ·) → H p = none → Q (.ref p) (upd H p (.lst (ms.map V.int)))
theorem cr_sortTI {X : Cx} : CallR X (.builtin "sorted") (rSortTI X.K) := by
  intro pins s σ H vs us Q I r h
  obtain ⟨a, ns, rfl, hs, q⟩ := h
  obtain ⟨its, rv, pl, hz⟩ := I.tuple hs
  have hl := rv.length
  rw [Vals.ref1 r]
  refine sorted_tp pl (by omega) rv.ints fun out h1 h2 => ?_
  obtain ⟨k1, k2, k3⟩ := SrtO.ints_out rv.ints h1 h2
  obtain ⟨ep, he⟩ := PyProof.Rows.sortedAll_at s.heap its out.toArray
  have len : ((out.map SrtO.iv).map V.int).length ≤ sizeLine := by
    have := k2.length_eq
    simp only [List.length_map] at hz this ⊢
    omega
  refine ⟨.ref _, upd H (s.heap.objs.size + 1) (.lst ((out.map SrtO.iv).map V.int)), ?_, rfl, q _ _ k2 k3 (I.hok.fresh (Nat.le_succ _))⟩
  exact I.laid (t' := s.toks) (fun _ _ => PyProof.Rows.sortedAll_old) (Nat.le_succ _) ⟨len, out, ep, vals_of_ints k1, he⟩
/-- the whole numbers in order -/
def srt (ns : List Int) : List Int := ns.mergeSort (fun a b => decide (a ≤ b))
theorem srt_perm (ns : List Int) : (srt ns).Perm ns := List.mergeSort_perm _ _
theorem srt_le (ns : List Int) : (srt ns).Pairwise (· ≤ ·) := by
  have := List.pairwise_mergeSort (le := fun (a b : Int) => decide (a ≤ b)) (fun a b c h g => by simp only [decide_eq_true_eq] at *; omega) (fun a b => by simp only [Bool.or_eq_true, decide_eq_true_eq]; omega) ns
  exact this.imp fun h => of_decide_eq_true h
theorem srt_eq {ns ms : List Int} (h : ms.Perm ns) (g : ms.Pairwise (· ≤ ·)) : ms = srt ns :=
  List.Perm.eq_of_pairwise (le := fun (a b : Int) => a ≤ b) (fun a b _ _ h1 h2 => by omega) g (srt_le ns) (h.trans (srt_perm ns).symm)
def zSorted : List D → Option Z
  | [.tup ds] => (intsD ds).map fun ns => .lst ((srt ns).map D.int)
  | [d] => (listI d).map fun ns => .lst ((srt ns).map D.int)
  | _ => none
theorem repL_ints {K : PySem.W.Frag} {H : Hp} : ∀ (ns : List Int), RepL K H (ns.map D.int) (ns.map V.int)
  | [] => by simp [RepL]
  | n :: ns => by
    simp only [List.map_cons, RepL]
    exact ⟨_, _, rfl, by simp only [Rep], repL_ints ns⟩
theorem cs_sorted {K : PySem.W.Frag} : CallS K (fun xs H Q => rSortTI K xs H Q ∨ rSortedI K xs H Q) zSorted := by
  intro Hf H xs ds z s t hz Q q
  have fin : ∀ (ns ms : List Int) (p : Addr), (Z.lst ((srt ns).map D.int) = z) → ms.Perm ns → ms.Pairwise (· ≤ ·) → H p = none → Q (.ref p) (upd H p (.lst (ms.map V.int))) := by
    intro ns ms p hz h1 h2 hp
    subst hz
    rw [srt_eq h1 h2]
    exact made_lst q (repL_ints _) hp
  unfold zSorted at hz
  split at hz
  · rename_i ds'
    rw [Option.map_eq_some_iff] at hz
    obtain ⟨ns, hn, hz⟩ := hz
    obtain ⟨v, rfl, t'⟩ := t.one
    obtain ⟨a, xs, rfl, ha, ra⟩ := t'.tup s
    refine .inl ⟨a, ns, rfl, ?_, fun ms p h1 h2 hp => fin ns ms p hz h1 h2 hp⟩
    rw [intsD_eq hn] at ra
    rw [← ra.ints]; exact ha
  · rw [Option.map_eq_some_iff] at hz
    obtain ⟨ns, hn, hz⟩ := hz
    obtain ⟨v, rfl, t'⟩ := t.one
    obtain ⟨a, rfl, ha⟩ := t'.ints s hn
    exact .inr ⟨a, ns, rfl, ha, fun ms p h1 h2 hp => fin ns ms p hz h1 h2 hp⟩
  · cases hz
theorem bd_sorted {F : Fam} : BltD F "sorted" zSorted := .inl ⟨_, _, by decide +kernel, fun i => Fam.call (r := fun K xs H Q => rSortTI K xs H Q ∨ rSortedI K xs H Q) (cr_sortTI.or cr_sortedI), cs_sorted⟩
end Fw
namespace Fw
open PySem L2

/-! ### numbers that are the sum of their figures' powers -/
def tot (m : Nat) (r : List Nat) : Nat := (r.map (· ^ m)).sum
def cst (ns : List Nat) : List Int := ns.map fun (n : Nat) => (n : Int)
theorem nats_cst (ns : List Nat) : nats ns = (cst ns).map D.int := by simp [nats, cst]
theorem cst_nat (ns : List Nat) : (cst ns).map Int.toNat = ns := by
  unfold cst
  rw [List.map_map]
  exact (List.map_congr_left fun n _ => Int.toNat_natCast n).trans (List.map_id ns)
theorem nat_cst {ns : List Int} (h : ∀ x ∈ ns, 0 ≤ x) : cst (ns.map Int.toNat) = ns := by
  unfold cst
  rw [List.map_map]
  exact (List.map_congr_left fun n g => by have := h n g; show ((n.toNat : Nat) : Int) = n; omega).trans (List.map_id ns)
theorem cst_inj {a b : List Nat} (h : cst a = cst b) : a = b := by rw [← cst_nat a, ← cst_nat b, h]
theorem cst_perm {a b : List Nat} (h : (cst a).Perm (cst b)) : a.Perm b := by
  have := h.map Int.toNat
  rwa [cst_nat, cst_nat] at this
theorem tot_perm {m : Nat} {a b : List Nat} (h : a.Perm b) : tot m a = tot m b := (h.map _).sum_nat
def lst (r : List Nat) : Nat := r.getLast?.getD 0
theorem lst_app (r : List Nat) (x : Nat) : lst (r ++ [x]) = x := by simp [lst]
def longR (b : Nat) (R : List (List Nat)) : List (List Nat) := R.flatMap fun r => (List.range (b - lst r)).map fun i => r ++ [lst r + i]
def rowsN (b : Nat) : Nat → List (List Nat)
  | 0 => (List.range b).map fun x => [x]
  | k + 1 => longR b (rowsN b k)
structure Rw (b k : Nat) (r : List Nat) : Prop where
  len : r.length = k + 1
  up : r.Pairwise (· ≤ ·)
  lt : ∀ x ∈ r, x < b
theorem snoc {r : List Nat} {k : Nat} (h : r.length = k + 1) : ∃ s y, r = s ++ [y] ∧ s.length = k := by
  have h0 : r ≠ [] := fun e => by rw [e] at h; simp at h
  exact ⟨r.dropLast, r.getLast h0, (List.dropLast_concat_getLast h0).symm, by rw [List.length_dropLast, h]; rfl⟩
theorem rows_mem {b : Nat} : ∀ (k : Nat) (r : List Nat), r ∈ rowsN b k ↔ Rw b k r
  | 0, r => by
    simp only [rowsN, List.mem_map, List.mem_range]
    constructor
    · rintro ⟨x, hx, rfl⟩
      exact ⟨rfl, by simp, by simpa using hx⟩
    · intro h
      obtain ⟨s, y, rfl, hs⟩ := snoc h.len
      obtain rfl := List.length_eq_zero_iff.mp hs
      exact ⟨y, h.lt y (by simp), rfl⟩
  | k + 1, r => by
    simp only [rowsN, longR, List.mem_flatMap, List.mem_map, List.mem_range]
    constructor
    · rintro ⟨r0, h0, i, hi, rfl⟩
      have h0 := (rows_mem k r0).mp h0
      obtain ⟨s, y, rfl, hs⟩ := snoc h0.len
      rw [lst_app] at *
      refine ⟨by rw [List.length_append, h0.len]; rfl, List.pairwise_append.mpr ⟨h0.up, by simp, fun x hx z hz => ?_⟩, fun x hx => ?_⟩
      · obtain rfl := List.mem_singleton.mp hz
        rcases List.mem_append.mp hx with g | g
        · have := (List.pairwise_append.mp h0.up).2.2 x g y (by simp)
          omega
        · obtain rfl := List.mem_singleton.mp g; omega
      · rcases List.mem_append.mp hx with g | g
        · exact h0.lt x g
        · obtain rfl := List.mem_singleton.mp g
          omega
    · intro h
      obtain ⟨r0, y, rfl, hr⟩ := snoc h.len
      obtain ⟨s, z, rfl, hs⟩ := snoc hr
      have hzy := (List.pairwise_append.mp h.up).2.2 z (by simp) y (by simp)
      have hy := h.lt y (by simp)
      refine ⟨s ++ [z], (rows_mem k _).mpr ⟨hr, (List.pairwise_append.mp h.up).1, fun x hx => h.lt x (List.mem_append_left _ hx)⟩, y - z, ?_, ?_⟩
      · rw [lst_app]; omega
      · rw [lst_app]; congr 2; omega
theorem rows_nd {b : Nat} : ∀ k, (rowsN b k).Nodup
  | 0 => by
    unfold rowsN List.Nodup
    rw [List.pairwise_map]
    exact List.nodup_range.imp fun h e => h (List.cons.inj e).1
  | k + 1 => by
    unfold rowsN longR List.Nodup
    rw [List.pairwise_flatMap]
    refine ⟨fun r _ => ?_, (rows_nd k).imp fun {a c} h x hx y hy e => ?_⟩
    · rw [List.pairwise_map]
      refine List.nodup_range.imp fun {i j} h e => h ?_
      have := (List.cons.inj (List.append_inj' e rfl).2).1
      omega
    · simp only [List.mem_map, List.mem_range] at hx hy
      obtain ⟨i, _, rfl⟩ := hx
      obtain ⟨j, _, rfl⟩ := hy
      exact h (List.append_inj' e rfl).1
def okR (b m : Nat) (r : List Nat) : Bool := decide (srt (cst (dgs b (tot m r))) = cst r)
def foundL (b m k : Nat) : List Nat := ((rowsN b k).filter (okR b m)).map (tot m)
def OwnP (b m n : Nat) : Prop := (dgs b n).length = m ∧ tot m (dgs b n) = n
theorem ok_perm {b m : Nat} {r : List Nat} (h : okR b m r = true) : (dgs b (tot m r)).Perm r := by
  have := of_decide_eq_true h
  refine cst_perm ?_
  rw [← this]
  exact (srt_perm _).symm
theorem found_mem {b m n : Nat} (hb : 2 ≤ b) (hm : 1 ≤ m) : n ∈ foundL b m (m - 1) ↔ OwnP b m n := by
  unfold foundL
  simp only [List.mem_map, List.mem_filter, rows_mem]
  constructor
  · rintro ⟨r, ⟨h1, h2⟩, rfl⟩
    have h3 := ok_perm h2
    refine ⟨?_, tot_perm h3⟩
    rw [h3.length_eq, h1.len]; omega
  · rintro ⟨h1, h2⟩
    have hp := srt_perm (cst (dgs b n))
    have h0 : ∀ x ∈ srt (cst (dgs b n)), 0 ≤ x := fun x hx => by
      obtain ⟨y, _, rfl⟩ := List.mem_map.mp (hp.mem_iff.mp hx)
      exact Int.natCast_nonneg y
    have hc := nat_cst h0
    have hpn : ((srt (cst (dgs b n))).map Int.toNat).Perm (dgs b n) := cst_perm (by rw [hc]; exact hp)
    have ht := (tot_perm (m := m) hpn).trans h2
    refine ⟨_, ⟨⟨?_, ?_, fun x hx => ?_⟩, ?_⟩, ht⟩
    · rw [hpn.length_eq, h1]; omega
    · have := srt_le (cst (dgs b n))
      rw [List.pairwise_map]
      exact this.imp fun h => by omega
    · exact fg_lt (by omega) x (hpn.mem_iff.mp hx)
    · unfold okR
      rw [ht, hc]; exact decide_eq_true rfl
theorem found_nd {b m k : Nat} : (foundL b m k).Nodup := by
  unfold foundL List.Nodup
  rw [List.pairwise_map]
  refine ((rows_nd k).filter (okR b m)).imp_of_mem fun {a c} ha hc h e => h ?_
  have h1 := of_decide_eq_true (List.mem_filter.mp ha).2
  have h2 := of_decide_eq_true (List.mem_filter.mp hc).2
  rw [e, h2] at h1
  exact (cst_inj h1).symm
def loN (b m : Nat) : Nat := if m = 1 then 0 else b ^ (m - 1)
def dueL (b m : Nat) : List Nat := (List.range' (loN b m) (b ^ m - loN b m)).filter fun n => decide (tot m (dgs b n) = n)
theorem tot_le {b m : Nat} {r : List Nat} (h : ∀ x ∈ r, x < b) : tot m r ≤ r.length * b ^ m := by
  have := sum_le (· ^ m) (b ^ m) r fun x hx => Nat.pow_le_pow_left (Nat.le_of_lt (h x hx)) m
  exact this
theorem pow166 {b m : Nat} (hb : b ≤ 16) (hm : m ≤ 6) : b ^ m ≤ 16777216 := Nat.le_trans (Nat.pow_le_pow_left hb m) (Nat.le_trans (Nat.pow_le_pow_right (by decide) hm) (by decide))
theorem lo_le {b m : Nat} (hb : 2 ≤ b) (hm : 1 ≤ m) : loN b m ≤ b ^ m := by
  unfold loN
  split
  · exact Nat.zero_le _
  · exact Nat.pow_le_pow_right (by omega) (by omega)
theorem due_mem {b m n : Nat} (hb : 2 ≤ b) (hb2 : b ≤ 16) (hm : 1 ≤ m) (hm2 : m ≤ 6) : n ∈ dueL b m ↔ OwnP b m n := by
  unfold dueL
  rw [List.mem_filter, List.mem_range'_1]
  have hlo := lo_le hb hm
  have hp := pow166 hb2 hm2
  rw [show loN b m + (b ^ m - loN b m) = b ^ m by omega]
  constructor
  · rintro ⟨⟨h1, h2⟩, h3⟩
    refine ⟨?_, of_decide_eq_true h3⟩
    have t := (tk_ok hb (n := n) (lt160 (by omega))).2
    have t2 : Tk b n (m - 1) := by
      refine ⟨by rw [show m - 1 + 1 = m by omega]; exact h2, fun j hj => ?_⟩
      unfold loN at h1
      rw [if_neg (by omega)] at h1
      exact Nat.le_trans (Nat.pow_le_pow_right (by omega) (by omega)) h1
    have := t.uniq hb t2
    unfold dgs
    rw [fg_len, this]; omega
  · rintro ⟨h1, h2⟩
    have hle := tot_le (m := m) (r := dgs b n) fun x hx => fg_lt (by omega) x hx
    rw [h1, h2] at hle
    have : m * b ^ m ≤ 6 * b ^ m := Nat.mul_le_mul_right _ hm2
    have t := (tk_ok hb (n := n) (lt160 (by omega))).2
    unfold dgs at h1
    rw [fg_len] at h1
    have hk : tk b n = m - 1 := by omega
    rw [hk] at t
    refine ⟨⟨?_, ?_⟩, decide_eq_true h2⟩
    · unfold loN
      split
      · exact Nat.zero_le _
      · have := t.ge (m - 2) (by omega)
        rwa [show m - 2 + 1 = m - 1 by omega] at this
    · have := t.lt
      rwa [show m - 1 + 1 = m by omega] at this
theorem cst_le {a : List Nat} (h : a.Pairwise (· ≤ ·)) : (cst a).Pairwise (· ≤ ·) := by
  unfold cst
  rw [List.pairwise_map]
  exact h.imp fun h => by omega
theorem own_eq {b m : Nat} (hb : 2 ≤ b) (hb2 : b ≤ 16) (hm : 1 ≤ m) (hm2 : m ≤ 6) : srt (cst (foundL b m (m - 1))) = cst (dueL b m) := by
  refine (srt_eq ?_ ?_).symm
  · refine List.Perm.map _ ((List.perm_ext_iff_of_nodup ?_ found_nd).mpr fun n => by rw [due_mem hb hb2 hm hm2, found_mem hb hm])
    exact List.Pairwise.filter _ (List.nodup_range' (s := loN b m) (n := b ^ m - loN b m) 1 (by decide))
  · refine cst_le ?_
    exact List.Pairwise.filter _ (List.pairwise_le_range' (s := loN b m) (n := b ^ m - loN b m) 1)
end Fw
namespace Fw
open PySem L2

/-! ### own_numbers -/
theorem compL_map {put : Put} {e : Env → Out D} {vs : List Nat} {Γ : Env} (g : D → D) (ds : List D) (h : ∀ d ∈ ds, ∃ Γ1 Γ3, put d Γ = some Γ1 ∧ e Γ1 = .ok (g d) Γ3 ∧ wipeE Γ3 vs = Γ) (acc : List D) : compL put dYes e vs ds acc Γ = .ok (acc ++ ds.map g) Γ := by
  have := compL_filter (put := put) (c := dYes) (e := e) (vs := vs) (Γ := Γ) (fun _ => true) g ds (fun d hd => by
    obtain ⟨Γ1, Γ3, h1, h2, h3⟩ := h d hd
    exact ⟨Γ1, Γ1, h1, rfl, (fun e => by cases e), fun _ => ⟨Γ3, h2, h3⟩⟩) acc
  rwa [List.filter_eq_self.mpr (fun _ _ => rfl)] at this
theorem zIx_tlast {ds : List D} {d : D} : zIx (.tup (ds ++ [d])) (.int (-1)) = some (.val d) := (rfl : zIx (.tup (ds ++ [d])) (.int (-1)) = zIx (.lst (ds ++ [d])) (.int (-1))).trans zIx_last
def rwD (r : List Nat) : D := .tup (nats r)
def dLngB : SDen := (sDrop (dMut mExtend 2 [(dComp (iR2 (dBin zIx (dName 3) (dUn zNeg (dC (.int 1)))) (dName 1)) (putN 4) dYes (dBin zAdd (dName 3) (dTup [(dName 4)])) [4])]))
def dLng : FDen := dFun 5 [false, false] (sSeq (sAsg 2 (dLst [])) (sSeq (sFor (iLst (dName 0)) (putN 3) dLngB) (sRet (dName 2))))
section
variable {S0 : T} {b x : Int} {fd g r : List D}
theorem lng_b (h1 : zIx (.tup r) (.int (-1)) = some (.val (.int x))) (s1 : smallI x = true) (s2 : smallI b = true) (hl : (b - x).toNat ≤ big)
    (e : compL (putN 4) dYes (dV (dBin zAdd (dName 3) (dTup [(dName 4)]))) [4] (rngD x 1 (b - x).toNat) [] [some S0, some (.frz (.int b)), some (.lst fd), some (.frz (.tup r)), none] = .ok g [some S0, some (.frz (.int b)), some (.lst fd), some (.frz (.tup r)), none]) (hb : fd.length + g.length ≤ big) :
    dLngB [some S0, some (.frz (.int b)), some (.lst fd), some (.frz (.tup r)), none] = .ok .next [some S0, some (.frz (.int b)), some (.lst (fd ++ g)), some (.frz (.tup r)), none] := by
  have b1 : (rngD x 1 (b - x).toNat).length ≤ big := by rw [rngD_len]; exact hl
  have n1 : zNeg (.int 1) = some (.val (.int (-1))) := rfl
  simp [dLngB, n1, h1, s1, s2, b1, e, dMut, mExtend, hb]
theorem lng_e {y : Int} (hl : r.length + 1 ≤ big) : dV (dBin zAdd (dName 3) (dTup [(dName 4)])) [some S0, some (.frz (.int b)), some (.lst fd), some (.frz (.tup r)), some (.frz (.int y))] = .ok (.tup (r ++ [.int y])) [some S0, some (.frz (.int b)), some (.lst fd), some (.frz (.tup r)), some (.frz (.int y))] := by
  have z : zAdd (.tup r) (.tup [.int y]) = some (.tup (r ++ [.int y])) := by simp [zAdd, hl]
  simp [z]
theorem lng_out {R : List D} {y3 : Option T} (e : forL (putN 3) dLngB R [some (.frz (.lst R)), some (.frz (.int b)), some (.lst []), none, none] = .ok .next [some (.frz (.lst R)), some (.frz (.int b)), some (.lst g), y3, none]) : dLng [.frz (.lst R), .frz (.int b)] = .ok (.lst g) [.frz (.lst R), .frz (.int b)] := by
  simp [dLng, e]
end
def extR (b : Nat) (r : List Nat) : List (List Nat) := (List.range (b - lst r)).map fun i => r ++ [lst r + i]
theorem longR_cons (b : Nat) (r : List Nat) (R : List (List Nat)) : longR b (r :: R) = extR b r ++ longR b R := rfl
theorem lng_loop {S0 : T} {b : Nat} (hb : b ≤ 1000) : ∀ (R : List (List Nat)) (acc : List (List Nat)) (x3 : Option T), (∀ r ∈ R, (∃ s y, r = s ++ [y] ∧ y < b) ∧ r.length ≤ 1000) → (acc ++ longR b R).length ≤ big →
    ∃ y3, forL (putN 3) dLngB (R.map rwD) [some S0, some (.frz (.int b)), some (.lst (acc.map rwD)), x3, none] = .ok .next [some S0, some (.frz (.int b)), some (.lst ((acc ++ longR b R).map rwD)), y3, none]
  | [], acc, x3, _, _ => ⟨x3, by simp [forL, longR]⟩
  | r :: R, acc, x3, h, hl => by
    obtain ⟨⟨s, y, hr, hy⟩, hlen⟩ := h r (by simp)
    have hlst : lst r = y := by rw [hr, lst_app]
    rw [longR_cons, ← List.append_assoc] at hl ⊢
    have hl2 : (acc ++ extR b r).length ≤ big := by
      rw [List.length_append] at hl; omega
    have h1 : zIx (.tup (nats r)) (.int (-1)) = some (.val (.int (y : Int))) := by rw [hr, nats_app]; exact zIx_tlast
    have hn : ((b : Int) - (y : Int)).toNat = b - y := by omega
    have hg : (rngD (y : Int) 1 (b - y)).map (fun d => match d with | .int z => D.tup (nats r ++ [.int z]) | d => d) = (extR b r).map rwD := by
      unfold rngD extR
      rw [List.map_map, List.map_map, hlst]
      refine List.map_congr_left fun i _ => ?_
      show D.tup (nats r ++ [.int ((y : Int) + (i : Int) * 1)]) = D.tup (nats (r ++ [y + i]))
      rw [nats_app]
      have : (y : Int) + (i : Int) * 1 = ((y + i : Nat) : Int) := by omega
      rw [this]; rfl
    have cm := compL_map (put := putN 4) (e := dV (dBin zAdd (dName 3) (dTup [(dName 4)]))) (vs := [4]) (Γ := [some S0, some (.frz (.int b)), some (.lst (acc.map rwD)), some (.frz (.tup (nats r))), none]) (fun d => match d with | .int z => D.tup (nats r ++ [.int z]) | d => d) (rngD (y : Int) 1 (b - y)) (fun d hd => by
      obtain ⟨j, hj⟩ := List.getElem?_of_mem hd
      obtain ⟨_, rfl⟩ := rngD_at hj
      exact ⟨_, _, rfl, lng_e (by rw [nats_len, big]; omega), rfl⟩) []
    rw [List.nil_append, hg] at cm
    have c := lng_b (b := (b : Int)) (x := (y : Int)) (fd := acc.map rwD) (g := (extR b r).map rwD) h1 (small_of (by omega) (by omega)) (small_of (by omega) (by omega)) (by rw [hn, big]; omega) (by rw [hn]; exact cm) (by
      rw [List.length_map, List.length_map]; rw [List.length_append] at hl2; exact hl2)
    rw [← List.map_append] at c
    obtain ⟨y3, ih⟩ := lng_loop (S0 := S0) hb R (acc ++ extR b r) (some (.frz (rwD r))) (fun q hq => h q (by simp [hq])) hl
    refine ⟨y3, ?_⟩
    have c' : dLngB [some S0, some (.frz (.int b)), some (.lst (acc.map rwD)), some (.frz (rwD r)), none] = _ := c
    simp only [List.map_cons, forL, putN_ap, List.set_cons_succ, List.set_cons_zero, c']
    exact ih
theorem lng_ev {b : Nat} (hb : b ≤ 1000) (R : List (List Nat)) (h : ∀ r ∈ R, (∃ s y, r = s ++ [y] ∧ y < b) ∧ r.length ≤ 1000) (hl : (longR b R).length ≤ big) :
    dLng [.frz (.lst (R.map rwD)), .frz (.int b)] = .ok (.lst ((longR b R).map rwD)) [.frz (.lst (R.map rwD)), .frz (.int b)] := by
  obtain ⟨y3, e⟩ := lng_loop (S0 := .frz (.lst (R.map rwD))) hb R [] none h (by simpa using hl)
  exact lng_out e
/-! how many rows -/
theorem long_len {b : Nat} : ∀ (R : List (List Nat)), (longR b R).length ≤ R.length * b
  | [] => by simp [longR]
  | r :: R => by
    have := long_len (b := b) R
    rw [longR_cons, List.length_append, List.length_cons, Nat.succ_mul]
    have : (extR b r).length ≤ b := by simp [extR]
    omega
theorem rows1_all : ((List.range 17).all fun b => decide ((rowsN b 1).length ≤ 136)) = true := by decide +kernel
theorem rows_len {b : Nat} (hb : b ≤ 16) : ∀ k, (rowsN b (k + 1)).length ≤ 136 * 16 ^ k
  | 0 => by
    have := List.all_eq_true.mp rows1_all b (by simp; omega)
    simpa using this
  | k + 1 => by
    have h1 := long_len (b := b) (rowsN b (k + 1))
    have h2 := rows_len hb k
    have h3 : (rowsN b (k + 1)).length * b ≤ 136 * 16 ^ k * 16 := Nat.mul_le_mul h2 hb
    rw [show (16 : Nat) ^ (k + 1) = 16 ^ k * 16 from Nat.pow_succ .., ← Nat.mul_assoc]
    exact Nat.le_trans h1 h3
theorem rows_big {b k : Nat} (hb : b ≤ 16) (hk : k ≤ 5) : (rowsN b k).length ≤ 9000000 := by
  rcases k with _ | k
  · simp [rowsN]; omega
  · have h1 := rows_len hb k
    have h2 : 136 * 16 ^ k ≤ 136 * 16 ^ 4 := Nat.mul_le_mul_left _ (Nat.pow_le_pow_right (by decide) (by omega))
    omega
end Fw
namespace Fw
open PySem L2
def dOwn1 : SDen := (sAsg 2 (dComp (iR1 (dName 0)) (putN 8) dYes (dCall dPow [.v (dName 8), .v (dName 1)]) [8]))
def dOwn2 : SDen := (sAsg 3 (dComp (iR1 (dName 0)) (putN 8) dYes (dTup [(dName 8)]) [8]))
def dOwn3B : SDen := (sAsg 3 (dCall dLng [.v (dName 3), .v (dName 0)]))
def dOwn3 : SDen := (sFor (iR1 (dBin zSub (dName 1) (dC (.int 1)))) (putN 4) dOwn3B)
def dOwn51 : SDen := (sAsg 7 (dB zSum [(dComp (iTupD (dName 6)) (putN 8) dYes (dBin zIx (dName 2) (dName 8)) [8])]))
def dOwn52 : SDen := (sIf (dT (dBin zEq (dB zSorted [(dCall dFig [.v (dName 7), .v (dName 0)])]) (dB zList [(dName 6)]))) (sDrop (dMut mAppend 5 [(dName 7)])) sNext)
def dOwn5B : SDen := sSeq dOwn51 dOwn52
def dOwn5 : SDen := (sFor (iLst (dName 3)) (putN 6) dOwn5B)
def dOwn6 : SDen := (sRet (dB zTuple [(dB zSorted [(dName 5)])]))
def dOwn : FDen := dFun 9 [false, false]
  (sSeq dOwn1 (sSeq dOwn2 (sSeq dOwn3 (sSeq (sAsg 5 (dLst [])) (sSeq dOwn5 dOwn6)))))
section
variable {b m t : Int} {P R R' F g f r : List D} {x4 x6 x7 : Option T} {o : List T} {cond : Bool}
theorem own_1e {y v : Int} (e : dPow [.frz (.int y), .frz (.int m)] = .ok (.frz (.int v)) o) : dV (dCall dPow [.v (dName 8), .v (dName 1)]) [some (.frz (.int b)), some (.frz (.int m)), none, none, none, none, none, none, some (.frz (.int y))] = .ok (.int v) [some (.frz (.int b)), some (.frz (.int m)), none, none, none, none, none, none, some (.frz (.int y))] := by
  simp [e, putd2]
theorem own_2e {y : Int} : dV (dTup [(dName 8)]) [some (.frz (.int b)), some (.frz (.int m)), some (.lst P), none, none, none, none, none, some (.frz (.int y))] = .ok (.tup [.int y]) [some (.frz (.int b)), some (.frz (.int m)), some (.lst P), none, none, none, none, none, some (.frz (.int y))] := by
  simp
theorem own_1 (s1 : smallI b = true) (hl : b.toNat ≤ big) (e : compL (putN 8) dYes (dV (dCall dPow [.v (dName 8), .v (dName 1)])) [8] (rngD 0 1 b.toNat) [] [some (.frz (.int b)), some (.frz (.int m)), none, none, none, none, none, none, none] = .ok P [some (.frz (.int b)), some (.frz (.int m)), none, none, none, none, none, none, none]) :
    dOwn1 [some (.frz (.int b)), some (.frz (.int m)), none, none, none, none, none, none, none] = .ok .next [some (.frz (.int b)), some (.frz (.int m)), some (.lst P), none, none, none, none, none, none] := by
  have b1 : (rngD 0 1 b.toNat).length ≤ big := by rw [rngD_len]; exact hl
  simp only [dOwn1, sAsg_ap, dComp_ap, iR1_ap, bindO_ap, dV_ap, dName_ap, List.getElem?_cons_zero, intD_int, liftO_some, s1, if_true, wipeE_cons, wipeE_nil, List.set_cons_succ, List.set_cons_zero, if_pos b1, e]
theorem own_2 (s1 : smallI b = true) (hl : b.toNat ≤ big) (e : compL (putN 8) dYes (dV (dTup [(dName 8)])) [8] (rngD 0 1 b.toNat) [] [some (.frz (.int b)), some (.frz (.int m)), some (.lst P), none, none, none, none, none, none] = .ok R [some (.frz (.int b)), some (.frz (.int m)), some (.lst P), none, none, none, none, none, none]) :
    dOwn2 [some (.frz (.int b)), some (.frz (.int m)), some (.lst P), none, none, none, none, none, none] = .ok .next [some (.frz (.int b)), some (.frz (.int m)), some (.lst P), some (.lst R), none, none, none, none, none] := by
  have b1 : (rngD 0 1 b.toNat).length ≤ big := by rw [rngD_len]; exact hl
  simp only [dOwn2, sAsg_ap, dComp_ap, iR1_ap, bindO_ap, dV_ap, dName_ap, List.getElem?_cons_zero, intD_int, liftO_some, s1, if_true, wipeE_cons, wipeE_nil, List.set_cons_succ, List.set_cons_zero, if_pos b1, e]
theorem own_3 (e : dLng [.frz (.lst R), .frz (.int b)] = .ok (.lst R') o) : dOwn3B [some (.frz (.int b)), some (.frz (.int m)), some (.lst P), some (.lst R), x4, none, none, none, none] = .ok .next [some (.frz (.int b)), some (.frz (.int m)), some (.lst P), some (.lst R'), x4, none, none, none, none] := by
  simp [dOwn3B, e, putd2]
theorem own_51 (hl : r.length ≤ big) (e : compL (putN 8) dYes (dV (dBin zIx (dName 2) (dName 8))) [8] r [] [some (.frz (.int b)), some (.frz (.int m)), some (.lst P), some (.frz (.lst R)), x4, some (.lst F), some (.frz (.tup r)), x7, none] = .ok g [some (.frz (.int b)), some (.frz (.int m)), some (.lst P), some (.frz (.lst R)), x4, some (.lst F), some (.frz (.tup r)), x7, none])
    (hs : zSum [.lst g] = some (.val (.int t))) : dOwn51 [some (.frz (.int b)), some (.frz (.int m)), some (.lst P), some (.frz (.lst R)), x4, some (.lst F), some (.frz (.tup r)), x7, none] = .ok .next [some (.frz (.int b)), some (.frz (.int m)), some (.lst P), some (.frz (.lst R)), x4, some (.lst F), some (.frz (.tup r)), some (.frz (.int t)), none] := by
  simp [dOwn51, hl, e, hs]
theorem own_51e {y v : Int} (h : zIx (.lst P) (.int y) = some (.val (.int v))) : dV (dBin zIx (dName 2) (dName 8)) [some (.frz (.int b)), some (.frz (.int m)), some (.lst P), some (.frz (.lst R)), x4, some (.lst F), some (.frz (.tup r)), x7, some (.frz (.int y))] = .ok (.int v) [some (.frz (.int b)), some (.frz (.int m)), some (.lst P), some (.frz (.lst R)), x4, some (.lst F), some (.frz (.tup r)), x7, some (.frz (.int y))] := by
  simp [h]
theorem own_52 (e : dFig [.frz (.int t), .frz (.int b)] = .ok (.frz (.tup f)) o) (hs : zSorted [.tup f] = some (.lst g)) (hq : zEq (.lst g) (.lst r) = some (.val (.bl cond))) (hF : F.length < big) :
    dOwn52 [some (.frz (.int b)), some (.frz (.int m)), some (.lst P), some (.frz (.lst R)), x4, some (.lst F), some (.frz (.tup r)), some (.frz (.int t)), none] = .ok .next [some (.frz (.int b)), some (.frz (.int m)), some (.lst P), some (.frz (.lst R)), x4, some (.lst (if cond = true then F ++ [.int t] else F)), some (.frz (.tup r)), some (.frz (.int t)), none] := by
  have zl : zList [.tup r] = some (.lst r) := rfl
  cases cond with
  | true => simp [dOwn52, e, putd2, hs, zl, hq, mAppend_ok hF]
  | false => simp [dOwn52, e, putd2, hs, zl, hq]
theorem own_out {x8 : Option T} (c1 : dOwn1 [some (.frz (.int b)), some (.frz (.int m)), none, none, none, none, none, none, none] = .ok .next [some (.frz (.int b)), some (.frz (.int m)), some (.lst P), none, none, none, none, none, none])
    (c2 : dOwn2 [some (.frz (.int b)), some (.frz (.int m)), some (.lst P), none, none, none, none, none, none] = .ok .next [some (.frz (.int b)), some (.frz (.int m)), some (.lst P), some (.lst R), none, none, none, none, none])
    (s1 : smallI (m - 1) = true) (c3 : forL (putN 4) dOwn3B (rngD 0 1 (m - 1).toNat) [some (.frz (.int b)), some (.frz (.int m)), some (.lst P), some (.lst R), none, none, none, none, none] = .ok .next [some (.frz (.int b)), some (.frz (.int m)), some (.lst P), some (.lst R'), x4, none, none, none, none])
    (c5 : forL (putN 6) dOwn5B R' [some (.frz (.int b)), some (.frz (.int m)), some (.lst P), some (.frz (.lst R')), x4, some (.lst []), none, none, none] = .ok .next [some (.frz (.int b)), some (.frz (.int m)), some (.lst P), some (.frz (.lst R')), x4, some (.lst F), x6, x7, x8]) (hs : zSorted [.lst F] = some (.lst g)) :
    dOwn [.frz (.int b), .frz (.int m)] = .ok (.frz (.tup g)) [.frz (.int b), .frz (.int m)] := by
  have zt : zTuple [.lst g] = some (.tup g) := rfl
  have d3 : dOwn3 [some (.frz (.int b)), some (.frz (.int m)), some (.lst P), some (.lst R), none, none, none, none, none] = .ok .next [some (.frz (.int b)), some (.frz (.int m)), some (.lst P), some (.lst R'), x4, none, none, none, none] := by
    simp [dOwn3, s1, c3, -Int.pred_toNat]
  have d5 : dOwn5 [some (.frz (.int b)), some (.frz (.int m)), some (.lst P), some (.lst R'), x4, some (.lst []), none, none, none] = .ok .next [some (.frz (.int b)), some (.frz (.int m)), some (.lst P), some (.frz (.lst R')), x4, some (.lst F), x6, x7, x8] := by
    simp [dOwn5, c5]
  simp [dOwn, c1, c2, d3, d5, dOwn6, hs, zt]
end
theorem seq2 {a b : SDen} {Γ Γ1 : Env} {F : Out Flw} (c1 : a Γ = .ok .next Γ1) (c2 : b Γ1 = F) : sSeq a b Γ = F := by rw [sSeq_ap, c1]; exact c2
theorem zSorted_t (f : List Nat) : zSorted [.tup (nats f)] = some (.lst ((srt (cst f)).map D.int)) := by
  rw [nats_cst]
  simp [zSorted, intsD_map]
theorem zSorted_l (f : List Nat) : zSorted [.lst (nats f)] = some (.lst ((srt (cst f)).map D.int)) := by
  rw [nats_cst]
  simp [zSorted, listI, listD, intsD_map]
theorem own_loop {b m : Nat} {R : List D} {x4 : Option T} (hb : 2 ≤ b) (hb2 : b ≤ 16) (hm2 : m ≤ 6) : ∀ (rs : List (List Nat)) (F : List Nat) (x6 x7 : Option T), (∀ r ∈ rs, (∀ x ∈ r, x < b) ∧ r.length = m) → F.length + rs.length < big →
    ∃ y6 y7, forL (putN 6) dOwn5B (rs.map rwD) [some (.frz (.int b)), some (.frz (.int m)), some (.lst (nats (pwl b m))), some (.frz (.lst R)), x4, some (.lst (nats F)), x6, x7, none] = .ok .next [some (.frz (.int b)), some (.frz (.int m)), some (.lst (nats (pwl b m))), some (.frz (.lst R)), x4, some (.lst (nats (F ++ (rs.filter (okR b m)).map (tot m)))), y6, y7, none]
  | [], F, x6, x7, _, _ => ⟨x6, x7, by simp [forL]⟩
  | r :: rs, F, x6, x7, h, hl => by
    obtain ⟨hlt, hlen⟩ := h r (by simp)
    rw [List.length_cons] at hl
    have hg : (nats r).map (fun d => match d with | .int z => D.int ((z.toNat ^ m : Nat) : Int) | d => d) = nats (r.map (· ^ m)) := by
      unfold nats
      rw [List.map_map, List.map_map]
      refine List.map_congr_left fun x _ => ?_
      show D.int ((((x : Int).toNat) ^ m : Nat) : Int) = _
      rw [Int.toNat_natCast]; rfl
    have cm := compL_map (put := putN 8) (e := dV (dBin zIx (dName 2) (dName 8))) (vs := [8]) (Γ := [some (.frz (.int b)), some (.frz (.int m)), some (.lst (nats (pwl b m))), some (.frz (.lst R)), x4, some (.lst (nats F)), some (.frz (.tup (nats r))), x7, none]) (fun d => match d with | .int z => D.int ((z.toNat ^ m : Nat) : Int) | d => d) (nats r) (fun d hd => by
      obtain ⟨x, hx, rfl⟩ := List.mem_map.mp hd
      exact ⟨_, _, rfl, own_51e (zIx_nats (pwl_at (hlt x hx)) rfl), rfl⟩) []
    rw [List.nil_append, hg] at cm
    have c1 := own_51 (b := (b : Int)) (m := (m : Int)) (t := ((tot m r : Nat) : Int)) (by rw [nats_len, big]; omega) cm (zSum_nats _)
    have htl := tot_le (m := m) hlt
    have hp := pow166 hb2 hm2
    rw [hlen] at htl
    have : m * b ^ m ≤ 6 * b ^ m := Nat.mul_le_mul_right _ hm2
    have c2 := own_52 (b := (b : Int)) (m := (m : Int)) (P := nats (pwl b m)) (R := R) (x4 := x4) (F := nats F) (r := nats r) (figN_ev (b := b) hb (by omega) (lt160 (show tot m r ≤ 1000000000 by omega))) (zSorted_t _) (by rw [nats_cst]; exact zEq_ints _ _) (by rw [nats_len]; omega)
    have e : dOwn5B [some (.frz (.int b)), some (.frz (.int m)), some (.lst (nats (pwl b m))), some (.frz (.lst R)), x4, some (.lst (nats F)), some (.frz (rwD r)), x7, none] = _ := seq2 c1 c2
    have hF : (if decide (srt (cst (dgs b (tot m r))) = cst r) = true then nats F ++ [D.int ((tot m r : Nat) : Int)] else nats F) = nats (F ++ if okR b m r = true then [tot m r] else []) := by
      show (if okR b m r = true then nats F ++ [D.int ((tot m r : Nat) : Int)] else nats F) = _
      cases okR b m r with
      | true => rw [if_pos rfl, if_pos rfl, nats_app]; rfl
      | false => rw [if_neg (by decide), if_neg (by decide), List.append_nil]
    rw [hF] at e
    obtain ⟨y6, y7, ih⟩ := own_loop (R := R) (x4 := x4) hb hb2 hm2 rs (F ++ if okR b m r = true then [tot m r] else []) (some (.frz (rwD r))) (some (.frz (.int ((tot m r : Nat) : Int)))) (fun q hq => h q (by simp [hq])) (by
      have : (F ++ if okR b m r = true then [tot m r] else []).length ≤ F.length + 1 := by split <;> simp
      omega)
    refine ⟨y6, y7, ?_⟩
    have hfin : F ++ ((r :: rs).filter (okR b m)).map (tot m) = (F ++ if okR b m r = true then [tot m r] else []) ++ (rs.filter (okR b m)).map (tot m) := by
      rw [List.filter_cons]
      cases okR b m r with
      | true => rw [if_pos rfl, if_pos rfl, List.append_assoc]; rfl
      | false => rw [if_neg (by decide), if_neg (by decide), List.append_nil]
    rw [hfin]
    simp only [List.map_cons, forL, putN_ap, List.set_cons_succ, List.set_cons_zero, e]
    exact ih
theorem own_ev {b m : Nat} (hb : 2 ≤ b) (hb2 : b ≤ 16) (hm : 1 ≤ m) (hm2 : m ≤ 6) : dOwn [.frz (.int b), .frz (.int m)] = .ok (.frz (.tup (nats (dueL b m)))) [.frz (.int b), .frz (.int m)] := by
  have hbn : (b : Int).toNat = b := Int.toNat_natCast b
  have cm1 := compL_map (put := putN 8) (e := dV (dCall dPow [.v (dName 8), .v (dName 1)])) (vs := [8]) (Γ := [some (.frz (.int b)), some (.frz (.int m)), none, none, none, none, none, none, none]) (fun d => match d with | .int z => D.int ((z.toNat ^ m : Nat) : Int) | d => d) (rngD 0 1 b) (fun d hd => by
    obtain ⟨j, hj⟩ := List.getElem?_of_mem hd
    obtain ⟨hjb, rfl⟩ := rngD_at hj
    have hz : (0 : Int) + (j : Int) * 1 = (j : Int) := by omega
    rw [hz]
    have e := pow_ev (j : Int) m (nat64 (by omega)) (by omega)
    rw [← Int.natCast_pow] at e
    refine ⟨_, _, rfl, own_1e e, rfl⟩) []
  have hP : (rngD 0 1 b).map (fun d => match d with | .int z => D.int ((z.toNat ^ m : Nat) : Int) | d => d) = nats (pwl b m) := by
    unfold rngD pwl nats
    rw [List.map_map, List.map_map]
    refine List.map_congr_left fun i _ => ?_
    show D.int ((((0 : Int) + (i : Int) * 1).toNat ^ m : Nat) : Int) = _
    rw [show (0 : Int) + (i : Int) * 1 = (i : Int) by omega, Int.toNat_natCast]; rfl
  rw [List.nil_append, hP] at cm1
  have c1 := own_1 (b := (b : Int)) (small_of (by omega) (by omega)) (by rw [hbn, big]; omega) (by rw [hbn]; exact cm1)
  have cm2 := compL_map (put := putN 8) (e := dV (dTup [(dName 8)])) (vs := [8]) (Γ := [some (.frz (.int b)), some (.frz (.int m)), some (.lst (nats (pwl b m))), none, none, none, none, none, none]) (fun d => .tup [d]) (rngD 0 1 b) (fun d hd => by
    obtain ⟨j, hj⟩ := List.getElem?_of_mem hd
    obtain ⟨hjb, rfl⟩ := rngD_at hj
    exact ⟨_, _, rfl, own_2e, rfl⟩) []
  have hR : (rngD 0 1 b).map (fun d => D.tup [d]) = (rowsN b 0).map rwD := by
    unfold rngD rowsN
    rw [List.map_map, List.map_map]
    refine List.map_congr_left fun i _ => ?_
    show D.tup [.int ((0 : Int) + (i : Int) * 1)] = D.tup [.int (i : Int)]
    rw [show (0 : Int) + (i : Int) * 1 = (i : Int) by omega]
  rw [List.nil_append, hR] at cm2
  have c2 := own_2 (b := (b : Int)) (m := (m : Int)) (small_of (by omega) (by omega)) (by rw [hbn, big]; omega) (by rw [hbn]; exact cm2)
  have hmn : ((m : Int) - 1).toNat = m - 1 := by omega
  have hrow : ∀ k r, r ∈ rowsN b k → (∃ s y, r = s ++ [y] ∧ y < b) ∧ r.length = k + 1 := fun k r hr => by
    have h := (rows_mem k r).mp hr
    obtain ⟨s, y, rfl, hs⟩ := snoc h.len
    exact ⟨⟨s, y, rfl, h.lt y (by simp)⟩, h.len⟩
  obtain ⟨Γ3, c3, x4, rfl⟩ := forL_rng (put := putN 4) (b := dOwn3B) (fun k Γ => ∃ x4, Γ = [some (.frz (.int b)), some (.frz (.int m)), some (.lst (nats (pwl b m))), some (.lst ((rowsN b k).map rwD)), x4, none, none, none, none]) 0 1 (m - 1)
    [some (.frz (.int b)), some (.frz (.int m)), some (.lst (nats (pwl b m))), some (.lst ((rowsN b 0).map rwD)), none, none, none, none, none] ⟨none, rfl⟩ (by
      rintro k Γ hk ⟨x4, rfl⟩
      have hbg := rows_big (k := k + 1) hb2 (by omega)
      have e := lng_ev (b := b) (by omega) (rowsN b k) (fun r hr => by
        obtain ⟨h1, h2⟩ := hrow k r hr
        exact ⟨h1, by omega⟩) (by show (rowsN b (k + 1)).length ≤ big; rw [big]; omega)
      exact ⟨_, _, rfl, own_3 e, _, rfl⟩)
  have hbg := rows_big (k := m - 1) hb2 (by omega)
  obtain ⟨y6, y7, c5⟩ := own_loop (R := (rowsN b (m - 1)).map rwD) (x4 := x4) hb hb2 hm2 (rowsN b (m - 1)) [] none none (fun r hr => by
    have h := (rows_mem (m - 1) r).mp hr
    exact ⟨h.lt, by rw [h.len]; omega⟩) (by rw [big, List.length_nil]; omega)
  rw [List.nil_append] at c5
  have := own_out c1 c2 (small_of (by omega) (by omega)) (by rw [hmn]; exact c3) c5 (zSorted_l (foundL b m (m - 1)))
  rw [own_eq hb hb2 hm hm2, ← nats_cst] at this
  exact this
end Fw
namespace Fw
open PySem L2
/-! ### own numbers that are known -/
def chkK (b m : Nat) (K : List Nat) : Bool := (rowsN b (m - 1)).all fun r => K.contains (tot m r) || !(decide (loN b m ≤ tot m r) && (dg b (tot m r) (m - 1)).sum == r.sum && (List.range b).all fun x => (dg b (tot m r) (m - 1)).count x == r.count x)
def chkO (b m : Nat) (K : List Nat) : Bool := K.all fun n => decide ((dgs b n).length = m) && decide (tot m (dgs b n) = n)
theorem due_K {b m : Nat} {K : List Nat} (hb : 2 ≤ b) (hb2 : b ≤ 16) (hm : 1 ≤ m) (hm2 : m ≤ 6) (hK : K.Pairwise (· < ·)) (h1 : chkO b m K = true) (h2 : chkK b m K = true) : dueL b m = K := by
  have hs : (dueL b m).Pairwise (· ≤ ·) := List.Pairwise.filter _ (List.pairwise_le_range' (s := loN b m) (n := b ^ m - loN b m) 1)
  have hn : (dueL b m).Nodup := List.Pairwise.filter _ (List.nodup_range' (s := loN b m) (n := b ^ m - loN b m) 1 (by decide))
  refine List.Perm.eq_of_pairwise (le := fun (x y : Nat) => x ≤ y) (fun x y _ _ h g => Nat.le_antisymm h g) hs (hK.imp fun h => Nat.le_of_lt h) ?_
  refine (List.perm_ext_iff_of_nodup hn (hK.imp fun h => Nat.ne_of_lt h)).mpr fun n => ?_
  rw [due_mem hb hb2 hm hm2]
  constructor
  · intro ho
    have hf := (found_mem hb hm).mpr ho
    simp only [foundL, List.mem_map, List.mem_filter] at hf
    obtain ⟨r, ⟨hr, hok⟩, rfl⟩ := hf
    have hp := ok_perm hok
    have hl := ho.1
    have hk : tk b (tot m r) = m - 1 := by
      unfold dgs at hl
      rw [fg_len] at hl; omega
    have hd : (dg b (tot m r) (m - 1)).Perm r := by
      unfold dgs fg at hp
      rw [hk] at hp
      exact (List.reverse_perm _).symm.trans hp
    have hc := List.all_eq_true.mp h2 r hr
    have hlo : loN b m ≤ tot m r := by
      have := (due_mem hb hb2 hm hm2).mpr ho
      unfold dueL at this
      exact (List.mem_range'_1.mp (List.mem_filter.mp this).1).1
    have hx : (decide (loN b m ≤ tot m r) && (dg b (tot m r) (m - 1)).sum == r.sum && (List.range b).all fun x => (dg b (tot m r) (m - 1)).count x == r.count x) = true := by
      rw [Bool.and_eq_true, Bool.and_eq_true]
      exact ⟨⟨decide_eq_true hlo, by rw [hd.sum_nat]; exact beq_self_eq_true _⟩, List.all_eq_true.mpr fun x _ => by rw [hd.count_eq]; exact beq_self_eq_true _⟩
    rw [hx, Bool.not_true, Bool.or_false] at hc
    exact List.contains_iff_mem.mp hc
  · intro hn
    have := List.all_eq_true.mp h1 n hn
    rw [Bool.and_eq_true] at this
    exact ⟨of_decide_eq_true this.1, of_decide_eq_true this.2⟩
theorem own_10_2 : dueL 10 2 = [] := due_K (by decide) (by decide) (by decide) (by decide) (by decide) (by decide +kernel) (by decide +kernel)
theorem own_10_3 : dueL 10 3 = [153, 370, 371, 407] := due_K (by decide) (by decide) (by decide) (by decide) (by decide) (by decide +kernel) (by decide +kernel)
theorem own_10_4 : dueL 10 4 = [1634, 8208, 9474] := due_K (by decide) (by decide) (by decide) (by decide) (by decide) (by decide +kernel) (by decide +kernel)
theorem own_10_5 : dueL 10 5 = [54748, 92727, 93084] := due_K (by decide) (by decide) (by decide) (by decide) (by decide) (by decide +kernel) (by decide +kernel)
theorem own_10_6 : dueL 10 6 = [548834] := due_K (by decide) (by decide) (by decide) (by decide) (by decide) (by decide +kernel) (by decide +kernel)
theorem own_2_1 : dueL 2 1 = [0, 1] := due_K (by decide) (by decide) (by decide) (by decide) (by decide) (by decide +kernel) (by decide +kernel)
end Fw
namespace Fw
open PySem L2

/-! ### d.get(k, x), x any value -/
def zGetL : D → List D → Option D
  | .dct ks vs, [k, z] => match keyD k with
    | some k => some ((findK ks vs k).getD z)
    | none => none
  | _, _ => none
def dGet (o e f : Den) : Den := bindO (dO o) fun ro Γ0 => liftO (ro.get Γ0) fun d0 => if isDct d0 = true then bindO (dVs [e, f]) (fun ds Γ => liftO (ro.get Γ) fun d => liftO (zGetL d ds) fun w => .ok (.frz w) Γ) Γ0 else .stuck
@[simp ↓] theorem dGet_ap {o e f : Den} {Γ : Env} : dGet o e f Γ = bindO (dO o) (fun ro Γ0 => liftO (ro.get Γ0) fun d0 => if isDct d0 = true then bindO (dVs [e, f]) (fun ds Γ => liftO (ro.get Γ) fun d => liftO (zGetL d ds) fun w => .ok (.frz w) Γ) Γ0 else .stuck) Γ := nr rfl
theorem se_get {K : PySem.W.Frag} {td ty tx : TE} {o e f : Den} (ho : SE K td o) (he : SE K ty e) (hf : SE K tx f) : SE K (tDGet2 td ty tx) (dGet o e f) := by
  intro σ Γ res Γ' he0 Hf H fp E w Q q
  obtain ⟨ro, Γ0, h0, he1⟩ := bindO_ok he0
  obtain ⟨d0, g0, he2⟩ := liftO_ok he1
  split at he2
  case isFalse => cases he2
  rename_i hc
  obtain ⟨ds, Γ1, h1, he3⟩ := bindO_ok he2
  obtain ⟨d, gd, he4⟩ := liftO_ok he3
  obtain ⟨z, hz, he6⟩ := liftO_ok he4
  cases he6
  refine SO.of ho σ Γ ro Γ0 h0 Hf H fp E w _ fun x Hf1 H1 fp1 E1 w1 s1 r1 => ?_
  have hx := r1.top E1 g0
  cases d0 with
  | dct ks0 ds0 =>
    obtain ⟨a, ws0, rfl, ha0, _, _⟩ := hx.dict w1.same
    refine ⟨a, rfl, .inl ⟨_, ha0⟩, ?_⟩
    refine (svs_cons he (svs_cons hf svs_nil)) σ Γ0 ds _ h1 Hf1 H1 fp1 E1 w1 (fun xs H3 => match xs with | [y, z] => ∃ ov, DGet H3 a y ov ∧ Q (ov.getD z) H3 | _ => False) fun xs Hf2 H2 fp2 E2 w2 s2 r2 => ?_
    have hd := (r1.ext s2.ext).top E2 gd
    unfold zGetL at hz
    split at hz
    case h_2 => cases hz
    rename_i ks vs k zi
    split at hz
    case h_2 => cases hz
    rename_i kk hk
    cases hz
    obtain ⟨a', ws, ea, ha, hks, rv⟩ := hd.dict w2.same
    cases ea
    subst hks
    simp only [RepL] at r2
    obtain ⟨y, ys, rfl, hy, u, us, rfl, hu, rfl⟩ := r2
    obtain rfl := hy.key hk
    refine ⟨valV ws kk, .inl ⟨ws, kk, ha, rfl, rfl⟩, ?_⟩
    have hfin : ∀ v, Rep K Hf2 ((findK (ws.map (·.1)) vs kk).getD zi) v → Q v H2 := fun v r => by
      obtain ⟨Hf3, ft, E3, w3, s3, r3⟩ := Made.res (z := .val ((findK (ws.map (·.1)) vs kk).getD zi)) (v := v) E2 w2 ⟨rfl, r⟩
      exact q v Hf3 _ fp2 ft E3 w3 ((s1.trans s2).trans s3) r3
    cases hfk : findK (ws.map (·.1)) vs kk with
    | none =>
      rw [(rv.find (k := kk)).2 hfk]
      exact hfin _ (by rw [hfk]; exact hu)
    | some d' =>
      obtain ⟨v, e1, e2⟩ := (rv.find (k := kk)).1 d' hfk
      rw [e1]
      exact hfin v (by rw [hfk]; exact e2)
  | _ => simp [isDct] at hc
section
variable {F : Fam} {de dz df : Den}
theorem sd_get {o e f : Expr} {apos cpos : Pos} (ho : PED F o dz) (he : PED F e de) (hf : PED F f df) (hbase : ∀ i, attributeBase o "get" (F.X i).env (eval o (F.X i).env) = eval o (F.X i).env := by intro _; rfl)
    (hfew : ∀ env, ((backTo cpos (starEach [e, f] env)).all (fun x => !x.1) && (backToKw cpos (keywordEach [] env)).all (fun x => x.1.isSome)
      && decide (([e, f] : List Expr).length + ([] : List Keyword).length + (if ([] : List Keyword).isEmpty then 0 else 1) < 30)) = true := by intro _; rfl)
    (hline : (apos.endLine == cpos.line) = true := by rfl) (htr : ∀ env, backTo cpos (starEach [e, f] env) = [(false, eval e env), (false, eval f env)] := by intro _; rfl) :
    PED F (.Call (.Attribute o "get" apos) [e, f] [] cpos) (dGet dz de df) := by
  obtain ⟨_, p0, s0⟩ := ho
  obtain ⟨_, p1, s1⟩ := he
  obtain ⟨_, p2, s2⟩ := hf
  exact ⟨_, fun i => pe_dget2 (by have := (F.room i).un; omega) (p0 i) (p1 i) (p2 i) ⟨hbase i, hfew _, hline, htr _⟩, se_get s0 s1 s2⟩
end
/-! ### what a dict tells behind a store -/
theorem find_cons {k s : Key} {d : D} {ks : List Key} {vs : List D} : findK (k :: ks) (d :: vs) s = if k = s then some d else findK ks vs s := by
  unfold findK
  rw [List.zip_cons_cons, List.find?_cons]
  by_cases c : k = s
  · rw [if_pos c]
    simp only [decide_eq_true c, Option.map_some]
  · rw [if_neg c]
    simp only [decide_eq_false c]
theorem find_none {s : Key} : ∀ {ks : List Key} {vs : List D}, (ks.any fun j => decide (j = s)) = false → findK ks vs s = none
  | [], vs, _ => by simp [findK]
  | k :: ks, [], _ => by simp [findK]
  | k :: ks, v :: vs, h => by
    rw [List.any_cons, Bool.or_eq_false_iff] at h
    rw [find_cons, if_neg (of_decide_eq_false h.1)]
    exact find_none h.2
theorem find_app {k s : Key} {d : D} : ∀ {ks : List Key} {vs : List D}, ks.length = vs.length → findK (ks ++ [k]) (vs ++ [d]) s = match findK ks vs s with | some x => some x | none => if k = s then some d else none
  | [], [], _ => by
    show findK [k] [d] s = _
    rw [find_cons]; rfl
  | [], _ :: _, h => by simp at h
  | _ :: _, [], h => by simp at h
  | k0 :: ks, v :: vs, h => by
    rw [List.cons_append, List.cons_append, find_cons, find_cons]
    by_cases c : k0 = s
    · rw [if_pos c, if_pos c]
    · rw [if_neg c, if_neg c]
      exact find_app (by simpa using h)
theorem find_map {k s : Key} {d : D} : ∀ {ks : List Key} {vs : List D}, ks.length = vs.length → (ks.any fun j => decide (j = k)) = true → findK ks ((ks.zip vs).map fun p => if p.1 = k then d else p.2) s = if k = s then some d else findK ks vs s
  | [], _, _, h => by simp at h
  | _ :: _, [], h, _ => by simp at h
  | k0 :: ks, v :: vs, hl, h => by
    rw [List.zip_cons_cons, List.map_cons, find_cons, find_cons]
    by_cases c : k0 = s
    · rw [if_pos c]
      by_cases e : k0 = k
      · rw [if_pos e, if_pos (e.symm.trans c)]
      · rw [if_neg e, if_neg (fun z => e (c.trans z.symm)), if_pos c]
    · rw [if_neg c, if_neg c]
      by_cases a : (ks.any fun j => decide (j = k)) = true
      · exact find_map (by simpa using hl) a
      · have e : k0 = k := by
          rw [List.any_cons, Bool.or_eq_true] at h
          exact of_decide_eq_true (h.resolve_right a)
        have hm : (ks.zip vs).map (fun p => if p.1 = k then d else p.2) = vs := by
          have hne : ∀ j ∈ ks, j ≠ k := fun j hj g => a (List.any_eq_true.mpr ⟨j, hj, decide_eq_true g⟩)
          have hl' : ks.length = vs.length := by simpa using hl
          clear a h e c hl
          induction ks generalizing vs with
          | nil =>
            cases vs with
            | nil => rfl
            | cons => simp at hl'
          | cons j ks ih =>
            cases vs with
            | nil => simp at hl'
            | cons u vs =>
              rw [List.zip_cons_cons, List.map_cons, if_neg (hne j (by simp)), ih vs (fun i hi => hne i (by simp [hi])) (by simpa using hl')]
        rw [hm, if_neg (fun z => c (e.trans z))]
theorem find_put {k s : Key} {d : D} {ks : List Key} {vs : List D} (hl : ks.length = vs.length) : findK (putKD k d ks vs).1 (putKD k d ks vs).2 s = if k = s then some d else findK ks vs s := by
  unfold putKD
  by_cases c : (ks.any fun j => decide (j = k)) = true
  · rw [if_pos c]; exact find_map hl c
  · rw [if_neg c]
    show findK (ks ++ [k]) (vs ++ [d]) s = _
    rw [find_app hl]
    by_cases e : k = s
    · rw [if_pos e, ← e, find_none (Bool.eq_false_iff.mpr c)]; simp
    · rw [if_neg e]
      cases findK ks vs s <;> simp [e]
theorem put_len {k : Key} {d : D} {ks : List Key} {vs : List D} (hl : ks.length = vs.length) : (putKD k d ks vs).1.length = (putKD k d ks vs).2.length ∧ (putKD k d ks vs).1.length ≤ ks.length + 1 := by
  unfold putKD
  by_cases c : (ks.any fun j => decide (j = k)) = true
  · rw [if_pos c]
    refine ⟨?_, Nat.le_succ _⟩
    rw [List.length_map, List.length_zip, hl, Nat.min_self]
  · rw [if_neg c]
    simp [hl]
@[simp ↓] theorem sPutK_ap {x : Nat} {ek e : Den} {Γ : Env} : sPutK x ek e Γ = bindO (dV e) (fun d Γ0 => match Γ0[x]? with
  | some (some _) => bindO (dV ek) (fun kd Γ => liftO (keyD kd) fun k => match Γ[x]? with
    | some (some (.dct ks ds)) => if ks.length < big then .ok .next (Γ.set x (some (.dct (putKD k d ks ds).1 (putKD k d ks ds).2))) else .stuck
    | _ => .stuck) Γ0
  | _ => .stuck) Γ := by unfold sPutK; rfl
end Fw
namespace Fw
open PySem L2

/-! ### own numbers by two halves: the law's own -/
def dStpB : SDen := (sDrop (dMut mAppend 3 [(dBin zAdd (dBin zIx (dName 3) (dBin zDiv (dName 4) (dName 1))) (dBin zIx (dName 0) (dBin zMod (dName 4) (dName 1))))]))
def dStps : FDen := dFun 5 [false, false, false] (sSeq (sAsg 3 (dB zList [(dName 0)])) (sSeq (sFor (iR2 (dName 1) (dName 2)) (putN 4) dStpB) (sRet (dName 3))))
section
variable {P Q St : List D} {b n q r x y M : Int}
theorem stp_b {S2 : T} (hq : zDiv (.int n) (.int b) = some (.val (.int q))) (hr : zMod (.int n) (.int b) = some (.val (.int r))) (hx : zIx (.lst St) (.int q) = some (.val (.int x))) (hy : zIx (.lst P) (.int r) = some (.val (.int y))) (hl : St.length < big) :
    dStpB [some (.frz (.lst P)), some (.frz (.int b)), some S2, some (.lst St), some (.frz (.int n))] = .ok .next [some (.frz (.lst P)), some (.frz (.int b)), some S2, some (.lst (St ++ [.int (x + y)])), some (.frz (.int n))] := by
  simp [dStpB, hq, hr, hx, hy, mAppend_ok hl]
theorem stp_out {y4 : Option T} (s1 : smallI b = true) (s2 : smallI M = true) (e : forL (putN 4) dStpB (rngD b 1 (M - b).toNat) [some (.frz (.lst P)), some (.frz (.int b)), some (.frz (.int M)), some (.lst P), none] = .ok .next [some (.frz (.lst P)), some (.frz (.int b)), some (.frz (.int M)), some (.lst St), y4]) :
    dStps [.frz (.lst P), .frz (.int b), .frz (.int M)] = .ok (.lst St) [.frz (.lst P), .frz (.int b), .frz (.int M)] := by
  have zl : zList [.lst P] = some (.lst P) := rfl
  simp [dStps, zl, s1, s2, e]
end
def sts (b m n : Nat) : List Nat := (List.range n).map (st b m)
theorem sts_at {b m n j : Nat} (h : j < n) : (sts b m n)[j]? = some (st b m j) := by simp [sts, List.getElem?_range h]
theorem sts_len (b m n : Nat) : (sts b m n).length = n := by simp [sts]
theorem sts_b {b m : Nat} (hb : 2 ≤ b) (hb2 : b < 1000) : sts b m b = pwl b m := by
  unfold sts pwl
  exact List.map_congr_left fun x hx => st_small hb hb2 (by simpa using hx)
theorem stps_ev {b m M : Nat} (hb : 2 ≤ b) (hb2 : b < 1000) (hm : 1 ≤ m) (hM : b ≤ M) (hM2 : M ≤ 1000000) : dStps [.frz (.lst (nats (pwl b m))), .frz (.int b), .frz (.int M)] = .ok (.lst (nats (sts b m M))) [.frz (.lst (nats (pwl b m))), .frz (.int b), .frz (.int M)] := by
  have hn : ((M : Int) - (b : Int)).toNat = M - b := by omega
  obtain ⟨Γ', e, y4, rfl⟩ := forL_rng (put := putN 4) (b := dStpB) (fun j Γ => ∃ y4, Γ = [some (.frz (.lst (nats (pwl b m)))), some (.frz (.int b)), some (.frz (.int M)), some (.lst (nats (sts b m (b + j)))), y4]) (b : Int) 1 (M - b)
    [some (.frz (.lst (nats (pwl b m)))), some (.frz (.int b)), some (.frz (.int M)), some (.lst (nats (pwl b m))), none] ⟨none, by rw [Nat.add_zero, sts_b hb hb2]⟩ (by
      rintro j Γ hj ⟨y4, rfl⟩
      have hz : (b : Int) + (j : Int) * 1 = ((b + j : Nat) : Int) := by omega
      rw [hz]
      have hlt : (b + j) % b < b := Nat.mod_lt _ (by omega)
      have hdv : (b + j) / b < b + j := Nat.div_lt_self (by omega) (by omega)
      have hr := st_rec0 (n := b + j) hb hb2 hm (lt160 (by omega))
      have c := stp_b (P := nats (pwl b m)) (b := (b : Int)) (n := ((b + j : Nat) : Int)) (S2 := .frz (.int M)) (St := nats (sts b m (b + j))) (q := (((b + j) / b : Nat) : Int)) (r := (((b + j) % b : Nat) : Int)) (by rw [zDiv_i (by omega) (nat64 (by omega)), ← Int.natCast_ediv]) (by rw [zMod_i (by omega), ← Int.natCast_emod]) (zIx_nats (sts_at hdv) rfl) (zIx_nats (pwl_at hlt) rfl) (by rw [nats_len, sts_len, big]; omega)
      refine ⟨_, _, rfl, c, some (.frz (.int ((b + j : Nat) : Int))), ?_⟩
      have : sts b m (b + (j + 1)) = sts b m (b + j) ++ [st b m (b + j)] := by
        unfold sts
        rw [show b + (j + 1) = (b + j) + 1 by omega, List.range_succ, List.map_append]; rfl
      rw [this, nats_app, hr]
      have h2 : nats [st b m ((b + j) / b) + ((b + j) % b) ^ m] = [D.int (((st b m ((b + j) / b) : Nat) : Int) + ((((b + j) % b) ^ m : Nat) : Int))] := congrArg (fun x => [D.int x]) (Int.natCast_add _ _)
      rw [h2])
  have hfin : b + (M - b) = M := by omega
  rw [hfin] at e
  exact stp_out (small_of (by omega) (by omega)) (small_of (by omega) (by omega)) (by rw [hn]; exact e)
/-! the mathematics -/
theorem ssum_split {b p : Nat} : ∀ (j2 j1 n : Nat), ssum b p (j1 + j2) n = ssum b p j1 (n / b ^ j2) + ssum b p j2 (n % b ^ j2)
  | 0, j1, n => by simp [ssum]
  | j2 + 1, j1, n => by
    have h1 : n % b ^ (j2 + 1) / b = n / b % b ^ j2 := by rw [Nat.pow_succ, Nat.mul_comm, Nat.mod_mul_right_div_self]
    have h2 : n % b ^ (j2 + 1) % b = n % b := by rw [Nat.pow_succ, Nat.mul_comm, Nat.mod_mul_right_mod]
    have h3 : n / b ^ (j2 + 1) = n / b / b ^ j2 := by rw [Nat.pow_succ, Nat.mul_comm, ← Nat.div_div_eq_div_mul]
    rw [show j1 + (j2 + 1) = (j1 + j2) + 1 by omega, ssum_low, ssum_split j2 j1, ssum_low, h1, h2, h3]
    omega
def lo2 (b m : Nat) : Nat := if m = 1 then 0 else b ^ (m - m / 2) / b
def cndH (b m n r : Nat) : Bool := decide (((st b m r : Nat) : Int) - (r : Int) = ((n * b ^ (m / 2) : Nat) : Int) - ((st b m n : Nat) : Int))
def blkH (b m n : Nat) : List Nat := ((List.range (b ^ (m / 2))).filter (cndH b m n)).map fun r => n * b ^ (m / 2) + r
def halfL (b m : Nat) : List Nat := (List.range' (lo2 b m) (b ^ (m - m / 2) - lo2 b m)).flatMap (blkH b m)
theorem lo2_le {b m : Nat} (hb : 2 ≤ b) (hm : 1 ≤ m) : lo2 b m ≤ b ^ (m - m / 2) := by
  unfold lo2
  split
  · exact Nat.zero_le _
  · exact Nat.div_le_self _ _
theorem half_st {b m n r : Nat} (hb : 2 ≤ b) (hb2 : b ≤ 16) (hm : 1 ≤ m) (hm2 : m ≤ 6) (hn : n < b ^ (m - m / 2)) (hr : r < b ^ (m / 2)) : n * b ^ (m / 2) + r < b ^ m ∧ st b m (n * b ^ (m / 2) + r) = st b m n + st b m r := by
  have hpos : 0 < b ^ (m / 2) := Nat.pow_pos (by omega)
  have hsum : m - m / 2 + m / 2 = m := by omega
  have hpw : b ^ m = b ^ (m - m / 2) * b ^ (m / 2) := by rw [← Nat.pow_add, hsum]
  have hlt : n * b ^ (m / 2) + r < b ^ m := by
    rw [hpw]
    have : (n + 1) * b ^ (m / 2) ≤ b ^ (m - m / 2) * b ^ (m / 2) := Nat.mul_le_mul_right _ hn
    rw [Nat.succ_mul] at this
    omega
  have hp := pow166 hb2 hm2
  have hle1 : b ^ (m - m / 2) ≤ b ^ m := Nat.pow_le_pow_right (by omega) (by omega)
  have hle2 : b ^ (m / 2) ≤ b ^ m := Nat.pow_le_pow_right (by omega) (by omega)
  have hd : (n * b ^ (m / 2) + r) / b ^ (m / 2) = n := by
    rw [Nat.mul_comm, Nat.mul_add_div hpos, Nat.div_eq_of_lt hr, Nat.add_zero]
  have hmo : (n * b ^ (m / 2) + r) % b ^ (m / 2) = r := by
    rw [Nat.mul_comm, Nat.mul_add_mod, Nat.mod_eq_of_lt hr]
  refine ⟨hlt, ?_⟩
  have h160 : ∀ x, x < b ^ m → x < 2 ^ 160 := fun x hx => lt160 (by omega)
  rw [st_ssum (b := b) (p := m) hb (by omega) hm m _ hlt (h160 _ hlt), st_ssum (b := b) (p := m) hb (by omega) hm (m - m / 2) n hn (h160 _ (by omega)), st_ssum (b := b) (p := m) hb (by omega) hm (m / 2) r hr (h160 _ (by omega))]
  have := ssum_split (b := b) (p := m) (m / 2) (m - m / 2) (n * b ^ (m / 2) + r)
  rw [hsum, hd, hmo] at this
  exact this
theorem half_lo {b m n r : Nat} (hb : 2 ≤ b) (hm : 1 ≤ m) (hr : r < b ^ (m / 2)) : loN b m ≤ n * b ^ (m / 2) + r ↔ lo2 b m ≤ n := by
  unfold loN lo2
  by_cases c : m = 1
  · rw [if_pos c, if_pos c]; simp
  · rw [if_neg c, if_neg c]
    have hpos : 0 < b ^ (m / 2) := Nat.pow_pos (by omega)
    have h1 : b ^ (m - m / 2) / b = b ^ (m - m / 2 - 1) := by
      have : b ^ (m - m / 2) = b ^ (m - m / 2 - 1) * b := by rw [← Nat.pow_succ]; congr 1; omega
      rw [this, Nat.mul_div_cancel _ (by omega)]
    have h2 : b ^ (m - 1) = b ^ (m - m / 2 - 1) * b ^ (m / 2) := by rw [← Nat.pow_add]; congr 1; omega
    rw [h1, h2]
    constructor
    · intro h
      rcases Nat.lt_or_ge n (b ^ (m - m / 2 - 1)) with z | z
      · have : (n + 1) * b ^ (m / 2) ≤ b ^ (m - m / 2 - 1) * b ^ (m / 2) := Nat.mul_le_mul_right _ z
        rw [Nat.succ_mul] at this
        omega
      · exact z
    · intro h
      have : b ^ (m - m / 2 - 1) * b ^ (m / 2) ≤ n * b ^ (m / 2) := Nat.mul_le_mul_right _ h
      omega
theorem blk_mem {b m n N : Nat} : N ∈ blkH b m n ↔ ∃ r, r < b ^ (m / 2) ∧ cndH b m n r = true ∧ N = n * b ^ (m / 2) + r := by
  unfold blkH
  simp only [List.mem_map, List.mem_filter, List.mem_range]
  constructor
  · rintro ⟨r, ⟨h1, h2⟩, rfl⟩; exact ⟨r, h1, h2, rfl⟩
  · rintro ⟨r, h1, h2, rfl⟩; exact ⟨r, ⟨h1, h2⟩, rfl⟩
theorem half_mem {b m N : Nat} (hb : 2 ≤ b) (hb2 : b ≤ 16) (hm : 1 ≤ m) (hm2 : m ≤ 6) : N ∈ halfL b m ↔ N ∈ dueL b m := by
  have hlo2 := lo2_le (m := m) hb hm
  have hlo := lo_le (m := m) hb hm
  have hpos : 0 < b ^ (m / 2) := Nat.pow_pos (by omega)
  unfold halfL dueL
  rw [List.mem_flatMap, List.mem_filter, List.mem_range'_1, show loN b m + (b ^ m - loN b m) = b ^ m by omega]
  constructor
  · rintro ⟨n, hn, hN⟩
    rw [List.mem_range'_1, show lo2 b m + (b ^ (m - m / 2) - lo2 b m) = b ^ (m - m / 2) by omega] at hn
    obtain ⟨r, h1, h2, rfl⟩ := blk_mem.mp hN
    obtain ⟨g1, g2⟩ := half_st hb hb2 hm hm2 hn.2 h1
    refine ⟨⟨(half_lo hb hm h1).mpr hn.1, g1⟩, ?_⟩
    have h2 := of_decide_eq_true h2
    have : st b m (n * b ^ (m / 2) + r) = n * b ^ (m / 2) + r := by omega
    exact decide_eq_true this
  · rintro ⟨⟨h1, h2⟩, h3⟩
    have hr : N % b ^ (m / 2) < b ^ (m / 2) := Nat.mod_lt _ hpos
    have hN : N / b ^ (m / 2) * b ^ (m / 2) + N % b ^ (m / 2) = N := by rw [Nat.mul_comm]; exact Nat.div_add_mod _ _
    have hn : N / b ^ (m / 2) < b ^ (m - m / 2) := by
      rw [Nat.div_lt_iff_lt_mul hpos, ← Nat.pow_add, show m - m / 2 + m / 2 = m by omega]; exact h2
    obtain ⟨_, g2⟩ := half_st hb hb2 hm hm2 hn hr
    have hst : st b m N = N := of_decide_eq_true h3
    have hl : lo2 b m ≤ N / b ^ (m / 2) := (half_lo hb hm hr).mp (by rw [hN]; exact h1)
    generalize N / b ^ (m / 2) = n at *
    generalize N % b ^ (m / 2) = r at *
    refine ⟨n, ?_, blk_mem.mpr ⟨r, hr, ?_, hN.symm⟩⟩
    · rw [List.mem_range'_1, show lo2 b m + (b ^ (m - m / 2) - lo2 b m) = b ^ (m - m / 2) by omega]
      exact ⟨hl, hn⟩
    · rw [hN, hst] at g2
      exact decide_eq_true (by omega)
theorem half_nd {b m : Nat} (hb : 2 ≤ b) : (halfL b m).Nodup := by
  have hpos : 0 < b ^ (m / 2) := Nat.pow_pos (by omega)
  unfold halfL List.Nodup
  rw [List.pairwise_flatMap]
  refine ⟨fun n _ => ?_, List.Pairwise.imp (fun {x y} h a ha c hc e => h ?_) (List.nodup_range' (s := lo2 b m) (n := b ^ (m - m / 2) - lo2 b m) 1 (by decide))⟩
  · unfold blkH
    rw [List.pairwise_map]
    exact (List.Pairwise.filter _ List.nodup_range).imp fun h e => h (by omega)
  · obtain ⟨r, h1, _, rfl⟩ := blk_mem.mp ha
    obtain ⟨s, h2, _, h3⟩ := blk_mem.mp hc
    have d1 : ∀ x r : Nat, r < b ^ (m / 2) → (x * b ^ (m / 2) + r) / b ^ (m / 2) = x := fun x r hr => by rw [Nat.mul_comm, Nat.mul_add_div hpos, Nat.div_eq_of_lt hr, Nat.add_zero]
    have e2 : x * b ^ (m / 2) + r = y * b ^ (m / 2) + s := e.trans h3
    rw [← d1 x r h1, e2, d1 y s h2]
theorem half_eq {b m : Nat} (hb : 2 ≤ b) (hb2 : b ≤ 16) (hm : 1 ≤ m) (hm2 : m ≤ 6) : srt (cst (halfL b m)) = cst (dueL b m) := by
  refine (srt_eq ?_ ?_).symm
  · refine List.Perm.map _ ((List.perm_ext_iff_of_nodup ?_ (half_nd hb)).mpr fun n => (half_mem hb hb2 hm hm2).symm)
    exact List.Pairwise.filter _ (List.nodup_range' (s := loN b m) (n := b ^ m - loN b m) 1 (by decide))
  · exact cst_le (List.Pairwise.filter _ (List.pairwise_le_range' (s := loN b m) (n := b ^ m - loN b m) 1))
end Fw
namespace Fw
open PySem L2
def dHf1 : SDen := (sAsg 2 (dComp (iR1 (dName 0)) (putN 10) dYes (dCall dPow [.v (dName 10), .v (dName 1)]) [10]))
def dHf2 : SDen := (sAsg 3 (dCall dPow [.v (dName 0), .v (dBin zDiv (dName 1) (dC (.int 2)))]))
def dHf3 : SDen := (sAsg 4 (dCall dPow [.v (dName 0), .v (dBin zSub (dName 1) (dBin zDiv (dName 1) (dC (.int 2))))]))
def dHf4 : SDen := (sAsg 5 (dCall dStps [.v (dName 2), .v (dName 0), .v (dB zMax [(dName 3), (dName 4)])]))
def dHf61 : SDen := (sAsg 8 (dBin zSub (dBin zIx (dName 5) (dName 7)) (dName 7)))
def dHf62 : SDen := (sPutK 6 (dName 8) (dBin zAdd (dGet (dName 6) (dName 8) (dLst [])) (dLst [(dName 7)])))
def dHf6B : SDen := sSeq dHf61 dHf62
def dHf6 : SDen := (sFor (iR1 (dName 3)) (putN 7) dHf6B)
def dHf81 : SDen := (sAsg 8 (dBin zSub (dBin zMul (dName 7) (dName 3)) (dBin zIx (dName 5) (dName 7))))
def dHf8E : Den := (dBin zAdd (dBin zMul (dName 7) (dName 3)) (dName 11))
def dHf82 : SDen := (sDrop (dMut mExtend 9 [(dComp (iLst (dGet (dName 6) (dName 8) (dLst []))) (putN 11) dYes dHf8E [11])]))
def dHf8B : SDen := sSeq dHf81 dHf82
def dHf8 : SDen := (sFor (iR2 (dBin zIx (dLst [(dBin zDiv (dName 4) (dName 0)), (dC (.int 0))]) (dB zInt [(dBin zEq (dName 1) (dC (.int 1)))])) (dName 4)) (putN 7) dHf8B)
def dHf9 : SDen := (sRet (dB zSorted [(dName 9)]))
def dHalf : FDen := dFun 12 [false, false]
  (sSeq dHf1 (sSeq dHf2 (sSeq dHf3 (sSeq dHf4 (sSeq (sAsg 6 dDict0) (sSeq dHf6 (sSeq (sAsg 9 (dLst [])) (sSeq dHf8 dHf9))))))))
section
variable {b m low high h1 h2 n s w y M lo v c : Int} {P St F g l : List D} {ks : List Key} {vs : List D} {S2 : T} {x7 x8 x9 y7 y8 : Option T} {o : List T}
theorem hf_1e (e : dPow [.frz (.int y), .frz (.int m)] = .ok (.frz (.int v)) o) : dV (dCall dPow [.v (dName 10), .v (dName 1)]) [some (.frz (.int b)), some (.frz (.int m)), none, none, none, none, none, none, none, none, some (.frz (.int y)), none] = .ok (.int v) [some (.frz (.int b)), some (.frz (.int m)), none, none, none, none, none, none, none, none, some (.frz (.int y)), none] := by
  simp [e, putd2]
theorem hf_1 (s1 : smallI b = true) (hl : b.toNat ≤ big) (e : compL (putN 10) dYes (dV (dCall dPow [.v (dName 10), .v (dName 1)])) [10] (rngD 0 1 b.toNat) [] [some (.frz (.int b)), some (.frz (.int m)), none, none, none, none, none, none, none, none, none, none] = .ok P [some (.frz (.int b)), some (.frz (.int m)), none, none, none, none, none, none, none, none, none, none]) :
    dHf1 [some (.frz (.int b)), some (.frz (.int m)), none, none, none, none, none, none, none, none, none, none] = .ok .next [some (.frz (.int b)), some (.frz (.int m)), some (.lst P), none, none, none, none, none, none, none, none, none] := by
  have b1 : (rngD 0 1 b.toNat).length ≤ big := by rw [rngD_len]; exact hl
  simp only [dHf1, sAsg_ap, dComp_ap, iR1_ap, bindO_ap, dV_ap, dName_ap, List.getElem?_cons_zero, intD_int, liftO_some, s1, if_true, wipeE_cons, wipeE_nil, List.set_cons_succ, List.set_cons_zero, if_pos b1, e]
theorem hf_2 (hd : zDiv (.int m) (.int 2) = some (.val (.int h2))) (e : dPow [.frz (.int b), .frz (.int h2)] = .ok (.frz (.int low)) o) : dHf2 [some (.frz (.int b)), some (.frz (.int m)), some (.lst P), none, none, none, none, none, none, none, none, none] = .ok .next [some (.frz (.int b)), some (.frz (.int m)), some (.lst P), some (.frz (.int low)), none, none, none, none, none, none, none, none] := by
  simp [dHf2, hd, e, putd2]
theorem hf_3 (hd : zDiv (.int m) (.int 2) = some (.val (.int h2))) (hs : m - h2 = h1) (e : dPow [.frz (.int b), .frz (.int h1)] = .ok (.frz (.int high)) o) : dHf3 [some (.frz (.int b)), some (.frz (.int m)), some (.lst P), some (.frz (.int low)), none, none, none, none, none, none, none, none] = .ok .next [some (.frz (.int b)), some (.frz (.int m)), some (.lst P), some (.frz (.int low)), some (.frz (.int high)), none, none, none, none, none, none, none] := by
  simp [dHf3, hd, hs, e, putd2]
theorem hf_4 (hm : zMax [.int low, .int high] = some (.val (.int M))) (e : dStps [.frz (.lst P), .frz (.int b), .frz (.int M)] = .ok (.lst St) o) : dHf4 [some (.frz (.int b)), some (.frz (.int m)), some (.lst P), some (.frz (.int low)), some (.frz (.int high)), none, none, none, none, none, none, none] = .ok .next [some (.frz (.int b)), some (.frz (.int m)), some (.frz (.lst P)), some (.frz (.int low)), some (.frz (.int high)), some (.lst St), none, none, none, none, none, none] := by
  simp [dHf4, hm, e, putd3]
theorem hf_6b (hy : zIx (.lst St) (.int n) = some (.val (.int y))) (hs : y - n = s) (hg : (findK ks vs (.inl s)).getD (.lst []) = .lst l) (hl : l.length + 1 ≤ big) (hk : ks.length < big) :
    dHf6B [some (.frz (.int b)), some (.frz (.int m)), some S2, some (.frz (.int low)), some (.frz (.int high)), some (.lst St), some (.dct ks vs), some (.frz (.int n)), x8, none, none, none] = .ok .next [some (.frz (.int b)), some (.frz (.int m)), some S2, some (.frz (.int low)), some (.frz (.int high)), some (.lst St), some (.dct (putKD (.inl s) (.lst (l ++ [.int n])) ks vs).1 (putKD (.inl s) (.lst (l ++ [.int n])) ks vs).2), some (.frz (.int n)), some (.frz (.int s)), none, none, none] := by
  have kd : keyD (.int s) = some (.inl s) := rfl
  have idc : isDct (.dct ks vs) = true := rfl
  have zg : zGetL (.dct ks vs) [.int s, .lst []] = some (.lst l) := by
    show some ((findK ks vs (.inl s)).getD (.lst [])) = _
    rw [hg]
  have za : zAdd (.lst l) (.lst [.int n]) = some (.lst (l ++ [.int n])) := by simp [zAdd, hl]
  simp [dHf6B, dHf61, dHf62, hy, hs, kd, idc, zg, za, hk]
theorem hf_8e (hw : zMul (.int n) (.int low) = some (.val (.int w))) : dV dHf8E [some (.frz (.int b)), some (.frz (.int m)), some S2, some (.frz (.int low)), some (.frz (.int high)), some (.lst St), some (.dct ks vs), some (.frz (.int n)), x8, x9, none, some (.frz (.int y))] = .ok (.int (w + y)) [some (.frz (.int b)), some (.frz (.int m)), some S2, some (.frz (.int low)), some (.frz (.int high)), some (.lst St), some (.dct ks vs), some (.frz (.int n)), x8, x9, none, some (.frz (.int y))] := by
  simp [dHf8E, hw]
theorem hf_8b (hw : zMul (.int n) (.int low) = some (.val (.int w))) (hy : zIx (.lst St) (.int n) = some (.val (.int y))) (hs : w - y = s) (hg : (findK ks vs (.inl s)).getD (.lst []) = .lst l) (hl : l.length ≤ big)
    (e : compL (putN 11) dYes (dV dHf8E) [11] l [] [some (.frz (.int b)), some (.frz (.int m)), some S2, some (.frz (.int low)), some (.frz (.int high)), some (.lst St), some (.dct ks vs), some (.frz (.int n)), some (.frz (.int s)), some (.lst F), none, none] = .ok g [some (.frz (.int b)), some (.frz (.int m)), some S2, some (.frz (.int low)), some (.frz (.int high)), some (.lst St), some (.dct ks vs), some (.frz (.int n)), some (.frz (.int s)), some (.lst F), none, none]) (hb : F.length + g.length ≤ big) :
    dHf8B [some (.frz (.int b)), some (.frz (.int m)), some S2, some (.frz (.int low)), some (.frz (.int high)), some (.lst St), some (.dct ks vs), some (.frz (.int n)), x8, some (.lst F), none, none] = .ok .next [some (.frz (.int b)), some (.frz (.int m)), some S2, some (.frz (.int low)), some (.frz (.int high)), some (.lst St), some (.dct ks vs), some (.frz (.int n)), some (.frz (.int s)), some (.lst (F ++ g)), none, none] := by
  have kd : keyD (.int s) = some (.inl s) := rfl
  have idc : isDct (.dct ks vs) = true := rfl
  have zg : zGetL (.dct ks vs) [.int s, .lst []] = some (.lst l) := by
    show some ((findK ks vs (.inl s)).getD (.lst [])) = _
    rw [hg]
  simp [dHf8B, dHf81, dHf82, hw, hy, hs, kd, idc, zg, hl, e, dMut, mExtend, hb]
theorem hf_8 (hd : zDiv (.int high) (.int b) = some (.val (.int v))) (hz : zInt [.bl (decide (m = 1))] = some (.val (.int c))) (hlo : zIx (.lst [.int v, .int 0]) (.int c) = some (.val (.int lo))) (s1 : smallI lo = true) (s2 : smallI high = true)
    (e : forL (putN 7) dHf8B (rngD lo 1 (high - lo).toNat) [some (.frz (.int b)), some (.frz (.int m)), some S2, some (.frz (.int low)), some (.frz (.int high)), some (.lst St), some (.dct ks vs), x7, x8, some (.lst []), none, none] = .ok .next [some (.frz (.int b)), some (.frz (.int m)), some S2, some (.frz (.int low)), some (.frz (.int high)), some (.lst St), some (.dct ks vs), y7, y8, some (.lst F), none, none]) :
    dHf8 [some (.frz (.int b)), some (.frz (.int m)), some S2, some (.frz (.int low)), some (.frz (.int high)), some (.lst St), some (.dct ks vs), x7, x8, some (.lst []), none, none] = .ok .next [some (.frz (.int b)), some (.frz (.int m)), some S2, some (.frz (.int low)), some (.frz (.int high)), some (.lst St), some (.dct ks vs), y7, y8, some (.lst F), none, none] := by
  simp [dHf8, hd, hz, hlo, s1, s2, e]
theorem hf_6 (s1 : smallI low = true) (e : forL (putN 7) dHf6B (rngD 0 1 low.toNat) [some (.frz (.int b)), some (.frz (.int m)), some S2, some (.frz (.int low)), some (.frz (.int high)), some (.lst St), some (.dct [] []), none, none, none, none, none] = .ok .next [some (.frz (.int b)), some (.frz (.int m)), some S2, some (.frz (.int low)), some (.frz (.int high)), some (.lst St), some (.dct ks vs), x7, x8, none, none, none]) :
    dHf6 [some (.frz (.int b)), some (.frz (.int m)), some S2, some (.frz (.int low)), some (.frz (.int high)), some (.lst St), some (.dct [] []), none, none, none, none, none] = .ok .next [some (.frz (.int b)), some (.frz (.int m)), some S2, some (.frz (.int low)), some (.frz (.int high)), some (.lst St), some (.dct ks vs), x7, x8, none, none, none] := by
  simp [dHf6, s1, e]
theorem hf_out {Γ1 Γ2 Γ3 : Env} (c1 : dHf1 [some (.frz (.int b)), some (.frz (.int m)), none, none, none, none, none, none, none, none, none, none] = .ok .next Γ1) (c2 : dHf2 Γ1 = .ok .next Γ2) (c3 : dHf3 Γ2 = .ok .next Γ3) (c4 : dHf4 Γ3 = .ok .next [some (.frz (.int b)), some (.frz (.int m)), some S2, some (.frz (.int low)), some (.frz (.int high)), some (.lst St), none, none, none, none, none, none])
    (c6 : dHf6 [some (.frz (.int b)), some (.frz (.int m)), some S2, some (.frz (.int low)), some (.frz (.int high)), some (.lst St), some (.dct [] []), none, none, none, none, none] = .ok .next [some (.frz (.int b)), some (.frz (.int m)), some S2, some (.frz (.int low)), some (.frz (.int high)), some (.lst St), some (.dct ks vs), x7, x8, none, none, none])
    (c8 : dHf8 [some (.frz (.int b)), some (.frz (.int m)), some S2, some (.frz (.int low)), some (.frz (.int high)), some (.lst St), some (.dct ks vs), x7, x8, some (.lst []), none, none] = .ok .next [some (.frz (.int b)), some (.frz (.int m)), some S2, some (.frz (.int low)), some (.frz (.int high)), some (.lst St), some (.dct ks vs), y7, y8, some (.lst F), none, none]) (hs : zSorted [.lst F] = some (.lst g)) :
    dHalf [.frz (.int b), .frz (.int m)] = .ok (.lst g) [.frz (.int b), .frz (.int m)] := by
  simp only [dHalf, dFun_ap, List.map_cons, List.map_nil, List.length_cons, List.length_nil, List.replicate, List.cons_append, List.nil_append, sSeq_ap (s := dHf1), c1, sSeq_ap (s := dHf2), c2, sSeq_ap (s := dHf3), c3, sSeq_ap (s := dHf4), c4]
  simp [c6, c8, dHf9, hs]
end
def prt (b m r : Nat) : Int := ((st b m r : Nat) : Int) - (r : Int)
theorem fil_succ (f : Nat → Bool) (n : Nat) : (List.range (n + 1)).filter f = (List.range n).filter f ++ if f n = true then [n] else [] := by
  rw [List.range_succ, List.filter_append]
  congr 1
  cases h : f n <;> simp [h]
theorem half_want {b m : Nat} {S2 : T} {low high : Nat} {St : List D} (hSt : ∀ n, n < low → zIx (.lst St) (.int (n : Int)) = some (.val (.int (st b m n : Nat)))) (hl : low ≤ 100000) :
    ∃ ks vs x7 x8, forL (putN 7) dHf6B (rngD 0 1 low) [some (.frz (.int b)), some (.frz (.int m)), some S2, some (.frz (.int low)), some (.frz (.int high)), some (.lst St), some (.dct [] []), none, none, none, none, none] = .ok .next [some (.frz (.int b)), some (.frz (.int m)), some S2, some (.frz (.int low)), some (.frz (.int high)), some (.lst St), some (.dct ks vs), x7, x8, none, none, none] ∧
      ∀ s, (findK ks vs (.inl s)).getD (.lst []) = .lst (nats ((List.range low).filter fun r => decide (prt b m r = s))) := by
  obtain ⟨Γ', e, ks, vs, x7, x8, rfl, _, _, hg⟩ := forL_rng (put := putN 7) (b := dHf6B)
    (fun j Γ => ∃ ks vs x7 x8, Γ = [some (.frz (.int b)), some (.frz (.int m)), some S2, some (.frz (.int low)), some (.frz (.int high)), some (.lst St), some (.dct ks vs), x7, x8, none, none, none] ∧ ks.length = vs.length ∧ ks.length ≤ j ∧ ∀ s, (findK ks vs (.inl s)).getD (.lst []) = .lst (nats ((List.range j).filter fun r => decide (prt b m r = s)))) 0 1 low
    [some (.frz (.int b)), some (.frz (.int m)), some S2, some (.frz (.int low)), some (.frz (.int high)), some (.lst St), some (.dct [] []), none, none, none, none, none] ⟨[], [], none, none, rfl, rfl, Nat.le_refl _, fun s => rfl⟩ (by
      rintro j Γ hj ⟨ks, vs, x7, x8, rfl, h1, h2, h3⟩
      have hz : (0 : Int) + (j : Int) * 1 = (j : Int) := by omega
      rw [hz]
      have hlen := List.length_filter_le (fun r => decide (prt b m r = prt b m j)) (List.range j)
      rw [List.length_range] at hlen
      have c := hf_6b (b := (b : Int)) (m := (m : Int)) (S2 := S2) (low := (low : Int)) (high := (high : Int)) (x8 := x8) (s := prt b m j) (hSt j hj) rfl (h3 (prt b m j)) (by rw [nats_len, big]; omega) (by rw [big]; omega)
      have hp := put_len (k := .inl (prt b m j)) (d := .lst (nats ((List.range j).filter fun r => decide (prt b m r = prt b m j)) ++ [.int (j : Int)])) h1
      refine ⟨_, _, rfl, c, _, _, some (.frz (.int (j : Int))), some (.frz (.int (prt b m j))), rfl, hp.1, by omega, fun s => ?_⟩
      rw [find_put h1, fil_succ]
      by_cases g : prt b m j = s
      · rw [if_pos (congrArg Sum.inl g), if_pos (decide_eq_true g), nats_app, ← g]; rfl
      · rw [if_neg (fun z => g (Sum.inl.inj z)), if_neg (by simpa using g), List.append_nil]; exact h3 s)
  exact ⟨ks, vs, x7, x8, e, hg⟩
theorem half_loop {b m : Nat} {S2 : T} {high : Nat} {St : List D} {ks : List Key} {vs : List D} (hg : ∀ s, (findK ks vs (.inl s)).getD (.lst []) = .lst (nats ((List.range (b ^ (m / 2))).filter fun r => decide (prt b m r = s)))) (hlow : b ^ (m / 2) ≤ 100000) :
    ∀ (ns F : List Nat) (x7 x8 : Option T), (∀ n ∈ ns, zIx (.lst St) (.int (n : Int)) = some (.val (.int (st b m n : Nat)))) → (F ++ ns.flatMap (blkH b m)).length ≤ big →
    ∃ y7 y8, forL (putN 7) dHf8B (nats ns) [some (.frz (.int b)), some (.frz (.int m)), some S2, some (.frz (.int (b ^ (m / 2) : Nat))), some (.frz (.int high)), some (.lst St), some (.dct ks vs), x7, x8, some (.lst (nats F)), none, none] = .ok .next [some (.frz (.int b)), some (.frz (.int m)), some S2, some (.frz (.int (b ^ (m / 2) : Nat))), some (.frz (.int high)), some (.lst St), some (.dct ks vs), y7, y8, some (.lst (nats (F ++ ns.flatMap (blkH b m)))), none, none]
  | [], F, x7, x8, _, _ => ⟨x7, x8, by simp [nats, forL]⟩
  | n :: ns, F, x7, x8, h, hl => by
    rw [List.flatMap_cons, ← List.append_assoc] at hl ⊢
    have hl2 : (F ++ blkH b m n).length ≤ big := by rw [List.length_append] at hl; omega
    have hw : zMul (.int (n : Int)) (.int ((b ^ (m / 2) : Nat) : Int)) = some (.val (.int ((n * b ^ (m / 2) : Nat) : Int))) := by rw [zMul_i (mulOk_r (nat64 (by omega))), ← Int.natCast_mul]
    have hfl := List.length_filter_le (fun r => decide (prt b m r = ((n * b ^ (m / 2) : Nat) : Int) - ((st b m n : Nat) : Int))) (List.range (b ^ (m / 2)))
    rw [List.length_range] at hfl
    have hmap : (nats ((List.range (b ^ (m / 2))).filter fun r => decide (prt b m r = ((n * b ^ (m / 2) : Nat) : Int) - ((st b m n : Nat) : Int)))).map (fun d => match d with | .int z => D.int (((n * b ^ (m / 2) : Nat) : Int) + z) | d => d) = nats (blkH b m n) := by
      unfold nats blkH
      rw [List.map_map, List.map_map]
      refine List.map_congr_left fun r _ => ?_
      show D.int (((n * b ^ (m / 2) : Nat) : Int) + (r : Int)) = D.int ((n * b ^ (m / 2) + r : Nat) : Int)
      exact congrArg D.int (Int.natCast_add _ _).symm
    have cm := compL_map (put := putN 11) (e := dV dHf8E) (vs := [11]) (Γ := [some (.frz (.int b)), some (.frz (.int m)), some S2, some (.frz (.int (b ^ (m / 2) : Nat))), some (.frz (.int high)), some (.lst St), some (.dct ks vs), some (.frz (.int n)), some (.frz (.int (((n * b ^ (m / 2) : Nat) : Int) - ((st b m n : Nat) : Int)))), some (.lst (nats F)), none, none]) (fun d => match d with | .int z => D.int (((n * b ^ (m / 2) : Nat) : Int) + z) | d => d) (nats ((List.range (b ^ (m / 2))).filter fun r => decide (prt b m r = ((n * b ^ (m / 2) : Nat) : Int) - ((st b m n : Nat) : Int)))) (fun d hd => by
      obtain ⟨x, hx, rfl⟩ := List.mem_map.mp hd
      exact ⟨_, _, rfl, hf_8e hw, rfl⟩) []
    rw [List.nil_append, hmap] at cm
    have c := hf_8b (b := (b : Int)) (m := (m : Int)) (S2 := S2) (high := (high : Int)) (x8 := x8) (F := nats F) hw (h n (by simp)) rfl (hg _) (by rw [nats_len, big]; omega) cm (by rw [nats_len, nats_len]; rw [List.length_append] at hl2; exact hl2)
    rw [← nats_app] at c
    obtain ⟨y7, y8, ih⟩ := half_loop (S2 := S2) (high := high) (St := St) hg hlow ns (F ++ blkH b m n) (some (.frz (.int (n : Int)))) (some (.frz (.int (((n * b ^ (m / 2) : Nat) : Int) - ((st b m n : Nat) : Int))))) (fun q hq => h q (by simp [hq])) hl
    refine ⟨y7, y8, ?_⟩
    have hn : nats (n :: ns) = D.int (n : Int) :: nats ns := rfl
    simp only [hn, forL, putN_ap, List.set_cons_succ, List.set_cons_zero, c]
    exact ih
theorem rng_nats (lo c : Nat) : rngD (lo : Int) 1 c = nats (List.range' lo c) := by
  unfold rngD nats
  rw [List.range'_eq_map_range, List.map_map]
  exact List.map_congr_left fun i _ => congrArg D.int (by simp)
def pwd (m : Nat) : D → D
  | .int z => .int ((z.toNat ^ m : Nat) : Int)
  | d => d
theorem pws_comp {b m : Nat} : (rngD 0 1 b).map (pwd m) = nats (pwl b m) := by
  unfold rngD pwl nats
  rw [List.map_map, List.map_map]
  refine List.map_congr_left fun i _ => ?_
  show D.int ((((0 : Int) + (i : Int) * 1).toNat ^ m : Nat) : Int) = _
  rw [show (0 : Int) + (i : Int) * 1 = (i : Int) by omega, Int.toNat_natCast]; rfl
theorem few_le {b m : Nat} (hb : 2 ≤ b) (hb2 : b ≤ 16) (hm : 1 ≤ m) (hm2 : m ≤ 6) : b ^ m - loN b m ≤ 15728640 := by
  unfold loN
  by_cases c : m = 1
  · rw [if_pos c, c, Nat.pow_one]; omega
  · rw [if_neg c]
    have h1 : b ^ m = b ^ (m - 1) * b := by rw [← Nat.pow_succ]; congr 1; omega
    have h2 : b ^ (m - 1) ≤ 1048576 := Nat.le_trans (Nat.pow_le_pow_left hb2 _) (Nat.le_trans (Nat.pow_le_pow_right (by decide) (show m - 1 ≤ 5 by omega)) (by decide))
    have h3 : b ^ (m - 1) * b ≤ b ^ (m - 1) * 16 := Nat.mul_le_mul_left _ hb2
    rw [h1]
    omega
theorem half_len {b m : Nat} (hb : 2 ≤ b) (hb2 : b ≤ 16) (hm : 1 ≤ m) (hm2 : m ≤ 6) : (halfL b m).length ≤ 15728640 := by
  have hp : (halfL b m).Perm (dueL b m) := (List.perm_ext_iff_of_nodup (half_nd hb) (List.Pairwise.filter _ (List.nodup_range' (s := loN b m) (n := b ^ m - loN b m) 1 (by decide)))).mpr fun n => half_mem hb hb2 hm hm2
  rw [hp.length_eq]
  have := List.length_filter_le (fun n => decide (tot m (dgs b n) = n)) (List.range' (loN b m) (b ^ m - loN b m))
  rw [List.length_range'] at this
  exact Nat.le_trans this (few_le hb hb2 hm hm2)
end Fw
namespace Fw
open PySem L2
theorem zMax2 {a c : Int} (h : a ≤ c) : zMax [.int a, .int c] = some (.val (.int c)) := by
  show some (Z.val (.int (if c > a then c else a))) = _
  split
  · rfl
  · exact congrArg (fun x => some (Z.val (.int x))) (by omega)
theorem zInt_one {m : Nat} : zInt [.bl (decide ((m : Int) = 1))] = some (.val (.int (if m = 1 then 1 else 0))) := by
  show some (Z.val (.int (if decide ((m : Int) = 1) = true then 1 else 0))) = _
  by_cases c : m = 1
  · rw [if_pos c, if_pos (decide_eq_true (by omega))]
  · rw [if_neg c, if_neg (by simpa using (show ¬ (m : Int) = 1 by omega))]
theorem half_ev {b m : Nat} (hb : 2 ≤ b) (hb2 : b ≤ 16) (hm : 1 ≤ m) (hm2 : m ≤ 6) : dHalf [.frz (.int b), .frz (.int m)] = .ok (.lst (nats (dueL b m))) [.frz (.int b), .frz (.int m)] := by
  have hbn : (b : Int).toNat = b := Int.toNat_natCast b
  have cm1 := compL_map (put := putN 10) (e := dV (dCall dPow [.v (dName 10), .v (dName 1)])) (vs := [10]) (Γ := [some (.frz (.int b)), some (.frz (.int m)), none, none, none, none, none, none, none, none, none, none]) (pwd m) (rngD 0 1 b) (fun d hd => by
    obtain ⟨j, hj⟩ := List.getElem?_of_mem hd
    obtain ⟨hjb, rfl⟩ := rngD_at hj
    have hz : (0 : Int) + (j : Int) * 1 = (j : Int) := by omega
    rw [hz]
    have e := pow_ev (j : Int) m (nat64 (by omega)) (by omega)
    rw [← Int.natCast_pow] at e
    refine ⟨_, _, rfl, hf_1e e, rfl⟩) []
  rw [List.nil_append, pws_comp] at cm1
  have c1 := hf_1 (b := (b : Int)) (small_of (by omega) (by omega)) (by rw [hbn, big]; omega) (by rw [hbn]; exact cm1)
  have hd : zDiv (.int (m : Int)) (.int 2) = some (.val (.int ((m / 2 : Nat) : Int))) := by rw [zDiv_i (by decide) (by decide), Int.natCast_ediv]; rfl
  have hmm : m / 2 ≤ m - m / 2 := by omega
  have hle : b ^ (m / 2) ≤ b ^ (m - m / 2) := Nat.pow_le_pow_right (by omega) hmm
  have hhi : b ^ (m - m / 2) ≤ b ^ 6 := Nat.pow_le_pow_right (by omega) (by omega)
  have h4096 : b ^ (m / 2) ≤ 4096 := Nat.le_trans (Nat.pow_le_pow_left hb2 _) (Nat.le_trans (Nat.pow_le_pow_right (by decide) (show m / 2 ≤ 3 by omega)) (by decide))
  have h4097 : b ^ (m - m / 2) ≤ 4096 := Nat.le_trans (Nat.pow_le_pow_left hb2 _) (Nat.le_trans (Nat.pow_le_pow_right (by decide) (show m - m / 2 ≤ 3 by omega)) (by decide))
  have hbh : b ≤ b ^ (m - m / 2) := by
    have : b ^ 1 ≤ b ^ (m - m / 2) := Nat.pow_le_pow_right (by omega) (by omega)
    rwa [Nat.pow_one] at this
  have el := pow_ev (b : Int) (m / 2) (nat64 (by omega)) (by omega)
  have eh := pow_ev (b : Int) (m - m / 2) (nat64 (by omega)) (by omega)
  rw [← Int.natCast_pow] at el eh
  have c2 := hf_2 (b := (b : Int)) (P := nats (pwl b m)) hd el
  have c3 := hf_3 (b := (b : Int)) (P := nats (pwl b m)) (low := ((b ^ (m / 2) : Nat) : Int)) hd (show (m : Int) - ((m / 2 : Nat) : Int) = ((m - m / 2 : Nat) : Int) by omega) eh
  have c4 := hf_4 (m := (m : Int)) (low := ((b ^ (m / 2) : Nat) : Int)) (zMax2 (show ((b ^ (m / 2) : Nat) : Int) ≤ ((b ^ (m - m / 2) : Nat) : Int) by omega)) (stps_ev (b := b) (m := m) (M := b ^ (m - m / 2)) hb (by omega) hm hbh (by omega))
  have hSt : ∀ n, n < b ^ (m - m / 2) → zIx (.lst (nats (sts b m (b ^ (m - m / 2))))) (.int (n : Int)) = some (.val (.int (st b m n : Nat))) := fun n hn => zIx_nats (sts_at hn) rfl
  obtain ⟨ks, vs, x7, x8, e6, hg⟩ := half_want (b := b) (m := m) (S2 := .frz (.lst (nats (pwl b m)))) (low := b ^ (m / 2)) (high := b ^ (m - m / 2)) (St := nats (sts b m (b ^ (m - m / 2)))) (fun n hn => hSt n (by omega)) (by omega)
  have c6 := hf_6 (low := ((b ^ (m / 2) : Nat) : Int)) (small_of (by omega) (by omega)) (by rw [Int.toNat_natCast]; exact e6)
  have hl2 := lo2_le (m := m) hb hm
  have hlen := half_len hb hb2 hm hm2
  obtain ⟨y7, y8, e8⟩ := half_loop (b := b) (m := m) (S2 := .frz (.lst (nats (pwl b m)))) (high := b ^ (m - m / 2)) (St := nats (sts b m (b ^ (m - m / 2)))) hg (by omega) (List.range' (lo2 b m) (b ^ (m - m / 2) - lo2 b m)) [] x7 x8 (fun n hn => hSt n (by
    have := (List.mem_range'_1.mp hn).2
    omega)) (by rw [List.nil_append, big]; exact Nat.le_trans hlen (by decide))
  rw [← rng_nats, List.nil_append] at e8
  have hdv : zDiv (.int ((b ^ (m - m / 2) : Nat) : Int)) (.int (b : Int)) = some (.val (.int ((b ^ (m - m / 2) / b : Nat) : Int))) := by rw [zDiv_i (by omega) (nat64 (by omega)), ← Int.natCast_ediv]
  have hix : zIx (.lst [.int ((b ^ (m - m / 2) / b : Nat) : Int), .int 0]) (.int (if m = 1 then 1 else 0)) = some (.val (.int ((lo2 b m : Nat) : Int))) := by
    unfold lo2
    by_cases c : m = 1
    · rw [if_pos c, if_pos c]; exact zIx_l (k := 1) rfl rfl
    · rw [if_neg c, if_neg c]; exact zIx_l (k := 0) rfl rfl
  have c8 := hf_8 (m := (m : Int)) (high := ((b ^ (m - m / 2) : Nat) : Int)) hdv zInt_one hix (small_of (by omega) (by omega)) (small_of (by omega) (by omega)) (by
    rw [show (((b ^ (m - m / 2) : Nat) : Int) - ((lo2 b m : Nat) : Int)).toNat = b ^ (m - m / 2) - lo2 b m by omega]; exact e8)
  have := hf_out c1 c2 c3 c4 c6 c8 (zSorted_l (halfL b m))
  rw [half_eq hb hb2 hm hm2, ← nats_cst] at this
  exact this
theorem kn_own {b m : Nat} {x y : Int} (hx : x = b) (hy : y = m) (hb : 2 ≤ b) (hb2 : b ≤ 16) (hm : 1 ≤ m) (hm2 : m ≤ 6) {K : List Nat} (h : dueL b m = K) : dOwn [.frz (.int x), .frz (.int y)] = .ok (.frz (.tup (nats K))) [.frz (.int x), .frz (.int y)] := by
  subst hx hy
  rw [← h]; exact own_ev hb hb2 hm hm2
end Fw
namespace Fw
open PySem L2

/-! ### the third deck: a seed of one cell -/
def DkC (N : Nat) (ds : List D) : Prop := ∃ g f t c : Int, ds = [.int g, .int f, .int t, .int c] ∧ 0 ≤ g ∧ 0 ≤ t ∧ t ≤ N ∧ 0 ≤ c ∧ c < 1999999913
theorem DkC.mono {N M : Nat} {ds : List D} (h : DkC N ds) (k : N ≤ M) : DkC M ds := by
  obtain ⟨g, f, t, c, e, h1, h2, h3, h4⟩ := h
  exact ⟨g, f, t, c, e, h1, h2, by omega, h4⟩
def dDrawC2 : SDen := (sIf (dAndT (dT (dBin zEq (dBin zIx (dName 0) (dC (.int 1))) (dC (.int 1)))) (dT (dBin zGt (dBin zIx (dName 0) (dC (.int 0))) (dC (.int 0))))) (sSeq (sAsg 2 (dBin zMod (dBin zIx (dName 0) (dC (.int 0))) (dName 1)))
  (sSeq (sSetI 0 (dC (.int 0)) (dBin zDiv (dBin zIx (dName 0) (dC (.int 0))) (dName 1)))
  (sRet (dName 2)))) sNext)
def dDrawC3 : SDen := (sAsg 3 (dBin zMod (dBin zMul (dBin zAdd (dBin zAdd (dBin zIx (dName 0) (dC (.int 3))) (dBin zMul (dC (.int 6997)) (dBin zIx (dName 0) (dC (.int 2))))) (dC (.int 11))) (dC (.int 48271))) (dC (.int 2147483647))))
def dDrawC4 : SDen := (sAsg 3 (dBin zMod (dBin zMul (dBin zMod (dBin zMul (dName 3) (dName 3)) (dC (.int 2147483629))) (dC (.int 40692))) (dC (.int 2147483399))))
def dDrawC5 : SDen := (sRet (dBin zMod (dBin zDiv (dName 3) (dC (.int 7))) (dName 1)))
def dDrawC : FDen := dFun 4 [true, false]
  (sSeq (sSetI 0 (dC (.int 2)) (dBin zAdd (dBin zIx (dName 0) (dC (.int 2))) (dC (.int 1)))) (sSeq dDrawC2 (sSeq dDrawC3 (sSeq dDrawC4 dDrawC5))))
section
variable {g f t c : Int}
theorem dc0 : zIx (.lst [.int g, .int f, .int t, .int c]) (.int 0) = some (.val (.int g)) := zIx_l rfl rfl
theorem dc1 : zIx (.lst [.int g, .int f, .int t, .int c]) (.int 1) = some (.val (.int f)) := zIx_l rfl rfl
theorem dc2 : zIx (.lst [.int g, .int f, .int t, .int c]) (.int 2) = some (.val (.int t)) := zIx_l rfl rfl
theorem dc3 : zIx (.lst [.int g, .int f, .int t, .int c]) (.int 3) = some (.val (.int c)) := zIx_l rfl rfl
theorem drawC_1 {t1 b : Int} (h : t + 1 = t1) : sSetI 0 (dC (.int 2)) (dBin zAdd (dBin zIx (dName 0) (dC (.int 2))) (dC (.int 1))) [some (.lst [.int g, .int f, .int t, .int c]), some (.frz (.int b)), none, none] = .ok .next [some (.lst [.int g, .int f, .int t1, .int c]), some (.frz (.int b)), none, none] := by
  have i2 : ixN 4 2 = some 2 := rfl
  simp [dc2, h, i2]
theorem drawC_2a {b q r : Int} (h1 : f = 1) (h2 : 0 < g) (h3 : zMod (.int g) (.int b) = some (.val (.int r))) (h4 : zDiv (.int g) (.int b) = some (.val (.int q))) : dDrawC2 [some (.lst [.int g, .int f, .int t, .int c]), some (.frz (.int b)), none, none] = .ok (.ret (.frz (.int r))) [some (.lst [.int q, .int f, .int t, .int c]), some (.frz (.int b)), some (.frz (.int r)), none] := by
  have i0 : ixN 4 0 = some 0 := rfl
  simp [dDrawC2, dc0, dc1, h1, h2, h3, h4, i0]
theorem drawC_2b {b : Int} (h : ¬ (f = 1 ∧ 0 < g)) : dDrawC2 [some (.lst [.int g, .int f, .int t, .int c]), some (.frz (.int b)), none, none] = .ok .next [some (.lst [.int g, .int f, .int t, .int c]), some (.frz (.int b)), none, none] := by
  by_cases e : f = 1
  · have h2 : ¬ 0 < g := fun z => h ⟨e, z⟩
    simp [dDrawC2, dc0, dc1, e, h2]
  · simp [dDrawC2, dc0, dc1, e]
theorem drawC_3 {b u v x : Int} (h1 : zMul (.int 6997) (.int t) = some (.val (.int u))) (h2 : zMul (.int (c + u + 11)) (.int 48271) = some (.val (.int v))) (h3 : zMod (.int v) (.int 2147483647) = some (.val (.int x))) : dDrawC3 [some (.lst [.int g, .int f, .int t, .int c]), some (.frz (.int b)), none, none] = .ok .next [some (.lst [.int g, .int f, .int t, .int c]), some (.frz (.int b)), none, some (.frz (.int x))] := by
  simp [dDrawC3, dc2, dc3, h1, h2, h3]
theorem drawC_4 {b x u v w y : Int} {L : T} (h1 : zMul (.int x) (.int x) = some (.val (.int u))) (h2 : zMod (.int u) (.int 2147483629) = some (.val (.int v))) (h3 : zMul (.int v) (.int 40692) = some (.val (.int w))) (h4 : zMod (.int w) (.int 2147483399) = some (.val (.int y))) : dDrawC4 [some L, some (.frz (.int b)), none, some (.frz (.int x))] = .ok .next [some L, some (.frz (.int b)), none, some (.frz (.int y))] := by
  simp [dDrawC4, h1, h2, h3, h4]
theorem drawC_5 {b y q r : Int} {L : T} (h1 : zDiv (.int y) (.int 7) = some (.val (.int q))) (h2 : zMod (.int q) (.int b) = some (.val (.int r))) : dDrawC5 [some L, some (.frz (.int b)), none, some (.frz (.int y))] = .ok (.ret (.frz (.int r))) [some L, some (.frz (.int b)), none, some (.frz (.int y))] := by
  simp [dDrawC5, h1, h2]
end
theorem drawC_ev {N : Nat} {ds : List D} (h : DkC N ds) {b : Int} (hb : 0 < b) (hb2 : b.natAbs < 18446744073709551616) (hN : N ≤ 1000000000000) :
    ∃ r ds', dDrawC [.lst ds, .frz (.int b)] = .ok (.frz (.int r)) [.lst ds', .frz (.int b)] ∧ 0 ≤ r ∧ r < b ∧ DkC (N + 1) ds' := by
  obtain ⟨g, f, t, c, rfl, h1, h2, h3, h4, h5⟩ := h
  have hr : ∀ a : Int, 0 ≤ a % b ∧ a % b < b := fun a => ⟨Int.emod_nonneg _ (by omega), Int.emod_lt_of_pos _ hb⟩
  have e1 := drawC_1 (g := g) (f := f) (t := t) (c := c) (b := b) rfl
  simp only [dDrawC, dFun_ap, List.map_cons, List.map_nil, List.length_cons, List.length_nil, List.replicate, List.cons_append, List.nil_append, sSeq_ap (s := sSetI _ _ _), e1]
  by_cases k : f = 1 ∧ 0 < g
  · simp only [sSeq_ap (s := dDrawC2), drawC_2a k.1 k.2 (zMod_i hb) (zDiv_i hb (nat64 hb2))]
    exact ⟨g % b, _, by simp, (hr _).1, (hr _).2, g / b, f, t + 1, c, rfl, Int.ediv_nonneg h1 (by omega), by omega, by omega, h4, h5⟩
  · simp only [sSeq_ap (s := dDrawC2), drawC_2b k]
    obtain ⟨s, hs⟩ : ∃ s, t + 1 = s := ⟨_, rfl⟩
    rw [hs]
    have e3 := drawC_3 (g := g) (f := f) (t := s) (c := c) (b := b) (zMul_i (mulOk_l (by decide))) (zMul_i (mulOk_r (by decide))) (zMod_i (by decide))
    have hx : ((c + 6997 * s + 11) * 48271 % 2147483647).natAbs < 2 ^ 64 := nat64 (by omega)
    generalize (c + 6997 * s + 11) * 48271 % 2147483647 = x at e3 hx
    have hx0 : (x * x % 2147483629).natAbs < 2 ^ 64 := nat64 (by omega)
    have e4 := drawC_4 (b := b) (L := .lst [.int g, .int f, .int s, .int c]) (zMul_i (mulOk_l hx)) (zMod_i (by decide)) (zMul_i (mulOk_r (by decide))) (zMod_i (by decide))
    have e5 := drawC_5 (b := b) (L := .lst [.int g, .int f, .int s, .int c]) (zDiv_i (x := x * x % 2147483629 * 40692 % 2147483399) (by decide) (by decide)) (zMod_i hb)
    generalize x * x % 2147483629 * 40692 % 2147483399 = y at e4 e5
    simp only [sSeq_ap (s := dDrawC3), e3, sSeq_ap (s := dDrawC4), e4, e5]
    exact ⟨y / 7 % b, _, by simp, (hr _).1, (hr _).2, g, f, s, c, rfl, h1, by omega, by omega, h4, h5⟩
def dSeedC : FDen := dFun 2 [false] (sSeq (sAsg 1 (dB zMax [(dName 0), (dBin zSub (dC (.int 0)) (dName 0))]))
  (sRet (dLst [(dName 1), (dB zInt [(dBin zGe (dName 1) (dBin zPow (dC (.int 10)) (dC (.int 18))))]), (dC (.int 0)), (dBin zMod (dName 0) (dC (.int 1999999913)))])))
theorem seedC_gen {x n c i : Int} (h1 : zMax [.int x, .int (0 - x)] = some (.val (.int n))) (h2 : zInt [.bl (decide (1000000000000000000 ≤ n))] = some (.val (.int i))) (h3 : zMod (.int x) (.int 1999999913) = some (.val (.int c))) : dSeedC [.frz (.int x)] = .ok (.lst [.int n, .int i, .int 0, .int c]) [.frz (.int x)] := by
  have h1' : zMax [.int x, .int (-x)] = some (.val (.int n)) := by rw [← h1, Int.zero_sub]
  simp [dSeedC, h1', pw18, h2, h3]
theorem seedC_ev (x : Int) : ∃ ds, dSeedC [.frz (.int x)] = .ok (.lst ds) [.frz (.int x)] ∧ DkC 0 ds := by
  have h1 : zMax [.int x, .int (0 - x)] = some (.val (.int (if 0 - x > x then 0 - x else x))) := rfl
  have h2 : zInt [.bl (decide (1000000000000000000 ≤ (if 0 - x > x then 0 - x else x)))] = some (.val (.int (if decide (1000000000000000000 ≤ (if 0 - x > x then 0 - x else x)) = true then 1 else 0))) := rfl
  refine ⟨_, seedC_gen h1 h2 (zMod_i (by decide)), _, _, 0, _, rfl, ?_, by omega, by omega, Int.emod_nonneg _ (by decide), Int.emod_lt_of_pos _ (by decide)⟩
  split <;> omega
def dFoldB : SDen := (sAsg 1 (dBin zMod (dBin zAdd (dBin zMul (dName 1) (dC (.int 48271))) (dBin zMod (dName 2) (dC (.int 2147483629)))) (dC (.int 2147483647))))
def dFoldC : FDen := dFun 3 [false] (sSeq (sAsg 1 (dB zLen [(dName 0)])) (sSeq (sFor (iLst (dName 0)) (putN 2) dFoldB) (sRet (dName 1))))
theorem fold_b {S : T} {a x u v w : Int} (h1 : zMul (.int a) (.int 48271) = some (.val (.int u))) (h2 : zMod (.int x) (.int 2147483629) = some (.val (.int v))) (h3 : zMod (.int (u + v)) (.int 2147483647) = some (.val (.int w))) : dFoldB [some S, some (.frz (.int a)), some (.frz (.int x))] = .ok .next [some S, some (.frz (.int w)), some (.frz (.int x))] := by
  simp [dFoldB, h1, h2, h3]
theorem fold_out {ds : List D} {r l : Int} {y : Option T} (hl : ((ds.length : Nat) : Int) = l) (e : forL (putN 2) dFoldB ds [some (.frz (.scr ds)), some (.frz (.int l)), none] = .ok .next [some (.frz (.scr ds)), some (.frz (.int r)), y]) : dFoldC [.frz (.scr ds)] = .ok (.frz (.int r)) [.frz (.scr ds)] := by
  simp [dFoldC, hl, e]
theorem foldC_ev (ns : List Int) : ∃ r, dFoldC [.frz (.scr (ns.map D.int))] = .ok (.frz (.int r)) [.frz (.scr (ns.map D.int))] := by
  obtain ⟨Γ', e, r, y, rfl⟩ := forL_ind (put := putN 2) (b := dFoldB) (fun _ Γ => ∃ (r : Int) (y : Option T), Γ = [some (.frz (.scr (ns.map D.int))), some (.frz (.int r)), y])
    (ns.map D.int) 0 [some (.frz (.scr (ns.map D.int))), some (.frz (.int (((ns.map D.int).length : Nat) : Int))), none] ⟨_, none, rfl⟩ (by
      rintro j d Γ hj ⟨r, y, rfl⟩
      obtain ⟨z, _, rfl⟩ := List.mem_map.mp (List.mem_of_getElem? hj)
      exact ⟨_, _, rfl, fold_b (zMul_i (mulOk_r (by decide))) (zMod_i (by decide)) (zMod_i (by decide)), _, _, rfl⟩)
  exact ⟨r, fold_out rfl e⟩
end Fw
namespace Fw
open PySem L2

/-! ### the pair told as a tuple; its step -/
def prD (b p : Nat) : D := .tup [.int b, .int p, .lst (nats (pwl b p))]
def dWorths : FDen := dFun 3 [false, false] (sRet (dTup [(dName 0), (dName 1), (dComp (iR1 (dName 0)) (putN 2) dYes (dCall dPow [.v (dName 2), .v (dName 1)]) [2])]))
theorem worths_e {b p y v : Int} {o : List T} (e : dPow [.frz (.int y), .frz (.int p)] = .ok (.frz (.int v)) o) : dV (dCall dPow [.v (dName 2), .v (dName 1)]) [some (.frz (.int b)), some (.frz (.int p)), some (.frz (.int y))] = .ok (.int v) [some (.frz (.int b)), some (.frz (.int p)), some (.frz (.int y))] := by
  simp [e, putd2]
theorem worths_out {b p : Int} {P : List D} (s1 : smallI b = true) (hl : b.toNat ≤ big) (e : compL (putN 2) dYes (dV (dCall dPow [.v (dName 2), .v (dName 1)])) [2] (rngD 0 1 b.toNat) [] [some (.frz (.int b)), some (.frz (.int p)), none] = .ok P [some (.frz (.int b)), some (.frz (.int p)), none]) : dWorths [.frz (.int b), .frz (.int p)] = .ok (.frz (.tup [.int b, .int p, .lst P])) [.frz (.int b), .frz (.int p)] := by
  have b1 : (rngD 0 1 b.toNat).length ≤ big := by rw [rngD_len]; exact hl
  simp only [dWorths, dFun_ap, List.map_cons, List.map_nil, List.length_cons, List.length_nil, List.replicate, List.cons_append, List.nil_append, sRet_ap, dTup_ap, dVs_cons, dVs_nil, bindO_ap, dV_ap, dName_ap, List.getElem?_cons_zero, List.getElem?_cons_succ, dComp_ap, iR1_ap, intD_int, liftO_some, s1, if_true, wipeE_cons, wipeE_nil, List.set_cons_succ, List.set_cons_zero, if_pos b1, e]
  simp
theorem worths_ev {b p : Nat} (hb : b ≤ 100000) (hp : p ≤ 100000) : dWorths [.frz (.int b), .frz (.int p)] = .ok (.frz (prD b p)) [.frz (.int b), .frz (.int p)] := by
  have hbn : (b : Int).toNat = b := Int.toNat_natCast b
  have cm := compL_map (put := putN 2) (e := dV (dCall dPow [.v (dName 2), .v (dName 1)])) (vs := [2]) (Γ := [some (.frz (.int b)), some (.frz (.int p)), none]) (pwd p) (rngD 0 1 b) (fun d hd => by
    obtain ⟨j, hj⟩ := List.getElem?_of_mem hd
    obtain ⟨hjb, rfl⟩ := rngD_at hj
    have hz : (0 : Int) + (j : Int) * 1 = (j : Int) := by omega
    rw [hz]
    have e := pow_ev (j : Int) p (nat64 (by omega)) (by omega)
    rw [← Int.natCast_pow] at e
    exact ⟨_, _, rfl, worths_e e, rfl⟩) []
  rw [List.nil_append, pws_comp] at cm
  exact worths_out (small_of (by omega) (by omega)) (by rw [hbn, big]; omega) (by rw [hbn]; exact cm)
def dPairC1 : SDen := (sAsg 1 (dBin zIx (dLst [(dBin zAdd (dC (.int 2)) (dCall dDrawC [.io 0, .v (dC (.int 15))])), (dC (.int 10)), (dBin zAdd (dC (.int 2)) (dCall dDrawC [.io 0, .v (dC (.int 5))])), (dC (.int 16))]) (dCall dDrawC [.io 0, .v (dC (.int 4))])))
def dPairCC : DenT := (dT (dBin zLe (dCall dPow [.v (dBin zSub (dName 1) (dC (.int 1))), .v (dName 3)]) (dC (.int 1000))))
def dPairC2 : SDen := (sAsg 2 (dComp (iR2 (dC (.int 1)) (dC (.int 11))) (putN 3) dPairCC (dName 3) [3]))
def dPairC3 : SDen := (sAsg 3 (dBin zIx (dLst [(dBin zIx (dName 2) (dCall dDrawC [.io 0, .v (dB zLen [(dName 2)])])), (dBin zIx (dName 2) (dUn zNeg (dC (.int 1))))]) (dCall dDrawC [.io 0, .v (dC (.int 2))])))
def dPairC4 : SDen := (sRet (dCall dWorths [.v (dName 1), .v (dName 3)]))
def dPairC : FDen := dFun 4 [true] (sSeq dPairC1 (sSeq dPairC2 (sSeq dPairC3 dPairC4)))
section
variable {d0 d1 d2 d3 : List D} {b p r s t l x y : Int} {g : List D} {P : D} {o : List T}
theorem pairC_1 (e1 : dDrawC [.lst d0, .frz (.int 15)] = .ok (.frz (.int r)) [.lst d1, .frz (.int 15)]) (e2 : dDrawC [.lst d1, .frz (.int 5)] = .ok (.frz (.int s)) [.lst d2, .frz (.int 5)]) (e3 : dDrawC [.lst d2, .frz (.int 4)] = .ok (.frz (.int t)) [.lst d3, .frz (.int 4)]) (hb : zIx (.lst [.int (2 + r), .int 10, .int (2 + s), .int 16]) (.int t) = some (.val (.int b))) :
    dPairC1 [some (.lst d0), none, none, none] = .ok .next [some (.lst d3), some (.frz (.int b)), none, none] := by
  simp [dPairC1, e1, e2, e3, hb]
theorem pairC_c {x2 : Option T} {c w : Int} (hc : b - 1 = c) (e : dPow [.frz (.int c), .frz (.int p)] = .ok (.frz (.int w)) o) : dPairCC [some (.lst d0), some (.frz (.int b)), x2, some (.frz (.int p))] = .ok (decide (w ≤ 1000)) [some (.lst d0), some (.frz (.int b)), x2, some (.frz (.int p))] := by
  simp [dPairCC, hc, e, putd2]
theorem pairC_2 (e : compL (putN 3) dPairCC (dV (dName 3)) [3] (rngD 1 1 10) [] [some (.lst d0), some (.frz (.int b)), none, none] = .ok g [some (.lst d0), some (.frz (.int b)), none, none]) : dPairC2 [some (.lst d0), some (.frz (.int b)), none, none] = .ok .next [some (.lst d0), some (.frz (.int b)), some (.lst g), none] := by
  have s1 : smallI 1 = true := by decide
  have s2 : smallI 11 = true := by decide
  have e' : compL (putN 3) dPairCC (dV (dName 3)) [3] (rngD 1 1 ((11 : Int) - 1).toNat) [] [some (.lst d0), some (.frz (.int b)), none, none] = _ := e
  have b1 : (rngD 1 1 ((11 : Int) - 1).toNat).length ≤ big := by rw [rngD_len]; decide
  simp only [dPairC2, sAsg_ap, bindO_ap, dComp_ap, iR2_ap, dV_ap, dC_ap, intD_int, liftO_some, s1, s2, Bool.and_self, if_true, wipeE_cons, wipeE_nil, List.set_cons_succ, List.set_cons_zero, e']
  rw [if_pos b1]
  simp
theorem pairC_3 (hl : ((g.length : Nat) : Int) = l) (e1 : dDrawC [.lst d0, .frz (.int l)] = .ok (.frz (.int r)) [.lst d1, .frz (.int l)]) (hx : zIx (.lst g) (.int r) = some (.val (.int x))) (hy : zIx (.lst g) (.int (-1)) = some (.val (.int y))) (e2 : dDrawC [.lst d1, .frz (.int 2)] = .ok (.frz (.int s)) [.lst d2, .frz (.int 2)]) (hp : zIx (.lst [.int x, .int y]) (.int s) = some (.val (.int p))) :
    dPairC3 [some (.lst d0), some (.frz (.int b)), some (.lst g), none] = .ok .next [some (.lst d2), some (.frz (.int b)), some (.lst g), some (.frz (.int p))] := by
  have n1 : zNeg (.int 1) = some (.val (.int (-1))) := rfl
  simp [dPairC3, hl, e1, hx, n1, hy, e2, hp]
theorem pairC_4 (e : dWorths [.frz (.int b), .frz (.int p)] = .ok (.frz P) o) : dPairC4 [some (.lst d0), some (.frz (.int b)), some (.lst g), some (.frz (.int p))] = .ok (.ret (.frz P)) [some (.lst d0), some (.frz (.int b)), some (.lst g), some (.frz (.int p))] := by
  simp [dPairC4, e, putd2]
end
theorem pairC_ev {N : Nat} {ds : List D} (h : DkC N ds) (hN : N ≤ 100000000000) : ∃ (b p : Nat) (ds' : List D), dPairC [.lst ds] = .ok (.frz (prD b p)) [.lst ds'] ∧ PairOk b p ∧ DkC (N + 5) ds' := by
  obtain ⟨r, d1, e1, r0, r1, h1⟩ := drawC_ev h (b := 15) (by omega) (by omega) (by omega)
  obtain ⟨s, d2, e2, s0, s1, h2⟩ := drawC_ev h1 (b := 5) (by omega) (by omega) (by omega)
  obtain ⟨t, d3, e3, t0, t1, h3⟩ := drawC_ev h2 (b := 4) (by omega) (by omega) (by omega)
  have hb : ∃ i : Nat, i < 15 ∧ zIx (.lst [.int (2 + r), .int 10, .int (2 + s), .int 16]) (.int t) = some (.val (.int ((i + 2 : Nat) : Int))) := by
    have : t = 0 ∨ t = 1 ∨ t = 2 ∨ t = 3 := by omega
    rcases this with rfl | rfl | rfl | rfl
    · exact ⟨r.toNat, by omega, zIx_l (k := 0) (congrArg (fun x => some (D.int x)) (by omega)) rfl⟩
    · exact ⟨8, by omega, zIx_l (k := 1) rfl rfl⟩
    · exact ⟨s.toNat, by omega, zIx_l (k := 2) (congrArg (fun x => some (D.int x)) (by omega)) rfl⟩
    · exact ⟨14, by omega, zIx_l (k := 3) rfl rfl⟩
  obtain ⟨i, hi, hb⟩ := hb
  have c1 := pairC_1 e1 e2 e3 hb
  obtain ⟨q, hq, q1, q2, q3, q4⟩ := most_ok hi
  have cf := compL_filter (put := putN 3) (c := dPairCC) (e := dV (dName 3)) (vs := [3]) (Γ := [some (.lst d3), some (.frz (.int ((i + 2 : Nat) : Int))), none, none]) (fun d => match d with | .int p => decide (((i + 1) ^ p.toNat : Nat) ≤ 1000) | _ => false) id (rngD 1 1 10) (by
    intro d hd
    obtain ⟨j, hj⟩ := List.getElem?_of_mem hd
    obtain ⟨hj, rfl⟩ := rngD_at hj
    have hz : (1 : Int) + (j : Int) * 1 = ((j + 1 : Nat) : Int) := by omega
    rw [hz]
    have e := pow_ev ((i + 1 : Nat) : Int) (j + 1) (nat64 (by omega)) (by omega)
    rw [← Int.natCast_pow] at e
    have ce := pairC_c (d0 := d3) (x2 := none) (b := ((i + 2 : Nat) : Int)) (show ((i + 2 : Nat) : Int) - 1 = ((i + 1 : Nat) : Int) by omega) e
    have hd : decide (((((i + 1) ^ (j + 1) : Nat) : Int)) ≤ 1000) = decide (((i + 1) ^ ((j + 1 : Nat) : Int).toNat : Nat) ≤ 1000) := by
      rw [Int.toNat_natCast]
      exact decide_eq_decide.mpr (by omega)
    rw [hd] at ce
    exact ⟨_, _, rfl, ce, fun _ => rfl, fun _ => ⟨_, rfl, rfl⟩⟩) []
  rw [List.nil_append, List.map_id] at cf
  generalize hg : (rngD 1 1 10).filter (fun d => match d with | .int p => decide (((i + 1) ^ p.toNat : Nat) ≤ 1000) | _ => false) = g at cf
  have hmem : ∀ d ∈ g, ∃ p : Nat, d = .int p ∧ 1 ≤ p ∧ p ≤ q := by
    intro d hd
    rw [← hg] at hd
    obtain ⟨h1, h2⟩ := List.mem_filter.mp hd
    obtain ⟨j, hj⟩ := List.getElem?_of_mem h1
    obtain ⟨hjb, rfl⟩ := rngD_at hj
    have hz : (1 : Int) + (j : Int) * 1 = ((j + 1 : Nat) : Int) := by omega
    rw [hz] at h2 ⊢
    have h3 : (i + 1) ^ ((j + 1 : Nat) : Int).toNat ≤ 1000 := of_decide_eq_true h2
    rw [Int.toNat_natCast] at h3
    exact ⟨j + 1, rfl, by omega, q4 j hjb h3⟩
  have hne : g ≠ [] := by
    have : D.int 1 ∈ g := by
      rw [← hg]
      refine List.mem_filter.mpr ⟨List.mem_map.mpr ⟨0, by decide, rfl⟩, ?_⟩
      show decide ((i + 1) ^ (1 : Int).toNat ≤ 1000) = true
      have : (i + 1) ^ (1 : Int).toNat = i + 1 := Nat.pow_one _
      rw [this]; exact decide_eq_true (by omega)
    intro e
    rw [e] at this; simp at this
  have hlen : 0 < g.length := List.length_pos_iff.mpr hne
  have hlen2 : g.length ≤ 10 := by
    have := List.length_filter_le (fun d => match d with | D.int p => decide (((i + 1) ^ p.toNat : Nat) ≤ 1000) | _ => false) (rngD 1 1 10)
    rw [rngD_len, hg] at this
    exact this
  clear hg
  have c2 := pairC_2 cf
  obtain ⟨u, d4, e4, u0, u1, h4⟩ := drawC_ev h3 (b := ((g.length : Nat) : Int)) (by omega) (by omega) (by omega)
  obtain ⟨v, d5, e5, v0, v1, h5⟩ := drawC_ev h4 (b := 2) (by omega) (by omega) (by omega)
  obtain ⟨x, hx, x1, x2⟩ := hmem (g[u.toNat]'(by omega)) (List.getElem_mem _)
  have hx' : zIx (.lst g) (.int u) = some (.val (.int (x : Int))) := zIx_l (k := u.toNat) (by rw [List.getElem?_eq_getElem (by omega), hx]) (by omega)
  obtain ⟨y, hy, y1, y2⟩ := hmem (g.getLast hne) (List.getLast_mem hne)
  have hy' : zIx (.lst g) (.int (-1)) = some (.val (.int (y : Int))) := by
    rw [← List.dropLast_concat_getLast hne, hy]; exact zIx_last
  have hp : ∃ p : Nat, zIx (.lst [.int (x : Int), .int (y : Int)]) (.int v) = some (.val (.int (p : Int))) ∧ 1 ≤ p ∧ p ≤ q := by
    have : v = 0 ∨ v = 1 := by omega
    rcases this with rfl | rfl
    · exact ⟨x, zIx_l (k := 0) rfl rfl, x1, x2⟩
    · exact ⟨y, zIx_l (k := 1) rfl rfl, y1, y2⟩
  obtain ⟨p, hp, p1, p2⟩ := hp
  have c3 := pairC_3 (b := ((i + 2 : Nat) : Int)) rfl e4 hx' hy' e5 hp
  have c4 := pairC_4 (d0 := d5) (g := g) (worths_ev (b := i + 2) (p := p) (by omega) (by omega))
  refine ⟨i + 2, p, d5, ?_, ⟨i, p - 1, q, hi, hq, by omega, by omega, by omega⟩, h5⟩
  simp only [dPairC, dFun_ap, List.map_cons, List.map_nil, List.length_cons, List.length_nil, List.replicate, List.cons_append, List.nil_append, sSeq_ap, c1, c2, c3, c4]
  simp
/-! ### the step -/
def dStepC1 : SDen := (sAsg 2 (dBin zAdd (dName 2) (dBin zIx (dBin zIx (dName 1) (dC (.int 2))) (dBin zMod (dName 0) (dBin zIx (dName 1) (dC (.int 0)))))))
def dStepC2 : SDen := (sAsg 0 (dBin zDiv (dName 0) (dBin zIx (dName 1) (dC (.int 0)))))
def dStepCC : DenT := (dT (dBin zGt (dName 0) (dC (.int 0))))
def dStepCB : SDen := sSeq dStepC1 dStepC2
def dStepC : FDen := dFun 3 [false, false] (sSeq (sAsg 2 (dC (.int 0))) (sSeq (sWhile dStepCC dStepCB) (sRet (dName 2))))
section
variable {n t b q r y : Int} {Q P : List D} {S1 S2 : T} {L : D}
theorem stC_b (h0 : zIx (.tup Q) (.int 0) = some (.val (.int b))) (h2 : zIx (.tup Q) (.int 2) = some (.val (.lst P))) (hm : zMod (.int n) (.int b) = some (.val (.int r))) (hd : zDiv (.int n) (.int b) = some (.val (.int q))) (hy : zIx (.lst P) (.int r) = some (.val (.int y))) :
    dStepCB [some (.frz (.int n)), some (.frz (.tup Q)), some (.frz (.int t))] = .ok .next [some (.frz (.int q)), some (.frz (.tup Q)), some (.frz (.int (t + y)))] := by
  simp [dStepCB, dStepC1, dStepC2, h0, h2, hm, hd, hy]
theorem stC_c : dStepCC [some (.frz (.int n)), some S1, some S2] = .ok (decide (0 < n)) [some (.frz (.int n)), some S1, some S2] := by simp [dStepCC]
theorem stC_out (e : whileN dStepCC dStepCB fuel [some (.frz (.int n)), some (.frz L), some (.frz (.int 0))] = .ok .next [some (.frz (.int q)), some (.frz L), some (.frz (.int t))]) : dStepC [.frz (.int n), .frz L] = .ok (.frz (.int t)) [.frz (.int n), .frz L] := by
  simp [dStepC, e]
end
theorem pr0 {b p : Nat} : zIx (prD b p) (.int 0) = some (.val (.int b)) := zIx_t (k := 0) rfl rfl
theorem pr1 {b p : Nat} : zIx (prD b p) (.int 1) = some (.val (.int p)) := zIx_t (k := 1) rfl rfl
theorem pr2 {b p : Nat} : zIx (prD b p) (.int 2) = some (.val (.lst (nats (pwl b p)))) := zIx_t (k := 2) rfl rfl
theorem stepC_ev {b p n : Nat} (hb : 2 ≤ b) (hb2 : b < 1000) (hp : 1 ≤ p) (hn : n < 2 ^ 160) : dStepC [.frz (.int n), .frz (prD b p)] = .ok (.frz (.int (st b p n : Nat))) [.frz (.int n), .frz (prD b p)] := by
  obtain ⟨Γ', e, rfl⟩ := whileN_ind (c := dStepCC) (b := dStepCB)
    (fun m Γ => ∃ k t : Nat, k < 2 ^ m ∧ k < 2 ^ 160 ∧ t + st b p k = st b p n ∧ Γ = [some (.frz (.int (k : Nat))), some (.frz (prD b p)), some (.frz (.int (t : Nat)))])
    (fun Γ => Γ = [some (.frz (.int 0)), some (.frz (prD b p)), some (.frz (.int (st b p n : Nat)))])
    (by
      rintro m Γ ⟨k, t, hm, hk, ht, rfl⟩
      rcases Nat.eq_zero_or_pos k with z | z
      · subst z
        rw [st_z hb hb2 hp, Nat.add_zero] at ht
        subst ht
        exact .inl ⟨_, by rw [stC_c]; rfl, rfl⟩
      · have hlt : k % b < b := Nat.mod_lt _ (by omega)
        have hdv : k / b ≤ k / 2 := Nat.div_le_div_left hb (by decide)
        have hr := st_rec0 (n := k) hb hb2 hp hk
        rcases m with _ | m
        · have : k < 1 := by simpa using hm
          omega
        have hm2 : k / b < 2 ^ m := by
          rw [Nat.pow_succ] at hm; omega
        have hle : k / b ≤ k := Nat.div_le_self _ _
        have c := stC_b (n := (k : Int)) (t := (t : Int)) (b := (b : Int)) (Q := [.int b, .int p, .lst (nats (pwl b p))]) (q := ((k / b : Nat) : Int)) (r := ((k % b : Nat) : Int)) (y := (((k % b) ^ p : Nat) : Int)) pr0 pr2 (by rw [zMod_i (by omega), ← Int.natCast_emod]) (by rw [zDiv_i (by omega) (nat64 (by omega)), ← Int.natCast_ediv]) (zIx_nats (pwl_at hlt) rfl)
        have c0 := stC_c (n := (k : Int)) (S1 := .frz (prD b p)) (S2 := .frz (.int (t : Int)))
        rw [decide_eq_true (show (0 : Int) < (k : Int) by omega)] at c0
        refine .inr ⟨_, _, m, c0, .inl c, by omega, k / b, t + (k % b) ^ p, hm2, by omega, by omega, ?_⟩
        rw [Int.natCast_add]
        rfl)
    160 [some (.frz (.int n)), some (.frz (prD b p)), some (.frz (.int 0))] fuel (by have : fuel = 1000000000000 := rfl; omega) ⟨n, 0, hn, hn, by omega, rfl⟩
  exact stC_out e
end Fw
namespace Fw
open PySem L2

/-! ### the drawn number of the third deck -/
def dNC1 : SDen := (sAsg 2 (dCall dDrawC [.io 0, .v (dC (.int 6))]))
def dNC2 : SDen := (sIf (dT (dBin zEq (dName 2) (dC (.int 0)))) (sRet (dCall dDrawC [.io 0, .v (dC (.int 30))])) sNext)
def dNC3 : SDen := (sIf (dT (dBin zEq (dName 2) (dC (.int 1)))) (sRet (dCall dDrawC [.io 0, .v (dC (.int 5000))])) sNext)
def dNC5B : SDen := (sAsg 3 (dBin zAdd (dBin zMul (dName 3) (dBin zPow (dC (.int 10)) (dC (.int 5)))) (dCall dDrawC [.io 0, .v (dBin zPow (dC (.int 10)) (dC (.int 5)))])))
def dNC5 : SDen := (sFor (iR1 (dBin zAdd (dC (.int 1)) (dCall dDrawC [.io 0, .v (dC (.int 10))]))) (putN 4) dNC5B)
def dNC61 : SDen := (sAsg 5 (dBin zAdd (dC (.int 1)) (dCall dDrawC [.io 0, .v (dBin zIx (dLst [(dC (.int 40)), (dC (.int 160))]) (dCall dDrawC [.io 0, .v (dC (.int 2))]))])))
def dNC62 : SDen := (sAsg 3 (dBin zSub (dCall dPow [.v (dBin zIx (dName 1) (dC (.int 0))), .v (dName 5)]) (dCall dDrawC [.io 0, .v (dC (.int 2))])))
def dNC6 : SDen := (sIf (dT (dBin zEq (dName 2) (dC (.int 2)))) (sSeq dNC61 dNC62) sNext)
def dNC7B : SDen := (sAsg 3 (dBin zAdd (dBin zMul (dName 3) (dBin zIx (dName 1) (dC (.int 0)))) (dName 6)))
def dNC71 : SDen := (sAsg 6 (dBin zAdd (dC (.int 1)) (dCall dDrawC [.io 0, .v (dBin zSub (dBin zIx (dName 1) (dC (.int 0))) (dC (.int 1)))])))
def dNC72 : SDen := (sFor (iR1 (dBin zAdd (dC (.int 1)) (dCall dDrawC [.io 0, .v (dC (.int 33))]))) (putN 4) dNC7B)
def dNC73 : SDen := (sAsg 3 (dBin zMul (dName 3) (dCall dPow [.v (dBin zIx (dName 1) (dC (.int 0))), .v (dCall dDrawC [.io 0, .v (dC (.int 8))])])))
def dNC7 : SDen := (sIf (dT (dBin zEq (dName 2) (dC (.int 3)))) (sSeq (sAsg 3 (dC (.int 0))) (sSeq dNC71 (sSeq dNC72 dNC73))) sNext)
def dNC8 : SDen := (sRet (dB zMin [(dName 3), (dBin zSub (dBin zPow (dC (.int 16)) (dC (.int 40))) (dC (.int 1)))]))
def dNumC : FDen := dFun 7 [true, false] (sSeq dNC1 (sSeq dNC2 (sSeq dNC3 (sSeq (sAsg 3 (dC (.int 0))) (sSeq dNC5 (sSeq dNC6 (sSeq dNC7 dNC8)))))))
theorem pw5 : zPow (.int 10) (.int 5) = some (.val (.int 100000)) := by rw [zPow_i (by decide) (by decide) (by decide)]; rfl
section
variable {d0 d1 d2 d3 : List D} {Q : D} {w r s t u v x y b : Int} {x3 x4 x5 x6 y4 : Option T} {o : List T}
theorem nC1 (e : dDrawC [.lst d0, .frz (.int 6)] = .ok (.frz (.int w)) [.lst d1, .frz (.int 6)]) : dNC1 [some (.lst d0), some (.frz Q), none, none, none, none, none] = .ok .next [some (.lst d1), some (.frz Q), some (.frz (.int w)), none, none, none, none] := by
  simp [dNC1, e]
theorem nC2a (h : w = 0) (e : dDrawC [.lst d0, .frz (.int 30)] = .ok (.frz (.int r)) [.lst d1, .frz (.int 30)]) : dNC2 [some (.lst d0), some (.frz Q), some (.frz (.int w)), none, none, none, none] = .ok (.ret (.frz (.int r))) [some (.lst d1), some (.frz Q), some (.frz (.int w)), none, none, none, none] := by
  simp [dNC2, h, e]
theorem nC2b (h : w ≠ 0) : dNC2 [some (.lst d0), some (.frz Q), some (.frz (.int w)), none, none, none, none] = .ok .next [some (.lst d0), some (.frz Q), some (.frz (.int w)), none, none, none, none] := by
  simp [dNC2, h]
theorem nC3a (h : w = 1) (e : dDrawC [.lst d0, .frz (.int 5000)] = .ok (.frz (.int r)) [.lst d1, .frz (.int 5000)]) : dNC3 [some (.lst d0), some (.frz Q), some (.frz (.int w)), none, none, none, none] = .ok (.ret (.frz (.int r))) [some (.lst d1), some (.frz Q), some (.frz (.int w)), none, none, none, none] := by
  simp [dNC3, h, e]
theorem nC3b (h : w ≠ 1) : dNC3 [some (.lst d0), some (.frz Q), some (.frz (.int w)), none, none, none, none] = .ok .next [some (.lst d0), some (.frz Q), some (.frz (.int w)), none, none, none, none] := by
  simp [dNC3, h]
theorem nC4 : sAsg 3 (dC (.int 0)) [some (.lst d0), some (.frz Q), some (.frz (.int w)), x3, x4, x5, x6] = .ok .next [some (.lst d0), some (.frz Q), some (.frz (.int w)), some (.frz (.int 0)), x4, x5, x6] := by simp
theorem nC5b (hu : zMul (.int x) (.int 100000) = some (.val (.int u))) (e : dDrawC [.lst d0, .frz (.int 100000)] = .ok (.frz (.int r)) [.lst d1, .frz (.int 100000)]) : dNC5B [some (.lst d0), some (.frz Q), some (.frz (.int w)), some (.frz (.int x)), x4, x5, x6] = .ok .next [some (.lst d1), some (.frz Q), some (.frz (.int w)), some (.frz (.int (u + r))), x4, x5, x6] := by
  simp [dNC5B, pw5, hu, e]
theorem nC5 (e : dDrawC [.lst d0, .frz (.int 10)] = .ok (.frz (.int r)) [.lst d1, .frz (.int 10)]) (hs : 1 + r = s) (s1 : smallI s = true) (e2 : forL (putN 4) dNC5B (rngD 0 1 s.toNat) [some (.lst d1), some (.frz Q), some (.frz (.int w)), some (.frz (.int 0)), x4, x5, x6] = .ok .next [some (.lst d2), some (.frz Q), some (.frz (.int w)), some (.frz (.int x)), y4, x5, x6]) :
    dNC5 [some (.lst d0), some (.frz Q), some (.frz (.int w)), some (.frz (.int 0)), x4, x5, x6] = .ok .next [some (.lst d2), some (.frz Q), some (.frz (.int w)), some (.frz (.int x)), y4, x5, x6] := by
  simp [dNC5, e, hs, s1, e2]
theorem nC6a (h : w = 2) (e1 : dDrawC [.lst d0, .frz (.int 2)] = .ok (.frz (.int r)) [.lst d1, .frz (.int 2)]) (hs : zIx (.lst [.int 40, .int 160]) (.int r) = some (.val (.int s))) (e2 : dDrawC [.lst d1, .frz (.int s)] = .ok (.frz (.int t)) [.lst d2, .frz (.int s)]) (hu : 1 + t = u) (hb : zIx Q (.int 0) = some (.val (.int b))) (ep : dPow [.frz (.int b), .frz (.int u)] = .ok (.frz (.int v)) o) (e3 : dDrawC [.lst d2, .frz (.int 2)] = .ok (.frz (.int y)) [.lst d3, .frz (.int 2)]) :
    dNC6 [some (.lst d0), some (.frz Q), some (.frz (.int w)), some (.frz (.int x)), x4, x5, x6] = .ok .next [some (.lst d3), some (.frz Q), some (.frz (.int w)), some (.frz (.int (v - y))), x4, some (.frz (.int u)), x6] := by
  simp [dNC6, dNC61, dNC62, h, e1, hs, e2, hu, hb, ep, putd2, e3]
theorem nC6b (h : w ≠ 2) : dNC6 [some (.lst d0), some (.frz Q), some (.frz (.int w)), some (.frz (.int x)), x4, x5, x6] = .ok .next [some (.lst d0), some (.frz Q), some (.frz (.int w)), some (.frz (.int x)), x4, x5, x6] := by
  simp [dNC6, h]
theorem nC71 (hb : zIx Q (.int 0) = some (.val (.int b))) (hs : b - 1 = s) (e : dDrawC [.lst d0, .frz (.int s)] = .ok (.frz (.int r)) [.lst d1, .frz (.int s)]) (ht : 1 + r = t) : dNC71 [some (.lst d0), some (.frz Q), some (.frz (.int w)), some (.frz (.int x)), x4, x5, x6] = .ok .next [some (.lst d1), some (.frz Q), some (.frz (.int w)), some (.frz (.int x)), x4, x5, some (.frz (.int t))] := by
  simp [dNC71, hb, hs, e, ht]
theorem nC7b (hb : zIx Q (.int 0) = some (.val (.int b))) (hu : zMul (.int x) (.int b) = some (.val (.int u))) : dNC7B [some (.lst d0), some (.frz Q), some (.frz (.int w)), some (.frz (.int x)), x4, x5, some (.frz (.int t))] = .ok .next [some (.lst d0), some (.frz Q), some (.frz (.int w)), some (.frz (.int (u + t))), x4, x5, some (.frz (.int t))] := by
  simp [dNC7B, hb, hu]
theorem nC72 (e : dDrawC [.lst d0, .frz (.int 33)] = .ok (.frz (.int r)) [.lst d1, .frz (.int 33)]) (hs : 1 + r = s) (s1 : smallI s = true) (e2 : forL (putN 4) dNC7B (rngD 0 1 s.toNat) [some (.lst d1), some (.frz Q), some (.frz (.int w)), some (.frz (.int 0)), x4, x5, x6] = .ok .next [some (.lst d1), some (.frz Q), some (.frz (.int w)), some (.frz (.int x)), y4, x5, x6]) :
    dNC72 [some (.lst d0), some (.frz Q), some (.frz (.int w)), some (.frz (.int 0)), x4, x5, x6] = .ok .next [some (.lst d1), some (.frz Q), some (.frz (.int w)), some (.frz (.int x)), y4, x5, x6] := by
  simp [dNC72, e, hs, s1, e2]
theorem nC73 (hb : zIx Q (.int 0) = some (.val (.int b))) (e : dDrawC [.lst d0, .frz (.int 8)] = .ok (.frz (.int r)) [.lst d1, .frz (.int 8)]) (ep : dPow [.frz (.int b), .frz (.int r)] = .ok (.frz (.int v)) o) (hu : zMul (.int x) (.int v) = some (.val (.int u))) : dNC73 [some (.lst d0), some (.frz Q), some (.frz (.int w)), some (.frz (.int x)), x4, x5, x6] = .ok .next [some (.lst d1), some (.frz Q), some (.frz (.int w)), some (.frz (.int u)), x4, x5, x6] := by
  simp [dNC73, hb, e, ep, putd2, hu]
theorem nC7a {Γ1 Γ2 Γ3 Γ4 : Env} (h : w = 3) (c0 : sAsg 3 (dC (.int 0)) [some (.lst d0), some (.frz Q), some (.frz (.int w)), some (.frz (.int x)), x4, x5, x6] = .ok .next Γ1) (c1 : dNC71 Γ1 = .ok .next Γ2) (c2 : dNC72 Γ2 = .ok .next Γ3) (c3 : dNC73 Γ3 = .ok .next Γ4) :
    dNC7 [some (.lst d0), some (.frz Q), some (.frz (.int w)), some (.frz (.int x)), x4, x5, x6] = .ok .next Γ4 := by
  subst h
  have hc : dT (dBin zEq (dName 2) (dC (.int 3))) [some (.lst d0), some (.frz Q), some (.frz (.int 3)), some (.frz (.int x)), x4, x5, x6] = .ok true [some (.lst d0), some (.frz Q), some (.frz (.int 3)), some (.frz (.int x)), x4, x5, x6] := by simp
  have hh := seq2 c0 (seq2 c1 (seq2 c2 c3))
  rw [dNC7, sIf_ap, bindO_ap, hc]
  exact hh
theorem nC7n (h : w ≠ 3) : dNC7 [some (.lst d0), some (.frz Q), some (.frz (.int w)), some (.frz (.int x)), x4, x5, x6] = .ok .next [some (.lst d0), some (.frz Q), some (.frz (.int w)), some (.frz (.int x)), x4, x5, x6] := by
  simp [dNC7, h]
theorem nC8 (hm : zMin [.int x, .int (E40 - 1)] = some (.val (.int y))) : dNC8 [some (.lst d0), some (.frz Q), some (.frz (.int w)), some (.frz (.int x)), x4, x5, x6] = .ok (.ret (.frz (.int y))) [some (.lst d0), some (.frz Q), some (.frz (.int w)), some (.frz (.int x)), x4, x5, x6] := by
  simp [dNC8, pw1640, hm]
end
theorem nC_out {d0 d1 d2 d3 d4 : List D} {Q : D} {w x y z r : Int} {x4 x5 x6 y4 y5 y6 z4 z5 z6 : Option T} (c1 : dNC1 [some (.lst d0), some (.frz Q), none, none, none, none, none] = .ok .next [some (.lst d1), some (.frz Q), some (.frz (.int w)), none, none, none, none]) (h0 : w ≠ 0) (h1 : w ≠ 1)
    (c5 : dNC5 [some (.lst d1), some (.frz Q), some (.frz (.int w)), some (.frz (.int 0)), none, none, none] = .ok .next [some (.lst d2), some (.frz Q), some (.frz (.int w)), some (.frz (.int x)), x4, x5, x6])
    (c6 : dNC6 [some (.lst d2), some (.frz Q), some (.frz (.int w)), some (.frz (.int x)), x4, x5, x6] = .ok .next [some (.lst d3), some (.frz Q), some (.frz (.int w)), some (.frz (.int y)), y4, y5, y6])
    (c7 : dNC7 [some (.lst d3), some (.frz Q), some (.frz (.int w)), some (.frz (.int y)), y4, y5, y6] = .ok .next [some (.lst d4), some (.frz Q), some (.frz (.int w)), some (.frz (.int z)), z4, z5, z6]) (hm : zMin [.int z, .int (E40 - 1)] = some (.val (.int r))) :
    dNumC [.lst d0, .frz Q] = .ok (.frz (.int r)) [.lst d4, .frz Q] := by
  simp only [dNumC, dFun_ap, List.map_cons, List.map_nil, List.length_cons, List.length_nil, List.replicate, List.cons_append, List.nil_append, sSeq_ap, c1, nC2b h0, nC3b h1, nC4, c5, c6, c7, nC8 hm]
  simp
theorem zMin2 (a c : Int) : zMin [.int a, .int c] = some (.val (.int (if c < a then c else a))) := rfl
theorem numC_ev {N b p : Nat} {ds : List D} (h : DkC N ds) (hN : N ≤ 1000000) (hb : 2 ≤ b) (hb2 : b ≤ 16) :
    ∃ (n : Nat) (ds' : List D), dNumC [.lst ds, .frz (prD b p)] = .ok (.frz (.int n)) [.lst ds', .frz (prD b p)] ∧ n < 2 ^ 160 ∧ DkC (N + 20) ds' := by
  have hbb : (b : Int).natAbs < 2 ^ 64 := nat64 (by omega)
  obtain ⟨w, d1, e1, w0, w1, h1⟩ := drawC_ev h (b := 6) (by omega) (by omega) (by omega)
  have c1 := nC1 (Q := prD b p) e1
  by_cases k0 : w = 0
  · obtain ⟨r, d2, e2, r0, r1, h2⟩ := drawC_ev h1 (b := 30) (by omega) (by omega) (by omega)
    refine ⟨r.toNat, d2, ?_, lt160 (by omega), h2.mono (by omega)⟩
    have hr : ((r.toNat : Nat) : Int) = r := by omega
    rw [hr]
    simp only [dNumC, dFun_ap, List.map_cons, List.map_nil, List.length_cons, List.length_nil, List.replicate, List.cons_append, List.nil_append, sSeq_ap, c1, nC2a k0 e2]
    simp
  by_cases k1 : w = 1
  · obtain ⟨r, d2, e2, r0, r1, h2⟩ := drawC_ev h1 (b := 5000) (by omega) (by omega) (by omega)
    refine ⟨r.toNat, d2, ?_, lt160 (by omega), h2.mono (by omega)⟩
    have hr : ((r.toNat : Nat) : Int) = r := by omega
    rw [hr]
    simp only [dNumC, dFun_ap, List.map_cons, List.map_nil, List.length_cons, List.length_nil, List.replicate, List.cons_append, List.nil_append, sSeq_ap, c1, nC2b k0, nC3a k1 e2]
    simp
  obtain ⟨r, d2, e2, r0, r1, h2⟩ := drawC_ev h1 (b := 10) (by omega) (by omega) (by omega)
  obtain ⟨Γ5, l5, d3, x, y4, rfl, hx, h3⟩ := forL_rng (put := putN 4) (b := dNC5B) (fun j Γ => ∃ d x y4, Γ = [some (.lst d), some (.frz (prD b p)), some (.frz (.int w)), some (.frz (.int x)), y4, none, none] ∧ 0 ≤ x ∧ DkC (N + 2 + j) d) 0 1 (1 + r).toNat
    [some (.lst d2), some (.frz (prD b p)), some (.frz (.int w)), some (.frz (.int 0)), none, none, none] ⟨d2, 0, none, rfl, by omega, h2⟩ (by
      rintro j Γ hj ⟨d, x, y4, rfl, hx, hd⟩
      obtain ⟨s, d', e, s0, s1, h'⟩ := drawC_ev hd (b := 100000) (by omega) (by omega) (by omega)
      refine ⟨_, _, rfl, nC5b (zMul_i (mulOk_r (by decide))) e, d', _, _, rfl, by omega, h'⟩)
  have c5 := nC5 (Q := prD b p) (w := w) (x4 := none) (x5 := none) (x6 := none) e2 rfl (small_of (by omega) (by omega)) l5
  have h3 := h3.mono (show N + 2 + (1 + r).toNat ≤ N + 12 by omega)
  have c6 : ∃ d4 y y5, dNC6 [some (.lst d3), some (.frz (prD b p)), some (.frz (.int w)), some (.frz (.int x)), y4, none, none] = .ok .next [some (.lst d4), some (.frz (prD b p)), some (.frz (.int w)), some (.frz (.int y)), y4, y5, none] ∧ 0 ≤ y ∧ DkC (N + 15) d4 := by
    by_cases k2 : w = 2
    · obtain ⟨r, d4, f1, r0, r1, g1⟩ := drawC_ev h3 (b := 2) (by omega) (by omega) (by omega)
      have hs : ∃ s : Int, zIx (.lst [.int 40, .int 160]) (.int r) = some (.val (.int s)) ∧ 1 ≤ s ∧ s ≤ 160 := by
        have : r = 0 ∨ r = 1 := by omega
        rcases this with rfl | rfl
        · exact ⟨40, zIx_l (k := 0) rfl rfl, by omega, by omega⟩
        · exact ⟨160, zIx_l (k := 1) rfl rfl, by omega, by omega⟩
      obtain ⟨s, hs, s1, s2⟩ := hs
      obtain ⟨t, d5, f2, t0, t1, g2⟩ := drawC_ev g1 (b := s) (by omega) (by omega) (by omega)
      obtain ⟨u, hu⟩ : ∃ u : Nat, 1 + t = u := ⟨(1 + t).toNat, by omega⟩
      have ep := pow_ev (b : Int) u hbb (by omega)
      rw [← Int.natCast_pow] at ep
      obtain ⟨v, d6, f3, v0, v1, g3⟩ := drawC_ev g2 (b := 2) (by omega) (by omega) (by omega)
      have hpos : 0 < b ^ u := Nat.pow_pos (by omega)
      exact ⟨d6, _, _, nC6a k2 f1 hs f2 hu pr0 ep f3, by omega, g3⟩
    · exact ⟨d3, x, none, nC6b k2, hx, h3.mono (by omega)⟩
  obtain ⟨d4, y, y5, c6, hy, h4⟩ := c6
  have c7 : ∃ d5 z z4 z6, dNC7 [some (.lst d4), some (.frz (prD b p)), some (.frz (.int w)), some (.frz (.int y)), y4, y5, none] = .ok .next [some (.lst d5), some (.frz (prD b p)), some (.frz (.int w)), some (.frz (.int z)), z4, y5, z6] ∧ 0 ≤ z ∧ DkC (N + 20) d5 := by
    by_cases k3 : w = 3
    · obtain ⟨r, d5, f1, r0, r1, g1⟩ := drawC_ev h4 (b := (b : Int) - 1) (by omega) (by omega) (by omega)
      obtain ⟨s, d6, f2, s0, s1, g2⟩ := drawC_ev g1 (b := 33) (by omega) (by omega) (by omega)
      obtain ⟨Γ7, l7, x7, z4, rfl, hx7⟩ := forL_rng (put := putN 4) (b := dNC7B) (fun j Γ => ∃ x y4, Γ = [some (.lst d6), some (.frz (prD b p)), some (.frz (.int w)), some (.frz (.int x)), y4, y5, some (.frz (.int (1 + r)))] ∧ 0 ≤ x) 0 1 (1 + s).toNat
        [some (.lst d6), some (.frz (prD b p)), some (.frz (.int w)), some (.frz (.int 0)), y4, y5, some (.frz (.int (1 + r)))] ⟨0, y4, rfl, by omega⟩ (by
          rintro j Γ hj ⟨x, y4, rfl, hx⟩
          refine ⟨_, _, rfl, nC7b pr0 (zMul_i (mulOk_r hbb)), _, _, rfl, ?_⟩
          have : 0 ≤ x * (b : Int) := Int.mul_nonneg hx (by omega)
          omega)
      obtain ⟨t, d7, f3, t0, t1, g3⟩ := drawC_ev g2 (b := 8) (by omega) (by omega) (by omega)
      obtain ⟨u, rfl⟩ : ∃ u : Nat, t = u := ⟨t.toNat, by omega⟩
      have ep := pow_ev (b : Int) u hbb (by omega)
      rw [← Int.natCast_pow] at ep
      have hle : b ^ u ≤ 16 ^ 7 := Nat.le_trans (Nat.pow_le_pow_left hb2 u) (Nat.pow_le_pow_right (by decide) (by omega))
      have h167 : (16 : Nat) ^ 7 = 268435456 := by decide
      have c0 := nC4 (d0 := d4) (Q := prD b p) (w := w) (x3 := some (.frz (.int y))) (x4 := y4) (x5 := y5) (x6 := none)
      have c71 := nC71 (Q := prD b p) (w := w) (x := 0) (x4 := y4) (x5 := y5) (x6 := none) pr0 rfl f1 rfl
      have c72 := nC72 (Q := prD b p) (w := w) (x4 := y4) (x5 := y5) (x6 := some (.frz (.int (1 + r)))) f2 rfl (small_of (by omega) (by omega)) l7
      have c73 := nC73 (Q := prD b p) (w := w) (x := x7) (x4 := z4) (x5 := y5) (x6 := some (.frz (.int (1 + r)))) pr0 f3 ep (zMul_i (mulOk_r (nat64 (by omega))))
      exact ⟨d7, _, _, _, nC7a k3 c0 c71 c72 c73, Int.mul_nonneg hx7 (by omega), g3.mono (by omega)⟩
    · exact ⟨d4, y, _, _, nC7n k3, hy, h4.mono (by omega)⟩
  obtain ⟨d5, z, z4, z6, c7, hz, h5⟩ := c7
  have hE : E40 = 1461501637330902918203684832716283019655932542976 := rfl
  have hE2 : (1461501637330902918203684832716283019655932542976 : Nat) = 2 ^ 160 := by decide +kernel
  have hm := zMin2 z (E40 - 1)
  obtain ⟨n, hn⟩ : ∃ n : Nat, (if E40 - 1 < z then E40 - 1 else z) = n := ⟨(if E40 - 1 < z then E40 - 1 else z).toNat, by split <;> omega⟩
  rw [hn] at hm
  refine ⟨n, d5, nC_out c1 k0 k1 c5 c6 c7 hm, ?_, h5⟩
  rw [← hE2]
  split at hn <;> omega
end Fw
namespace Fw
open PySem L2

/-! ### where a number comes by steps -/
theorem pigeonN : ∀ (N : Nat) (L : List Nat), L.Nodup → (∀ q ∈ L, q < N) → L.length ≤ N
  | 0, L, _, h => by
    cases L with
    | nil => simp
    | cons q L => have := h q (by simp); omega
  | N + 1, L, nd, h => by
    by_cases c : N ∈ L
    · have h1 := pigeonN N (L.erase N) (nd.erase _) fun q hq => by
        obtain ⟨h2, h3⟩ := (nd.mem_erase_iff).mp hq
        have := h q h3
        omega
      have h4 := List.length_erase_of_mem c
      omega
    · have := pigeonN N L nd fun q hq => by
        have h2 := h q hq
        have : q ≠ N := fun e => c (e ▸ hq)
        omega
      omega
theorem its_add {b p n : Nat} (i : Nat) : ∀ j, its b p (its b p n i) j = its b p n (i + j)
  | 0 => rfl
  | j + 1 => by
    show st b p (its b p (its b p n i) j) = st b p (its b p n (i + j))
    rw [its_add i j]
structure Orb (b p n L a : Nat) : Prop where
  lt : a < L
  back : its b p n L = its b p n a
  dif : ∀ i j, i < j → j < L → its b p n i ≠ its b p n j
theorem orb_or {b p n : Nat} : ∀ k, (∀ i j, i < j → j < k → its b p n i ≠ its b p n j) ∨ ∃ L a, L < k ∧ Orb b p n L a
  | 0 => .inl fun i j _ h => absurd h (by omega)
  | k + 1 => by
    rcases orb_or (b := b) (p := p) (n := n) k with h | ⟨L, a, h, o⟩
    · by_cases c : ∃ i, i < k ∧ its b p n i = its b p n k
      · obtain ⟨i, hi, e⟩ := c
        exact .inr ⟨k, i, by omega, hi, e.symm, h⟩
      · refine .inl fun i j hij hj e => ?_
        rcases Nat.lt_succ_iff_lt_or_eq.mp hj with z | rfl
        · exact h i j hij z e
        · exact c ⟨i, hij, e⟩
    · exact .inr ⟨L, a, by omega, o⟩
/-- a pair whose greatest figure is worth a thousand at most -/
structure PairT (b p : Nat) : Prop where
  b2 : 2 ≤ b
  b16 : b ≤ 16
  p1 : 1 ≤ p
  p10 : p ≤ 10
  stk : StOk b p
  top : (b - 1) ^ p ≤ 1000
theorem its_le {b p n : Nat} (h : PairT b p) (hn : n < 2 ^ 160) (j : Nat) : its b p n (j + 1) ≤ 160000 := by
  have hl := its_lt h.stk hn j
  have := st_bound (b := b) (p := p) (n := its b p n j) (j := 160) h.b2 (by have := h.b16; omega) h.p1 hl (by omega)
  have := h.top
  show st b p (its b p n j) ≤ 160000
  omega
theorem orb_ex {b p n : Nat} (h : PairT b p) (hn : n < 2 ^ 160) : ∃ L a, L ≤ 170000 ∧ Orb b p n L a := by
  rcases orb_or (b := b) (p := p) (n := n) 170001 with g | ⟨L, a, hL, o⟩
  · exfalso
    have hnd : ((List.range 170000).map fun j => its b p n (j + 1)).Nodup := by
      unfold List.Nodup
      rw [List.pairwise_map]
      refine (List.pairwise_lt_range (n := 170000)).imp_of_mem fun {i j} hi hj hij => ?_
      have := List.mem_range.mp hj
      exact g (i + 1) (j + 1) (by omega) (by omega)
    have := pigeonN 160001 _ hnd fun q hq => by
      obtain ⟨j, _, rfl⟩ := List.mem_map.mp hq
      have := its_le h hn j
      omega
    rw [List.length_map, List.length_range] at this
    omega
  · exact ⟨L, a, by omega, o⟩
theorem Orb.uniq {b p n L a L' a' : Nat} (h : Orb b p n L a) (g : Orb b p n L' a') : L = L' ∧ a = a' := by
  have hL : L = L' := by
    rcases Nat.lt_trichotomy L L' with z | z | z
    · exact absurd h.back.symm (g.dif a L h.lt z)
    · exact z
    · exact absurd g.back.symm (h.dif a' L' g.lt z)
  subst hL
  refine ⟨rfl, ?_⟩
  have e : its b p n a = its b p n a' := by rw [← h.back, g.back]
  rcases Nat.lt_trichotomy a a' with z | z | z
  · exact absurd e (h.dif a a' z g.lt)
  · exact z
  · exact absurd e.symm (h.dif a' a z h.lt)
theorem row_mem {b p n m x : Nat} : x ∈ row b p n m ↔ ∃ i, i < m ∧ its b p n i = x := by
  simp [row]
theorem row_succ (b p n m : Nat) : row b p n (m + 1) = row b p n m ++ [its b p n m] := by
  simp [row, List.range_succ]
/-- the walk goes on just below L -/
theorem Orb.stop {b p n L a j : Nat} (h : Orb b p n L a) (hj : j ≤ L) : its b p n j ∈ row b p n j ↔ j = L := by
  rw [row_mem]
  constructor
  · rintro ⟨i, hi, e⟩
    rcases Nat.lt_or_ge j L with z | z
    · exact absurd e (h.dif i j hi z)
    · omega
  · rintro rfl
    exact ⟨a, h.lt, h.back.symm⟩
theorem Orb.per {b p n L a : Nat} (h : Orb b p n L a) (t : Nat) : its b p n (L + t) = its b p n (a + t) := by
  rw [← its_add, ← its_add, h.back]
/-- a number of the round stands in it at once -/
theorem Orb.ring {b p n L a i : Nat} (h : Orb b p n L a) (h1 : a ≤ i) (h2 : i < L) : Orb b p (its b p n i) (L - a) 0 where
  lt := by omega
  back := by
    rw [its_add, show i + (L - a) = L + (i - a) by omega, h.per, show a + (i - a) = i by omega]; rfl
  dif := by
    intro j k hjk hk e
    rw [its_add, its_add] at e
    by_cases c1 : i + k < L
    · exact h.dif _ _ (by omega) c1 e
    · have e2 : its b p n (i + k) = its b p n (a + (i + k - L)) := by
        rw [← h.per]; congr 1; omega
      rw [e2] at e
      by_cases c2 : i + j < L
      · exact h.dif (a + (i + k - L)) (i + j) (by omega) c2 e.symm
      · have e3 : its b p n (i + j) = its b p n (a + (i + j - L)) := by
          rw [← h.per]; congr 1; omega
        rw [e3] at e
        exact h.dif (a + (i + j - L)) (a + (i + k - L)) (by omega) (by omega) e
/-- a number's end: so many steps away, the round's least number -/
structure EndP (b p n a m : Nat) : Prop where
  ex : ∃ L, L ≤ 170000 ∧ Orb b p n L a ∧ (∃ i, a ≤ i ∧ i < L ∧ its b p n i = m) ∧ ∀ i, a ≤ i → i < L → m ≤ its b p n i
theorem min_ex (f : Nat → Nat) (a : Nat) : ∀ d, ∃ i, a ≤ i ∧ i < a + (d + 1) ∧ ∀ j, a ≤ j → j < a + (d + 1) → f i ≤ f j
  | 0 => ⟨a, by omega, by omega, fun j h1 h2 => by have : j = a := by omega
                                                   rw [this]; exact Nat.le_refl _⟩
  | d + 1 => by
    obtain ⟨i, h1, h2, h3⟩ := min_ex f a d
    by_cases c : f i ≤ f (a + (d + 1))
    · refine ⟨i, h1, by omega, fun j g1 g2 => ?_⟩
      rcases Nat.lt_or_ge j (a + (d + 1)) with z | z
      · exact h3 j g1 z
      · have : j = a + (d + 1) := by omega
        rw [this]; exact c
    · refine ⟨a + (d + 1), by omega, by omega, fun j g1 g2 => ?_⟩
      rcases Nat.lt_or_ge j (a + (d + 1)) with z | z
      · have := h3 j g1 z; omega
      · have : j = a + (d + 1) := by omega
        rw [this]; exact Nat.le_refl _
theorem end_ex {b p n : Nat} (h : PairT b p) (hn : n < 2 ^ 160) : ∃ a m, EndP b p n a m := by
  obtain ⟨L, a, hL, o⟩ := orb_ex h hn
  have hlt := o.lt
  obtain ⟨i, h1, h2, h3⟩ := min_ex (its b p n) a (L - a - 1)
  rw [show a + (L - a - 1 + 1) = L by omega] at h2 h3
  exact ⟨a, _, ⟨L, hL, o, ⟨i, h1, h2, rfl⟩, h3⟩⟩
theorem EndP.uniq {b p n a m a' m' : Nat} (h : EndP b p n a m) (g : EndP b p n a' m') : a = a' ∧ m = m' := by
  obtain ⟨L, _, o, ⟨i, h1, h2, h3⟩, h4⟩ := h
  obtain ⟨L', _, o', ⟨j, g1, g2, g3⟩, g4⟩ := g
  obtain ⟨rfl, rfl⟩ := o.uniq o'
  have := h4 j g1 g2
  have := g4 i h1 h2
  exact ⟨rfl, by omega⟩
theorem EndP.ring {b p n a m L : Nat} (h : EndP b p n a m) (o : Orb b p n L a) {i : Nat} (h1 : a ≤ i) (h2 : i < L) : EndP b p (its b p n i) 0 m := by
  obtain ⟨L', hL, o', ⟨k, k1, k2, k3⟩, k4⟩ := h
  obtain ⟨rfl, _⟩ := o.uniq o'
  refine ⟨L - a, by omega, o.ring h1 h2, ?_, fun j _ hj => ?_⟩
  · by_cases c : i ≤ k
    · exact ⟨k - i, by omega, by omega, by rw [its_add, show i + (k - i) = k by omega, k3]⟩
    · refine ⟨L - i + (k - a), by omega, by omega, ?_⟩
      rw [its_add, show i + (L - i + (k - a)) = L + (k - a) by omega, o.per, show a + (k - a) = k by omega, k3]
  · rw [its_add]
    by_cases c : i + j < L
    · exact k4 _ (by omega) c
    · rw [show i + j = L + (i + j - L) by omega, o.per]
      exact k4 _ (by omega) (by omega)
theorem PairOk.natT {b p : Nat} (h : PairOk (b : Int) (p : Int)) : PairT b p := by
  obtain ⟨i, j, e1, e2, hn⟩ := h.nat
  have e1 : b = i := by omega
  have e2 : p = j := by omega
  subst e1 e2
  refine ⟨hn.b2, hn.b16, hn.p1, hn.p10, hn.stk, ?_⟩
  obtain ⟨i', j', g1, g2, hc⟩ := allPairs_ok (c := fun b p => decide ((b - 1) ^ p ≤ 1000)) (by decide +kernel) h
  have : i' = b := by omega
  have : j' = p := by omega
  subst i' j'
  exact of_decide_eq_true hc
end Fw
namespace Fw
open PySem L2

/-! ### walked, end_of -/
def dWkC : DenT := (dT (dBin zNotIn (dName 0) (dName 4)))
def dWk1 : SDen := (sPutK 4 (dName 0) (dB zLen [(dName 3)]))
def dWk2 : SDen := (sDrop (dMut mAppend 3 [(dName 0)]))
def dWk3 : SDen := (sAsg 0 (dCall dStep [.v (dName 0), .v (dName 1), .v (dName 2)]))
def dWkB : SDen := sSeq dWk1 (sSeq dWk2 dWk3)
def dWk : FDen := dFun 5 [false, false, false] (sSeq (sAsg 3 (dLst [])) (sSeq (sAsg 4 dDict0) (sSeq (sWhile dWkC dWkB) (sRet (dTup [(dName 3), (dBin zIx (dName 4) (dName 0))])))))
def dEnd : FDen := dFun 5 [false, false, false] (sSeq (sAsgG (putT (putLc (putN 3) (putLc (putN 4) putL0))) (dCall dWk [.v (dName 0), .v (dName 1), .v (dName 2)])) (sRet (dTup [(dName 4), (dB zMin [(dSl zSl (dName 3) (some (dName 4)) none)])])))
theorem notIn_dct {x : Int} {ks : List Key} {vs : List D} : zNotIn (.int x) (.dct ks vs) = some (.val (.bl (!(findK ks vs (.inl x)).isSome))) := rfl
section
variable {n n' b p l a m : Int} {F G : List D} {ks : List Key} {vs : List D} {B P : D} {o : List T} {c : Bool}
theorem wk_c (h : (!(findK ks vs (.inl n)).isSome) = c) : dWkC [some (.frz (.int n)), some (.frz B), some (.frz P), some (.lst F), some (.dct ks vs)] = .ok c [some (.frz (.int n)), some (.frz B), some (.frz P), some (.lst F), some (.dct ks vs)] := by
  have z : zNotIn (.int n) (.dct ks vs) = some (.val (.bl c)) := by rw [notIn_dct, h]
  simp [dWkC, z]
theorem wk_b (hl : ((F.length : Nat) : Int) = l) (hk : ks.length < big) (hF : F.length < big) (e : dStep [.frz (.int n), .frz B, .frz P] = .ok (.frz (.int n')) o) :
    dWkB [some (.frz (.int n)), some (.frz B), some (.frz P), some (.lst F), some (.dct ks vs)] = .ok .next [some (.frz (.int n')), some (.frz B), some (.frz P), some (.lst (F ++ [.int n])), some (.dct (putKD (.inl n) (.int l) ks vs).1 (putKD (.inl n) (.int l) ks vs).2)] := by
  have kd : keyD (.int n) = some (.inl n) := rfl
  simp [dWkB, dWk1, dWk2, dWk3, hl, kd, hk, mAppend_ok hF, e, putd3]
theorem wk_out (e : whileN dWkC dWkB fuel [some (.frz (.int n)), some (.frz B), some (.frz P), some (.lst []), some (.dct [] [])] = .ok .next [some (.frz (.int n')), some (.frz B), some (.frz P), some (.lst F), some (.dct ks vs)]) (hg : findK ks vs (.inl n') = some (.int a)) :
    dWk [.frz (.int n), .frz B, .frz P] = .ok (.frz (.tup [.lst F, .int a])) [.frz (.int n), .frz B, .frz P] := by
  have z : zIx (.dct ks vs) (.int n') = some (.val (.int a)) := by
    show (findK ks vs (.inl n')).map Z.val = _
    rw [hg]; rfl
  simp [dWk, e, z]
theorem end_out (e : dWk [.frz (.int n), .frz B, .frz P] = .ok (.frz (.tup [.lst F, .int a])) o) (hc : cutD F (some a) none = G) (hm : zMin [.lst G] = some (.val (.int m))) : dEnd [.frz (.int n), .frz B, .frz P] = .ok (.frz (.tup [.int a, .int m])) [.frz (.int n), .frz B, .frz P] := by
  simp [dEnd, e, putd3, hc, hm]
end
theorem find_nil {s : Key} : findK [] [] s = none := rfl
theorem wk_ev {b p n L a : Nat} (h : PairT b p) (hn : n < 2 ^ 160) (o : Orb b p n L a) (hL : L ≤ 170000) : dWk [.frz (.int n), .frz (.int b), .frz (.int p)] = .ok (.frz (.tup [.lst (nats (row b p n L)), .int a])) [.frz (.int n), .frz (.int b), .frz (.int p)] := by
  have hlt := o.lt
  obtain ⟨Γ', e, ks, vs, rfl, hg⟩ := whileN_ind (c := dWkC) (b := dWkB)
    (fun m Γ => ∃ j ks vs, m = L - j ∧ j ≤ L ∧ Γ = [some (.frz (.int (its b p n j : Nat))), some (.frz (.int b)), some (.frz (.int p)), some (.lst (nats (row b p n j))), some (.dct ks vs)] ∧ ks.length = vs.length ∧ ks.length ≤ j ∧ (∀ i, i < j → findK ks vs (.inl (its b p n i : Nat)) = some (.int (i : Nat))) ∧ ∀ x : Nat, x ∉ row b p n j → findK ks vs (.inl (x : Int)) = none)
    (fun Γ => ∃ ks vs, Γ = [some (.frz (.int (its b p n L : Nat))), some (.frz (.int b)), some (.frz (.int p)), some (.lst (nats (row b p n L))), some (.dct ks vs)] ∧ findK ks vs (.inl (its b p n L : Nat)) = some (.int (a : Nat)))
    (by
      rintro m Γ ⟨j, ks, vs, rfl, hj, rfl, h1, h2, h3, h4⟩
      have hst := o.stop hj
      by_cases c : j = L
      · subst c
        have hf : findK ks vs (.inl (its b p n j : Nat)) = some (.int (a : Nat)) := by rw [o.back]; exact h3 a hlt
        refine .inl ⟨_, wk_c (by rw [hf]; rfl), ks, vs, rfl, hf⟩
      · have hnm : its b p n j ∉ row b p n j := fun z => c (hst.mp z)
        have hf := h4 _ hnm
        have eb := wk_b (ks := ks) (vs := vs) (F := nats (row b p n j)) (l := (j : Int)) (by rw [nats_len, row_len]) (by rw [big]; omega) (by rw [nats_len, row_len, big]; omega) (stepN_ev h.stk (its_lt h.stk hn j))
        have hp := put_len (k := .inl ((its b p n j : Nat) : Int)) (d := .int (j : Int)) h1
        refine .inr ⟨_, _, L - (j + 1), wk_c (by rw [hf]; rfl), .inl eb, by omega, j + 1, _, _, rfl, by omega, ?_, hp.1, by omega, fun i hi => ?_, fun x hx => ?_⟩
        · rw [row_succ, nats_app]; rfl
        · rw [find_put h1]
          rcases Nat.lt_succ_iff_lt_or_eq.mp hi with z | rfl
          · have hne : its b p n i ≠ its b p n j := o.dif i j z (by omega)
            rw [if_neg (fun g => hne (by have := Sum.inl.inj g; omega))]
            exact h3 i z
          · rw [if_pos rfl]
        · rw [row_succ] at hx
          rw [find_put h1]
          have hx1 : x ∉ row b p n j := fun z => hx (List.mem_append_left _ z)
          have hx2 : x ≠ its b p n j := fun z => hx (List.mem_append_right _ (by rw [z]; simp))
          rw [if_neg (fun g => hx2 (by have := Sum.inl.inj g; omega))]
          exact h4 x hx1)
    L [some (.frz (.int n)), some (.frz (.int b)), some (.frz (.int p)), some (.lst []), some (.dct [] [])] fuel (by have : fuel = 1000000000000 := rfl; omega) ⟨0, [], [], by omega, by omega, rfl, rfl, Nat.le_refl _, fun i hi => absurd hi (by omega), fun x _ => find_nil⟩
  exact wk_out e hg
theorem held_mem {b p n L a x : Nat} (h : a ≤ L) : x ∈ (row b p n L).drop a ↔ ∃ i, a ≤ i ∧ i < L ∧ its b p n i = x := by
  constructor
  · intro hx
    obtain ⟨j, hj⟩ := List.getElem?_of_mem hx
    rw [List.getElem?_drop] at hj
    have hlt : a + j < L := by
      rcases Nat.lt_or_ge (a + j) L with z | z
      · exact z
      · rw [List.getElem?_eq_none (by rw [row_len]; exact z)] at hj; cases hj
    rw [row_at hlt] at hj
    cases hj
    exact ⟨a + j, by omega, hlt, rfl⟩
  · rintro ⟨i, h1, h2, rfl⟩
    have : ((row b p n L).drop a)[i - a]? = some (its b p n i) := by
      rw [List.getElem?_drop, show a + (i - a) = i by omega, row_at h2]
    exact List.mem_of_getElem? this
theorem nats_drop (ns : List Nat) (k : Nat) : (nats ns).drop k = nats (ns.drop k) := by simp [nats, List.map_drop]
theorem nats_take (ns : List Nat) (k : Nat) : (nats ns).take k = nats (ns.take k) := by simp [nats, List.map_take]
theorem zMin_nats {ns : List Nat} {m : Nat} (h : m ∈ ns) (g : ∀ x ∈ ns, m ≤ x) : zMin [.lst (nats ns)] = some (.val (.int (m : Int))) := by
  rw [nats_cst]
  refine zMin_l (List.mem_map.mpr ⟨m, h, rfl⟩) fun x hx => ?_
  obtain ⟨y, hy, rfl⟩ := List.mem_map.mp hx
  have := g y hy
  omega
theorem end_ev {b p n a m : Nat} (h : PairT b p) (hn : n < 2 ^ 160) (g : EndP b p n a m) : dEnd [.frz (.int n), .frz (.int b), .frz (.int p)] = .ok (.frz (.tup [.int a, .int m])) [.frz (.int n), .frz (.int b), .frz (.int p)] := by
  obtain ⟨L, hL, o, h1, h2⟩ := g
  have hlt := o.lt
  have hc : cutD (nats (row b p n L)) (some (a : Int)) none = nats ((row b p n L).drop a) := by
    rw [cutD_from _ a (by rw [nats_len, row_len]; omega), nats_drop]
  refine end_out (wk_ev h hn o hL) hc (zMin_nats ((held_mem (by omega)).mpr h1) fun x hx => ?_)
  obtain ⟨i, i1, i2, rfl⟩ := (held_mem (by omega)).mp hx
  exact h2 i i1 i2
end Fw
namespace Fw
open PySem L2

/-! ### the law's own end -/
theorem deq_int {i j : Int} : deq (.int i) (.int j) = decide (i = j) := by
  have h := zEq_i (x := i) (y := j)
  unfold zEq at h
  have h1 : (shp (.int i) && shp (.int j)) = true := by rw [(pl_int (h := 64) (i := i)).shp, (pl_int (h := 64) (i := j)).shp]; rfl
  rw [if_pos h1] at h
  have := D.bl.inj (Z.val.inj (Option.some.inj h))
  exact this
theorem shp_nats (r : List Nat) : shp (.lst (nats r)) = true := ((pl_lst (pl_nats (h := 5) r)).mono (k := 64) (by decide)).shp
theorem shp_int (i : Int) : shp (.int i) = true := (pl_int (h := 64) (i := i)).shp
theorem notIn_nats (x : Nat) (r : List Nat) : zNotIn (.int (x : Int)) (.lst (nats r)) = some (.val (.bl (!decide (x ∈ r)))) := by
  have h : zIn (.int (x : Int)) (.lst (nats r)) = some (.val (.bl ((nats r).any fun z => deq z (.int (x : Int))))) := by
    show (if (shp (.int (x : Int)) && shp (.lst (nats r))) = true then some (Z.val (.bl ((nats r).any fun z => deq z (.int (x : Int))))) else none) = _
    rw [shp_int, shp_nats]; rfl
  have h2 : ((nats r).any fun z => deq z (.int (x : Int))) = decide (x ∈ r) := by
    unfold nats
    rw [List.any_map]
    cases hd : decide (x ∈ r) with
    | true =>
      refine List.any_eq_true.mpr ⟨x, of_decide_eq_true hd, ?_⟩
      show deq (.int (x : Int)) (.int (x : Int)) = true
      rw [deq_int]; exact decide_eq_true rfl
    | false =>
      refine List.any_eq_false.mpr fun y hy => ?_
      show ¬ deq (.int (y : Int)) (.int (x : Int)) = true
      rw [deq_int]
      have : y ≠ x := fun e => of_decide_eq_false hd (e ▸ hy)
      simp; omega
  unfold zNotIn
  rw [h, h2]; rfl
theorem firstD_nats {x : Nat} : ∀ (r : List Nat) (k i : Nat), r[i]? = some x → (∀ j, j < i → r[j]? ≠ some x) → firstD (.int (x : Int)) (nats r) k = some (k + i)
  | [], k, i, h, _ => by simp at h
  | y :: r, k, i, h, hn => by
    have hc : nats (y :: r) = D.int (y : Int) :: nats r := rfl
    rw [hc, firstD, deq_int]
    rcases i with _ | i
    · simp only [List.getElem?_cons_zero, Option.some.injEq] at h
      rw [if_pos (decide_eq_true (by omega))]; rfl
    · have h0 := hn 0 (by omega)
      simp only [List.getElem?_cons_zero, ne_eq, Option.some.injEq] at h0
      rw [if_neg (by simp; omega), firstD_nats r (k + 1) i (by simpa using h) (fun j hj => by simpa using hn (j + 1) (by omega))]
      congr 1; omega
theorem index_nats {x i : Nat} {r : List Nat} (h : r[i]? = some x) (hn : ∀ j, j < i → r[j]? ≠ some x) : zIndex (.lst (nats r)) [.int (x : Int)] = some (.val (.int (i : Int))) := by
  show (if (shp (.lst (nats r)) && shp (.int (x : Int))) = true then (firstD (.int (x : Int)) (nats r) 0).map (fun (j : Nat) => Z.val (.int (j : Int))) else none) = _
  rw [shp_int, shp_nats, firstD_nats r 0 i h hn, Nat.zero_add]; rfl
def dLEC : DenT := (dT (dBin zNotIn (dName 0) (dName 2)))
def dLEB : SDen := sSeq (sDrop (dMut mAppend 2 [(dName 0)])) (sAsg 0 (dCall dStepC [.v (dName 0), .v (dName 1)]))
def dLE3 : SDen := (sAsg 3 (dM isLst zIndex (dName 2) [(dName 0)]))
def dLE4 : SDen := (sAsg 4 (dSl zSl (dName 2) (some (dName 3)) none))
def dLE5 : SDen := (sAsg 5 (dM isLst zIndex (dName 4) [(dB zMin [(dName 4)])]))
def dLE6 : SDen := (sRet (dLst [(dName 3), (dBin zAdd (dSl zSl (dName 4) (some (dName 5)) none) (dSl zSl (dName 4) none (some (dName 5))))]))
def dLEnd : FDen := dFun 6 [false, false] (sSeq (sAsg 2 (dLst [])) (sSeq (sWhile dLEC dLEB) (sSeq dLE3 (sSeq dLE4 (sSeq dLE5 dLE6)))))
section
variable {n n' a m s : Int} {F G A B : List D} {Q : D} {o : List T} {c : Bool}
theorem le_c (h : zNotIn (.int n) (.lst F) = some (.val (.bl c))) : dLEC [some (.frz (.int n)), some (.frz Q), some (.lst F), none, none, none] = .ok c [some (.frz (.int n)), some (.frz Q), some (.lst F), none, none, none] := by
  simp [dLEC, h]
theorem le_b (hF : F.length < big) (e : dStepC [.frz (.int n), .frz Q] = .ok (.frz (.int n')) o) : dLEB [some (.frz (.int n)), some (.frz Q), some (.lst F), none, none, none] = .ok .next [some (.frz (.int n')), some (.frz Q), some (.lst (F ++ [.int n])), none, none, none] := by
  simp [dLEB, mAppend_ok hF, e, putd2]
theorem le_out (e : whileN dLEC dLEB fuel [some (.frz (.int n)), some (.frz Q), some (.lst []), none, none, none] = .ok .next [some (.frz (.int n')), some (.frz Q), some (.lst F), none, none, none]) (h3 : zIndex (.lst F) [.int n'] = some (.val (.int a))) (h4 : cutD F (some a) none = G) (hm : zMin [.lst G] = some (.val (.int m))) (h5 : zIndex (.lst G) [.int m] = some (.val (.int s)))
    (hA : cutD G (some s) none = A) (hB : cutD G none (some s) = B) (hl : A.length + B.length ≤ big) : dLEnd [.frz (.int n), .frz Q] = .ok (.lst [.int a, .lst (A ++ B)]) [.frz (.int n), .frz Q] := by
  have i1 : isLst (.lst F) = true := rfl
  have i2 : isLst (.lst G) = true := rfl
  have za : zAdd (.lst A) (.lst B) = some (.lst (A ++ B)) := by simp [zAdd, hl]
  simp [dLEnd, e, dLE3, dLE4, dLE5, dLE6, i1, h3, h4, i2, hm, h5, hA, hB, za]
end
/-- the round from its least number on -/
def ringL (b p n L a i : Nat) : List Nat := ((row b p n L).drop a).drop (i - a) ++ ((row b p n L).drop a).take (i - a)
theorem lend_ev {b p n L a i : Nat} (h : PairT b p) (hn : n < 2 ^ 160) (hL : L ≤ 170000) (o : Orb b p n L a) (h1 : a ≤ i) (h2 : i < L) (hm : ∀ j, a ≤ j → j < L → its b p n i ≤ its b p n j) :
    dLEnd [.frz (.int n), .frz (prD b p)] = .ok (.lst [.int a, .lst (nats (ringL b p n L a i))]) [.frz (.int n), .frz (prD b p)] := by
  have hlt := o.lt
  obtain ⟨Γ', e, rfl⟩ := whileN_ind (c := dLEC) (b := dLEB)
    (fun m Γ => ∃ j, m = L - j ∧ j ≤ L ∧ Γ = [some (.frz (.int (its b p n j : Nat))), some (.frz (prD b p)), some (.lst (nats (row b p n j))), none, none, none])
    (fun Γ => Γ = [some (.frz (.int (its b p n L : Nat))), some (.frz (prD b p)), some (.lst (nats (row b p n L))), none, none, none])
    (by
      rintro m Γ ⟨j, rfl, hj, rfl⟩
      have hst := o.stop hj
      have hc := le_c (Q := prD b p) (notIn_nats (its b p n j) (row b p n j))
      by_cases c : j = L
      · subst c
        rw [decide_eq_true (hst.mpr rfl)] at hc
        exact .inl ⟨_, hc, rfl⟩
      · rw [decide_eq_false (fun z => c (hst.mp z))] at hc
        refine .inr ⟨_, _, L - (j + 1), hc, .inl (le_b (by rw [nats_len, row_len, big]; omega) (stepC_ev h.b2 (by have := h.b16; omega) h.p1 (its_lt h.stk hn j))), by omega, j + 1, rfl, by omega, ?_⟩
        rw [row_succ, nats_app]; rfl)
    L [some (.frz (.int n)), some (.frz (prD b p)), some (.lst []), none, none, none] fuel (by have : fuel = 1000000000000 := rfl; omega) ⟨0, by omega, by omega, rfl⟩
  have e3 := index_nats (r := row b p n L) (i := a) (x := its b p n L) (by rw [row_at hlt, o.back]) (fun j hj hx => by
    rw [row_at (by omega)] at hx
    have hx := Option.some.inj hx
    exact o.dif j a hj hlt (by rw [hx, o.back]))
  have e4 : cutD (nats (row b p n L)) (some (a : Int)) none = nats ((row b p n L).drop a) := by
    rw [cutD_from _ a (by rw [nats_len, row_len]; omega), nats_drop]
  have hmn := zMin_nats (ns := (row b p n L).drop a) (m := its b p n i) ((held_mem (by omega)).mpr ⟨i, h1, h2, rfl⟩) (fun x hx => by
    obtain ⟨j, j1, j2, rfl⟩ := (held_mem (by omega)).mp hx
    exact hm j j1 j2)
  have hat : ∀ j, a + j < L → ((row b p n L).drop a)[j]? = some (its b p n (a + j)) := fun j hj => by
    rw [List.getElem?_drop, row_at hj]
  have e5 := index_nats (r := (row b p n L).drop a) (i := i - a) (x := its b p n i) (by rw [hat _ (by omega), show a + (i - a) = i by omega]) (fun j hj hx => by
    rw [hat _ (by omega)] at hx
    have hx := Option.some.inj hx
    exact o.dif (a + j) i (by omega) h2 hx)
  have hlen : ((row b p n L).drop a).length = L - a := by rw [List.length_drop, row_len]
  have e6 : cutD (nats ((row b p n L).drop a)) (some ((i - a : Nat) : Int)) none = nats (((row b p n L).drop a).drop (i - a)) := by
    rw [cutD_from _ (i - a) (by rw [nats_len, hlen]; omega), nats_drop]
  have e7 : cutD (nats ((row b p n L).drop a)) none (some ((i - a : Nat) : Int)) = nats (((row b p n L).drop a).take (i - a)) := by
    rw [cutD_to, nats_take]
  have := le_out e e3 e4 hmn e5 e6 e7 (by rw [nats_len, nats_len, List.length_drop, List.length_take, hlen, big]; omega)
  rw [← nats_app] at this
  exact this
theorem ring_first {b p n L a i : Nat} (h1 : a ≤ i) (h2 : i < L) : zIx (.lst (nats (ringL b p n L a i))) (.int 0) = some (.val (.int (its b p n i : Nat))) := by
  refine zIx_nats (j := 0) ?_ rfl
  unfold ringL
  rw [List.getElem?_append_left (by rw [List.length_drop, List.length_drop, row_len]; omega), List.getElem?_drop, List.getElem?_drop, row_at (by omega)]
  congr 2; omega
theorem ring_mem {b p n L a i x : Nat} (h1 : a ≤ i) (h2 : i < L) : x ∈ ringL b p n L a i ↔ ∃ j, a ≤ j ∧ j < L ∧ its b p n j = x := by
  rw [← held_mem (by omega)]
  unfold ringL
  rw [List.mem_append, ← or_comm, ← List.mem_append, List.take_append_drop]
theorem ring_last {b p n L a i : Nat} (h1 : a ≤ i) (h2 : i < L) : ∃ j, a ≤ j ∧ j < L ∧ zIx (.lst (nats (ringL b p n L a i))) (.int (-1)) = some (.val (.int (its b p n j : Nat))) := by
  have hne : ringL b p n L a i ≠ [] := by
    intro e
    have := congrArg List.length e
    unfold ringL at this
    rw [List.length_append, List.length_drop, List.length_drop, row_len, List.length_nil] at this
    omega
  obtain ⟨j, j1, j2, j3⟩ := (ring_mem h1 h2).mp (List.getLast_mem hne)
  refine ⟨j, j1, j2, ?_⟩
  have e := nats_last ((ringL b p n L a i).dropLast) ((ringL b p n L a i).getLast hne)
  rw [List.dropLast_concat_getLast hne] at e
  rw [j3]; exact e
end Fw
namespace Fw
open PySem PySem.Spec PyProof.Rows L2

/-! ### zip of a tuple and a list -/
def ItM (K : PySem.W.Frag) (a b : Addr) (n : Nat) : It where
  go i H := ∃ (xs ys : List V) (x y : V), (SqT K H a xs ∧ xs[i]? = some x) ∧ (SqL K H b ys ∧ ys[i]? = some y) ∧ i < n
  yld i H v H' := ∃ p x y, (v = .ref p ∧ H p = none ∧ H' = upd H p (.tup [x, y])) ∧ (∀ xs, SqT K H a xs → xs[i]? = some x) ∧ ∀ ys, SqL K H b ys → ys[i]? = some y
  stop i H := ∃ xs ys : List V, (SqT K H a xs ∧ SqL K H b ys) ∧ min xs.length ys.length = n ∧ n ≤ i
theorem sepM {z c d j1 j2 a b : Addr} (g : ZipApart z c d j1 j2 a b) : ZipSep2 z c d j1 j2 [j1, a] [j2, b] where
  TIz := g.TIz
  TOz := g.TOz
  TITO := g.TITO
  TIi1 := g.TIi1
  mem1 := by simp
  zf1 := by simp; exact ⟨g.i1z.symm, g.l1z.symm⟩
  Tf1 := by simp; exact ⟨g.TOi1, g.l1TO.symm⟩
  TIi2 := g.TIi2
  mem2 := by simp
  zf2 := by simp; exact ⟨g.i2z.symm, g.l2z.symm⟩
  Tf2 := by simp; exact ⟨g.TOi2, g.l2TO.symm⟩
  sep1_2 := by simp; exact ⟨g.i12, g.l2i1.symm⟩
  sep2_1 := by simp; exact ⟨g.i12.symm, g.l1i2.symm⟩
theorem five {z c d j1 j2 q : Addr} (h : q ∈ [z, c, d, j1, j2]) : q = z ∨ q = c ∨ q = d ∨ q = j1 ∨ q = j2 := by simpa using h
theorem turnM {P : Program} {W : World} {K : PySem.W.Frag} {es : List Expr} {kk : Nat} {tp : Pos} {a b z c d j1 j2 : Addr} {n : Nat} (g : ZipApart z c d j1 j2 a b) :
    Turn P W K (.Tuple es kk tp) (ItM K a b n) [z, c, d, j1, j2] z (fun i h => i ≤ n ∧ IsZip h z c d .none ∧ IsPair h c (.ref j1) (.ref j2) ∧ (∃ u v, IsPair h d u v) ∧ h.IsTupleIter j1 a i ∧ h.IsListIter j2 b i) where
  mem := by simp
  obj := by
    rintro i h ⟨_, gz, gc, ⟨u, v, gd⟩, ⟨o1, f1, _, k1⟩, ⟨o2, f2, _, k2⟩⟩ q hq
    rcases five hq with rfl | rfl | rfl | rfl | rfl
    · exact ⟨_, gz, fun _ e => nomatch e⟩
    · exact ⟨_, gc, fun _ e => nomatch e⟩
    · exact ⟨_, gd, fun _ e => nomatch e⟩
    · exact ⟨o1, f1, fun _ e => by rw [k1] at e; cases e⟩
    · exact ⟨o2, f2, fun _ e => by rw [k2] at e; cases e⟩
  keep := by
    rintro i h h' ⟨gn, gz, gc, ⟨u, v, gd⟩, g1, g2⟩ k
    exact ⟨gn, k z (by simp) _ gz, k c (by simp) _ gc, ⟨u, v, k d (by simp) _ gd⟩, g1.at fun o e => k j1 (by simp) o e, g2.at fun o e => k j2 (by simp) o e⟩
  item := by
    rintro X rfl rfl rfl hc i pins s σ H E I hf ⟨gn, gz, gc, ⟨u0, v0, gd⟩, g1, g2⟩ ⟨xs, ys, x, y, ⟨hxs, hx⟩, ⟨hys, hy⟩, hin⟩
    obtain ⟨us, ru, pu, _⟩ := I.tuple hxs
    obtain ⟨vs, rv, pv, _⟩ := I.list hys
    obtain ⟨u, hu, ruu⟩ := ru.get hx
    obtain ⟨v, hv, rvv⟩ := rv.get hy
    have lu : i < us.toArray.size := by
      rcases Nat.lt_or_ge i us.length with q | q
      · simpa using q
      · rw [List.getElem?_eq_none q] at hu; cases hu
    have lv : i < vs.toArray.size := by
      rcases Nat.lt_or_ge i vs.length with q | q
      · simpa using q
      · rw [List.getElem?_eq_none q] at hv; cases hv
    have hh : X.A.in1.handled = none := I.ok.hd hc
    have zl : z < s.heap.objs.size := Heap.lt_size gz
    refine wpAny_pyNext_zipD2_item (sepM g) (Draws.tuple hh j1 a g.l1i1 us.toArray) (Draws.list hh j2 b g.l2i2 vs.toArray) gz gc gd ⟨g1, pu⟩ ⟨g2, pv.isList⟩ lu lv fun w1 w2 h' tk q1 q2 n0 n2 n3 n4 n5 _ nk => ?_
    have ew1 : w1 = u := by
      rw [List.getElem?_toArray, hu] at q1; exact (Option.some.inj q1).symm
    have ew2 : w2 = v := by
      rw [List.getElem?_toArray, hv] at q2; exact (Option.some.inj q2).symm
    subst ew1 ew2
    refine ⟨_, rfl, wpAny_letOwnedTupleGo_zip (s := { s with heap := h', toks := tk }) n0 fun h2 n0' sb => ?_⟩
    have n5' : h2.get? s.heap.objs.size = some { cls := .type "tuple", data := .seq #[w1, w2] } := (sb.2 _ (Nat.ne_of_gt zl)).trans n5
    have fresh : ObjOk X.prog X.w (upd H s.heap.objs.size (.tup [x, y])) h2 s.heap.objs.size (.tup [x, y]) :=
      ⟨by show 2 ≤ sizeLine; decide, [w1, w2], .cons ruu (.cons rvv .nil), ⟨_, n5', rfl, _, rfl⟩⟩
    have I2 : Inv X pins σ (upd H s.heap.objs.size (.tup [x, y])) { s with heap := h2, toks := tk } :=
      I.turnedNew (t' := tk) (ch := [z, c, d, j1, j2]) (fun q o hb e => (sb.2 q (fun f => hb (by simp [f]))).trans (nk q o (fun f => hb (by simp [f])) (fun f => hb (by simp [f])) (fun f => hb (by simp [f])) (fun f => hb (by simp [f])) e)) hf (Nat.le_refl _) fresh
    refine ⟨.ref s.heap.objs.size, _, I2, rfl, ⟨_, x, y, ⟨rfl, I.hok.fresh (Nat.le_refl _), rfl⟩, fun l hl => by rw [I.tuple_inj hl hxs]; exact hx, fun l hl => by rw [I.list_inj hl hys]; exact hy⟩, ⟨hin, n0', ?_, ⟨w1, w2, ?_⟩, ?_, ?_⟩, fun q hq => ?_⟩
    · exact (sb.2 _ g.TIz).trans (nk _ _ g.TIz g.TITO g.TIi1 g.TIi2 gc)
    · exact (sb.2 _ g.TOz).trans n2
    · exact n3.1.at fun o e => (sb.2 _ g.i1z).trans e
    · exact n4.1.at fun o e => (sb.2 _ g.i2z).trans e
    · have lt : q < s.heap.objs.size := by
        rcases five hq with rfl | rfl | rfl | rfl | rfl
        · exact zl
        · exact Heap.lt_size gc
        · exact Heap.lt_size gd
        · obtain ⟨_, e, _⟩ := g1; exact Heap.lt_size e
        · obtain ⟨_, e, _⟩ := g2; exact Heap.lt_size e
      rw [upd_ne (Nat.ne_of_lt lt)]
      exact (hf q hq).1
  done := by
    rintro X rfl rfl rfl hc i pins s σ H E I hf ⟨gn, gz, gc, ⟨u0, v0, gd⟩, g1, g2⟩ ⟨xs, ys, ⟨hxs, hys⟩, hmin, hni⟩
    obtain ⟨us, ru, pu, _⟩ := I.tuple hxs
    obtain ⟨vs, rv, pv, _⟩ := I.list hys
    have l1 := ru.length
    have l2 := rv.length
    have hh : X.A.in1.handled = none := I.ok.hd hc
    have z1 : us.toArray.size = us.length := by simp
    have z2 : vs.toArray.size = vs.length := by simp
    refine wpAny_pyNext_zipD2_end (sepM g) (Draws.tuple hh j1 a g.l1i1 us.toArray) (Draws.list hh j2 b g.l2i2 vs.toArray) gz gc gd ⟨g1, pu⟩ ⟨g2, pv.isList⟩ (by omega) (by omega) (by omega) fun h' tk nk => ⟨rfl, ?_⟩
    exact I.turnedL (t' := tk) (ch := [z, c, d, j1, j2]) (fun q o hb e => nk q o (fun f => hb (by simp [f])) (fun f => hb (by simp [f])) (fun f => hb (by simp [f])) (fun f => hb (by simp [f])) e) hf
  self := fun A i s Q E st h => wpAny_pyIter_zip st.2.1 h
def iZpM (K : PySem.W.Frag) (ta : TA) : TI := fun σ H R => ta σ H fun vs H1 => ∃ a b xs ys, vs = [.ref a, .ref b] ∧ SqT K H1 a xs ∧ SqL K H1 b ys ∧ R (ItM K a b (min xs.length ys.length)) H1
theorem pi_zipM {X : Cx} {e e2 : Expr} {ta : TA} {p pos tpos : Pos} {elts : List Expr} {kk : Nat} (hg : Gl X "zip") (hm : X.mg "zip" = none) (ha : PA X [e, e2] ta)
    (hs : starEach [e, e2] X.env = (false, eval e X.env) :: starEach [e2] X.env := by rfl) (hpl : (backTo pos (starEach [e2] X.env)).any (·.1) = false := by rfl) : PI X (.Tuple elts kk tpos) (.Call (.Name "zip" p) [e, e2] [] pos) (iZpM X.K ta) := by
  constructor
  intro pins s σ H R I h
  refine Call_ (ld_blt I hg hm PyProof.Rows.boot_zip (PyProof.Rows.callWith_type1 (thn (ha.run pos pins s σ H _ I h) ?_) hs hpl))
  rintro us t ⟨vs, H1, I1, r1, a, b, xs, ys, rfl, hx, hy, q⟩
  obtain ⟨u, w, rfl, ru, rw⟩ := vals2 r1
  cases ru
  cases rw
  obtain ⟨us, _, pu, _⟩ := I1.tuple hx
  obtain ⟨ws, _, pw, _⟩ := I1.list hy
  have la : a < t.heap.objs.size := by obtain ⟨_, e, _⟩ := id pu; exact Heap.lt_size e
  have lb : b < t.heap.objs.size := pw.lt
  refine zip_begins2 (begins_tuple a us.toArray) (begins_list b ws.toArray) pu pw.isList fun h' gz gc gd g1 g2 _ hk => wpAny_pyIter_zip gz ?_
  refine ⟨t.heap.objs.size + 4, _, _, _, H1, rfl, I1.kept (t' := t.toks) hk, turnM (n := min xs.length ys.length) (PySem.W.ktu_apart t.heap.objs.size a b la lb), ⟨Nat.zero_le _, gz, gc, ⟨_, _, gd⟩, ⟨_, g1, rfl, rfl⟩, ⟨_, g2, rfl, rfl⟩⟩, fun c hc => ?_, q⟩
  have hle : t.heap.objs.size ≤ c := by
    rcases five hc with f | f | f | f | f <;> rw [f]
    · exact Nat.le_add_right _ _
    · exact Nat.le_add_right _ _
    · exact Nat.le_add_right _ _
    · exact Nat.le_refl _
    · exact Nat.le_add_right _ _
  exact I1.fpOk hle (I1.hok.fresh hle)
def iZm (a b : Den) : Env → Out (List D) := bindO (dV a) fun d => bindO (dV b) fun d2 Γ => match d, d2 with | .tup as, .lst bs => .ok (zipD as bs) Γ | _, _ => .stuck
theorem si_zm {K : PySem.W.Frag} {te te2 : TE} {e e2 : Den} (h : SE K te e) (h2 : SE K te2 e2) : SI K (iZpM K (tCons te (tCons te2 tNil))) (iZm e e2) := by
  intro σ Γ ds Γ' he Hf H fp E w R q
  obtain ⟨d, Γ1, g1, he1⟩ := bindO_ok he
  clear he
  obtain ⟨d2, Γ2, g2, he2⟩ := bindO_ok he1
  clear he1
  refine SV.of h σ Γ _ _ g1 Hf H fp E w _ fun v Hf1 H1 fp1 E1 w1 s1 r1 => ?_
  refine SV.of h2 σ _ _ _ g2 Hf1 H1 fp1 E1 w1 _ fun v2 Hf2 H2 fp2 E2 w2 s2 r2 => ?_
  have r1 := Rep.ext s2.ext _ _ r1
  clear g1 g2
  split at he2
  · cases he2
    simp only [Rep] at r1 r2
    obtain ⟨a, xs, rfl, ha, ra⟩ := r1
    obtain ⟨b, ys, rfl, hb, rb⟩ := r2
    have hs : ∀ Hf H, Ext Hf2 Hf → Same Hf H → SqT K H a xs := fun Hf2 H2 e2 sm => (Ext.of sm).seqT (e2.seqT ha)
    have hs2 : ∀ Hf H, Ext Hf2 Hf → Same Hf H → SqL K H b ys := fun Hf2 H2 e2 sm => .inl (.inl (sm _ _ (e2.obj _ _ hb rfl)))
    refine ⟨a, b, xs, ys, rfl, hs Hf2 H2 (Ext.refl _) w2.same, hs2 Hf2 H2 (Ext.refl _) w2.same, q _ Hf2 H2 fp2 E2 w2 (s1.trans s2) fun i Hf3 H3 e3 sm _ => ⟨fun hi => ?_, fun d hd => ?_⟩⟩
    · rw [zip_len] at hi
      exact ⟨xs, ys, ⟨hs Hf3 H3 e3 sm, hs2 Hf3 H3 e3 sm⟩, rfl, by rw [ra.len, rb.len]; exact hi⟩
    · have hlt := (List.getElem?_eq_some_iff.mp hd).1
      rw [zip_len] at hlt
      obtain ⟨x, y, hx, hy, rfl⟩ := zip_get hd
      obtain ⟨x', hx', rx⟩ := ra.get hx
      obtain ⟨y', hy', ry⟩ := rb.get hy
      refine ⟨⟨xs, ys, x', y', ⟨hs Hf3 H3 e3 sm, hx'⟩, ⟨hs2 Hf3 H3 e3 sm, hy'⟩, by rw [ra.len, rb.len]; exact hlt⟩, fun z H' hz => ?_⟩
      obtain ⟨p, x2, y2, ⟨e1, hp, e2'⟩, f, f2⟩ := hz
      have t1 := f xs (hs Hf3 H3 e3 sm)
      have t2 := f2 ys (hs2 Hf3 H3 e3 sm)
      rw [hx'] at t1; cases t1
      rw [hy'] at t2; cases t2
      refine ⟨.tup [x, y], rfl, .inl ⟨p, _, hp, e1, e2', ?_⟩⟩
      simp only [RepL]
      exact ⟨_, _, rfl, Rep.ext e3 _ _ rx, _, _, rfl, Rep.ext e3 _ _ ry, rfl⟩
  · cases he2
@[simp ↓] theorem iZm_ap {a b : Den} {Γ : Env} : iZm a b Γ = bindO (dV a) (fun d => bindO (dV b) fun d2 Γ => match d, d2 with | .tup as, .lst bs => .ok (zipD as bs) Γ | _, _ => .stuck) Γ := by unfold iZm; rfl
section
variable {F : Fam} {da db : Den}
theorem i_zm {a b : Expr} {p pos tpos : Pos} {elts : List Expr} {kk : Nat} (hm : F.mg "zip" = none) (h : PED F a da) (h' : PED F b db) (hg : F.sc.names.lookup ("zip" : Str) = some .globalImplicit := by rfl) (hs : ∀ env, starEach [a, b] env = (false, eval a env) :: starEach [b] env := by intro _; rfl) (hs2 : ∀ env, starEach [b] env = [(false, eval b env)] := by intro _; rfl)
    (hpl : ∀ env, (backTo pos (starEach [b] env)).any (·.1) = false := by intro _; rfl) : PID F (.Tuple elts kk tpos) (.Call (.Name "zip" p) [a, b] [] pos) (iZm da db) := by
  obtain ⟨t, p1, s1⟩ := h
  obtain ⟨t', p2, s2⟩ := h'
  exact ⟨_, fun i => Fam.pi (t := fun K => iZpM K (tCons t (tCons t' tNil))) (pi_zipM (Fam.gl hg i) (Fam.mgx hm i) (pa_cons (p1 i) (pa_cons (p2 i) pa_nil (hs2 _)) (hs _)) (hs _) (hpl _)), si_zm s1 s2⟩
end
end Fw
namespace Fw
open PySem L2

/-! ### ends told of many -/
noncomputable def eQ (b p n : Nat) : Nat × Nat := Classical.epsilon fun q : Nat × Nat => EndP b p n q.1 q.2
theorem eQ_ok {b p n : Nat} (h : PairT b p) (hn : n < 2 ^ 160) : EndP b p n (eQ b p n).1 (eQ b p n).2 := by
  obtain ⟨a, m, g⟩ := end_ex h hn
  exact Classical.epsilon_spec (p := fun q : Nat × Nat => EndP b p n q.1 q.2) ⟨(a, m), g⟩
theorem eQ_eq {b p n a m : Nat} (h : PairT b p) (hn : n < 2 ^ 160) (g : EndP b p n a m) : eQ b p n = (a, m) := by
  obtain ⟨h1, h2⟩ := (eQ_ok h hn).uniq g
  exact Prod.ext h1 h2
/-- what is told of a number -/
noncomputable def epD (b p n : Nat) : D := .tup [.int (eQ b p n).1, .int (eQ b p n).2]
theorem endQ_ev {b p n : Nat} (h : PairT b p) (hn : n < 2 ^ 160) : dEnd [.frz (.int n), .frz (.int b), .frz (.int p)] = .ok (.frz (epD b p n)) [.frz (.int n), .frz (.int b), .frz (.int p)] := end_ev h hn (eQ_ok h hn)
def dEnds : FDen := dFun 4 [false, false, false] (sRet (dB zTuple [(dComp (iTupD (dName 0)) (putN 3) dYes (dCall dEnd [.v (dName 3), .v (dName 1), .v (dName 2)]) [3])]))
section
variable {N : List D} {B P E : D} {g : List D} {o : List T}
theorem ends_e {y : D} (e : dEnd [.frz y, .frz B, .frz P] = .ok (.frz E) o) : dV (dCall dEnd [.v (dName 3), .v (dName 1), .v (dName 2)]) [some (.frz (.tup N)), some (.frz B), some (.frz P), some (.frz y)] = .ok E [some (.frz (.tup N)), some (.frz B), some (.frz P), some (.frz y)] := by
  simp [e, putd3]
theorem ends_out (hl : N.length ≤ big) (e : compL (putN 3) dYes (dV (dCall dEnd [.v (dName 3), .v (dName 1), .v (dName 2)])) [3] N [] [some (.frz (.tup N)), some (.frz B), some (.frz P), none] = .ok g [some (.frz (.tup N)), some (.frz B), some (.frz P), none]) : dEnds [.frz (.tup N), .frz B, .frz P] = .ok (.frz (.tup g)) [.frz (.tup N), .frz B, .frz P] := by
  simp [dEnds, e, hl]
end
theorem ends_ev {b p : Nat} (h : PairT b p) {ns : List Nat} (hn : ∀ n ∈ ns, n < 2 ^ 160) (hl : ns.length ≤ big) : dEnds [.frz (.tup (nats ns)), .frz (.int b), .frz (.int p)] = .ok (.frz (.tup (ns.map (epD b p)))) [.frz (.tup (nats ns)), .frz (.int b), .frz (.int p)] := by
  have cm := compL_map (put := putN 3) (e := dV (dCall dEnd [.v (dName 3), .v (dName 1), .v (dName 2)])) (vs := [3]) (Γ := [some (.frz (.tup (nats ns))), some (.frz (.int b)), some (.frz (.int p)), none]) (fun d => match d with | .int z => epD b p z.toNat | d => d) (nats ns) (fun d hd => by
    obtain ⟨x, hx, rfl⟩ := List.mem_map.mp hd
    exact ⟨_, _, rfl, ends_e (endQ_ev h (hn x hx)), rfl⟩) []
  have hg : (nats ns).map (fun d => match d with | .int z => epD b p z.toNat | d => d) = ns.map (epD b p) := by
    unfold nats
    rw [List.map_map]
    exact List.map_congr_left fun i _ => rfl
  rw [List.nil_append, hg] at cm
  exact ends_out (by rw [nats_len]; exact hl) cm
def dIsPair : FDen := dFun 3 [false, false] (sSeq (sIf (dOrT (dNotT (dT (dB zIsi [(dName 0), (dC (.ty "tuple"))]))) (dT (dBin zNe (dName 0) (dName 1)))) (sRet (dC (.bl false))) sNext)
  (sRet (dBin zEq (dComp (iTupD (dName 0)) (putN 2) (dOrT (dT (dB zIsi [(dName 2), (dC (.ty "bool"))])) (dNotT (dT (dB zIsi [(dName 2), (dC (.ty "int"))])))) (dC (.int 1)) [2]) (dLst []))))
theorem pl_two {x y : Int} : pl 64 (.tup [.int x, .int y]) := (pl_tup (h := 5) (pl_ints [x, y])).mono (by decide)
theorem ip_gen {x y : Int} (h : zNe (.tup [.int x, .int y]) (.tup [.int x, .int y]) = some (.val (.bl false))) : dIsPair [.frz (.tup [.int x, .int y]), .frz (.tup [.int x, .int y])] = .ok (.frz (.bl true)) [.frz (.tup [.int x, .int y]), .frz (.tup [.int x, .int y])] := by
  have i1 : zIsi [.tup [.int x, .int y], .ty "tuple"] = some (.val (.bl true)) := rfl
  have i2 : ∀ z : Int, zIsi [.int z, .ty "int"] = some (.val (.bl true)) := fun _ => rfl
  have i3 : ∀ z : Int, zIsi [.int z, .ty "bool"] = some (.val (.bl false)) := fun _ => rfl
  have z : zEq (.lst []) (.lst []) = some (.val (.bl true)) := rfl
  have b1 : (2 : Nat) ≤ big := by decide
  simp [dIsPair, i1, i2, i3, h, z, compL, b1]
theorem ip_ev {b p n : Nat} : dIsPair [.frz (epD b p n), .frz (epD b p n)] = .ok (.frz (.bl true)) [.frz (epD b p n), .frz (epD b p n)] := ip_gen (zNe_same pl_two)
end Fw
namespace Fw
open PySem PySem.Spec PyProof.Rows L2

/-! ### sorted(xs), xs a list of tuples of whole numbers -/
abbrev shI : Nat → Bool := fun _ => false
/-- the order of rows of whole numbers -/
def ltR (r t : List Int) : Bool := lexLt itemOrd (r.map Sum.inl) (t.map Sum.inl)
theorem ltR_swo : SrtO.Swo ltR := by
  refine ⟨fun x y h => ?_, fun x y z h1 h2 => ?_⟩
  · cases e : ltR y x with
    | false => rfl
    | true =>
      have := lex_trans (O := itemOrd) _ _ _ h e
      rw [lex_irrefl] at this; cases this
  · cases e : ltR z x with
    | false => rfl
    | true =>
      rcases lex_negTrans (O := itemOrd) _ (y.map Sum.inl) _ e with g | g
      · have g : ltR z y = true := g
        rw [h2] at g; cases g
      · have g : ltR y x = true := g
        rw [h1] at g; cases g
theorem ltR_total {r t : List Int} (h1 : ltR r t = false) (h2 : ltR t r = false) : r = t := by
  have e := lex_total (O := itemOrd) _ _ h1 h2
  have inj : Function.Injective (Sum.inl : Int → Int ⊕ List Nat) := fun _ _ h => Sum.inl.inj h
  exact (List.map_inj_right (fun x y h => Sum.inl.inj h)).mp e
/-- the rows in order -/
def srtT (rows : List (List Int)) : List (List Int) := rows.mergeSort fun a b => !ltR b a
theorem srtT_perm (rows : List (List Int)) : (srtT rows).Perm rows := List.mergeSort_perm _ _
theorem srtT_srt (rows : List (List Int)) : (srtT rows).Pairwise fun a b => ltR b a = false := by
  have := List.pairwise_mergeSort (le := fun (a b : List Int) => !ltR b a) (fun a b c h g => by
    simp only [Bool.not_eq_true'] at *
    exact ltR_swo.tr a b c h g) (fun a b => by
    cases e : ltR b a with
    | false => simp
    | true => simp [ltR_swo.asym _ _ e]) rows
  exact this.imp fun h => by simpa using h
theorem srtT_eq {rows ms : List (List Int)} (h : ms.Perm rows) (g : ms.Pairwise fun a b => ltR b a = false) : ms = srtT rows :=
  List.Perm.eq_of_pairwise (le := fun (a b : List Int) => ltR b a = false) (fun a b _ _ h1 h2 => ltR_total h2 h1) g (srtT_srt rows) (h.trans (srtT_perm rows).symm)
/-- a value that is a tuple of whole numbers -/
def TupI (h : Heap) (u : Value) (r : List Int) : Prop := ∃ (t : Addr) (o : Obj) (n : Nat) (us : List Value), u = .ref t ∧ h.get? t = some o ∧ o.cls = .type "tuple" ∧ o.data = .seq us.toArray n ∧ IntsAre us r
theorem tupItems_ints : ∀ {us : List Value} {r : List Int}, IntsAre us r → ∀ i, tupItems shI i us = some (r.map Sum.inl)
  | _, _, .nil, i => by simp [tupItems]
  | _, _, .cons n t h, i => by simp [tupItems, tupItems_ints h]
theorem TupI.key {h : Heap} {u : Value} {r : List Int} (g : TupI h u r) : tupKey h shI u = some (r.map Sum.inl) := by
  obtain ⟨t, o, n, us, rfl, h1, h2, h3, h4⟩ := g
  simp only [tupKey, h1, h3]
  exact tupItems_ints h4 0
theorem TupI.keep {h h' : Heap} {a : Addr} {u : Value} {r : List Int} (g : TupI h u r) (k : ∀ b o, b ≠ a → h.get? b = some o → h'.get? b = some o) (ha : ∀ o, h.get? a = some o → o.cls ≠ .type "tuple") : TupI h' u r := by
  obtain ⟨t, o, n, us, rfl, h1, h2, h3, h4⟩ := g
  exact ⟨t, o, n, us, rfl, k t o (fun e => ha o (e ▸ h1) h2) h1, h2, h3, h4⟩
def kI (h : Heap) (u : Value) : List Int := ((tupKey h shI u).getD []).filterMap Sum.getLeft?
theorem left_map (r : List Int) : (r.map (Sum.inl (β := List Nat))).filterMap Sum.getLeft? = r := by
  induction r with
  | nil => rfl
  | cons x r ih => simp [ih]
theorem TupI.kI {h : Heap} {u : Value} {r : List Int} (g : TupI h u r) : Fw.kI h u = r := by
  unfold Fw.kI
  rw [g.key]
  exact left_map r
theorem tups_firsts {h : Heap} : ∀ {us : List Value} (k : Value → List Int), (∀ u ∈ us, TupI h u (k u) ∧ k u ≠ []) → ∃ fs, TupsOf h shI us fs ∧ fs.length = us.length
  | [], _, _ => ⟨[], .nil, rfl⟩
  | u :: us, k, g => by
    obtain ⟨fs, h1, h2⟩ := tups_firsts (us := us) k fun v hv => g v (by simp [hv])
    obtain ⟨⟨t, o, n, vs, rfl, e1, e2, e3, e4⟩, hne⟩ := g u (by simp)
    generalize k (.ref t) = r at e4 hne
    cases e4 with
    | nil => exact absurd rfl hne
    | cons m tk e5 =>
      exact ⟨.int m tk :: fs, .cons ⟨t, o, _, n, rfl, e1, e2, e3, by simp, fun _ => ⟨m, tk, rfl⟩, fun c => nomatch c⟩ h1, by simp [h2]⟩
section
variable {prog : Program} {w : World} {A : Around} {s : Shared}
theorem tups_sortable {a : Addr} {vs : List Value} {k : Value → List Int} (h0 : 0 < vs.length) (hp : ∀ v ∈ vs, TupI s.heap v (k v) ∧ k v ≠ []) (ha : ∀ o, s.heap.get? a = some o → o.cls ≠ .type "tuple") : SrtO.SortableO prog w A s a vs fun v u => ltR (k v) (k u) := by
  intro h' keep
  have hp' : ∀ v ∈ vs, TupI h' v (k v) ∧ k v ≠ [] := fun v hm => ⟨(hp v hm).1.keep keep ha, (hp v hm).2⟩
  obtain ⟨fs, h1, h2⟩ := tups_firsts k hp'
  refine ⟨tuples' true, fun Q E hq => tup_kind (s := { s with heap := h' }) (by omega) h1 hq, ?_⟩
  intro p q hm hm'
  show wpAny (model prog w) A (keyLt' (tuples' true) p.1 q.1) (fun r s' => s' = { s with heap := h' } ∧ r = ltR (k p.1) (k q.1)) (fun _ _ => False) { s with heap := h' }
  exact tup_ltAt (shape := shI) true A (fun _ _ => False) p.1 q.1 _ _ (hp' _ hm).1.key (hp' _ hm').1.key ⟨rfl, rfl⟩
end
/-- values and the rows they are -/
inductive RowsR (K : PySem.W.Frag) (H : Hp) : List V → List (List Int) → Prop
  | nil : RowsR K H [] []
  | cons {t : Addr} {r : List Int} {xs : List V} {rows : List (List Int)} : SqT K H t (r.map V.int) → r ≠ [] → RowsR K H xs rows → RowsR K H (.ref t :: xs) (r :: rows)
def rSortTup (K : PySem.W.Frag) : List V → Hp → VK → Prop := fun vs H Q => ∃ (a : Addr) (xs : List V) (rows : List (List Int)), vs = [V.ref a] ∧ SqL K H a xs ∧ RowsR K H xs rows ∧
  ∀ (l : List (V × List Int)) (p : Addr), l.Perm (xs.zip rows) → l.map (·.2) = srtT rows → H p = none → Q (.ref p) (upd H p (.lst (l.map (·.1))))
theorem RowsR.back {K : PySem.W.Frag} {H : Hp} {h : Heap} (g : ∀ (t : Addr) (r : List Int), SqT K H t (r.map V.int) → TupI h (.ref t) r) : ∀ {its : List Value} {rows : List (List Int)}, (∀ u ∈ its, ∃ t, u = Value.ref t) → RowsR K H (its.map backV) rows → its.map (kI h) = rows ∧ ∀ u ∈ its, TupI h u (kI h u) ∧ kI h u ≠ []
  | [], rows, _, R => by cases R; exact ⟨rfl, by simp⟩
  | u :: its, rows, e, R => by
    obtain ⟨t, rfl⟩ := e u (by simp)
    have hb : (Value.ref t :: its).map backV = .ref t :: its.map backV := rfl
    rw [hb] at R
    cases R with
    | @cons _ r _ rows h1 h2 R =>
      obtain ⟨i1, i2⟩ := RowsR.back g (its := its) (fun u hu => e u (by simp [hu])) R
      have ht := g t r h1
      refine ⟨by rw [List.map_cons, i1, ht.kI], fun v hv => ?_⟩
      rcases List.mem_cons.mp hv with rfl | hv
      · rw [ht.kI]; exact ⟨ht, h2⟩
      · exact i2 v hv
theorem zip_map_same {α β γ : Type} (f : α → β) (g : α → γ) : ∀ l : List α, (l.map f).zip (l.map g) = l.map fun x => (f x, g x)
  | [] => rfl
  | x :: l => by simp [zip_map_same f g l]
theorem cr_sortTup {X : Cx} : CallR X (.builtin "sorted") (rSortTup X.K) := by
  intro pins s σ H vs us Q I r h
  obtain ⟨a, xs, rows, rfl, hs, hR, q⟩ := h
  obtain ⟨its, rv, hl, hz⟩ := I.list hs
  rw [Vals.ref1 r]
  have hrefs : ∀ (xs : List V) (rows : List (List Int)), RowsR X.K H xs rows → ∀ x ∈ xs, ∃ t, x = V.ref t := by
    intro xs rows R
    induction R with
    | nil => intro x hx; simp at hx
    | cons _ _ _ ih =>
      intro x hx
      rcases List.mem_cons.mp hx with rfl | hx
      · exact ⟨_, rfl⟩
      · exact ih x hx
  obtain ⟨e1, e2⟩ := refs_back rv fun x m => hrefs _ _ hR x m
  have hT : ∀ (t : Addr) (r : List Int), SqT X.K H t (r.map V.int) → TupI s.heap (.ref t) r := fun t r ht => by
    obtain ⟨us, ru, pu, _⟩ := I.tuple ht
    obtain ⟨o, g1, g2, n, g3⟩ := pu
    exact ⟨t, o, n, us, rfl, g1, g2, g3, ru.ints⟩
  rw [e1] at hR
  obtain ⟨k1, k2⟩ := RowsR.back hT e2 hR
  refine SrtO.sorted_ord (ltv := fun v u => ltR (kI s.heap v) (kI s.heap u)) ⟨fun x y h => ltR_swo.asym _ _ h, fun x y z h1 h2 => ltR_swo.tr _ _ _ h1 h2⟩ hl.isList (by rw [← rv.length]; exact hz) (fun h2 h₁ a' ha kk => ?_) fun out h1 h2 => ?_
  · refine tups_sortable (s := { s with heap := h₁ }) (by omega) (fun v hm => ⟨?_, (k2 v hm).2⟩) fun o e => ?_
    · obtain ⟨t, o, n, us, e0, g1, g2, g3, g4⟩ := (k2 v hm).1
      exact ⟨t, o, n, us, e0, (kk t o g1).2, g2, g3, g4⟩
    · have e' : some o = some (seqObj "list" its.toArray 0) := e.symm.trans ha
      cases e'
      intro c
      exact absurd (Value.type.inj c) (by decide)
  · have h3 : ∀ u ∈ out, ∃ a, u = Value.ref a := fun u hu => e2 u (h2.perm.mem_iff.mp hu)
    obtain ⟨ep, he'⟩ := PyProof.Rows.sortedAll_at s.heap its out.toArray
    have hlen : (out.map backV).length ≤ sizeLine := by
      rw [List.length_map, h2.len, ← rv.length]
      exact hz
    have hl2 : (out.map fun u => (backV u, kI s.heap u)).map (·.1) = out.map backV := by rw [List.map_map]; rfl
    have hl3 : (out.map fun u => (backV u, kI s.heap u)).map (·.2) = out.map (kI s.heap) := by rw [List.map_map]; rfl
    have := q (out.map fun u => (backV u, kI s.heap u)) (s.heap.objs.size + 1) (by
      rw [e1, ← k1, zip_map_same]
      exact h2.perm.map _) (by
      rw [hl3]
      refine srtT_eq ?_ (List.pairwise_map.mpr h1)
      rw [← k1]
      exact h2.perm.map _) (I.hok.fresh (Nat.le_succ _))
    rw [hl2] at this
    exact ⟨.ref _, upd H (s.heap.objs.size + 1) (.lst (out.map backV)), I.laid (t' := s.toks) (fun _ _ => PyProof.Rows.sortedAll_old) (Nat.le_succ _) ⟨hlen, out, ep, vals_back h3, he'⟩, rfl, this⟩
/-- rows of whole numbers, none empty -/
def rowsD : List D → Option (List (List Int))
  | [] => some []
  | .tup ds :: es => match intsD ds, rowsD es with
    | some (n :: ns), some rs => some ((n :: ns) :: rs)
    | _, _ => none
  | _ :: _ => none
def tupI (r : List Int) : D := .tup (r.map D.int)
def zSortT : List D → Option Z
  | [.lst ds] => (rowsD ds).map fun rows => .lst ((srtT rows).map tupI)
  | _ => none
def zSortU (ds : List D) : Option Z := match zSorted ds with
  | some z => some z
  | none => zSortT ds
theorem rowsD_rep {K : PySem.W.Frag} {Hf H : Hp} (hs : Same Hf H) : ∀ {ds : List D} {rows : List (List Int)} {xs : List V}, rowsD ds = some rows → RepL K Hf ds xs → RowsR K H xs rows ∧ ∀ p ∈ xs.zip rows, Rep K Hf (tupI p.2) p.1
  | [], rows, xs, h, r => by
    cases h
    cases xs with
    | nil => exact ⟨.nil, by simp⟩
    | cons => simp [RepL] at r
  | d :: ds, rows, xs, h, r => by
    cases d with
    | tup es =>
      simp only [rowsD] at h
      split at h
      · rename_i n ns rs hn hr
        cases h
        simp only [RepL] at r
        obtain ⟨v, ys, rfl, rv, ry⟩ := r
        obtain ⟨i1, i2⟩ := rowsD_rep hs hr ry
        have hes := intsD_eq hn
        have rv2 : Rep K Hf (tupI (n :: ns)) v := by unfold tupI; rw [← hes]; exact rv
        have rv3 := rv2
        simp only [tupI, Rep] at rv3
        obtain ⟨a, zs, rfl, ha, rz⟩ := rv3
        have hz := rz.ints
        refine ⟨.cons (by rw [← hz]; exact (Ext.of hs).seqT ha) (by simp) i1, fun p hp => ?_⟩
        rcases List.mem_cons.mp hp with rfl | hp
        · exact rv2
        · exact i2 p hp
      · cases h
    | _ => simp [rowsD] at h
theorem repL_pairs {K : PySem.W.Frag} {Hf : Hp} : ∀ (l : List (V × List Int)), (∀ p ∈ l, Rep K Hf (tupI p.2) p.1) → RepL K Hf ((l.map (·.2)).map tupI) (l.map (·.1))
  | [], _ => by simp [RepL]
  | p :: l, h => by
    simp only [List.map_cons, RepL]
    exact ⟨_, _, rfl, h p (by simp), repL_pairs l fun q hq => h q (by simp [hq])⟩
theorem cs_sortU {K : PySem.W.Frag} : CallS K (fun xs H Q => (rSortTI K xs H Q ∨ rSortedI K xs H Q) ∨ rSortTup K xs H Q) zSortU := by
  intro Hf H xs ds z s t hz Q q
  unfold zSortU at hz
  split at hz
  · rename_i z' hz'
    cases hz
    exact .inl (cs_sorted Hf H xs ds z s t hz' Q q)
  · unfold zSortT at hz
    split at hz
    · rename_i ds'
      rw [Option.map_eq_some_iff] at hz
      obtain ⟨rows, hn, hz⟩ := hz
      subst hz
      obtain ⟨v, rfl, t'⟩ := t.one
      obtain ⟨a, ys, rfl, ha, ra⟩ := t'.list s
      obtain ⟨i1, i2⟩ := rowsD_rep s hn ra
      refine .inr ⟨a, ys, rows, rfl, .inl (.inl ha), i1, fun l p h1 h2 hp => ?_⟩
      have := repL_pairs (K := K) (Hf := Hf) l fun x hx => i2 x (h1.mem_iff.mp hx)
      rw [h2] at this
      exact made_lst q this hp
    · cases hz
theorem bd_sortU {F : Fam} : BltD F "sorted" zSortU := .inl ⟨_, _, by decide +kernel, fun i => Fam.call (r := fun K xs H Q => (rSortTI K xs H Q ∨ rSortedI K xs H Q) ∨ rSortTup K xs H Q) ((cr_sortTI.or cr_sortedI).or cr_sortTup), cs_sortU⟩
end Fw
namespace Fw
open PySem L2

/-! ### all rounds: which are found, in which order -/
/-- the round from a number of it on -/
noncomputable def perQ (b p m : Nat) : Nat := Classical.epsilon fun l => Orb b p m l 0
theorem perQ_eq {b p m l : Nat} (o : Orb b p m l 0) : perQ b p m = l := by
  have h : Orb b p m (perQ b p m) 0 := Classical.epsilon_spec (p := fun l => Orb b p m l 0) ⟨l, o⟩
  exact (h.uniq o).1
noncomputable def rgL (b p m : Nat) : List Nat := row b p m (perQ b p m)
theorem ring_row {b p n L a i : Nat} (o : Orb b p n L a) (h1 : a ≤ i) (h2 : i < L) : ringL b p n L a i = row b p (its b p n i) (L - a) := by
  refine List.ext_getElem? fun j => ?_
  have hl1 : ((List.drop a (row b p n L)).drop (i - a)).length = L - i := by rw [List.length_drop, List.length_drop, row_len]; omega
  unfold ringL
  rcases Nat.lt_or_ge j (L - i) with z | z
  · rw [List.getElem?_append_left (by rw [hl1]; exact z), List.getElem?_drop, List.getElem?_drop, row_at (by omega), row_at (by omega), its_add]
    congr 2; omega
  · rw [List.getElem?_append_right (by rw [hl1]; exact z), hl1]
    rcases Nat.lt_or_ge j (L - a) with y | y
    · rw [List.getElem?_take_of_lt (by omega), List.getElem?_drop, row_at (by omega), row_at y, its_add, show i + j = L + (j - (L - i)) by omega, o.per]
    · rw [List.getElem?_eq_none, List.getElem?_eq_none]
      · rw [row_len]; exact y
      · rw [List.length_take, List.length_drop, row_len]; omega
theorem ring_rg {b p n L a i : Nat} (o : Orb b p n L a) (h1 : a ≤ i) (h2 : i < L) : ringL b p n L a i = rgL b p (its b p n i) := by
  rw [ring_row o h1 h2, rgL, perQ_eq (o.ring h1 h2)]
/-- where the step of a number ends -/
theorem EndP.step {b p n a m : Nat} (h : EndP b p n a m) : EndP b p (st b p n) (a - 1) m := by
  obtain ⟨L, hL, o, ⟨i, h1, h2, h3⟩, h4⟩ := id h
  have hs : ∀ j, its b p (st b p n) j = its b p n (1 + j) := fun j => its_add 1 j
  have hlt := o.lt
  rcases Nat.eq_zero_or_pos a with rfl | ha
  · rcases Nat.lt_or_ge 1 L with z | z
    · exact h.ring o (i := 1) (by omega) z
    · have : L = 1 := by omega
      subst this
      have e : st b p n = n := o.back
      rw [e]; exact h
  · refine ⟨L - 1, by omega, ⟨by omega, ?_, fun j k hjk hk e => ?_⟩, ⟨i - 1, by omega, by omega, ?_⟩, fun j j1 j2 => ?_⟩
    · rw [hs, hs, show 1 + (L - 1) = L by omega, show 1 + (a - 1) = a by omega]; exact o.back
    · rw [hs, hs] at e
      exact o.dif _ _ (by omega) (by omega) e
    · rw [hs, show 1 + (i - 1) = i by omega, h3]
    · rw [hs]; exact h4 _ (by omega) (by omega)
theorem EndP.far {b p n a m : Nat} (h : EndP b p n a m) : ∀ i, EndP b p (Fw.its b p n i) (a - i) m
  | 0 => h
  | i + 1 => by
    have := (EndP.far h i).step
    rwa [show a - i - 1 = a - (i + 1) by omega] at this
theorem eQ_its {b p n : Nat} (h : PairT b p) (hn : n < 2 ^ 160) (i : Nat) : (eQ b p (its b p n i)).2 = (eQ b p n).2 := by
  rw [eQ_eq h (its_lt h.stk hn i) ((eQ_ok h hn).far i)]
theorem eQ_reach {b p n : Nat} (h : PairT b p) (hn : n < 2 ^ 160) : ∃ i, its b p n i = (eQ b p n).2 := by
  obtain ⟨L, _, _, ⟨i, _, _, h3⟩, _⟩ := eQ_ok h hn
  exact ⟨i, h3⟩
/-- the least number of a round does not go down -/
theorem EndP.least {b p n a m : Nat} (h : EndP b p n a m) : m ≤ st b p m := by
  obtain ⟨L, _, o, ⟨i, h1, h2, h3⟩, h4⟩ := h
  have hlt := o.lt
  have e : st b p m = its b p n (i + 1) := by rw [← h3]; rfl
  rw [e]
  rcases Nat.lt_or_ge (i + 1) L with z | z
  · exact h4 _ (by omega) z
  · rw [show i + 1 = L by omega, o.back]
    exact h4 _ (Nat.le_refl _) hlt
/-- visited by the numbers below k -/
def Vis (b p k x : Nat) : Prop := ∃ n i, n < k ∧ its b p n i = x
theorem Vis.one {b p k x : Nat} (h : Vis b p k x) : Vis b p k (Fw.st b p x) := by
  obtain ⟨n, i, h1, rfl⟩ := h
  exact ⟨n, i + 1, h1, rfl⟩
theorem Vis.far {b p k x : Nat} (h : Vis b p k x) (j : Nat) : Vis b p k (Fw.its b p x j) := by
  obtain ⟨n, i, h1, rfl⟩ := h
  exact ⟨n, i + j, h1, (its_add i j).symm⟩
theorem Vis.succ {b p k x : Nat} : Vis b p (k + 1) x ↔ Vis b p k x ∨ ∃ i, Fw.its b p k i = x := by
  constructor
  · rintro ⟨n, i, h, e⟩
    rcases Nat.lt_succ_iff_lt_or_eq.mp h with z | rfl
    · exact .inl ⟨n, i, z, e⟩
    · exact .inr ⟨i, e⟩
  · rintro (⟨n, i, h, e⟩ | ⟨i, e⟩)
    · exact ⟨n, i, by omega, e⟩
    · exact ⟨k, i, by omega, e⟩
theorem Vis.zero {b p x : Nat} : ¬ Vis b p 0 x := fun ⟨_, _, h, _⟩ => by omega
theorem Vis.least {b p k x : Nat} (h : PairT b p) (hk : k ≤ 1000000) (g : Vis b p k x) : Vis b p k (eQ b p x).2 := by
  obtain ⟨n, i, h1, rfl⟩ := g
  have hn : n < 2 ^ 160 := lt160 (by omega)
  rw [eQ_its h hn]
  obtain ⟨j, e⟩ := eQ_reach h hn
  exact ⟨n, j, h1, e⟩
open Classical in
/-- the least numbers of the rounds found from the numbers below k -/
noncomputable def lsts (b p : Nat) : Nat → List Nat
  | 0 => []
  | k + 1 => if Vis b p k (eQ b p k).2 then lsts b p k else lsts b p k ++ [(eQ b p k).2]
theorem lsts_yes {b p k : Nat} (h : Vis b p k (eQ b p k).2) : lsts b p (k + 1) = lsts b p k := if_pos h
theorem lsts_no {b p k : Nat} (h : ¬ Vis b p k (eQ b p k).2) : lsts b p (k + 1) = lsts b p k ++ [(eQ b p k).2] := if_neg h
theorem lsts_mem {b p : Nat} (h : PairT b p) : ∀ {k m : Nat}, k ≤ 1000000 → (m ∈ lsts b p k ↔ ∃ n, n < k ∧ m = (eQ b p n).2)
  | 0, m, _ => by simp [lsts]
  | k + 1, m, hk => by
    have ih := lsts_mem h (k := k) (m := m) (by omega)
    by_cases c : Vis b p k (eQ b p k).2
    · rw [lsts_yes c, ih]
      constructor
      · rintro ⟨n, h1, h2⟩; exact ⟨n, by omega, h2⟩
      · rintro ⟨n, h1, h2⟩
        rcases Nat.lt_succ_iff_lt_or_eq.mp h1 with z | rfl
        · exact ⟨n, z, h2⟩
        · obtain ⟨q, i, q1, q2⟩ := c
          refine ⟨q, q1, ?_⟩
          have hq : q < 2 ^ 160 := lt160 (by omega)
          have hn : n < 2 ^ 160 := lt160 (by omega)
          obtain ⟨j, hj⟩ := eQ_reach h hn
          have e1 := eQ_its h hq i
          have e2 := eQ_its h hn j
          rw [q2, ← hj, e2] at e1
          rw [h2, e1]
    · rw [lsts_no c, List.mem_append, ih, List.mem_singleton]
      constructor
      · rintro (⟨n, h1, h2⟩ | h2)
        · exact ⟨n, by omega, h2⟩
        · exact ⟨k, by omega, h2⟩
      · rintro ⟨n, h1, h2⟩
        rcases Nat.lt_succ_iff_lt_or_eq.mp h1 with z | rfl
        · exact .inl ⟨n, z, h2⟩
        · exact .inr h2
theorem lsts_vis {b p : Nat} (h : PairT b p) {k m : Nat} (hk : k ≤ 1000000) (hm : m ∈ lsts b p k) : Vis b p k m := by
  obtain ⟨n, h1, rfl⟩ := (lsts_mem h hk).mp hm
  obtain ⟨i, e⟩ := eQ_reach h (n := n) (lt160 (by omega))
  exact ⟨n, i, h1, e⟩
theorem lsts_nodup {b p : Nat} (h : PairT b p) : ∀ {k : Nat}, k ≤ 1000000 → (lsts b p k).Nodup
  | 0, _ => by simp [lsts]
  | k + 1, hk => by
    have ih := lsts_nodup h (k := k) (by omega)
    by_cases c : Vis b p k (eQ b p k).2
    · rw [lsts_yes c]; exact ih
    · rw [lsts_no c, List.nodup_append]
      exact ⟨ih, by simp, fun x hx y hy e => by
        rw [List.mem_singleton] at hy
        rw [e, hy] at hx
        exact c (lsts_vis h (by omega) hx)⟩
theorem lsts_len {b p k : Nat} : (lsts b p k).length ≤ k := by
  induction k with
  | zero => simp [lsts]
  | succ k ih =>
    by_cases c : Vis b p k (eQ b p k).2
    · rw [lsts_yes c]; omega
    · rw [lsts_no c, List.length_append]; simp; omega
/-- no more are found above the greatest number that is kept -/
theorem lsts_far {b p g : Nat} (h : PairT b p) (hg : ∀ m, m < 2 ^ 160 → m ≤ st b p m → m ≤ g) : ∀ {k : Nat}, g + 1 ≤ k → k ≤ 1000000 → lsts b p k = lsts b p (g + 1)
  | 0, h1, _ => by omega
  | k + 1, h1, hk => by
    rcases Nat.lt_or_ge g k with z | z
    · have hn : k < 2 ^ 160 := lt160 (by omega)
      have hm := (eQ_ok h hn).least
      have hlt : (eQ b p k).2 < 2 ^ 160 := by
        obtain ⟨i, e⟩ := eQ_reach h hn
        rw [← e]; exact its_lt h.stk hn i
      have := hg _ hlt hm
      rw [lsts_yes ⟨_, 0, by omega, rfl⟩, lsts_far h hg (k := k) (by omega) (by omega)]
    · have : k = g := by omega
      rw [this]
/-- the row of a walk comes again where it stood -/
theorem Orb.fold {b p n L a : Nat} (o : Orb b p n L a) : ∀ i, ∃ j, j < L ∧ its b p n j = its b p n i
  | 0 => ⟨0, by have := o.lt; omega, rfl⟩
  | i + 1 => by
    obtain ⟨j, h1, h2⟩ := o.fold i
    have e : its b p n (j + 1) = its b p n (i + 1) := congrArg (st b p) h2
    rcases Nat.lt_or_ge (j + 1) L with z | z
    · exact ⟨j + 1, z, e⟩
    · refine ⟨a, o.lt, ?_⟩
      rw [← e, show j + 1 = L by omega, o.back]
/-- where the walk of a begin stops -/
structure Stop (b p k L J : Nat) : Prop where
  le : J ≤ L
  new : ∀ i, i < J → ¬ Vis b p k (its b p k i)
  at' : J = L ∨ (J < L ∧ Vis b p k (its b p k J))
theorem stop_ex {b p k L : Nat} : ∃ J, Stop b p k L J := by
  have : ∀ d, d ≤ L → (∃ J, Stop b p k L J) ∨ ∀ i, i < d → ¬ Vis b p k (its b p k i) := by
    intro d
    induction d with
    | zero => exact fun _ => .inr fun i hi => absurd hi (by omega)
    | succ d ih =>
      intro hd
      rcases ih (by omega) with g | g
      · exact .inl g
      · by_cases c : Vis b p k (its b p k d)
        · exact .inl ⟨d, by omega, g, .inr ⟨by omega, c⟩⟩
        · refine .inr fun i hi => ?_
          rcases Nat.lt_succ_iff_lt_or_eq.mp hi with z | rfl
          · exact g i z
          · exact c
  rcases this L (Nat.le_refl _) with g | g
  · exact g
  · exact ⟨L, Nat.le_refl _, g, .inl rfl⟩
/-- if it stops in what was visited, the round was found -/
theorem Stop.old {b p k L J : Nat} (h : PairT b p) (hk : k ≤ 1000000) (g : Vis b p k (its b p k J)) : Vis b p k (eQ b p k).2 := by
  have := g.least h hk
  rwa [eQ_its h (lt160 (by omega))] at this
theorem Stop.fresh {b p k L a J : Nat} (h : PairT b p) (hk : k ≤ 1000000) (s : Stop b p k L J) (o : Orb b p k L a) (e : J = L) : ¬ Vis b p k (eQ b p k).2 := by
  obtain ⟨i, hi⟩ := eQ_reach h (n := k) (lt160 (by omega))
  obtain ⟨j, h1, h2⟩ := o.fold i
  rw [← hi, ← h2]
  exact s.new j (by omega)
theorem Stop.vis {b p k L a J x : Nat} (s : Stop b p k L J) (o : Orb b p k L a) : (Vis b p k x ∨ ∃ i, i < J ∧ its b p k i = x) ↔ Vis b p (k + 1) x := by
  rw [Vis.succ]
  constructor
  · rintro (g | ⟨i, _, e⟩)
    · exact .inl g
    · exact .inr ⟨i, e⟩
  · rintro (g | ⟨i, e⟩)
    · exact .inl g
    · rcases s.at' with rfl | ⟨h1, h2⟩
      · obtain ⟨j, h1, h2⟩ := o.fold i
        exact .inr ⟨j, h1, h2.trans e⟩
      · rcases Nat.lt_or_ge i J with z | z
        · exact .inr ⟨i, z, e⟩
        · have := h2.far (i - J)
          rw [its_add, show J + (i - J) = i by omega, e] at this
          exact .inl this
end Fw
namespace Fw
open PySem L2

/-! ### rounds_of -/
theorem in_nats (x : Nat) (r : List Nat) : zIn (.int (x : Int)) (.lst (nats r)) = some (.val (.bl (decide (x ∈ r)))) := by
  have h := notIn_nats x r
  have h1 : zIn (.int (x : Int)) (.lst (nats r)) = some (.val (.bl ((nats r).any fun z => deq z (.int (x : Int))))) := by
    show (if (shp (.int (x : Int)) && shp (.lst (nats r))) = true then some (Z.val (.bl ((nats r).any fun z => deq z (.int (x : Int))))) else none) = _
    rw [shp_int, shp_nats]; rfl
  unfold zNotIn at h
  rw [h1] at h
  have h2 : (!((nats r).any fun z => deq z (.int (x : Int)))) = !decide (x ∈ r) := D.bl.inj (Z.val.inj (Option.some.inj h))
  rw [h1]
  have h3 : ((nats r).any fun z => deq z (.int (x : Int))) = decide (x ∈ r) := by
    cases e1 : ((nats r).any fun z => deq z (.int (x : Int))) <;> cases e2 : decide (x ∈ r) <;> rw [e1, e2] at h2 <;> first | rfl | cases h2
  rw [h3]
/-- a dict whose keys are the numbers of P, below 200000 -/
structure Dk (P : Nat → Prop) (ks : List Key) (vs : List D) : Prop where
  len : ks.length = vs.length
  few : ∃ l : List Nat, l.Nodup ∧ ks.length ≤ l.length ∧ ∀ x ∈ l, x < 200000 ∧ P x
  has : ∀ x : Nat, (findK ks vs (.inl (x : Int))).isSome = true ↔ P x
theorem Dk.nil {P : Nat → Prop} (h : ∀ x, ¬ P x) : Dk P [] [] := ⟨rfl, ⟨[], List.nodup_nil, Nat.le_refl _, by simp⟩, fun x => by
  constructor
  · intro g; simp [find_nil] at g
  · intro g; exact absurd g (h x)⟩
theorem Dk.small {P : Nat → Prop} {ks : List Key} {vs : List D} (h : Dk P ks vs) : ks.length < big := by
  obtain ⟨l, h1, h2, h3⟩ := h.few
  have := pigeonN 200000 l h1 fun q hq => (h3 q hq).1
  rw [big]; omega
theorem Dk.put {P : Nat → Prop} {ks : List Key} {vs : List D} (h : Dk P ks vs) {n : Nat} {d : D} (hn : n < 200000) (hp : ¬ P n) : Dk (fun x => P x ∨ n = x) (putKD (.inl (n : Int)) d ks vs).1 (putKD (.inl (n : Int)) d ks vs).2 := by
  obtain ⟨l, h1, h2, h3⟩ := h.few
  have hl := put_len (k := .inl (n : Int)) (d := d) h.len
  refine ⟨hl.1, ⟨n :: l, List.nodup_cons.mpr ⟨fun g => hp (h3 n g).2, h1⟩, by rw [List.length_cons]; omega, fun x hx => ?_⟩, fun x => ?_⟩
  · rcases List.mem_cons.mp hx with rfl | hx
    · exact ⟨hn, .inr rfl⟩
    · exact ⟨(h3 x hx).1, .inl (h3 x hx).2⟩
  · rw [find_put h.len]
    by_cases c : (Sum.inl (n : Int) : Key) = Sum.inl (x : Int)
    · rw [if_pos c]
      have : n = x := by have := Sum.inl.inj c; omega
      exact ⟨fun _ => .inr this, fun _ => rfl⟩
    · rw [if_neg c, h.has x]
      constructor
      · exact .inl
      · rintro (g | g)
        · exact g
        · exact absurd (by rw [g]) c
theorem Dk.iff {P Q : Nat → Prop} {ks : List Key} {vs : List D} (h : Dk P ks vs) (e : ∀ x, P x ↔ Q x) : Dk Q ks vs := by
  have : P = Q := funext fun x => propext (e x)
  rw [← this]; exact h
theorem Dk.yes {P : Nat → Prop} {ks : List Key} {vs : List D} (h : Dk P ks vs) {x : Nat} (g : P x) : (!(findK ks vs (.inl (x : Int))).isSome) = false := by
  rw [(h.has x).mpr g]; rfl
theorem Dk.no {P : Nat → Prop} {ks : List Key} {vs : List D} (h : Dk P ks vs) {x : Nat} (g : ¬ P x) : (!(findK ks vs (.inl (x : Int))).isSome) = true := by
  cases e : (findK ks vs (.inl (x : Int))).isSome with
  | true => exact absurd ((h.has x).mp e) g
  | false => rfl
/-- visited so far: before, or in this walk -/
def VisJ (b p k j x : Nat) : Prop := Vis b p k x ∨ ∃ i, i < j ∧ its b p k i = x
theorem visJ_zero {b p k x : Nat} : Vis b p k x ↔ VisJ b p k 0 x := ⟨.inl, fun h => h.elim id fun ⟨_, h, _⟩ => absurd h (by omega)⟩
theorem visJ_succ {b p k j x : Nat} : (VisJ b p k j x ∨ its b p k j = x) ↔ VisJ b p k (j + 1) x := by
  constructor
  · rintro ((g | ⟨i, g1, g2⟩) | g)
    · exact .inl g
    · exact .inr ⟨i, by omega, g2⟩
    · exact .inr ⟨j, by omega, g⟩
  · rintro (g | ⟨i, g1, g2⟩)
    · exact .inl (.inl g)
    · rcases Nat.lt_succ_iff_lt_or_eq.mp g1 with z | rfl
      · exact .inl (.inr ⟨i, z, g2⟩)
      · exact .inr g2
theorem Stop.not {b p k L a J j : Nat} (s : Stop b p k L J) (o : Orb b p k L a) (hj : j < J) : ¬ VisJ b p k j (its b p k j) := by
  rintro (g | ⟨i, g1, g2⟩)
  · exact s.new j hj g
  · have := s.le
    exact o.dif i j g1 (by omega) g2
theorem Stop.yes {b p k L a J : Nat} (s : Stop b p k L J) (o : Orb b p k L a) : VisJ b p k J (its b p k J) := by
  rcases s.at' with rfl | ⟨_, g⟩
  · exact .inr ⟨a, o.lt, o.back.symm⟩
  · exact .inl g
theorem its_small {b p k : Nat} (h : PairT b p) (hk : k < 200000) (j : Nat) : its b p k j < 200000 := by
  cases j with
  | zero => exact hk
  | succ j => have := its_le h (n := k) (lt160 (by omega)) j; omega
def dFrom1 : SDen := (sAsg 1 (dM isLst zIndex (dName 0) [(dB zMin [(dName 0)])]))
def dFrom2 : SDen := (sRet (dB zTuple [(dBin zAdd (dSl zSl (dName 0) (some (dName 1)) none) (dSl zSl (dName 0) none (some (dName 1))))]))
def dFrom : FDen := dFun 2 [false] (sSeq dFrom1 dFrom2)
def dRdC : DenT := (dT (dBin zNotIn (dName 4) (dName 3)))
def dRdB1 : SDen := (sPutK 3 (dName 4) (dC (.bl true)))
def dRdB2 : SDen := (sDrop (dMut mAppend 5 [(dName 4)]))
def dRdB3 : SDen := (sAsg 4 (dCall dStep [.v (dName 4), .v (dName 0), .v (dName 1)]))
def dRdB : SDen := sSeq dRdB1 (sSeq dRdB2 dRdB3)
def dRd1 : SDen := (sAsg 5 (dLst []))
def dRd2 : SDen := sWhile dRdC dRdB
def dRd3 : SDen := (sIf (dT (dBin zIn (dName 4) (dName 5))) (sDrop (dMut mAppend 2 [(dCall dFrom [.v (dSl zSl (dName 5) (some (dM isLst zIndex (dName 5) [(dName 4)])) none)])])) sNext)
def dRdT : SDen := sSeq dRd1 (sSeq dRd2 dRd3)
def dRnd3 : SDen := (sFor (iR1 (dBin zAdd (dCall dGreat [.v (dName 0), .v (dName 1)]) (dC (.int 1)))) (putN 4) dRdT)
def dRnd4 : SDen := (sRet (dB zTuple [(dB zSortU [(dName 2)])]))
def dRnd : FDen := dFun 6 [false, false] (sSeq (sAsg 2 (dLst [])) (sSeq (sAsg 3 dDict0) (sSeq dRnd3 dRnd4)))
section
variable {n n' a m s g g1 : Int} {F R G A C : List D} {ks : List Key} {vs : List D} {B P E : D} {y4 y5 : Option T} {o : List T} {c : Bool}
theorem from_out (hm : zMin [.lst G] = some (.val (.int m))) (h5 : zIndex (.lst G) [.int m] = some (.val (.int s))) (hA : cutD G (some s) none = A) (hB : cutD G none (some s) = C) (hl : A.length + C.length ≤ big) : dFrom [.frz (.lst G)] = .ok (.frz (.tup (A ++ C))) [.frz (.lst G)] := by
  have i2 : isLst (.lst G) = true := rfl
  have za : zAdd (.lst A) (.lst C) = some (.lst (A ++ C)) := by simp [zAdd, hl]
  simp [dFrom, dFrom1, dFrom2, i2, hm, h5, hA, hB, za]
theorem rd_c (h : (!(findK ks vs (.inl n)).isSome) = c) : dRdC [some (.frz B), some (.frz P), some (.lst F), some (.dct ks vs), some (.frz (.int n)), y5] = .ok c [some (.frz B), some (.frz P), some (.lst F), some (.dct ks vs), some (.frz (.int n)), y5] := by
  have z : zNotIn (.int n) (.dct ks vs) = some (.val (.bl c)) := by rw [notIn_dct, h]
  simp [dRdC, z]
theorem rd_b (hk : ks.length < big) (hR : R.length < big) (e : dStep [.frz (.int n), .frz B, .frz P] = .ok (.frz (.int n')) o) :
    dRdB [some (.frz B), some (.frz P), some (.lst F), some (.dct ks vs), some (.frz (.int n)), some (.lst R)] = .ok .next [some (.frz B), some (.frz P), some (.lst F), some (.dct (putKD (.inl n) (.bl true) ks vs).1 (putKD (.inl n) (.bl true) ks vs).2), some (.frz (.int n')), some (.lst (R ++ [.int n]))] := by
  have kd : keyD (.int n) = some (.inl n) := rfl
  simp [dRdB, dRdB1, dRdB2, dRdB3, kd, hk, mAppend_ok hR, e, putd3]
theorem rd_1 : dRd1 [some (.frz B), some (.frz P), some (.lst F), some (.dct ks vs), some (.frz (.int n)), y5] = .ok .next [some (.frz B), some (.frz P), some (.lst F), some (.dct ks vs), some (.frz (.int n)), some (.lst [])] := by simp [dRd1]
theorem rd_2 {F' : Flw} {Γ Γ' : Env} (e : whileN dRdC dRdB fuel Γ = .ok F' Γ') : dRd2 Γ = .ok F' Γ' := by
  simp [dRd2, e]
theorem rd_3a (h : zIn (.int n) (.lst R) = some (.val (.bl true))) (h1 : zIndex (.lst R) [.int n] = some (.val (.int a))) (hc : cutD R (some a) none = G) (e : dFrom [.frz (.lst G)] = .ok (.frz E) o) (hF : F.length < big) :
    ∃ z5, dRd3 [some (.frz B), some (.frz P), some (.lst F), some (.dct ks vs), some (.frz (.int n)), some (.lst R)] = .ok .next [some (.frz B), some (.frz P), some (.lst (F ++ [E])), some (.dct ks vs), some (.frz (.int n)), z5] := by
  have i1 : isLst (.lst R) = true := rfl
  refine ⟨?_, ?_⟩
  rotate_left
  · simp [dRd3, h, i1, h1, hc, e, putd1, mAppend_ok hF]
    rfl
theorem rd_3b (h : zIn (.int n) (.lst R) = some (.val (.bl false))) :
    dRd3 [some (.frz B), some (.frz P), some (.lst F), some (.dct ks vs), some (.frz (.int n)), some (.lst R)] = .ok .next [some (.frz B), some (.frz P), some (.lst F), some (.dct ks vs), some (.frz (.int n)), some (.lst R)] := by
  simp [dRd3, h]
theorem rnd_3 (e : dGreat [.frz B, .frz P] = .ok (.frz (.int g)) o) (hg : g + 1 = g1) (s1 : smallI g1 = true) (e2 : forL (putN 4) dRdT (rngD 0 1 g1.toNat) [some (.frz B), some (.frz P), some (.lst []), some (.dct [] []), none, none] = .ok .next [some (.frz B), some (.frz P), some (.lst F), some (.dct ks vs), y4, y5]) :
    dRnd3 [some (.frz B), some (.frz P), some (.lst []), some (.dct [] []), none, none] = .ok .next [some (.frz B), some (.frz P), some (.lst F), some (.dct ks vs), y4, y5] := by
  simp [dRnd3, e, putd2, hg, s1, e2]
theorem rnd_out (e3 : dRnd3 [some (.frz B), some (.frz P), some (.lst []), some (.dct [] []), none, none] = .ok .next [some (.frz B), some (.frz P), some (.lst F), some (.dct ks vs), y4, y5]) (hz : zSortU [.lst F] = some (.lst G)) : dRnd [.frz B, .frz P] = .ok (.frz (.tup G)) [.frz B, .frz P] := by
  have c1 : sAsg 2 (dLst []) [some (.frz B), some (.frz P), none, none, none, none] = .ok .next [some (.frz B), some (.frz P), some (.lst []), none, none, none] := by simp
  have c2 : sAsg 3 dDict0 [some (.frz B), some (.frz P), some (.lst []), none, none, none] = .ok .next [some (.frz B), some (.frz P), some (.lst []), some (.dct [] []), none, none] := by simp
  have c4 : ∃ o', dRnd4 [some (.frz B), some (.frz P), some (.lst F), some (.dct ks vs), y4, y5] = .ok (.ret (.frz (.tup G))) (some (.frz B) :: some (.frz P) :: o') := by
    refine ⟨?_, ?_⟩
    rotate_left
    · simp [dRnd4, hz]
      rfl
  obtain ⟨o', c4⟩ := c4
  have hh := seq2 c1 (seq2 c2 (seq2 e3 c4))
  simp only [dRnd, dFun_ap, List.map_cons, List.map_nil, List.length_cons, List.length_nil, List.replicate, List.cons_append, List.nil_append, hh]
  simp
end
/-- a round as it is told -/
noncomputable def rgD (b p m : Nat) : D := .tup (nats (rgL b p m))
/-- a held row from its least number on -/
theorem from_ev {b p n L a i : Nat} (hL : L ≤ 170000) (o : Orb b p n L a) (h1 : a ≤ i) (h2 : i < L) (hm : ∀ j, a ≤ j → j < L → its b p n i ≤ its b p n j) : dFrom [.frz (.lst (nats ((row b p n L).drop a)))] = .ok (.frz (rgD b p (its b p n i))) [.frz (.lst (nats ((row b p n L).drop a)))] := by
  have hlt := o.lt
  have hmn := zMin_nats (ns := (row b p n L).drop a) (m := its b p n i) ((held_mem (by omega)).mpr ⟨i, h1, h2, rfl⟩) (fun x hx => by
    obtain ⟨j, j1, j2, rfl⟩ := (held_mem (by omega)).mp hx
    exact hm j j1 j2)
  have hat : ∀ j, a + j < L → ((row b p n L).drop a)[j]? = some (its b p n (a + j)) := fun j hj => by
    rw [List.getElem?_drop, row_at hj]
  have e5 := index_nats (r := (row b p n L).drop a) (i := i - a) (x := its b p n i) (by rw [hat _ (by omega), show a + (i - a) = i by omega]) (fun j hj hx => by
    rw [hat _ (by omega)] at hx
    have hx := Option.some.inj hx
    exact o.dif (a + j) i (by omega) h2 hx)
  have hlen : ((row b p n L).drop a).length = L - a := by rw [List.length_drop, row_len]
  have e6 : cutD (nats ((row b p n L).drop a)) (some ((i - a : Nat) : Int)) none = nats (((row b p n L).drop a).drop (i - a)) := by
    rw [cutD_from _ (i - a) (by rw [nats_len, hlen]; omega), nats_drop]
  have e7 : cutD (nats ((row b p n L).drop a)) none (some ((i - a : Nat) : Int)) = nats (((row b p n L).drop a).take (i - a)) := by
    rw [cutD_to, nats_take]
  have := from_out hmn e5 e6 e7 (by rw [nats_len, nats_len, List.length_drop, List.length_take, hlen, big]; omega)
  rw [← nats_app] at this
  rw [rgD, ← ring_rg o h1 h2]
  exact this
theorem rd_walk {b p k L a J : Nat} {F : List D} {ks : List Key} {vs : List D} (h : PairT b p) (hk : k < 200000) (hL : L ≤ 170000) (o : Orb b p k L a) (s : Stop b p k L J) (g : Dk (Vis b p k) ks vs) :
    ∃ ks' vs', whileN dRdC dRdB fuel [some (.frz (.int b)), some (.frz (.int p)), some (.lst F), some (.dct ks vs), some (.frz (.int k)), some (.lst [])] = .ok .next [some (.frz (.int b)), some (.frz (.int p)), some (.lst F), some (.dct ks' vs'), some (.frz (.int (its b p k J : Nat))), some (.lst (nats (row b p k J)))] ∧ Dk (Vis b p (k + 1)) ks' vs' := by
  have hle := s.le
  obtain ⟨Γ', e, ks', vs', rfl, g'⟩ := whileN_ind (c := dRdC) (b := dRdB)
    (fun m Γ => ∃ j ks vs, m = J - j ∧ j ≤ J ∧ Γ = [some (.frz (.int b)), some (.frz (.int p)), some (.lst F), some (.dct ks vs), some (.frz (.int (its b p k j : Nat))), some (.lst (nats (row b p k j)))] ∧ Dk (VisJ b p k j) ks vs)
    (fun Γ => ∃ ks vs, Γ = [some (.frz (.int b)), some (.frz (.int p)), some (.lst F), some (.dct ks vs), some (.frz (.int (its b p k J : Nat))), some (.lst (nats (row b p k J)))] ∧ Dk (VisJ b p k J) ks vs)
    (by
      rintro m Γ ⟨j, ks, vs, rfl, hj, rfl, gj⟩
      rcases Nat.lt_or_eq_of_le hj with c | rfl
      · have hn := s.not o c
        have hsm := its_small h hk j
        have eb := rd_b (F := F) (R := nats (row b p k j)) (ks := ks) (vs := vs) gj.small (by rw [nats_len, row_len, big]; omega) (stepN_ev h.stk (its_lt h.stk (n := k) (lt160 (by omega)) j))
        have gp : Dk (VisJ b p k (j + 1)) _ _ := (gj.put (d := .bl true) hsm hn).iff fun x => visJ_succ
        refine .inr ⟨_, _, J - (j + 1), rd_c (gj.no hn), .inl eb, by omega, j + 1, _, _, rfl, by omega, ?_, gp⟩
        rw [row_succ, nats_app]; rfl
      · exact .inl ⟨_, rd_c (gj.yes (s.yes o)), ks, vs, rfl, gj⟩)
    J [some (.frz (.int b)), some (.frz (.int p)), some (.lst F), some (.dct ks vs), some (.frz (.int k)), some (.lst [])] fuel (by have : fuel = 1000000000000 := rfl; omega) ⟨0, ks, vs, by omega, by omega, rfl, g.iff fun x => visJ_zero⟩
  exact ⟨ks', vs', e, g'.iff fun x => s.vis o⟩
theorem rd_turn {b p k : Nat} {ks : List Key} {vs : List D} {y5 : Option T} (h : PairT b p) (hk : k < 200000) (g : Dk (Vis b p k) ks vs) :
    ∃ ks' vs' y4 y5', dRdT [some (.frz (.int b)), some (.frz (.int p)), some (.lst ((lsts b p k).map (rgD b p))), some (.dct ks vs), some (.frz (.int k)), y5] = .ok .next [some (.frz (.int b)), some (.frz (.int p)), some (.lst ((lsts b p (k + 1)).map (rgD b p))), some (.dct ks' vs'), y4, y5'] ∧ Dk (Vis b p (k + 1)) ks' vs' := by
  have hn : k < 2 ^ 160 := lt160 (by omega)
  have hE := eQ_ok h hn
  generalize hq : eQ b p k = q at hE
  obtain ⟨a, m⟩ := q
  obtain ⟨L, hL, o, ⟨i, i1, i2, i3⟩, hm⟩ := hE
  obtain ⟨J, s⟩ := stop_ex (b := b) (p := p) (k := k) (L := L)
  have hlt := o.lt
  have i3 : its b p k i = m := i3
  obtain ⟨ks', vs', ew, g'⟩ := rd_walk (F := (lsts b p k).map (rgD b p)) h hk hL o s g
  have hlen : ((lsts b p k).map (rgD b p)).length < big := by
    have := lsts_len (b := b) (p := p) (k := k)
    rw [List.length_map, big]; omega
  by_cases c : J = L
  · have hf := s.fresh h (by omega) o c
    subst c
    have hin := in_nats (its b p k J) (row b p k J)
    rw [decide_eq_true ((o.stop (Nat.le_refl _)).mpr rfl)] at hin
    have e3 := index_nats (r := row b p k J) (i := a) (x := its b p k J) (by rw [row_at hlt, o.back]) (fun j hj hx => by
      rw [row_at (by omega)] at hx
      have hx := Option.some.inj hx
      exact o.dif j a hj hlt (by rw [hx, o.back]))
    have e4 : cutD (nats (row b p k J)) (some (a : Int)) none = nats ((row b p k J).drop a) := by
      rw [cutD_from _ a (by rw [nats_len, row_len]; omega), nats_drop]
    have e5 := from_ev hL o i1 i2 (fun j j1 j2 => by rw [i3]; exact hm j j1 j2)
    rw [i3] at e5
    obtain ⟨z5, c3⟩ := rd_3a (B := .int b) (P := .int p) (ks := ks') (vs := vs') hin e3 e4 e5 hlen
    have hF : (lsts b p (k + 1)).map (rgD b p) = (lsts b p k).map (rgD b p) ++ [rgD b p m] := by
      rw [lsts_no hf, hq, List.map_append]; rfl
    rw [hF]
    exact ⟨ks', vs', _, z5, seq2 rd_1 (seq2 (rd_2 ew) c3), g'⟩
  · obtain ⟨h1, h2⟩ := s.at'.resolve_left c
    have hin := in_nats (its b p k J) (row b p k J)
    rw [decide_eq_false (fun z => by
      obtain ⟨j, j1, j2⟩ := row_mem.mp z
      exact o.dif j J j1 h1 j2)] at hin
    have hF : (lsts b p (k + 1)).map (rgD b p) = (lsts b p k).map (rgD b p) := by
      rw [lsts_yes (Stop.old (L := L) h (by omega) h2)]
    rw [hF]
    exact ⟨ks', vs', _, _, seq2 rd_1 (seq2 (rd_2 ew) (rd_3b hin)), g'⟩
theorem rowsD_map : ∀ {rows : List (List Int)}, (∀ r ∈ rows, r ≠ []) → rowsD (rows.map tupI) = some rows
  | [], _ => rfl
  | r :: rows, h => by
    have ih := rowsD_map (rows := rows) fun q hq => h q (by simp [hq])
    cases r with
    | nil => exact absurd rfl (h [] (by simp))
    | cons x r =>
      have e := intsD_map (x :: r)
      simp only [List.map_cons, tupI, rowsD, ih]
      rw [show (D.int x :: r.map D.int) = (x :: r).map D.int from rfl, e]
theorem zSortU_rows {rows : List (List Int)} (h : ∀ r ∈ rows, r ≠ []) : zSortU [.lst (rows.map tupI)] = some (.lst ((srtT rows).map tupI)) := by
  cases rows with
  | nil =>
    have e : srtT [] = [] := List.perm_nil.mp (srtT_perm [])
    rw [e]
    have e2 : srt [] = [] := List.perm_nil.mp (srt_perm [])
    show (match (listI (.lst [])).map (fun ns => Z.lst ((srt ns).map D.int)) with | some z => some z | none => zSortT [.lst []]) = _
    have e3 : listI (.lst []) = some [] := rfl
    rw [e3]
    show some (Z.lst ((srt []).map D.int)) = _
    rw [e2]; rfl
  | cons r rows =>
    have e : zSorted [.lst ((r :: rows).map tupI)] = none := by
      show (listI (.lst ((r :: rows).map tupI))).map (fun ns => Z.lst ((srt ns).map D.int)) = _
      have : listI (.lst ((r :: rows).map tupI)) = none := rfl
      rw [this]; rfl
    unfold zSortU
    rw [e]
    show (rowsD ((r :: rows).map tupI)).map _ = _
    rw [rowsD_map h]; rfl
/-- the rounds by their least numbers -/
noncomputable def rdRows (b p k : Nat) : List (List Int) := (lsts b p k).map fun m => cst (rgL b p m)
theorem rdRows_D (b p k : Nat) : (lsts b p k).map (rgD b p) = (rdRows b p k).map tupI := by
  unfold rdRows
  rw [List.map_map]
  refine List.map_congr_left fun m _ => ?_
  show rgD b p m = D.tup ((cst (rgL b p m)).map D.int)
  rw [← nats_cst]; rfl
theorem per_pos {b p k m : Nat} (h : PairT b p) (hk : k ≤ 1000000) (hm : m ∈ lsts b p k) : ∃ l, 0 < l ∧ l ≤ 170000 ∧ Orb b p m l 0 ∧ perQ b p m = l := by
  obtain ⟨n, h1, rfl⟩ := (lsts_mem h hk).mp hm
  obtain ⟨L, hL, o, ⟨i, i1, i2, i3⟩, _⟩ := eQ_ok h (n := n) (lt160 (by omega))
  have o2 := o.ring i1 i2
  rw [i3] at o2
  have := o.lt
  exact ⟨_, by omega, by omega, o2, perQ_eq o2⟩
theorem rdRows_ne {b p k : Nat} (h : PairT b p) (hk : k ≤ 1000000) : ∀ r ∈ rdRows b p k, r ≠ [] := by
  intro r hr e
  obtain ⟨m, hm, rfl⟩ := List.mem_map.mp hr
  obtain ⟨l, l0, _, _, hl⟩ := per_pos h hk hm
  have := congrArg List.length e
  simp [cst, rgL, row_len, hl] at this
  omega
/-- all rounds as they are told -/
noncomputable def rdsT (b p : Nat) : List D := (srtT (rdRows b p (gkF b p (topN b p) + 1))).map tupI
theorem gk_small {b p : Nat} (h : PairN b p) : gkF b p (topN b p) ≤ 100000 := Nat.le_trans (gkF_le _) h.ld.small
theorem rnd_ev {b p : Nat} (h : PairT b p) (hN : PairN b p) : dRnd [.frz (.int b), .frz (.int p)] = .ok (.frz (.tup (rdsT b p))) [.frz (.int b), .frz (.int p)] := by
  have hg := gk_small hN
  obtain ⟨Γ', e, ks, vs, y4, y5, rfl, _⟩ := forL_rng (put := putN 4) (b := dRdT)
    (fun k Γ => ∃ ks vs y4 y5, Γ = [some (.frz (.int b)), some (.frz (.int p)), some (.lst ((lsts b p k).map (rgD b p))), some (.dct ks vs), y4, y5] ∧ Dk (Vis b p k) ks vs) 0 1 (gkF b p (topN b p) + 1)
    [some (.frz (.int b)), some (.frz (.int p)), some (.lst []), some (.dct [] []), none, none] ⟨[], [], none, none, rfl, Dk.nil fun x => Vis.zero⟩ (by
      rintro k Γ hk ⟨ks, vs, y4, y5, rfl, g⟩
      have hz : (0 : Int) + (k : Int) * 1 = (k : Int) := by omega
      rw [hz]
      obtain ⟨ks', vs', z4, z5, e, g'⟩ := rd_turn (y5 := y5) h (by omega) g
      exact ⟨_, _, rfl, e, ks', vs', z4, z5, rfl, g'⟩)
  have e3 := rnd_3 (B := .int b) (P := .int p) (great_ev hN) (g1 := ((gkF b p (topN b p) + 1 : Nat) : Int)) (by omega) (small_of (by omega) (by omega)) (by rw [Int.toNat_natCast]; exact e)
  rw [rdRows_D] at e3
  exact rnd_out e3 (zSortU_rows (rdRows_ne h (by omega)))
end Fw
namespace Fw
open PySem PySem.Spec PyProof.Rows L2

/-! ### texts: enumerate, join, find -/
def ItE (x : Str) : It where
  go i _ := i < x.cps.size
  yld i H v H' := ∃ p c, (v = .ref p ∧ H p = none ∧ H' = upd H p (.tup [.int (i : Nat), .str ⟨#[c]⟩])) ∧ x.cps[i]? = some c
  stop i _ := x.cps.size ≤ i
theorem turnE {P : Program} {W : World} {K : PySem.W.Frag} {es : List Expr} {kk : Nat} {tp : Pos} (x : Str) (t : Tok) (e it : Addr) :
    Turn P W K (.Tuple es kk tp) (ItE x) [e, it] e (fun i h => i ≤ x.cps.size ∧ (∃ old, IsEnum h e it ((i : Nat) : Int) old) ∧ h.IsStrIter it (strIterType x) x t i ∧ e ≠ it) where
  mem := by simp
  obj := fun i h st b hb => by
    obtain ⟨_, ⟨old, he⟩, ⟨o, ho, hc, hd⟩, _⟩ := st
    have e' : b = e ∨ b = it := by simpa using hb
    rcases e' with z | z
    · rw [z]; exact ⟨_, he, fun v q => nomatch q⟩
    · rw [z]; exact ⟨o, ho, fun v q => by rw [hd] at q; cases q⟩
  keep := fun i h h' st k => by
    obtain ⟨hi, ⟨old, he⟩, ⟨o, ho, r⟩, hne⟩ := st
    exact ⟨hi, ⟨old, k e (by simp) _ he⟩, ⟨o, k it (by simp) o ho, r⟩, hne⟩
  item := by
    rintro X rfl rfl rfl hc i pins s σ H E I hf ⟨hi, ⟨old, he⟩, hit, hne⟩ hg
    have hg : i < x.cps.size := hg
    have hel : e < s.heap.objs.size := Heap.lt_size he
    have hil : it < s.heap.objs.size := by obtain ⟨_, q, _⟩ := hit; exact Heap.lt_size q
    have hh : X.A.in1.handled = none := I.ok.hd hc
    refine wpAny_pyNext_enum_itemD (Draws.text hh it x t) he hit hg hne (by simp; exact hne) fun u h' tk hu ho hit' hT hsz hk => ?_
    obtain ⟨c, tc, hc1, rfl⟩ := hu
    refine ⟨_, rfl, wpAny_letOwnedTupleGo_enum (s := { s with heap := h', toks := tk + 1 }) ho fun h'' he' sb => ?_⟩
    have hT2 : h''.get? s.heap.objs.size = some { cls := .type "tuple", data := .seq #[.int i tk, .str ⟨#[c]⟩ tc] } := (sb.2 _ (Nat.ne_of_gt hel)).trans hT
    have new : ObjOk X.prog X.w (upd H s.heap.objs.size (.tup [.int (i : Nat), .str ⟨#[c]⟩])) h'' s.heap.objs.size (.tup [.int (i : Nat), .str ⟨#[c]⟩]) :=
      ⟨by show 2 ≤ sizeLine; decide, [.int i tk, .str ⟨#[c]⟩ tc], .cons ⟨_, rfl⟩ (.cons ⟨_, rfl⟩ .nil), ⟨_, hT2, rfl, _, rfl⟩⟩
    have I1 : Inv X pins σ (upd H s.heap.objs.size (.tup [.int (i : Nat), .str ⟨#[c]⟩])) { s with heap := h'', toks := tk + 1 } :=
      I.turnedNew (ch := [e, it]) (fun b ob hb q => (sb.2 b (fun z => hb (by simp [z]))).trans (hk b ob (fun z => hb (by simp [z])) (fun z => hb (by simp [z])) q)) hf (Nat.le_refl _) new
    refine ⟨.ref s.heap.objs.size, _, I1, rfl, ⟨_, c, ⟨rfl, I.hok.fresh (Nat.le_refl _), rfl⟩, hc1⟩, ⟨hg, ⟨.str ⟨#[c]⟩ tc, ?_⟩, ?_, hne⟩, fun b hb => ?_⟩
    · have e1 : ((i + 1 : Nat) : Int) = (i : Int) + 1 := by omega
      rw [e1]; exact he'
    · obtain ⟨o, q, r⟩ := hit'
      exact ⟨o, (sb.2 it (Ne.symm hne)).trans q, r⟩
    · have hb' : b < s.heap.objs.size := by
        have e' : b = e ∨ b = it := by simpa using hb
        rcases e' with z | z
        · rw [z]; exact hel
        · rw [z]; exact hil
      rw [upd_ne (Nat.ne_of_lt hb')]
      exact (hf b hb).1
  done := by
    rintro X rfl rfl rfl hc i pins s σ H E I hf ⟨hi, ⟨old, he⟩, hit, hne⟩ hg
    have hg : x.cps.size ≤ i := hg
    obtain ⟨f0, f1, f2, f3, f4, f5⟩ := hf it (by simp)
    have hh : X.A.in1.handled = none := I.ok.hd hc
    have hi' : i = x.cps.size := by omega
    subst hi'
    exact wpAny_pyNext_enum_endD (Draws.text hh it x t) he hit fun h' eb => ⟨rfl, I.turned (t' := s.toks) (fun b o hb q => eb b o hb q) f0 f1 f3 f4 f5⟩
  self := fun A i s Q E st h => let ⟨_, ⟨_, he⟩, _⟩ := st; wpAny_pyIter_enum he h
def iEnumS (ta : TA) : TI := fun σ H R => ta σ H fun vs H1 => ∃ x, vs = [.str x] ∧ R (ItE x) H1
theorem pi_enumS {X : Cx} {e : Expr} {ta : TA} {p pos tpos : Pos} {elts : List Expr} {kk : Nat} (hg : Gl X "enumerate") (hm : X.mg "enumerate" = none) (ha : PA X [e] ta) (hs : starEach [e] X.env = [(false, eval e X.env)] := by rfl) :
    PI X (.Tuple elts kk tpos) (.Call (.Name "enumerate" p) [e] [] pos) (iEnumS ta) := by
  refine ⟨fun pins s σ H R I h => ?_⟩
  refine Call_ (ld_blt I hg hm boot_enumerate (PyProof.Rows.callWith_type1 (thn (ha.run pos pins s σ H _ I h) fun us s1 ⟨vs, H1, I1, r1, q1⟩ => ?_) hs rfl))
  obtain ⟨x, ex, q⟩ := q1
  subst ex
  cases r1 with
  | cons r rr =>
    cases rr
    obtain ⟨t, rfl⟩ := r
    refine call_enumerate_str fun h' he hit hsz hk => wpAny_pyIter_enum he ?_
    have I2 : Inv X pins σ H1 { s1 with heap := h' } := I1.kept (t' := s1.toks) hk
    refine ⟨s1.heap.objs.size + 1, [s1.heap.objs.size + 1, s1.heap.objs.size], _, _, H1, rfl, I2, turnE x t (s1.heap.objs.size + 1) s1.heap.objs.size, ⟨Nat.zero_le _, ⟨.none, he⟩, hit, Nat.succ_ne_self _⟩, fun b hb => ?_, q⟩
    have e' : b = s1.heap.objs.size + 1 ∨ b = s1.heap.objs.size := by simpa using hb
    have hle : s1.heap.objs.size ≤ b := by
      rcases e' with z | z
      · rw [z]; exact Nat.le_add_right _ _
      · rw [z]; exact Nat.le_refl _
    exact I1.fpOk hle (I1.hok.fresh hle)
/-- the signs of a text, each a text -/
def signs (x : Str) : List D := x.cps.toList.map fun c => .str ⟨#[c]⟩
def iEnuS (e : Den) : Env → Out (List D) := bindO (dV e) fun d Γ => match d with
  | .str x => .ok (enumD 0 (signs x)) Γ
  | _ => .stuck
theorem si_enuS {K : PySem.W.Frag} {te : TE} {e : Den} (h : SE K te e) : SI K (iEnumS (tCons te tNil)) (iEnuS e) := by
  intro σ Γ ds Γ' he Hf H fp E w R q
  obtain ⟨d, Γ1, h1, he⟩ := bindO_ok he
  split at he
  · rename_i x
    cases he
    refine SV.of h σ Γ _ _ h1 Hf H fp E w _ fun v Hf1 H1 fp1 E1 w1 s1 r1 => ?_
    simp only [Rep] at r1
    subst r1
    refine ⟨x, rfl, q _ Hf1 H1 fp1 E1 w1 s1 fun i Hf2 H2 e2 sm _ => ⟨fun hi => ?_, fun d hd => ?_⟩⟩
    · rw [enum_len] at hi
      show x.cps.size ≤ i
      simpa [signs] using hi
    · obtain ⟨y, hy, rfl⟩ := enum_get hd
      unfold signs at hy
      rw [List.getElem?_map, Option.map_eq_some_iff] at hy
      obtain ⟨c, hc, rfl⟩ := hy
      have hlt := (List.getElem?_eq_some_iff.mp hc).1
      refine ⟨by show i < x.cps.size; simpa using hlt, fun z H' hz => ?_⟩
      obtain ⟨p, c', ⟨e1, hp, e2'⟩, f⟩ := hz
      rw [Array.getElem?_toList] at hc
      rw [hc] at f; cases f
      refine ⟨.tup [.int (0 + (i : Int)), .str ⟨#[c]⟩], rfl, .inl ⟨p, _, hp, e1, e2', ?_⟩⟩
      simp only [RepL, Rep]
      exact ⟨_, _, rfl, by simp, _, _, rfl, rfl, rfl⟩
  · cases he
@[simp ↓] theorem iEnuS_ap {e : Den} {Γ : Env} : iEnuS e Γ = bindO (dV e) (fun d Γ => match d with | .str x => .ok (enumD 0 (signs x)) Γ | _ => .stuck) Γ := by unfold iEnuS; rfl
def strsD : List D → Option (List Str)
  | [] => some []
  | .str x :: ds => (strsD ds).map (x :: ·)
  | _ :: _ => none
theorem strsD_eq : ∀ {ds : List D} {ys : List Str}, strsD ds = some ys → ds = ys.map D.str
  | [], _, h => by cases h; rfl
  | .str i :: ds, _, h => by
    simp only [strsD, Option.map_eq_some_iff] at h
    obtain ⟨ns, h, rfl⟩ := h
    rw [strsD_eq h]; rfl
  | .int _ :: _, _, h => by simp [strsD] at h
  | .bl _ :: _, _, h => by simp [strsD] at h
  | .non :: _, _, h => by simp [strsD] at h
  | .ty _ :: _, _, h => by simp [strsD] at h
  | .lst _ :: _, _, h => by simp [strsD] at h
  | .scr _ :: _, _, h => by simp [strsD] at h
  | .tup _ :: _, _, h => by simp [strsD] at h
  | .dct _ _ :: _, _, h => by simp [strsD] at h
theorem strsD_map (ys : List Str) : strsD (ys.map D.str) = some ys := by
  induction ys with
  | nil => rfl
  | cons y ys ih => simp [strsD, ih]
theorem RepL.strs {K : PySem.W.Frag} {H : Hp} : ∀ {ys : List Str} {xs : List V}, RepL K H (ys.map D.str) xs → xs = ys.map V.str
  | [], xs, h => by
    cases xs with
    | nil => rfl
    | cons => simp [RepL] at h
  | y :: ys, xs, h => by
    simp only [List.map_cons, RepL] at h
    obtain ⟨v, vs, rfl, rv, r⟩ := h
    simp only [Rep] at rv
    rw [rv, RepL.strs r]; rfl
def zJoin : D → List D → Option Z
  | .str a, [.lst ds] => (strsD ds).bind fun ys => if (ys.map (·.length)).sum + ys.length * a.length ≤ 16777216 then some (.val (.str (Txt.join a ys))) else none
  | _, _ => none
def rJoin (K : PySem.W.Frag) : V → List V → Hp → VK → Prop := fun x xs H Q => ∃ a p, ∃ ys : List Str, x = .str a ∧ xs = [.ref p] ∧ (SqL K H p (ys.map V.str) ∨ SqT K H p (ys.map V.str)) ∧ (ys.map (·.length)).sum + ys.length * a.length ≤ 16777216 ∧ Q (.str (Txt.join a ys)) H
theorem ms_join {K : PySem.W.Frag} : MethS K "str" (rJoin K) zJoin := by
  intro Hf H x xs d ds z s t ts hz Q q
  unfold zJoin at hz
  split at hz
  · rename_i a es
    rw [Option.bind_eq_some_iff] at hz
    obtain ⟨ys, h1, h2⟩ := hz
    split at h2
    · rename_i hl
      cases h2
      obtain ⟨v, rfl, t1⟩ := ts.one
      obtain rfl := t.str
      obtain ⟨p, zs, rfl, ha, ra⟩ := t1.list s
      rw [strsD_eq h1] at ra
      have e := RepL.strs ra
      subst e
      exact ⟨a, p, ys, rfl, rfl, .inl (.inl (.inl ha)), hl, made_str q⟩
    · cases h2
  · cases hz
def zFind : D → List D → Option Z
  | .str a, [.str b] => some (.val (.int (Txt.find a b)))
  | _, _ => none
def rFind : V → List V → Hp → VK → Prop := fun x xs H Q => ∃ a b, x = .str a ∧ xs = [.str b] ∧ Q (.int (Txt.find a b)) H
theorem ms_find {K : PySem.W.Frag} : MethS K "str" rFind zFind := by
  intro Hf H x xs d ds z s t ts hz Q q
  unfold zFind at hz
  split at hz
  · rename_i a b
    cases hz
    obtain ⟨v, rfl, t1⟩ := ts.one
    obtain rfl := t.str
    obtain rfl := t1.str
    exact ⟨a, b, rfl, rfl, made_int q⟩
  · cases hz
section
variable {F : Fam} {e : Expr} {es : List Expr} {dz de : Den} {des : List Den}
theorem i_enuS {p pos tpos : Pos} {elts : List Expr} {kk : Nat} (hm : F.mg "enumerate" = none) (h : PED F e de) (hg : F.sc.names.lookup ("enumerate" : Str) = some .globalImplicit := by rfl) (hs : ∀ env, starEach [e] env = [(false, eval e env)] := by intro _; rfl) : PID F (.Tuple elts kk tpos) (.Call (.Name "enumerate" p) [e] [] pos) (iEnuS de) :=
  let ⟨t, p1, s1⟩ := h; ⟨_, fun i => Fam.pi (t := fun K => iEnumS (tCons t tNil)) (pi_enumS (Fam.gl hg i) (Fam.mgx hm i) (pa_cons (p1 i) pa_nil (hs _)) (hs _)), si_enuS s1⟩
theorem sd_join {o : Expr} {apos cpos : Pos} (ho : PED F o dz) (ha : POsD F (e :: es) des) (hbase : ∀ i, attributeBase o "join" (F.X i).env (eval o (F.X i).env) = eval o (F.X i).env := by intro _; rfl)
    (hfew : ∀ env, ((backTo cpos (starEach (e :: es) env)).all (fun x => !x.1) && (backToKw cpos (keywordEach [] env)).all (fun x => x.1.isSome)
      && decide ((e :: es).length + ([] : List Keyword).length + (if ([] : List Keyword).isEmpty then 0 else 1) < 30)) = true := by intro _; rfl)
    (hline : (apos.endLine == cpos.line) = true := by rfl) (hs : ∀ env, starEach (e :: es) env = (false, eval e env) :: starEach es env := by intro _; rfl) (hplain : ∀ env, (backTo cpos (starEach es env)).any (·.1) = false := by intro _; rfl) :
    PED F (.Call (.Attribute o "join" apos) (e :: es) [] cpos) (dM isStr zJoin dz des) := by
  obtain ⟨t0, p0, s0⟩ := ho
  obtain ⟨t1, p1, s1⟩ := ha
  exact ⟨_, fun i => Fam.pe (t := fun K => tBM K "str" (rJoin K) t0 t1) (pe_bm PySem.F.plainAttrs_str PySem.F.slot_str_join PySem.F.type_str_join mt_join (p0 i) (p1 i) (hbase i) (hfew _) hline (hs _) (hplain _)), se_m ty_str ms_join s0 s1⟩
theorem sd_find {o : Expr} {apos cpos : Pos} (ho : PED F o dz) (ha : POsD F (e :: es) des) (hbase : ∀ i, attributeBase o "find" (F.X i).env (eval o (F.X i).env) = eval o (F.X i).env := by intro _; rfl)
    (hfew : ∀ env, ((backTo cpos (starEach (e :: es) env)).all (fun x => !x.1) && (backToKw cpos (keywordEach [] env)).all (fun x => x.1.isSome)
      && decide ((e :: es).length + ([] : List Keyword).length + (if ([] : List Keyword).isEmpty then 0 else 1) < 30)) = true := by intro _; rfl)
    (hline : (apos.endLine == cpos.line) = true := by rfl) (hs : ∀ env, starEach (e :: es) env = (false, eval e env) :: starEach es env := by intro _; rfl) (hplain : ∀ env, (backTo cpos (starEach es env)).any (·.1) = false := by intro _; rfl) :
    PED F (.Call (.Attribute o "find" apos) (e :: es) [] cpos) (dM isStr zFind dz des) := by
  obtain ⟨t0, p0, s0⟩ := ho
  obtain ⟨t1, p1, s1⟩ := ha
  exact ⟨_, fun i => Fam.pe (t := fun K => tBM K "str" rFind t0 t1) (pe_bm PySem.F.plainAttrs_str PySem.F.slot_str_find PySem.F.type_str_find mt_find (p0 i) (p1 i) (hbase i) (hfew _) hline (hs _) (hplain _)), se_m ty_str ms_find s0 s1⟩
end
end Fw
namespace Fw
open PySem L2

/-! ### numbers and their texts -/
def FIGT : Str := "0123456789abcdef"
/-- the sign of a figure -/
def sgn (f : Nat) : Str := ⟨#[if f < 10 then 48 + f else 87 + f]⟩
def sgc (f : Nat) : Nat := if f < 10 then 48 + f else 87 + f
/-- the text of some figures -/
def txt (fs : List Nat) : Str := Txt.join "" (fs.map sgn)
theorem joinL_nil : ∀ ps : List (List Nat), TL.joinL [] ps = ps.flatten
  | [] => rfl
  | [p] => by simp [TL.joinL]
  | p :: q :: r => by
    show p ++ ([] ++ TL.joinL [] (q :: r)) = _
    rw [joinL_nil (q :: r)]; simp
theorem txt_cps (fs : List Nat) : (txt fs).cps.toList = fs.map sgc := by
  have h : TL.tl (txt fs) = TL.joinL (TL.tl "") ((fs.map sgn).map TL.tl) := by
    unfold txt
    rw [TL.join_eq, TL.tl_join]
  have e : TL.tl ("" : Str) = [] := rfl
  rw [e, joinL_nil] at h
  refine Eq.trans h ?_
  induction fs with
  | nil => rfl
  | cons f fs ih =>
    simp only [List.map_cons, List.flatten_cons, ih (by unfold txt; rw [TL.join_eq, TL.tl_join, e, joinL_nil])]
    rfl
theorem txt_len (fs : List Nat) : (txt fs).length = fs.length := by
  rw [TL.len_tl]
  show (txt fs).cps.toList.length = _
  rw [txt_cps, List.length_map]
theorem signs_txt (fs : List Nat) : signs (txt fs) = fs.map fun f => .str (sgn f) := by
  unfold signs
  rw [txt_cps, List.map_map]
  rfl
theorem str_beq {x y : Str} : (x == y) = decide (x = y) := by
  first
  | rfl
  | exact beq_eq_decide ..
  | simp
theorem zEq_s {x y : Str} (hx : PyData.strOk x = true) (hy : PyData.strOk y = true) : zEq (.str x) (.str y) = some (.val (.bl (decide (x = y)))) := by
  simp [zEq, shp, deq, toPy, SeqAt.shaped, PyData.eqv, PyData.canLay0, PyData.depth, str_beq, hx, hy]
theorem zNe_s {x y : Str} (hx : PyData.strOk x = true) (hy : PyData.strOk y = true) : zNe (.str x) (.str y) = some (.val (.bl (!decide (x = y)))) := by
  simp [zNe, shp, deq, toPy, SeqAt.shaped, PyData.eqv, PyData.canLay0, PyData.depth, str_beq, hx, hy]
theorem txt_ok {fs : List Nat} (h : ∀ f ∈ fs, f < 16) : PyData.strOk (txt fs) = true := by
  show (txt fs).cps.all (· < 0x110000) = true
  rw [← Array.all_toList, txt_cps, List.all_map]
  refine List.all_eq_true.mpr fun f hf => ?_
  have := h f hf
  show decide (sgc f < 0x110000) = true
  unfold sgc
  refine decide_eq_true ?_
  split <;> omega
theorem sgn_ok {f : Nat} (h : f < 16) : PyData.strOk (sgn f) = true := by
  have ha : ∀ f : Nat, f < 16 → PyData.strOk (sgn f) = true := by decide +kernel
  exact ha f h
theorem zok : PyData.strOk "0" = true := by decide +kernel
theorem eok : PyData.strOk "" = true := by decide +kernel
theorem fig_ix {f : Nat} (h : f < 16) : zIx (.str "0123456789abcdef") (.int (f : Int)) = some (.val (.str (sgn f))) := by
  have hl : ("0123456789abcdef" : Str).length ≤ big := by decide +kernel
  have hc : ("0123456789abcdef" : Str).cps.toList = [48,49,50,51,52,53,54,55,56,57,97,98,99,100,101,102] := by decide +kernel
  have ha : ∀ f : Nat, f < 16 → atI [48,49,50,51,52,53,54,55,56,57,97,98,99,100,101,102] (f : Int) = some (sgc f) := by decide +kernel
  show (if ("0123456789abcdef" : Str).length ≤ big then (atI ("0123456789abcdef" : Str).cps.toList (f : Int)).map fun c => Z.val (.str ⟨#[c]⟩) else none) = _
  rw [if_pos hl, hc, ha f h]; rfl
theorem fig_find {f : Nat} (h : f < 16) : zFind (.str "0123456789abcdef") [.str (sgn f)] = some (.val (.int (f : Int))) := by
  have ha : ∀ f : Nat, f < 16 → Txt.find "0123456789abcdef" (sgn f) = (f : Int) := by decide +kernel
  show some (Z.val (.int (Txt.find "0123456789abcdef" (sgn f)))) = _
  rw [ha f h]
theorem fig_sl {b : Nat} : zSl (.str "0123456789abcdef") none (some (b : Int)) = some (.val (.str (cutS "0123456789abcdef" none (some (b : Int))))) := by
  have hl : ("0123456789abcdef" : Str).length ≤ big := by decide +kernel
  show (if ("0123456789abcdef" : Str).length ≤ big then some (Z.val (.str (cutS "0123456789abcdef" none (some (b : Int))))) else none) = _
  rw [if_pos hl]
theorem fig_in {b f : Nat} (hb : b ≤ 16) (hf : f < b) : zNotIn (.str (sgn f)) (.str (cutS "0123456789abcdef" none (some (b : Int)))) = some (.val (.bl false)) := by
  have ha : ∀ b : Nat, b < 17 → ∀ f : Nat, f < b → (Builtin.Str.occurrences (cutS "0123456789abcdef" none (some (b : Int))) (sgn f) 0 (cutS "0123456789abcdef" none (some (b : Int))).length 1).isEmpty = false := by decide +kernel
  have := ha b (by omega) f hf
  show (some (Z.val (.bl (!(Builtin.Str.occurrences (cutS "0123456789abcdef" none (some (b : Int))) (sgn f) 0 (cutS "0123456789abcdef" none (some (b : Int))).length 1).isEmpty)))).map negZ = _
  rw [this]; rfl
theorem join_txt {fs : List Nat} (h : fs.length ≤ 1000) : zJoin (.str "") [.lst (fs.map fun f => .str (sgn f))] = some (.val (.str (txt fs))) := by
  have e : (fs.map fun f => D.str (sgn f)) = (fs.map sgn).map D.str := by rw [List.map_map]; rfl
  show (strsD (fs.map fun f => D.str (sgn f))).bind _ = _
  rw [e, strsD_map, Option.bind_some]
  have hs : ((fs.map sgn).map (·.length)).sum = fs.length := by
    clear h e
    induction fs with
    | nil => rfl
    | cons f fs ih =>
      simp only [List.map_cons, List.sum_cons, ih, List.length_cons]
      have : (sgn f).length = 1 := rfl
      omega
  have h0 : ("" : Str).length = 0 := rfl
  rw [if_pos (by rw [hs, h0]; simp; omega)]
  rfl
/-! the figures make the number -/
theorem fg_succ (b n k : Nat) : fg b n (k + 1) = (n / b ^ (k + 1) % b) :: fg b n k := by
  unfold fg dg
  rw [List.range_succ (n := k + 1), List.map_append, List.reverse_append]
  rfl
theorem numBy_fg (b n : Nat) : ∀ k, numBy b (fg b n k) 0 = n % b ^ (k + 1)
  | 0 => by simp [fg, dg, numBy]
  | k + 1 => by
    rw [fg_succ]
    show numBy b (fg b n k) (0 * b + n / b ^ (k + 1) % b) = _
    rw [numBy_app, numBy_fg b n k, fg_len, Nat.zero_mul, Nat.zero_add, Nat.pow_succ b (k + 1), Nat.mod_mul, Nat.mul_comm]
    omega
theorem numBy_dgs {b n : Nat} (hb : 2 ≤ b) (hn : n < 2 ^ 160) : numBy b (dgs b n) 0 = n := by
  unfold dgs
  rw [numBy_fg, Nat.mod_eq_of_lt (tk_ok hb hn).2.1]
theorem dgs_zero {b : Nat} (hb : 2 ≤ b) : dgs b 0 = [0] := by
  have h : Tk b 0 0 := tk_lt (by omega)
  have e := (tk_ok (n := 0) hb (by decide)).2.uniq hb h
  unfold dgs
  rw [e]; simp [fg, dg]
/-- no nought ahead -/
theorem dgs_head {b n : Nat} (hb : 2 ≤ b) (hn : n < 2 ^ 160) (h0 : n ≠ 0) : ∃ f fs, dgs b n = f :: fs ∧ f ≠ 0 := by
  have hT := (tk_ok hb hn).2
  unfold dgs
  generalize tk b n = k at hT
  obtain ⟨h1, h2⟩ := hT
  rcases k with _ | k
  · have h1 : n < b := by simpa using h1
    refine ⟨n, [], ?_, h0⟩
    simp [fg, dg, Nat.mod_eq_of_lt h1]
  · refine ⟨_, _, fg_succ b n k, ?_⟩
    have h3 := h2 k (by omega)
    have hp : 0 < b ^ (k + 1) := Nat.pow_pos (by omega)
    have h4 : 1 ≤ n / b ^ (k + 1) := (Nat.le_div_iff_mul_le hp).mpr (by omega)
    have h5 : n / b ^ (k + 1) < b := (Nat.div_lt_iff_lt_mul hp).mpr (by rw [Nat.mul_comm, ← Nat.pow_succ]; exact h1)
    rw [Nat.mod_eq_of_lt h5]; omega
/-! number_shown, read_number -/
def dShown : FDen := dFun 3 [false, false] (sRet (dM isStr zJoin (dC (.str "")) [(dComp (iTupD (dCall dFig [.v (dName 0), .v (dName 1)])) (putN 2) dYes (dBin zIx (dC (.str "0123456789abcdef")) (dName 2)) [2])]))
def dLTxt : FDen := dFun 3 [false, false] (sRet (dM isStr zJoin (dC (.str "")) [(dComp (iLst (dCall dLFig [.v (dName 0), .v (dName 1)])) (putN 2) dYes (dBin zIx (dC (.str "0123456789abcdef")) (dName 2)) [2])]))
def dRead1 : SDen := (sIf (dOrT (dT (dBin zEq (dName 0) (dC (.str "")))) (dAndT (dT (dBin zEq (dBin zIx (dName 0) (dC (.int 0))) (dC (.str "0")))) (dT (dBin zNe (dName 0) (dC (.str "0")))))) sNever sNext)
def dReadB1 : SDen := (sIf (dT (dBin zNotIn (dName 4) (dSl zSl (dC (.str "0123456789abcdef")) none (some (dName 1))))) sNever sNext)
def dReadB2 : SDen := (sAsg 2 (dBin zAdd (dBin zMul (dName 1) (dName 2)) (dM isStr zFind (dC (.str "0123456789abcdef")) [(dName 4)])))
def dReadB : SDen := sSeq dReadB1 dReadB2
def dRead : FDen := dFun 5 [false, false] (sSeq dRead1 (sSeq (sAsg 2 (dC (.int 0))) (sSeq (sFor (iEnuS (dName 0)) (putT (putLc (putN 3) (putLc (putN 4) putL0))) dReadB) (sRet (dName 2)))))
section
variable {n b y a w x : Int} {N B E : D} {F g : List D} {o : List T} {t c : Str} {p q : Bool} {z3 z4 : Option T}
theorem shown_e (h : zIx (.str "0123456789abcdef") (.int y) = some (.val E)) : dV (dBin zIx (dC (.str "0123456789abcdef")) (dName 2)) [some (.frz N), some (.frz B), some (.frz (.int y))] = .ok E [some (.frz N), some (.frz B), some (.frz (.int y))] := by
  simp [h]
theorem shown_out (e : dFig [.frz N, .frz B] = .ok (.frz (.tup F)) o) (hl : F.length ≤ big) (e2 : compL (putN 2) dYes (dV (dBin zIx (dC (.str "0123456789abcdef")) (dName 2))) [2] F [] [some (.frz N), some (.frz B), none] = .ok g [some (.frz N), some (.frz B), none]) (hj : zJoin (.str "") [.lst g] = some (.val (.str t))) : dShown [.frz N, .frz B] = .ok (.frz (.str t)) [.frz N, .frz B] := by
  have i1 : isStr (.str "") = true := rfl
  simp [dShown, e, putd2, hl, e2, i1, hj]
theorem ltxt_out (e : dLFig [.frz N, .frz B] = .ok (.lst F) o) (hl : F.length ≤ big) (e2 : compL (putN 2) dYes (dV (dBin zIx (dC (.str "0123456789abcdef")) (dName 2))) [2] F [] [some (.frz N), some (.frz B), none] = .ok g [some (.frz N), some (.frz B), none]) (hj : zJoin (.str "") [.lst g] = some (.val (.str t))) : dLTxt [.frz N, .frz B] = .ok (.frz (.str t)) [.frz N, .frz B] := by
  have i1 : isStr (.str "") = true := rfl
  simp [dLTxt, e, putd2, hl, e2, i1, hj]
theorem read_1 (h1 : zEq (.str t) (.str "") = some (.val (.bl false))) (h2 : zIx (.str t) (.int 0) = some (.val (.str c))) (h3 : zEq (.str c) (.str "0") = some (.val (.bl p))) (h4 : zNe (.str t) (.str "0") = some (.val (.bl q))) (h5 : (p && q) = false) : dRead1 [some (.frz (.str t)), some (.frz B), none, none, none] = .ok .next [some (.frz (.str t)), some (.frz B), none, none, none] := by
  cases p with
  | false => simp [dRead1, h1, h2, h3]
  | true =>
    have : q = false := by simpa using h5
    subst this
    simp [dRead1, h1, h2, h3, h4]
theorem read_b (hs : zSl (.str "0123456789abcdef") none (some b) = some (.val (.str t))) (hi : zNotIn (.str c) (.str t) = some (.val (.bl false))) (hw : zMul (.int b) (.int a) = some (.val (.int w))) (hf : zFind (.str "0123456789abcdef") [.str c] = some (.val (.int y))) (hx : w + y = x) :
    dReadB [some (.frz N), some (.frz (.int b)), some (.frz (.int a)), z3, some (.frz (.str c))] = .ok .next [some (.frz N), some (.frz (.int b)), some (.frz (.int x)), z3, some (.frz (.str c))] := by
  have i1 : isStr (.str "0123456789abcdef") = true := rfl
  simp [dReadB, dReadB1, dReadB2, hs, hi, hw, i1, hf, hx]
theorem read_out (c1 : dRead1 [some (.frz (.str t)), some (.frz B), none, none, none] = .ok .next [some (.frz (.str t)), some (.frz B), none, none, none]) (e : forL (putT (putLc (putN 3) (putLc (putN 4) putL0))) dReadB (enumD 0 (signs t)) [some (.frz (.str t)), some (.frz B), some (.frz (.int 0)), none, none] = .ok .next [some (.frz (.str t)), some (.frz B), some (.frz (.int x)), z3, z4]) : dRead [.frz (.str t), .frz B] = .ok (.frz (.int x)) [.frz (.str t), .frz B] := by
  have c2 : sAsg 2 (dC (.int 0)) [some (.frz (.str t)), some (.frz B), none, none, none] = .ok .next [some (.frz (.str t)), some (.frz B), some (.frz (.int 0)), none, none] := by simp
  have c3 : sFor (iEnuS (dName 0)) (putT (putLc (putN 3) (putLc (putN 4) putL0))) dReadB [some (.frz (.str t)), some (.frz B), some (.frz (.int 0)), none, none] = .ok .next [some (.frz (.str t)), some (.frz B), some (.frz (.int x)), z3, z4] := by simp [e]
  have c4 : sRet (dName 2) [some (.frz (.str t)), some (.frz B), some (.frz (.int x)), z3, z4] = .ok (.ret (.frz (.int x))) [some (.frz (.str t)), some (.frz B), some (.frz (.int x)), z3, z4] := by simp
  have hh := seq2 c1 (seq2 c2 (seq2 c3 c4))
  simp only [dRead, dFun_ap, List.map_cons, List.map_nil, List.length_cons, List.length_nil, List.replicate, List.cons_append, List.nil_append, hh]
  simp
end
theorem shown_comp {N B : D} {fs : List Nat} (h : ∀ f ∈ fs, f < 16) : compL (putN 2) dYes (dV (dBin zIx (dC (.str "0123456789abcdef")) (dName 2))) [2] (nats fs) [] [some (.frz N), some (.frz B), none] = .ok (fs.map fun f => .str (sgn f)) [some (.frz N), some (.frz B), none] := by
  have cm := compL_map (put := putN 2) (e := dV (dBin zIx (dC (.str "0123456789abcdef")) (dName 2))) (vs := [2]) (Γ := [some (.frz N), some (.frz B), none]) (fun d => match d with | .int z => D.str (sgn z.toNat) | d => d) (nats fs) (fun d hd => by
    obtain ⟨x, hx, rfl⟩ := List.mem_map.mp hd
    exact ⟨_, _, rfl, shown_e (fig_ix (h x hx)), rfl⟩) []
  have hg : (nats fs).map (fun d => match d with | .int z => D.str (sgn z.toNat) | d => d) = fs.map fun f => .str (sgn f) := by
    unfold nats
    rw [List.map_map]
    exact List.map_congr_left fun i _ => rfl
  rwa [List.nil_append, hg] at cm
theorem dgs_len {b n : Nat} (hb : 2 ≤ b) (hn : n < 2 ^ 160) : (dgs b n).length ≤ 161 := by
  have := (tk_ok hb hn).1
  rw [dgs, fg_len]; omega
theorem shown_ev {b n : Nat} (hb : 2 ≤ b) (hb2 : b ≤ 16) (hn : n < 2 ^ 160) : dShown [.frz (.int n), .frz (.int b)] = .ok (.frz (.str (txt (dgs b n)))) [.frz (.int n), .frz (.int b)] := by
  have hl := dgs_len hb hn
  exact shown_out (figN_ev hb (by omega) hn) (by rw [nats_len, big]; omega) (shown_comp fun f hf => by
    have := fg_lt (b := b) (by omega) f hf
    omega) (join_txt (by omega))
theorem ltxt_ev {b n : Nat} (hb : 2 ≤ b) (hb2 : b ≤ 16) (hn : n < 2 ^ 160) : dLTxt [.frz (.int n), .frz (.int b)] = .ok (.frz (.str (txt (dgs b n)))) [.frz (.int n), .frz (.int b)] := by
  have hl := dgs_len hb hn
  obtain ⟨o, e⟩ := lfigN_ev hb (show b < 1000 by omega) hn
  exact ltxt_out e (by rw [nats_len, big]; omega) (shown_comp fun f hf => by
    have := fg_lt (b := b) (by omega) f hf
    omega) (join_txt (by omega))
theorem read_loop {b : Nat} {N : D} (hb2 : b ≤ 16) : ∀ (fs : List Nat) (a : Nat) (k : Int) (z3 z4 : Option T), (∀ f ∈ fs, f < b) →
    ∃ y3 y4, forL (putT (putLc (putN 3) (putLc (putN 4) putL0))) dReadB (enumD k (fs.map fun f => .str (sgn f))) [some (.frz N), some (.frz (.int b)), some (.frz (.int a)), z3, z4] = .ok .next [some (.frz N), some (.frz (.int b)), some (.frz (.int (numBy b fs a : Nat))), y3, y4]
  | [], a, k, z3, z4, _ => ⟨z3, z4, rfl⟩
  | f :: fs, a, k, z3, z4, h => by
    have hf := h f (by simp)
    have hw : zMul (.int (b : Int)) (.int (a : Int)) = some (.val (.int ((a * b : Nat) : Int))) := by
      rw [zMul_i (mulOk_l (nat64 (by omega))), ← Int.natCast_mul, Nat.mul_comm]
    have e := read_b (N := N) (z3 := some (.frz (.int k))) (x := ((a * b + f : Nat) : Int)) (fig_sl (b := b)) (fig_in hb2 hf) hw (fig_find (by omega)) (by omega)
    obtain ⟨y3, y4, ih⟩ := read_loop (N := N) hb2 fs (a * b + f) (k + 1) (some (.frz (.int k))) (some (.frz (.str (sgn f)))) fun q hq => h q (by simp [hq])
    refine ⟨y3, y4, ?_⟩
    simp only [List.map_cons, enumD, forL, numBy]
    have hp : putT (putLc (putN 3) (putLc (putN 4) putL0)) (.tup [.int k, .str (sgn f)]) [some (.frz N), some (.frz (.int b)), some (.frz (.int a)), z3, z4] = some [some (.frz N), some (.frz (.int b)), some (.frz (.int a)), some (.frz (.int k)), some (.frz (.str (sgn f)))] := rfl
    rw [hp]
    simp only [e]
    exact ih
theorem txt_ne {fs : List Nat} (h : fs ≠ []) : txt fs ≠ "" := fun e => by
  have := congrArg Str.length e
  rw [txt_len] at this
  exact h (List.eq_nil_of_length_eq_zero this)
theorem read_ev {b : Nat} {fs : List Nat} (hb2 : b ≤ 16) (hl : fs.length ≤ 1000) (h : ∀ f ∈ fs, f < b) (h0 : fs = [0] ∨ ∃ f gs, fs = f :: gs ∧ f ≠ 0) : dRead [.frz (.str (txt fs)), .frz (.int b)] = .ok (.frz (.int (numBy b fs 0 : Nat))) [.frz (.str (txt fs)), .frz (.int b)] := by
  have hne : fs ≠ [] := by
    rcases h0 with rfl | ⟨f, gs, rfl, _⟩ <;> simp
  obtain ⟨f, gs, rfl⟩ := List.exists_cons_of_ne_nil hne
  have hf := h f (by simp)
  have hL : (txt (f :: gs)).length ≤ big := by rw [txt_len, big]; omega
  have h2 : zIx (.str (txt (f :: gs))) (.int 0) = some (.val (.str (sgn f))) := by
    show (if (txt (f :: gs)).length ≤ big then (atI (txt (f :: gs)).cps.toList 0).map fun c => Z.val (.str ⟨#[c]⟩) else none) = _
    rw [if_pos hL, txt_cps]
    simp [atI, ixN]
    rfl
  have hs : ∀ f, f < 16 → (decide (sgn f = "0") = decide (f = 0)) := by decide +kernel
  have hto := txt_ok (fs := f :: gs) fun q hq => by have := h q hq; omega
  have c1 := read_1 (B := .int (b : Int)) (t := txt (f :: gs)) (by rw [zEq_s hto eok, decide_eq_false (txt_ne hne)]) h2 (zEq_s (sgn_ok (by omega)) zok) (zNe_s hto zok) (by
    rw [hs f (by omega)]
    rcases h0 with e | ⟨f', gs', e, hn⟩
    · have : txt (f :: gs) = "0" := by rw [e]; rfl
      rw [this]; simp
    · cases e
      rw [decide_eq_false hn]; rfl)
  obtain ⟨y3, y4, e⟩ := read_loop (N := .str (txt (f :: gs))) hb2 (f :: gs) 0 0 none none h
  rw [← signs_txt] at e
  exact read_out c1 e
theorem readN_ev {b n : Nat} (hb : 2 ≤ b) (hb2 : b ≤ 16) (hn : n < 2 ^ 160) : dRead [.frz (.str (txt (dgs b n))), .frz (.int b)] = .ok (.frz (.int n)) [.frz (.str (txt (dgs b n))), .frz (.int b)] := by
  have hl := dgs_len hb hn
  have := read_ev (fs := dgs b n) hb2 (by omega) (fun f hf => fg_lt (b := b) (by omega) f hf) (by
    rcases Nat.eq_zero_or_pos n with z | z
    · rw [z]; exact .inl (dgs_zero hb)
    · exact .inr (dgs_head hb hn (by omega)))
  rwa [numBy_dgs hb hn] at this
end Fw
namespace Fw
open PySem PySem.Spec PyProof.Rows L2

/-! ### min of a tuple, a list extended by a tuple, a tuple taken once -/
def rMinT (K : PySem.W.Frag) : List V → Hp → VK → Prop := fun vs H Q => ∃ (a : Addr) (ns : List Int), vs = [V.ref a] ∧ SqT K H a (ns.map V.int) ∧ 0 < ns.length ∧ ∀ m, m ∈ ns → (∀ y, y ∈ ns → m ≤ y) → Q (.int m) H
theorem ints_at : ∀ {vs : List Value} {ns : List Int}, IntsAre vs ns → ∀ (i : Nat) (v : Value), vs[i]? = some v → ∃ t, v = Value.int (ns.getD i 0) t
  | _, _, .nil, i, v, hv => by simp at hv
  | _, _, .cons n t h, i, v, hv => by
    cases i with
    | zero => simp at hv; exact ⟨t, hv.symm⟩
    | succ i =>
      obtain ⟨t', e⟩ := ints_at h i v (by simpa using hv)
      exact ⟨t', by simpa using e⟩
theorem cr_minT {X : Cx} (hc : X.calm = true) : CallR X (.builtin "min") (rMinT X.K) := by
  intro pins s σ H vs us Q I r h
  obtain ⟨a, ns, rfl, hs, hne, q⟩ := h
  obtain ⟨its, rv, pl, _⟩ := I.tuple hs
  rw [Vals.ref1 r]
  have hi := rv.ints
  have hlen : its.length = ns.length := by rw [← rv.length, List.length_map]
  have hlt : a < s.heap.objs.size := by obtain ⟨_, e, _⟩ := id pl; exact Heap.lt_size e
  have hval : ∀ (i : Nat) (v : Value), its.toArray[i]? = some v → ∃ t, v = Value.int (ns.getD i 0) t := fun i v hv => ints_at hi i v (by simpa using hv)
  refine call_min_walk ((begins_tuple a its.toArray).iter _ _ _ _ _ _ pl ?_)
  refine ⟨_, _, _, _, _, _, _, rfl, Walks.tuple (A := X.A.in1) (I.ok.hd hc) s.heap.objs.size a (Nat.ne_of_lt hlt) its.toArray,
    ⟨⟨_, Heap.get?_push_size _ rfl, rfl, rfl⟩, (begins_tuple a its.toArray).keeps _ _ pl fun b o e => Heap.get?_push_of_some _ e⟩, fun b hb => ?_, by simp; omega, CmpOf.ints_lt (fun i => ns.getD i 0) hval, fun v h' tk hP hk => ?_⟩
  · show b < (s.heap.push _).objs.size
    rw [Heap.size_push]
    rcases List.mem_cons.mp hb with e | hb
    · rw [e]
      exact Nat.lt_succ_self _
    · rw [List.mem_singleton.mp hb]
      exact Nat.lt_succ_of_lt hlt
  · obtain ⟨t, rfl⟩ := hval _ v hP
    have hsz : its.toArray.size = ns.length := by simp [hlen]
    rw [hsz] at *
    obtain ⟨b1, b2⟩ := argBest_lt (fun i => ns.getD i 0) (ns.length - 1)
    refine ⟨.int _, H, I.kept (t' := tk) fun b u e => hk b u (fun hmem => ?_) (Heap.get?_push_of_some _ e), ⟨t, rfl⟩, q _ ?_ fun j hj => ?_⟩
    · have e1 : b = s.heap.objs.size := List.mem_singleton.mp hmem
      have e2 := Heap.lt_size e
      rw [e1] at e2
      exact absurd e2 (Nat.lt_irrefl _)
    · have hb : argBest (fun i j => decide (ns.getD i 0 < ns.getD j 0)) (ns.length - 1) < ns.length := by omega
      rw [List.getD_eq_getElem?_getD, List.getElem?_eq_getElem hb]
      exact List.getElem_mem hb
    · obtain ⟨i, hi, e⟩ := List.mem_iff_getElem.mp hj
      have e2 : ns.getD i 0 = j := by rw [List.getD_eq_getElem?_getD, List.getElem?_eq_getElem hi, ← e] <;> rfl
      rw [← e2]
      exact b2 i (by omega)
def zMinT : List D → Option Z
  | [.tup ds] => (intsD ds).bind fun ns => if ns = [] then none else some (.val (.int (minL ns)))
  | _ => none
theorem cs_minT {K : PySem.W.Frag} : CallS K (rMinT K) zMinT := by
  intro Hf H xs ds z s t hz Q q
  unfold zMinT at hz
  split at hz
  · rename_i ds'
    rw [Option.bind_eq_some_iff] at hz
    obtain ⟨ns, hn, hz⟩ := hz
    split at hz
    · cases hz
    · rename_i hne
      cases hz
      obtain ⟨v, rfl, t'⟩ := t.one
      obtain ⟨a, xs, rfl, ha, ra⟩ := t'.tup s
      rw [intsD_eq hn] at ra
      refine ⟨a, ns, rfl, by rw [← ra.ints]; exact ha, List.length_pos_iff.mpr hne, fun m h1 h2 => ?_⟩
      rw [minL_eq ns m h1 h2] at q
      exact made_int q
  · cases hz
theorem bd_minT {F : Fam} : BltD F "min" zMinT := .inl ⟨_, _, by decide +kernel, fun i => Fam.call (r := rMinT) (cr_minT (F.calm i)), cs_minT⟩
/-! extend -/
theorem ext_tup (l : Addr) (items : Array Value) (n : Nat) (b : Addr) (items2 : Array Value) (n2 : Nat) (dd : Option Addr) (sl : Array (Option Value)) (hs0 : ¬(!items.isEmpty && Builtin.List.listTooLong (items.size + items2.size)) = true) (hs1 : items.size ≤ sizeLine) (hs2 : items.size + items2.size ≤ sizeLine + 1) :
    Meets (Builtin.«list.extend» ⟨[.ref l, .ref b], []⟩) (fun _ R s => s.heap.get? l = some { cls := .type "list", dict := none, data := .seq items n, slots := #[] } ∧ s.heap.get? b = some { cls := .type "tuple", dict := dd, data := .seq items2 n2, slots := sl } ∧ R (.ok (.ret Value.none)) { s with heap := s.heap.update l (Obj.mapSeq fun x => x ++ items2), toks := s.toks }) :=
  .of_wp fun prog w A R s h => by
    obtain ⟨hp, g, d, tk, os⟩ := s; obtain ⟨hl, hb, h⟩ := h; have f1 := AutoSeq1.idx_int; have f2 := AutoSeq1.sub_tuple_tuple; have f3 := AutoSeq1.sub_list_list; have f4 := AutoSeq1.sub_tuple_list; have f5 := AutoSeq1.sub_list_tuple;
    have hz' : (items ++ items2).size ≤ sizeLine + 1 := by rw [Array.size_append]; exact hs2
    wp_walk using (wpAny_updateSeq hl rfl (hz := hs1) (_hz' := hz')), wpAny_loadPart' hl, wpAny_loadPart' hb; exact ⟨_, rfl, h⟩
def rExtT (K : PySem.W.Frag) : V → List V → Hp → VK → Prop := fun x vs H Q => ∃ l b xs zs, x = .ref l ∧ vs = [.ref b] ∧ H l = some (.lst xs) ∧ SqT K H b zs ∧ xs.length + zs.length ≤ sizeLine ∧ Q .non (upd H l (.lst (xs ++ zs)))
theorem mt_extT {X : Cx} : MtR X "list.extend" (rExtT X.K) := by
  intro pins s σ H x vs v us Q I rx rv h
  obtain ⟨l, b, xs, zs, rfl, rfl, hH, hB, hz, q⟩ := h
  cases rx
  obtain ⟨u, rfl, ru⟩ := rv.one
  cases ru
  obtain ⟨z, its, n, r, hl, e⟩ := I.lstM hH
  obtain ⟨its2, r2, ⟨⟨cls, dd, data, sl⟩, ho, hc, n2, hd⟩, _⟩ := I.tuple hB
  simp only at hc hd
  subst hc hd
  have hl2 : its2.length = zs.length := r2.length.symm
  have hsz : its.toArray.size + its2.toArray.size ≤ sizeLine := by rw [List.size_toArray, List.size_toArray]; omega
  have hlong : ¬ (!its.toArray.isEmpty && Builtin.List.listTooLong (its.toArray.size + its2.toArray.size)) = true := by
    rw [notLongL hsz, Bool.and_false]
    exact Bool.false_ne_true
  refine call_meets F.slot_list_extend ⟨_, e, rfl⟩ F.entry_list_extend (F.args_list_extend_2 _ _)
    (ext_tup l its.toArray n b its2.toArray n2 dd sl hlong (by rw [List.size_toArray]; omega) (by omega)) ⟨e, ho, ?_⟩
  refine ⟨.non, _, I.lset (its' := its ++ its2) hH e (by simp) (r.append r2) ?_, rfl, q⟩
  rw [List.length_append]
  omega
def mExtT : List D → List D → Option (List D × D)
  | ds, [.tup es] => if ds.length + es.length ≤ big then some (ds ++ es, .non) else none
  | _, _ => none
theorem mExtT_ok {ds es : List D} (h : ds.length + es.length ≤ big) : mExtT ds [.tup es] = some (ds ++ es, .non) := if_pos h
theorem ms_extT {K : PySem.W.Frag} : MutS K (rExtT K) mExtT := by
  intro Hf H l xs vs ds as es d s hl rx ra hf Q q
  unfold mExtT at hf
  split at hf
  · split at hf
    · rename_i hb; cases hf
      simp only [RepL, Rep] at ra
      obtain ⟨v, _, rfl, ⟨b, ys, rfl, hbb, rb⟩, rfl⟩ := ra
      exact ⟨l, b, xs, ys, rfl, rfl, hl, (Ext.of s).seqT hbb, by rw [rx.len, rb.len]; exact big_le hb, q _ _ (rx.append rb) (by simp only [Rep])⟩
    · cases hf
  · cases hf
section
variable {F : Fam} {e : Expr} {es : List Expr} {des : List Den}
theorem sd_extT {x : Str} {np apos cpos : Pos} (i : Nat) (ha : PVsD F (e :: es) des) (hN : F.N[i]? = some x := by rfl) (hv : L2.Vis F.sc x := by first | exact Or.inl rfl | exact Or.inr (Or.inl rfl) | exact Or.inr (Or.inr rfl)) (hd : (x == ("__debug__" : Str)) = false := by decide)
    (hcd : (x == ("__classdict__" : Str)) = false := by decide) (hbase : ∀ z, attributeBase (.Name x np) "extend" (F.X z).env (eval (.Name x np) (F.X z).env) = eval (.Name x np) (F.X z).env := by intro _; rfl)
    (hfew : ∀ env, ((backTo cpos (starEach (e :: es) env)).all (fun x => !x.1) && (backToKw cpos (keywordEach [] env)).all (fun x => x.1.isSome)
      && decide ((e :: es).length + ([] : List Keyword).length + (if ([] : List Keyword).isEmpty then 0 else 1) < 30)) = true := by intro _; rfl)
    (hline : (apos.endLine == cpos.line) = true := by rfl) (hs : ∀ env, starEach (e :: es) env = (false, eval e env) :: starEach es env := by intro _; rfl) (hplain : ∀ env, (backTo cpos (starEach es env)).any (·.1) = false := by intro _; rfl) :
    PED F (.Call (.Attribute (.Name x np) "extend" apos) (e :: es) [] cpos) (dMut mExtT i des) := by
  obtain ⟨t1, p1, s1⟩ := ha
  exact ⟨_, fun j => Fam.pe (t := fun K => tBM K "list" (rExtT K) (tVar i) t1) (pe_bm PySem.F.plainAttrs_list PySem.F.slot_list_extend PySem.F.type_list_extend mt_extT (pe_var (Fam.at hN j) (Fam.vis hv j) hd hcd) (p1 j) (hbase j) (hfew _) hline (hs _) (hplain _)), se_mut ms_extT s1⟩
end
/-! a tuple taken once -/
theorem tuple_mul1 (l : Addr) (items : Array Value) (n : Nat) (u : Tok) (dd : Option Addr) (sl : Array (Option Value)) :
    Meets (Builtin.«tuple.__mul__» ⟨[.ref l, .int 1 u], []⟩) (fun _ R s => s.heap.get? l = some { cls := .type "tuple", dict := dd, data := .seq items n, slots := sl } ∧
      R (.ok (.ret (Value.ref l))) s) :=
  .of_wp fun prog w A R s h => by
    obtain ⟨hp, g, d, tk, os⟩ := s
    obtain ⟨hl, h⟩ := h
    have f1 := AutoSeq1.idx_int
    have c1 : (items.isEmpty || (1 : Int) == 1) = true := by simp
    wp_walk using wpAny_loadPart' hl
    exact ⟨_, rfl, h⟩
def rRep1 (K : PySem.W.Frag) : R2 := fun x y H Q => ∃ l xs, x = .ref l ∧ y = .int 1 ∧ SqT K H l xs ∧ Q (.ref l) H
theorem op_rep1 {X : Cx} : OpR X (binaryOp .Mult) (rRep1 X.K) := by
  intro pins s σ H x y v u Q I rx ry h
  obtain ⟨l, xs, rfl, rfl, hT, q⟩ := h
  cases rx
  obtain ⟨t, rfl⟩ := ry
  obtain ⟨its, r, ⟨⟨cls, dd, data, sl⟩, ho, hc, n, hd⟩, hs⟩ := I.tuple hT
  simp only at hc hd
  subst hc hd
  exact wpAny_binaryOp_repeat_ref (T := "tuple") (U := "int") (by decide) ⟨_, ho, rfl⟩ (fun s' => typeIs_int s' 1 t) noFill_tuple_mul F.fills_int_mul F.slot_int_rmul repeat_tuple F.slot_int_index.lookup
    (call_meets F.slot_int_rmul (typeIs_int s 1 t) F.entry_int_rmul (F.args_int_rmul_2 _ _) (int_rmul_tuple 1 t l its.toArray n dd sl)
      ⟨ho, rfl, ⟨_, ho, rfl⟩, call_meets F.slot_tuple_mul ⟨_, ho, rfl⟩ F.entry_tuple_mul (F.args_tuple_mul_2 _ _) (tuple_mul1 l its.toArray n t dd sl) ⟨ho, ⟨.ref l, H, I, rfl, q⟩⟩⟩)
def zMulT (a b : D) : Option Z := match a, b with
  | .tup ds, .int k => if k = 1 then some (.val (.tup ds)) else zMul (.tup ds) (.int k)
  | _, _ => zMul a b
theorem os_mulT {K : PySem.W.Frag} : OpS K (fun x y H Q => rRep1 K x y H Q ∨ rMulU K x y H Q) zMulT := by
  intro Hf H x y dx dy z s hx hy hz Q q
  unfold zMulT at hz
  split at hz
  · rename_i ds k
    split at hz
    · rename_i hk
      subst hk
      cases hz
      obtain ⟨a, xs, rfl, ha, ra⟩ := hx.tup s
      cases hy.int
      refine .inl ⟨a, xs, rfl, rfl, ha, q _ _ ⟨rfl, ?_⟩⟩
      cases hx with
      | frz r => exact r
    · exact .inr (os_mul Hf H x y _ _ z s hx hy hz Q q)
  · exact .inr (os_mul Hf H x y _ _ z s hx hy hz Q q)
theorem sd_mulT {F : Fam} {a b : Expr} {da db : Den} {pos : Pos} (ha : PED F a da) (hb : PED F b db) : PED F (.BinOp a .Mult b pos) (dBin zMulT da db) := let ⟨_, p1, s1⟩ := ha; let ⟨_, p2, s2⟩ := hb; ⟨_, fun i => pe_op (Fam.op (r := fun K x y H Q => rRep1 K x y H Q ∨ rMulU K x y H Q) (op_rep1.or op_mulU)) (p1 i) (p2 i), se_bin os_mulT s1 s2⟩
end Fw
namespace Fw
open PySem L2

/-! ### end_paper -/
noncomputable def fstQ (b p n : Nat) : Nat := Classical.epsilon fun t => its b p n t = (eQ b p n).2 ∧ ∀ j, j < t → its b p n j ≠ (eQ b p n).2
noncomputable def papL (b p n : Nat) : List Nat := row b p n (fstQ b p n + perQ b p (eQ b p n).2 + 1)
/-- what is known of a number's end -/
structure PapP (b p n i P m : Nat) : Prop where
  i1 : i ≤ 170000
  p0 : 0 < P
  p1 : P ≤ 170000
  at' : its b p n i = m
  fst : ∀ j, j < i → its b p n j ≠ m
  orb : Orb b p m P 0
  eqs : eQ b p n = ((eQ b p n).1, m)
theorem pap_ex {b p n : Nat} (h : PairT b p) (hn : n < 2 ^ 160) : ∃ i P, PapP b p n i P (eQ b p n).2 ∧ fstQ b p n = i ∧ perQ b p (eQ b p n).2 = P := by
  obtain ⟨L, hL, o, ⟨i, i1, i2, i3⟩, hm⟩ := eQ_ok h hn
  have hlt := o.lt
  have o2 := o.ring i1 i2
  rw [i3] at o2
  have hf : ∀ j, j < i → its b p n j ≠ (eQ b p n).2 := fun j hj e => o.dif j i hj i2 (by rw [e, i3])
  have hs : its b p n (fstQ b p n) = (eQ b p n).2 ∧ ∀ j, j < fstQ b p n → its b p n j ≠ (eQ b p n).2 := Classical.epsilon_spec (p := fun t => its b p n t = (eQ b p n).2 ∧ ∀ j, j < t → its b p n j ≠ (eQ b p n).2) ⟨i, i3, hf⟩
  have he : fstQ b p n = i := by
    rcases Nat.lt_trichotomy (fstQ b p n) i with z | z | z
    · exact absurd hs.1 (hf _ z)
    · exact z
    · exact absurd i3 (hs.2 i z)
  exact ⟨i, L - (eQ b p n).1, ⟨by omega, by omega, by omega, i3, hf, o2, rfl⟩, he, perQ_eq o2⟩
def dEPC : DenT := (dT (dBin zNe (dBin zIx (dName 4) (dUn zNeg (dC (.int 1)))) (dName 3)))
def dEPB : SDen := (sDrop (dMut mAppend 4 [(dCall dStep [.v (dBin zIx (dName 4) (dUn zNeg (dC (.int 1)))), .v (dName 1), .v (dName 2)])]))
def dEP1 : SDen := (sAsg 3 (dBin zIx (dCall dEnd [.v (dName 0), .v (dName 1), .v (dName 2)]) (dC (.int 1))))
def dEP2 : SDen := (sAsg 4 (dLst [(dName 0)]))
def dEP3 : SDen := (sWhile dEPC dEPB)
def dEP4 : SDen := (sDrop (dMut mAppend 4 [(dCall dStep [.v (dName 3), .v (dName 1), .v (dName 2)])]))
def dEP6 : SDen := (sRet (dB zTuple [(dName 4)]))
def dEP : FDen := dFun 5 [false, false, false] (sSeq dEP1 (sSeq dEP2 (sSeq dEP3 (sSeq dEP4 (sSeq dEP3 dEP6)))))
section
variable {n m x y : Int} {B P E : D} {R : List D} {o : List T} {x3 x4 : Option T}
theorem ep_1 (e : dEnd [.frz (.int n), .frz B, .frz P] = .ok (.frz E) o) (h : zIx E (.int 1) = some (.val (.int m))) : dEP1 [some (.frz (.int n)), some (.frz B), some (.frz P), x3, x4] = .ok .next [some (.frz (.int n)), some (.frz B), some (.frz P), some (.frz (.int m)), x4] := by
  simp [dEP1, e, putd3, h]
theorem ep_2 : dEP2 [some (.frz (.int n)), some (.frz B), some (.frz P), some (.frz (.int m)), x4] = .ok .next [some (.frz (.int n)), some (.frz B), some (.frz P), some (.frz (.int m)), some (.lst [.int n])] := by
  simp [dEP2]
theorem ep_c (h : zIx (.lst R) (.int (-1)) = some (.val (.int x))) : dEPC [some (.frz (.int n)), some (.frz B), some (.frz P), some (.frz (.int m)), some (.lst R)] = .ok (!decide (x = m)) [some (.frz (.int n)), some (.frz B), some (.frz P), some (.frz (.int m)), some (.lst R)] := by
  simp [dEPC, h]
theorem ep_b (h : zIx (.lst R) (.int (-1)) = some (.val (.int x))) (e : dStep [.frz (.int x), .frz B, .frz P] = .ok (.frz (.int y)) o) (hR : R.length < big) : dEPB [some (.frz (.int n)), some (.frz B), some (.frz P), some (.frz (.int m)), some (.lst R)] = .ok .next [some (.frz (.int n)), some (.frz B), some (.frz P), some (.frz (.int m)), some (.lst (R ++ [.int y]))] := by
  simp [dEPB, h, e, putd3, mAppend_ok hR]
theorem ep_3 {Γ Γ' : Env} (e : whileN dEPC dEPB fuel Γ = .ok .next Γ') : dEP3 Γ = .ok .next Γ' := by
  simp [dEP3, e]
theorem ep_4 (e : dStep [.frz (.int m), .frz B, .frz P] = .ok (.frz (.int y)) o) (hR : R.length < big) : dEP4 [some (.frz (.int n)), some (.frz B), some (.frz P), some (.frz (.int m)), some (.lst R)] = .ok .next [some (.frz (.int n)), some (.frz B), some (.frz P), some (.frz (.int m)), some (.lst (R ++ [.int y]))] := by
  simp [dEP4, e, putd3, mAppend_ok hR]
theorem ep_6 : dEP6 [some (.frz (.int n)), some (.frz B), some (.frz P), some (.frz (.int m)), some (.lst R)] = .ok (.ret (.frz (.tup R))) [some (.frz (.int n)), some (.frz B), some (.frz P), some (.frz (.int m)), some (.lst R)] := by
  simp [dEP6]
end
theorem ep_loop {b p n m j0 t : Nat} (h : PairT b p) (hn : n < 2 ^ 160) (hj : j0 ≤ t) (ht : t ≤ 1000000) (hm : its b p n t = m) (hf : ∀ j, j0 ≤ j → j < t → its b p n j ≠ m) :
    dEP3 [some (.frz (.int n)), some (.frz (.int b)), some (.frz (.int p)), some (.frz (.int m)), some (.lst (nats (row b p n (j0 + 1))))] = .ok .next [some (.frz (.int n)), some (.frz (.int b)), some (.frz (.int p)), some (.frz (.int m)), some (.lst (nats (row b p n (t + 1))))] := by
  have hlast : ∀ j, zIx (.lst (nats (row b p n (j + 1)))) (.int (-1)) = some (.val (.int ((its b p n j : Nat) : Int))) := fun j => by
    rw [row_succ]; exact nats_last _ _
  obtain ⟨Γ', e, rfl⟩ := whileN_ind (c := dEPC) (b := dEPB)
    (fun q Γ => ∃ j, q = t - j ∧ j0 ≤ j ∧ j ≤ t ∧ Γ = [some (.frz (.int n)), some (.frz (.int b)), some (.frz (.int p)), some (.frz (.int m)), some (.lst (nats (row b p n (j + 1))))])
    (fun Γ => Γ = [some (.frz (.int n)), some (.frz (.int b)), some (.frz (.int p)), some (.frz (.int m)), some (.lst (nats (row b p n (t + 1))))])
    (by
      rintro q Γ ⟨j, rfl, h1, h2, rfl⟩
      have c := ep_c (n := (n : Int)) (B := .int b) (P := .int p) (m := (m : Int)) (hlast j)
      rcases Nat.lt_or_eq_of_le h2 with z | rfl
      · have hne := hf j h1 z
        rw [decide_eq_false (show ¬ ((its b p n j : Nat) : Int) = (m : Int) by omega)] at c
        have eb := ep_b (n := (n : Int)) (m := (m : Int)) (hlast j) (stepN_ev h.stk (its_lt h.stk hn j)) (by rw [nats_len, row_len, big]; omega)
        refine .inr ⟨_, _, t - (j + 1), c, .inl eb, by omega, j + 1, rfl, by omega, by omega, ?_⟩
        rw [row_succ (m := j + 1), nats_app]; rfl
      · rw [decide_eq_true (show ((its b p n j : Nat) : Int) = (m : Int) by omega)] at c
        exact .inl ⟨_, c, rfl⟩)
    (t - j0) [some (.frz (.int n)), some (.frz (.int b)), some (.frz (.int p)), some (.frz (.int m)), some (.lst (nats (row b p n (j0 + 1))))] fuel (by have : fuel = 1000000000000 := rfl; omega) ⟨j0, rfl, Nat.le_refl _, hj, rfl⟩
  exact ep_3 e
theorem PapP.its {b p n i P m : Nat} (g : PapP b p n i P m) (k : Nat) : Fw.its b p n (i + k) = Fw.its b p m k := by
  rw [← its_add, g.at']
theorem PapP.back {b p n i P m : Nat} (g : PapP b p n i P m) : Fw.its b p n (i + P) = m := by rw [g.its, g.orb.back]; rfl
theorem PapP.mid {b p n i P m : Nat} (g : PapP b p n i P m) {j : Nat} (h1 : i < j) (h2 : j < i + P) : Fw.its b p n j ≠ m := by
  have := g.orb.dif 0 (j - i) (by omega) (by omega)
  rw [show j = i + (j - i) by omega, g.its]
  exact fun e => this e.symm
theorem ep_ev {b p n : Nat} (h : PairT b p) (hn : n < 2 ^ 160) : dEP [.frz (.int n), .frz (.int b), .frz (.int p)] = .ok (.frz (.tup (nats (papL b p n)))) [.frz (.int n), .frz (.int b), .frz (.int p)] := by
  obtain ⟨i, P, g, e1, e2⟩ := pap_ex h hn
  unfold papL
  rw [e1, e2]
  have hx : zIx (epD b p n) (.int 1) = some (.val (.int ((eQ b p n).2 : Nat))) := zIx_t (k := 1) rfl rfl
  have hlt : (eQ b p n).2 < 2 ^ 160 := by rw [← g.at']; exact its_lt h.stk hn i
  generalize (eQ b p n).2 = m at *
  have p0 := g.p0
  have p1 := g.p1
  have i1 := g.i1
  have c3 := ep_loop (j0 := 0) h hn (Nat.zero_le i) (by omega) g.at' (fun j _ hj => g.fst j hj)
  have c5 := ep_loop (j0 := i + 1) (t := i + P) h hn (by omega) (by omega) g.back (fun j h1 h2 => g.mid (by omega) h2)
  have c4 := ep_4 (n := (n : Int)) (R := nats (row b p n (i + 1))) (stepN_ev h.stk hlt) (by rw [nats_len, row_len, big]; omega)
  have hr : nats (row b p n (i + 1)) ++ [D.int ((st b p m : Nat) : Int)] = nats (row b p n (i + 1 + 1)) := by
    have : Fw.its b p n (i + 1) = st b p m := by rw [g.its]; rfl
    rw [row_succ (m := i + 1), nats_app, this]; rfl
  rw [hr] at c4
  have hh := seq2 (ep_1 (x3 := none) (x4 := none) (endQ_ev h hn) hx) (seq2 ep_2 (seq2 c3 (seq2 c4 (seq2 c5 ep_6))))
  simp only [dEP, dFun_ap, List.map_cons, List.map_nil, List.length_cons, List.length_nil, List.replicate, List.cons_append, List.nil_append, hh]
  simp
theorem papL_len {b p n : Nat} (h : PairT b p) (hn : n < 2 ^ 160) : 2 ≤ (papL b p n).length ∧ (papL b p n).length ≤ 400000 := by
  obtain ⟨i, P, g, e1, e2⟩ := pap_ex h hn
  have p0 := g.p0
  have p1 := g.p1
  have i1 := g.i1
  unfold papL
  rw [row_len, e1, e2]
  omega
/-- the paper of the step, but for the round's least number -/
theorem papL_step {b p n : Nat} (h : PairT b p) (hn : n < 2 ^ 160) (hne : n ≠ (eQ b p n).2) : papL b p (st b p n) = (papL b p n).drop 1 := by
  have hn1 : st b p n < 2 ^ 160 := st_lt h.stk hn
  obtain ⟨i, P, g, e1, e2⟩ := pap_ex h hn
  obtain ⟨i', P', g', e1', e2'⟩ := pap_ex h hn1
  have hq : (eQ b p (st b p n)).2 = (eQ b p n).2 := eQ_its h hn 1
  rw [hq] at g' e2'
  have hs : ∀ j, Fw.its b p (st b p n) j = Fw.its b p n (1 + j) := fun j => its_add 1 j
  have hi0 : i ≠ 0 := fun z => by
    subst z
    exact hne g.at'
  have hi : i' = i - 1 := by
    rcases Nat.lt_trichotomy i' (i - 1) with z | z | z
    · have := g.fst (1 + i') (by omega)
      rw [← hs] at this
      exact absurd g'.at' this
    · exact z
    · have := g'.fst (i - 1) z
      rw [hs, show 1 + (i - 1) = i by omega] at this
      exact absurd g.at' this
  unfold papL
  rw [e1, e2, e1', hq, e2, hi]
  refine List.ext_getElem? fun j => ?_
  rw [List.getElem?_drop]
  rcases Nat.lt_or_ge j (i - 1 + P + 1) with z | z
  · rw [row_at z, row_at (by omega), hs]
  · rw [List.getElem?_eq_none (by rw [row_len]; exact z), List.getElem?_eq_none (by rw [row_len]; omega)]
end Fw
namespace Fw
open PySem PySem.Spec PyProof.Rows L2

/-! ### for x in a list or a tuple; in a text; (int, text) < (int, text) -/
def iAnyT (K : PySem.W.Frag) (tl : TE) : TI := fun σ H R => tl σ H fun x H1 => ∃ a, x = .ref a ∧ (((∃ xs, SqL K H1 a xs) ∧ R (Itl K a) H1) ∨ ((∃ xs, SqT K H1 a xs) ∧ R (Itt K a) H1))
theorem pi_any {X : Cx} {tg l : Expr} {tl : TE} (hl : PE X l tl) : PI X tg l (iAnyT X.K tl) := by
  refine ⟨fun pins s σ H R I h => ?_⟩
  refine thn (hl.run pins s σ H _ I h) fun v s1 ⟨x, H1, I1, r1, q1⟩ => ?_
  obtain ⟨a, e, q1⟩ := q1
  subst e
  cases r1
  rcases q1 with ⟨⟨xs, hq⟩, q⟩ | ⟨⟨xs, hq⟩, q⟩
  · obtain ⟨its, rv, p, hz⟩ := I1.list hq
    refine wpAny_pyIter_list p.isList ?_
    refine ⟨s1.heap.objs.size, [s1.heap.objs.size], _, _, H1, rfl, I1.kept (t' := s1.toks) fun b o e => Heap.get?_push_of_some _ e, turn_list a _, ⟨_, Heap.get?_push_size _ rfl, rfl, rfl⟩, fun b hb => ?_, q⟩
    have e : b = s1.heap.objs.size := by simpa using hb
    subst e
    exact I1.fpOk (Nat.le_refl _) (I1.hok.fresh (Nat.le_refl _))
  · obtain ⟨its, rv, p, hz⟩ := I1.tuple hq
    refine wpAny_pyIter_tuple (show s1.heap.IsTuple a its.toArray from p) ?_
    refine ⟨s1.heap.objs.size, [s1.heap.objs.size], _, _, H1, rfl, I1.kept (t' := s1.toks) fun b o e => Heap.get?_push_of_some _ e, turn_tuple a _, ⟨_, Heap.get?_push_size _ rfl, rfl, rfl⟩, fun b hb => ?_, q⟩
    have e : b = s1.heap.objs.size := by simpa using hb
    subst e
    exact I1.fpOk (Nat.le_refl _) (I1.hok.fresh (Nat.le_refl _))
def iAny (e : Den) : Env → Out (List D) := bindO (dV e) fun d Γ => match d with
  | .lst ds => .ok ds Γ
  | .tup ds => .ok ds Γ
  | _ => .stuck
theorem si_any {K : PySem.W.Frag} {te : TE} {e : Den} (h : SE K te e) : SI K (iAnyT K te) (iAny e) := by
  intro σ Γ ds Γ' he Hf H fp E w R q
  obtain ⟨d, Γ1, h1, he⟩ := bindO_ok he
  refine SV.of h σ Γ d Γ1 h1 Hf H fp E w _ fun v Hf1 H1 fp1 E1 w1 s1 r1 => ?_
  split at he
  · cases he
    simp only [Rep] at r1
    obtain ⟨a, xs, rfl, ha, ra⟩ := r1
    have hs : ∀ Hf H, Ext Hf1 Hf → Same Hf H → SqL K H a xs := fun Hf2 H2 e2 sm => .inl (.inl (sm _ _ (e2.obj _ _ ha rfl)))
    refine ⟨a, rfl, .inl ⟨⟨xs, hs Hf1 H1 (Ext.refl _) w1.same⟩, q _ Hf1 H1 fp1 E1 w1 s1 fun i Hf2 H2 e2 sm _ => ⟨fun hi => ⟨xs, hs Hf2 H2 e2 sm, by rw [ra.len]; exact hi⟩, fun d hd => ?_⟩⟩⟩
    obtain ⟨x, hx, rx⟩ := ra.get hd
    refine ⟨⟨xs, x, hs Hf2 H2 e2 sm, hx⟩, fun y H' hy => ⟨.val d, rfl, hy.1, ?_⟩⟩
    have := hy.2 xs (hs Hf2 H2 e2 sm)
    rw [hx] at this; cases this
    exact Rep.ext e2 _ _ rx
  · cases he
    simp only [Rep] at r1
    obtain ⟨a, xs, rfl, ha, ra⟩ := r1
    have hs : ∀ Hf H, Ext Hf1 Hf → Same Hf H → SqT K H a xs := fun Hf2 H2 e2 sm => (Ext.of sm).seqT (e2.seqT ha)
    refine ⟨a, rfl, .inr ⟨⟨xs, hs Hf1 H1 (Ext.refl _) w1.same⟩, q _ Hf1 H1 fp1 E1 w1 s1 fun i Hf2 H2 e2 sm _ => ⟨fun hi => ⟨xs, hs Hf2 H2 e2 sm, by rw [ra.len]; exact hi⟩, fun d hd => ?_⟩⟩⟩
    obtain ⟨x, hx, rx⟩ := ra.get hd
    refine ⟨⟨xs, x, hs Hf2 H2 e2 sm, hx⟩, fun y H' hy => ⟨.val d, rfl, hy.1, ?_⟩⟩
    have := hy.2 xs (hs Hf2 H2 e2 sm)
    rw [hx] at this; cases this
    exact Rep.ext e2 _ _ rx
  · cases he
@[simp ↓] theorem iAny_ap {e : Den} {Γ : Env} : iAny e Γ = bindO (dV e) (fun d Γ => match d with | .lst ds => .ok ds Γ | .tup ds => .ok ds Γ | _ => .stuck) Γ := by unfold iAny; rfl
theorem i_any {F : Fam} {tg e : Expr} {de : Den} (h : PED F e de) : PID F tg e (iAny de) := let ⟨t, p1, s1⟩ := h; ⟨_, fun i => Fam.pi (t := fun K => iAnyT K t) (pi_any (p1 i)), si_any s1⟩
/-! a text -/
def iStrD (e : Den) : Env → Out (List D) := bindO (dV e) fun d Γ => match d with
  | .str x => .ok (signs x) Γ
  | _ => .stuck
theorem si_str {K : PySem.W.Frag} {te : TE} {e : Den} (h : SE K te e) : SI K (iStr te) (iStrD e) := by
  intro σ Γ ds Γ' he Hf H fp E w R q
  obtain ⟨d, Γ1, h1, he⟩ := bindO_ok he
  split at he
  · rename_i x
    cases he
    refine SV.of h σ Γ _ _ h1 Hf H fp E w _ fun v Hf1 H1 fp1 E1 w1 s1 r1 => ?_
    simp only [Rep] at r1
    subst r1
    refine ⟨x, rfl, q _ Hf1 H1 fp1 E1 w1 s1 fun i Hf2 H2 e2 sm _ => ⟨fun hi => ?_, fun d hd => ?_⟩⟩
    · show x.cps.size ≤ i
      simpa [signs] using hi
    · unfold signs at hd
      rw [List.getElem?_map, Option.map_eq_some_iff] at hd
      obtain ⟨c, hc, rfl⟩ := hd
      have hlt := (List.getElem?_eq_some_iff.mp hc).1
      refine ⟨by show i < x.cps.size; simpa using hlt, fun z H' hz => ?_⟩
      obtain ⟨e1, c', f, rfl⟩ := hz
      rw [Array.getElem?_toList] at hc
      rw [hc] at f; cases f
      exact ⟨.val (.str ⟨#[c]⟩), rfl, e1, by simp only [Rep]⟩
  · cases he
@[simp ↓] theorem iStrD_ap {e : Den} {Γ : Env} : iStrD e Γ = bindO (dV e) (fun d Γ => match d with | .str x => .ok (signs x) Γ | _ => .stuck) Γ := by unfold iStrD; rfl
theorem i_str {F : Fam} {tg e : Expr} {de : Den} (h : PED F e de) : PID F tg e (iStrD de) := let ⟨t, p1, s1⟩ := h; ⟨_, fun i => Fam.pi (t := fun _ => iStr t) (pi_str (p1 i)), si_str s1⟩
/-! (int, text) < (int, text) -/
def ltIS (i j : Int) (x y : Str) : Bool := if i = j then (if x = y then false else decide (x.cps.toList < y.cps.toList)) else decide (i < j)
def rLtIS (K : PySem.W.Frag) : R2 := fun x y H Q => ∃ (a b : Addr) (i j : Int) (s t : Str), x = .ref a ∧ y = .ref b ∧ SqT K H a [.int i, .str s] ∧ SqT K H b [.int j, .str t] ∧ Q (.bl (ltIS i j s t)) H
theorem RcOp.lt_strs {A : Around} {s : Shared} (a b : Str) (t u : Tok) : Ob.RcOp .Lt A s (.str a t) (.str b u) (decide (a.cps.toList < b.cps.toList)) := fun _ _ _ _ h => PyProof.Rows.lt_str h
theorem op_ltIS {X : Cx} (hu : X.A.units < cLine) : OpR X (compareOp .Lt) (rLtIS X.K) := by
  intro pins s σ H x y v u Q I rx ry h
  obtain ⟨a, b, i, j, p, q', rfl, rfl, ha, hb, q⟩ := h
  cases rx
  cases ry
  obtain ⟨its, r1, p1, _⟩ := I.tuple ha
  obtain ⟨its2, r2, p2, _⟩ := I.tuple hb
  obtain ⟨u1, u2, rfl, ri, rs⟩ := vals2 r1
  obtain ⟨v1, v2, rfl, rj, rt⟩ := vals2 r2
  obtain ⟨t1, rfl⟩ := ri
  obtain ⟨t2, rfl⟩ := rs
  obtain ⟨t3, rfl⟩ := rj
  obtain ⟨t4, rfl⟩ := rt
  have R := Ob.RcOp.tuples_lt (A := X.A) (s := s) (e := fun k => if k = 0 then decide (i = j) else decide (p = q')) (r := fun k => if k = 0 then decide (i < j) else decide (p.cps.toList < q'.cps.toList)) p1 p2 hu (fun k h1 h2 => by
    have hk : k = 0 ∨ k = 1 := by simp at h1; omega
    rcases hk with rfl | rfl
    · have z : (i == j) = decide (i = j) := by
        by_cases q : i = j
        · rw [decide_eq_true q]; exact beq_iff_eq.mpr q
        · rw [decide_eq_false q]; exact beq_eq_false_iff_ne.mpr q
      show SeqAt.EqAt _ _ (.int i t1) (.int j t3) (decide (i = j))
      rw [← z]
      exact SeqAt.EqAt.int_int _ _ _ _
    · show SeqAt.EqAt _ _ (.str p t2) (.str q' t4) (decide (p = q'))
      rw [← str_beq]
      exact SeqAt.EqAt.str_str _ _ _ _) (fun k h1 h2 _ => by
    have hk : k = 0 ∨ k = 1 := by simp at h1; omega
    rcases hk with rfl | rfl
    · exact Ob.RcOp.lt_int _ _ _ _
    · exact RcOp.lt_strs _ _ _ _)
  have hb : Ob.lexAt (fun k => if k = 0 then decide (i = j) else decide (p = q')) (fun k => if k = 0 then decide (i < j) else decide (p.cps.toList < q'.cps.toList)) (decide (2 < 2)) 0 2 = ltIS i j p q' := by
    unfold ltIS
    rw [Ob.lexAt_succ, Ob.lexAt_succ, Ob.lexAt_zero]
    by_cases c : i = j <;> by_cases d : p = q' <;> simp [c, d]
  have R2 : Ob.RcOp .Lt X.A s (.ref a) (.ref b) (ltIS i j p q') := by rw [← hb]; exact R
  have z : wpAny (model X.prog X.w) X.A (compareOp .Lt (.ref a) (.ref b)) (EP X pins σ Q) X.xe s := R2 X.prog X.w X.xe (EP X pins σ Q) ⟨.bl _, H, I, rfl, q⟩
  exact z
def zLtU (a b : D) : Option Z := match a, b with
  | .tup [.int i, .str x], .tup [.int j, .str y] => some (.val (.bl (ltIS i j x y)))
  | _, _ => none
theorem os_ltU {K : PySem.W.Frag} : OpS K (rLtIS K) zLtU := by
  intro Hf H x y dx dy z s hx hy hz Q q
  unfold zLtU at hz
  split at hz
  · rename_i i x j y
    cases hz
    obtain ⟨a, xs, rfl, ha, ra⟩ := hx.tup s
    obtain ⟨b, ys, rfl, hb, rb⟩ := hy.tup s
    simp only [RepL, Rep] at ra rb
    obtain ⟨_, _, rfl, rfl, _, _, rfl, rfl, rfl⟩ := ra
    obtain ⟨_, _, rfl, rfl, _, _, rfl, rfl, rfl⟩ := rb
    exact ⟨a, b, i, j, x, y, rfl, rfl, ha, hb, made_bl q⟩
  · cases hz
theorem cd_ltU {F : Fam} : CmpD F .Lt zLtU := ⟨_, fun i => Fam.op (r := rLtIS) (op_ltIS (by have := (F.room i).un; omega)), os_ltU⟩
end Fw
namespace Fw
open PySem PySem.Spec PyProof.Rows L2

/-! ### insert; x[a], x[b] = x[b], x[a]; a made list that is lent -/
def rIns : V → List V → Hp → VK → Prop := fun x vs H Q => ∃ (l : Addr) (xs : List V) (i : Int) (y : V), x = .ref l ∧ vs = [.int i, y] ∧ H l = some (.lst xs) ∧ xs.length < sizeLine ∧ 0 ≤ i ∧ i < 2 ^ 63 ∧ Q .non (upd H l (.lst (xs.take i.toNat ++ [y] ++ xs.drop i.toNat)))
def mInsert : List D → List D → Option (List D × D)
  | ds, [.int i, d] => if ds.length < big ∧ 0 ≤ i ∧ i < 1000000000 then some (ds.take i.toNat ++ [d] ++ ds.drop i.toNat, .non) else none
  | _, _ => none
theorem ms_insert {K : PySem.W.Frag} : MutS K rIns mInsert := by
  intro Hf H l xs vs ds as es d s hl rx ra hf Q q
  unfold mInsert at hf
  split at hf
  · rename_i i y
    split at hf
    · rename_i hb; cases hf
      simp only [RepL] at ra
      obtain ⟨u, _, rfl, ru, v, _, rfl, rv, rfl⟩ := ra
      simp only [Rep] at ru
      subst ru
      refine ⟨l, xs, i, v, rfl, rfl, hl, ?_, hb.2.1, by have := hb.2.2; omega, q _ _ ?_ (by simp only [Rep])⟩
      · have h1 := hb.1
        have h2 := big_le (show ds.length + 1 ≤ big by omega)
        rw [rx.len]; omega
      · have r1 : RepL K Hf [y] [v] := by simp only [RepL]; exact ⟨_, _, rfl, rv, rfl⟩
        exact ((rx.take _).append r1).append (rx.drop _)
    · cases hf
  · cases hf
section
variable {F : Fam} {e : Expr} {es : List Expr} {des : List Den}
theorem sd_insert {x : Str} {np apos cpos : Pos} (i : Nat) (ha : PVsD F (e :: es) des) (hN : F.N[i]? = some x := by rfl) (hv : L2.Vis F.sc x := by first | exact Or.inl rfl | exact Or.inr (Or.inl rfl) | exact Or.inr (Or.inr rfl)) (hd : (x == ("__debug__" : Str)) = false := by decide)
    (hcd : (x == ("__classdict__" : Str)) = false := by decide) (hbase : ∀ z, attributeBase (.Name x np) "insert" (F.X z).env (eval (.Name x np) (F.X z).env) = eval (.Name x np) (F.X z).env := by intro _; rfl)
    (hfew : ∀ env, ((backTo cpos (starEach (e :: es) env)).all (fun x => !x.1) && (backToKw cpos (keywordEach [] env)).all (fun x => x.1.isSome)
      && decide ((e :: es).length + ([] : List Keyword).length + (if ([] : List Keyword).isEmpty then 0 else 1) < 30)) = true := by intro _; rfl)
    (hline : (apos.endLine == cpos.line) = true := by rfl) (hs : ∀ env, starEach (e :: es) env = (false, eval e env) :: starEach es env := by intro _; rfl) (hplain : ∀ env, (backTo cpos (starEach es env)).any (·.1) = false := by intro _; rfl) :
    PED F (.Call (.Attribute (.Name x np) "insert" apos) (e :: es) [] cpos) (dMut mInsert i des) := by
  obtain ⟨t1, p1, s1⟩ := ha
  exact ⟨_, fun j => Fam.pe (t := fun K => tBM K "list" rIns (tVar i) t1) (pe_bm PySem.F.plainAttrs_list PySem.F.slot_list_insert PySem.F.type_list_insert mt_insert (pe_var (Fam.at hN j) (Fam.vis hv j) hd hcd) (p1 j) (hbase j) (hfew _) hline (hs _) (hplain _)), se_mut ms_insert s1⟩
end
/-! swap -/
def sSwap (i ka kb : Nat) : SDen := fun Γ => match Γ[i]?, Γ[ka]?, Γ[kb]? with
  | some (some (.lst ds)), some (some (.frz (.int a))), some (some (.frz (.int b))) => match ixN ds.length a, ixN ds.length b with
    | some na, some nb => match ds[na]?, ds[nb]? with
      | some da, some db => if i = ka ∨ i = kb then .stuck else .ok .next (Γ.set i (some (.lst ((ds.set na db).set nb da))))
      | _, _ => .stuck
    | _, _ => .stuck
  | _, _, _ => .stuck
theorem sw_get {Γ : Env} {i k : Nat} {ds : List D} {b : Int} {n : Nat} {d : D} (h1 : Γ[i]? = some (some (.lst ds))) (h2 : Γ[k]? = some (some (.frz (.int b)))) (h3 : ixN ds.length b = some n) (h4 : ds[n]? = some d) : dV (dBin zIx (dName i) (dName k)) Γ = .ok d Γ := by
  have hx : zIx (.lst ds) (.int b) = some (.val d) := by
    show (atI ds b).map Z.val = _
    unfold atI
    rw [h3, Option.bind_some, h4]; rfl
  have e3 : (T.lst ds).toD = some (.lst ds) := rfl
  simp [h1, h2, R.get, e3, hx]
theorem ss_swap {K : PySem.W.Frag} {js : List Nat} {te : TE} {i ka kb : Nat} (h : SE K te (dTup [dBin zIx (dName i) (dName kb), dBin zIx (dName i) (dName ka)])) :
    SS K js (tAsg te (gTup K 2 (gCons (gSub (tVar i) (tVar ka) rSetL) (gCons (gSub (tVar i) (tVar kb) rSetL) gNil)))) (sSwap i ka kb) := by
  intro σ Γ f Γ' he Hf H fp E w Dn q
  unfold sSwap at he
  split at he
  case h_2 => cases he
  rename_i ds a b hi hka hkb
  split at he
  case h_2 => cases he
  rename_i na nb hna hnb
  split at he
  case h_2 => cases he
  rename_i da db hda hdb
  split at he
  case isTrue => cases he
  rename_i hne
  cases he
  have hne1 : i ≠ ka := fun z => hne (.inl z)
  have hne2 : i ≠ kb := fun z => hne (.inr z)
  have hv : dTup [dBin zIx (dName i) (dName kb), dBin zIx (dName i) (dName ka)] Γ = .ok (.frz (.tup [db, da])) Γ := by
    simp only [dTup_ap, dVs_cons, dVs_nil, bindO_ap, sw_get hi hkb hnb hdb, sw_get hi hka hna hda]
  have hv2 : dV (dTup [dBin zIx (dName i) (dName kb), dBin zIx (dName i) (dName ka)]) Γ = .ok (.tup [db, da]) Γ := by
    rw [dV_ap, hv]
  refine SV.of h σ Γ _ Γ hv2 Hf H fp E w _ fun v Hf1 H1 fp1 E1 w1 s1 r1 => ?_
  simp only [Rep] at r1
  obtain ⟨p, xs, rfl, hp, rx⟩ := r1
  simp only [RepL] at rx
  obtain ⟨x1, _, rfl, rx1, x2, _, rfl, rx2, rfl⟩ := rx
  obtain ⟨l, ys, hvl, hl, ry, kk⟩ := E1.relist w1 hi
  obtain ⟨va, _, _, hva, oa, _⟩ := E1.split hka
  cases oa with | frz ra =>
  simp only [Rep] at ra
  subst ra
  obtain ⟨fp2, E2, w2, s2⟩ := kk (ds.set na db) (ys.set na x1) (ry.set rx1 na)
  have hi2 : (Γ.set i (some (.lst (ds.set na db))))[i]? = some (some (.lst (ds.set na db))) := List.getElem?_set_self (List.getElem?_eq_some_iff.mp hi).1
  have hkb2 : (Γ.set i (some (.lst (ds.set na db))))[kb]? = some (some (.frz (.int b))) := by rw [List.getElem?_set_ne hne2]; exact hkb
  obtain ⟨l2, zs, hvl2, hl2, rz, kk2⟩ := E2.relist w2 hi2
  rw [hvl] at hvl2; cases hvl2
  obtain ⟨vb, _, _, hvb, ob, _⟩ := E2.split hkb2
  cases ob with | frz rb =>
  simp only [Rep] at rb
  subst rb
  obtain ⟨fp3, E3, w3, s3⟩ := kk2 ((ds.set na db).set nb da) (zs.set nb x2) (rz.set rx2 nb)
  rw [List.set_set] at E3
  refine ⟨p, [x1, x2], rfl, (Ext.of w1.same).seqT hp, rfl, x1, [x2], rfl, .ref l, hvl, .int a, hva, l, ys, a, na, rfl, rfl, hl, by rw [ry.len]; exact hna, x2, [], rfl, .ref l, hvl, .int b, hvb, l, zs, b, nb, rfl, rfl, hl2, by rw [rz.len, List.length_set]; exact hnb, rfl, ?_⟩
  exact q σ Hf1 _ fp3 [] E3 (by simpa using w3) (by simpa using (s1.trans s2).trans s3) (Pin.refl _ _) rfl
theorem c_swap {F : Fam} {js : List Nat} (i ka kb : Nat) {x y z : Str} {p1 p2 p3 p4 p5 p6 p7 p8 q1 q2 pt pt2 pos s1 s2 : Pos} {kt k2}
    (hN : F.N[i]? = some x := by rfl) (hNa : F.N[ka]? = some y := by rfl) (hNb : F.N[kb]? = some z := by rfl)
    (hv : L2.Vis F.sc x := by first | exact Or.inl rfl | exact Or.inr (Or.inl rfl) | exact Or.inr (Or.inr rfl)) (hva : L2.Vis F.sc y := by first | exact Or.inl rfl | exact Or.inr (Or.inl rfl) | exact Or.inr (Or.inr rfl)) (hvb : L2.Vis F.sc z := by first | exact Or.inl rfl | exact Or.inr (Or.inl rfl) | exact Or.inr (Or.inr rfl))
    (hd : (x == ("__debug__" : Str)) = false := by decide) (hcd : (x == ("__classdict__" : Str)) = false := by decide) (hda : (y == ("__debug__" : Str)) = false := by decide) (hcda : (y == ("__classdict__" : Str)) = false := by decide) (hdb : (z == ("__debug__" : Str)) = false := by decide) (hcdb : (z == ("__classdict__" : Str)) = false := by decide)
    (he : PED F (.Tuple [.Subscript (.Name x p1) (.Name z p2) s1, .Subscript (.Name x p3) (.Name y p4) s2] k2 pt2) (dTup [dBin zIx (dName i) (dName kb), dBin zIx (dName i) (dName ka)]))
    (ha1 : ∀ env v, assign (.Subscript (.Name x p5) (.Name y p6) q1) env v = (do
      let ov ← holding [v] (eval (.Name x p5) env)
      let iv ← holding [v, ov] (eval (.Name y p6) env)
      standAt q1
      holding [v, ov, iv] (setItem ov iv v)
      release [v, ov, iv] []) := by intro _ _; rfl)
    (ha2 : ∀ env v, assign (.Subscript (.Name x p7) (.Name z p8) q2) env v = (do
      let ov ← holding [v] (eval (.Name x p7) env)
      let iv ← holding [v, ov] (eval (.Name z p8) env)
      standAt q2
      holding [v, ov, iv] (setItem ov iv v)
      release [v, ov, iv] []) := by intro _ _; rfl)
    (hn : ∀ env, (assignEach [.Subscript (.Name x p5) (.Name y p6) q1, .Subscript (.Name x p7) (.Name z p8) q2] env).length = 2 := by intro _; rfl) (hst : ∀ env, (assignEach [.Subscript (.Name x p5) (.Name y p6) q1, .Subscript (.Name x p7) (.Name z p8) q2] env).findIdx? (·.1) = none := by intro _; rfl)
    (hm1 : ∀ env, (assignEach [.Subscript (.Name x p5) (.Name y p6) q1, .Subscript (.Name x p7) (.Name z p8) q2] env).map (·.2) = assign (.Subscript (.Name x p5) (.Name y p6) q1) env :: (assignEach [.Subscript (.Name x p7) (.Name z p8) q2] env).map (·.2) := by intro _; rfl)
    (hm2 : ∀ env, (assignEach [.Subscript (.Name x p7) (.Name z p8) q2] env).map (·.2) = assign (.Subscript (.Name x p7) (.Name z p8) q2) env :: (assignEach [] env).map (·.2) := by intro _; rfl)
    (hs : ∀ i, swapsWithSole [.Tuple [.Subscript (.Name x p5) (.Name y p6) q1, .Subscript (.Name x p7) (.Name z p8) q2] kt pt] (.Tuple [.Subscript (.Name x p1) (.Name z p2) s1, .Subscript (.Name x p3) (.Name y p4) s2] k2 pt2) pos.line (F.X i).env = pure false := by intro _; rfl)
    (hw : ∀ i, swappedStores [.Tuple [.Subscript (.Name x p5) (.Name y p6) q1, .Subscript (.Name x p7) (.Name z p8) q2] kt pt] (.Tuple [.Subscript (.Name x p1) (.Name z p2) s1, .Subscript (.Name x p3) (.Name y p4) s2] k2 pt2) (F.X i).env = pure none := by intro _; rfl)
    (h1 : ∀ env, (assignEach [.Tuple [.Subscript (.Name x p5) (.Name y p6) q1, .Subscript (.Name x p7) (.Name z p8) q2] kt pt] env).map (·.2) = [assign (.Tuple [.Subscript (.Name x p5) (.Name y p6) q1, .Subscript (.Name x p7) (.Name z p8) q2] kt pt) env] := by intro _; rfl) :
    PSD F js (.Assign [.Tuple [.Subscript (.Name x p5) (.Name y p6) q1, .Subscript (.Name x p7) (.Name z p8) q2] kt pt] (.Tuple [.Subscript (.Name x p1) (.Name z p2) s1, .Subscript (.Name x p3) (.Name y p4) s2] k2 pt2) pos) (sSwap i ka kb) := by
  obtain ⟨t, pe, se⟩ := he
  refine ⟨_, fun j => ?_, ss_swap se⟩
  have hg : PG (F.X j) (.Tuple [.Subscript (.Name x p5) (.Name y p6) q1, .Subscript (.Name x p7) (.Name z p8) q2] kt pt) (gTup (F.X j).K 2 (gCons (gSub (tVar i) (tVar ka) rSetL) (gCons (gSub (tVar i) (tVar kb) rSetL) gNil))) :=
    pg_tup (F.calm j) (pgs_cons (pg_sub (pe_var (Fam.at hN j) (Fam.vis hv j) hd hcd) (pe_var (Fam.at hNa j) (Fam.vis hva j) hda hcda) set_list (ha1 _)) (pgs_cons (pg_sub (pe_var (Fam.at hN j) (Fam.vis hv j) hd hcd) (pe_var (Fam.at hNb j) (Fam.vis hvb j) hdb hcdb) set_list (ha2 _)) pgs_nil (hm2 _)) (hm1 _)) (hn _) (hst _)
  rw [F.hK j] at hg
  exact ps_asg (pe j) hg (hs j) (hw j) (h1 _)
/-! lent -/
def dCallT (f : FDen) (e : Den) (as : List Arg) : Den := bindO e fun r => match r with
  | .own t => bindO (dArgs as) fun avs Γ => liftO (takeArgs avs Γ) fun p => match f (t :: p.1) with
    | .ok t' outs => .ok (match t' with | .frz d => .frz d | t' => .own t') (putArgs avs (outs.drop 1) p.2)
    | .exc x outs => .exc x (putArgs avs (outs.drop 1) p.2)
    | .stuck => .stuck
  | _ => fun _ => .stuck
theorem se_callT {K : PySem.W.Frag} {f : FDen} {t0 : TE} {t : TA} {e : Den} {es : List Arg} {E0 : XK} (h0 : SE K t0 e) (h : SAs K t es) : SE K (tCall (spD K f) [] E0 (tCons t0 t)) (dCallT f e es) := by
  intro σ Γ res Γ' he Hf H fp E w Q q
  obtain ⟨r, Γ0, h00, he⟩ := bindO_ok he
  cases r with
  | frz => cases he
  | loc => cases he
  | own t1 =>
  obtain ⟨avs, Γ1, h1, he⟩ := bindO_ok he
  obtain ⟨⟨ts, Γc⟩, h2, he⟩ := liftO_ok he
  simp only at he
  split at he
  case h_2 => cases he
  case h_3 => cases he
  rename_i t' outs hf
  cases he
  refine h0 σ Γ _ Γ0 h00 Hf H fp E w _ fun v0 Hf0 H0 fp0 ft E0' w0 s0 res0 => ?_
  have o0 : Own K Hf0 H0 t1 v0 ft := res0
  refine h σ Γ0 avs Γ1 h1 Hf0 H0 fp0 E0' w0.left _ fun vs Hf1 H1 fp1 E1 w1 s1 r1 => ?_
  have nd0 := List.nodup_append.mp w0.nd
  have wf := w0.join o0.alloc w1 s1
  have sf := s1.frame ft
  have o1 : Own K Hf1 H1 t1 v0 ft := o0.stay s1.ext fun a ha o ea => s1.keep a o (fun z => nd0.2.2 a z a ha rfl) ea
  obtain ⟨fa, fr, o, Ec, p⟩ := E1.take r1 h2
  have pw : ((ft ++ fa) ++ fr).Perm (fp1 ++ ft) := List.perm_iff_count.mpr fun z => by
    have := p.count_eq z
    simp only [List.count_append] at *
    omega
  have wp := wf.perm pw
  have al := Ec.alloc
  show spD K f ((v0 :: vs) ++ []) H1 Q E0
  rw [List.append_nil]
  refine ⟨Hf1, t1 :: ts, ft ++ fa, t', outs, .cons o1 o, wp.left, hf, fun v Hf2 H2 fo fv o2 ov w2 s2 => ?_⟩
  cases o2 with
  | @cons tz vz tsz vsz g0 g1 oz o2' =>
  have s3 := s2.frame fr
  have w3 := wp.join al w2 s2
  have Ec2 : EnvR K Hf2 H2 σ Γc fr := Ec.stay s2.ext fun a ha o e => s2.keep a o (fun z => (List.nodup_append.mp wp.nd).2.2 a z a ha rfl) e
  obtain ⟨ndi, hni⟩ := takeArgs_ios h2
  obtain ⟨fp2, g, E2, p2⟩ := Ec2.back (r1.ext s2.ext) ndi hni o2'
  have pp : ((fp2 ++ fv) ++ (g ++ g0)).Perm (((g0 ++ g1) ++ fv) ++ fr) := List.perm_iff_count.mpr fun z => by
    have := p2.count_eq z
    simp only [List.count_append] at *
    omega
  have w4 := (w3.perm pp).left
  have s4 : Step Hf1 H1 (fp1 ++ ft) Hf2 H2 (fp2 ++ fv) := s3.perm (fun a => pw.mem_iff) fun a ha => pp.mem_iff.mp (by simp only [List.mem_append] at ha ⊢; exact .inl ha)
  refine q v Hf2 H2 fp2 fv E2 w4 ((s0.trans sf).trans s4) ?_
  cases t' with
  | frz d => cases ov with | frz r => exact ⟨r, rfl⟩
  | _ => exact ov
theorem sd_callT {F : Fam} {x : Str} {f : FDen} {e0 : Expr} {es : List Expr} {d0 : Den} {as : List Arg} {p pos : Pos} (C : Cal F x f) (h0 : PED F e0 d0) (ha : PAsD F es as) (hg : F.sc.names.lookup x = some .globalImplicit := by rfl) (hdb : (x == ("__debug__" : Str)) = false := by decide)
    (he : ∀ env, starEach (e0 :: es) env = (false, eval e0 env) :: starEach es env := by intro _; rfl) (hpl : ∀ env, (backTo pos (starEach es env)).any (fun x => x.1) = false := by intro _; rfl) : PED F (.Call (.Name x p) (e0 :: es) [] pos) (dCallT f d0 as) := by
  obtain ⟨t0, p0, s0⟩ := h0
  obtain ⟨t1, p1, s1⟩ := ha
  refine ⟨tCall (spD F.K f) [] E0 (tCons t0 t1), fun i => ?_, se_callT s0 s1⟩
  obtain ⟨a, fd, ps, m, kp, b, G⟩ := (C i).ex
  rw [← F.hK i, ← F.hmg i] at G
  rw [← F.hK i] at kp b
  rw [← F.hK i]
  exact pe_call (dvs := []) (E := E0) G (F.room i) (Fam.gl hg i) (Fam.mgx m i) kp b .nil pass0 (pa_cons (p0 i) (p1 i) (he _)) hdb (he _) (hpl _)
@[simp ↓] theorem dCallT_ap {f : FDen} {e : Den} {as : List Arg} {Γ : Env} : dCallT f e as Γ = bindO e (fun r => match r with
  | .own t => bindO (dArgs as) fun avs Γ => liftO (takeArgs avs Γ) fun p => match f (t :: p.1) with
    | .ok t' outs => .ok (match t' with | .frz d => .frz d | t' => .own t') (putArgs avs (outs.drop 1) p.2)
    | .exc x outs => .exc x (putArgs avs (outs.drop 1) p.2)
    | .stuck => .stuck
  | _ => fun _ => .stuck) Γ := by unfold dCallT; rfl
end Fw
namespace Fw
open PySem L2

/-! ### how many own numbers there are at most: by a sum of powers modulo X ^ M - 1 -/
def sm (f : Nat → Nat) : Nat → Nat
  | 0 => 0
  | n + 1 => sm f n + f n
theorem sm_add (f : Nat → Nat) (a : Nat) : ∀ c, sm f (a + c) = sm f a + sm (fun d => f (a + d)) c
  | 0 => rfl
  | c + 1 => by
    show sm f (a + c) + f (a + c) = _
    rw [sm_add f a c]
    show _ = sm f a + (sm (fun d => f (a + d)) c + f (a + c))
    omega
theorem sm_two (f : Nat → Nat) (b : Nat) : ∀ n, sm f (n * b) = sm (fun q => sm (fun d => f (q * b + d)) b) n
  | 0 => by simp [sm]
  | n + 1 => by
    rw [Nat.succ_mul, sm_add, sm_two f b n]
    rfl
theorem sm_mod {f g : Nat → Nat} {R : Nat} : ∀ n, (∀ i, i < n → f i % R = g i % R) → sm f n % R = sm g n % R
  | 0, _ => rfl
  | n + 1, h => by
    show (sm f n + f n) % R = (sm g n + g n) % R
    rw [Nat.add_mod, sm_mod n (fun i hi => h i (by omega)), h n (by omega), ← Nat.add_mod]
theorem sm_le {f : Nat → Nat} {B : Nat} : ∀ n, (∀ i, i < n → f i ≤ B) → sm f n ≤ n * B
  | 0, _ => by simp [sm]
  | n + 1, h => by
    have := sm_le n (fun i hi => h i (by omega))
    have := h n (by omega)
    show sm f n + f n ≤ _
    rw [Nat.succ_mul]; omega
theorem sm_c (c : Nat) (f : Nat → Nat) : ∀ n, sm (fun i => f i * c) n = sm f n * c
  | 0 => by simp [sm]
  | n + 1 => by
    show sm (fun i => f i * c) n + f n * c = (sm f n + f n) * c
    rw [sm_c c f n, Nat.add_mul]
theorem sm_prod (F G : Nat → Nat) (b : Nat) : ∀ n, sm (fun q => sm (fun d => F d * G q) b) n = sm F b * sm G n
  | 0 => by simp [sm]
  | n + 1 => by
    show sm (fun q => sm (fun d => F d * G q) b) n + sm (fun d => F d * G n) b = sm F b * (sm G n + G n)
    rw [sm_prod F G b n, sm_c, Nat.mul_add]
section
variable {X M : Nat}
theorem xm_one (hX : 1 ≤ X) : X ^ M % (X ^ M - 1) = 1 % (X ^ M - 1) := by
  have : 1 ≤ X ^ M := Nat.pow_pos hX
  have e : X ^ M = 1 + (X ^ M - 1) := by omega
  conv => lhs; lhs; rw [e]
  rw [Nat.add_mod_right]
theorem xe_mod (hX : 1 ≤ X) (e : Nat) : X ^ e % (X ^ M - 1) = X ^ (e % M) % (X ^ M - 1) := by
  conv => lhs; rw [← Nat.div_add_mod e M, Nat.pow_add, Nat.pow_mul, Nat.mul_mod, Nat.pow_mod, xm_one hX, ← Nat.pow_mod, ← Nat.mul_mod, Nat.one_pow, Nat.one_mul]
def hX (M b m j w N : Nat) : Nat := ssum b m j N + (M - 1) * (w * N)
def genX (X M b m : Nat) : Nat → Nat → Nat
  | 0, _ => 1
  | j + 1, w => sm (fun d => X ^ ((d ^ m + (M - 1) * (w * d)) % M)) b * genX X M b m j (w * b) % (X ^ M - 1)
theorem hX_low {M b m j w q d : Nat} (hd : d < b) : hX M b m (j + 1) w (q * b + d) = (d ^ m + (M - 1) * (w * d)) + hX M b m j (w * b) q := by
  have h1 : (q * b + d) / b = q := by rw [Nat.mul_comm, Nat.mul_add_div (by omega), Nat.div_eq_of_lt hd, Nat.add_zero]
  have h2 : (q * b + d) % b = d := by rw [Nat.mul_comm, Nat.mul_add_mod, Nat.mod_eq_of_lt hd]
  unfold hX
  rw [ssum_low, h1, h2, Nat.mul_add w, Nat.mul_add, Nat.mul_comm q b, ← Nat.mul_assoc w b q]
  omega
theorem gen_mod (hX1 : 1 ≤ X) {b m : Nat} : ∀ (j w : Nat), sm (fun N => X ^ (hX M b m j w N % M)) (b ^ j) % (X ^ M - 1) = genX X M b m j w % (X ^ M - 1)
  | 0, w => by
    have : hX M b m 0 w 0 = 0 := by simp [hX, ssum]
    simp [sm, genX, this]
  | j + 1, w => by
    rw [Nat.pow_succ, sm_two]
    show _ = (sm (fun d => X ^ ((d ^ m + (M - 1) * (w * d)) % M)) b * genX X M b m j (w * b) % (X ^ M - 1)) % (X ^ M - 1)
    rw [Nat.mod_mod, Nat.mul_mod, ← gen_mod hX1 j (w * b), ← Nat.mul_mod, ← sm_prod]
    refine sm_mod _ fun q _ => sm_mod _ fun d hd => ?_
    rw [← xe_mod hX1, hX_low hd, Nat.pow_add, Nat.mul_mod, xe_mod hX1 (d ^ m + (M - 1) * (w * d)), xe_mod hX1 (hX M b m j (w * b) q), ← Nat.mul_mod]
theorem cnt_eq {p : Nat → Bool} : ∀ n, ((List.range n).filter p).length = sm (fun N => if p N = true then 1 else 0) n
  | 0 => rfl
  | n + 1 => by
    rw [List.range_succ, List.filter_append, List.length_append, cnt_eq n]
    show _ = _ + (if p n = true then 1 else 0)
    by_cases c : p n = true
    · simp [c]
    · simp [c]
theorem gen_cnt {b m : Nat} (hM : 2 ≤ M) (hb : b ^ m < X) : ((List.range (b ^ m)).filter fun N => decide (hX M b m m 1 N % M = 0)).length = genX X M b m m 1 % (X ^ M - 1) % X := by
  have hX1 : 1 ≤ X := by omega
  have hX2 : 2 ≤ X ∨ b ^ m = 0 := by omega
  rw [← gen_mod hX1]
  generalize hS : sm (fun N => X ^ (hX M b m m 1 N % M)) (b ^ m) = S
  have hpos : 1 ≤ X ^ (M - 1) := Nat.pow_pos hX1
  have hSle : S ≤ b ^ m * X ^ (M - 1) := by
    rw [← hS]
    refine sm_le _ fun i _ => Nat.pow_le_pow_right hX1 ?_
    have := Nat.mod_lt (hX M b m m 1 i) (show 0 < M by omega)
    omega
  have hpw : X ^ M = X ^ (M - 1) * X := by rw [← Nat.pow_succ]; congr 1; omega
  rcases hX2 with hX2 | h0
  · have h2 : 2 ≤ X ^ (M - 1) := Nat.le_trans hX2 (by
      have : X ^ 1 ≤ X ^ (M - 1) := Nat.pow_le_pow_right hX1 (by omega)
      rwa [Nat.pow_one] at this)
    have h3 : (b ^ m + 1) * X ^ (M - 1) ≤ X * X ^ (M - 1) := Nat.mul_le_mul_right _ hb
    rw [Nat.succ_mul] at h3
    rw [Nat.mul_comm X] at h3
    have hlt : S < X ^ M - 1 := by omega
    rw [Nat.mod_eq_of_lt hlt, cnt_eq, ← hS]
    have hc : sm (fun N => if decide (hX M b m m 1 N % M = 0) = true then 1 else 0) (b ^ m) ≤ b ^ m * 1 := sm_le _ fun i _ => by split <;> omega
    rw [← Nat.mod_eq_of_lt (show sm (fun N => if decide (hX M b m m 1 N % M = 0) = true then 1 else 0) (b ^ m) < X by omega)]
    refine sm_mod _ fun i _ => ?_
    by_cases c : hX M b m m 1 i % M = 0
    · simp [c]
    · obtain ⟨k, hk⟩ : ∃ k, hX M b m m 1 i % M = k + 1 := ⟨hX M b m m 1 i % M - 1, by omega⟩
      rw [hk, Nat.pow_succ, Nat.mul_mod_left]
      simp
  · rw [h0] at hS ⊢
    have : S = 0 := hS.symm
    rw [this]; simp
end
theorem own_few {b m : Nat} (hb : 2 ≤ b) (hb2 : b ≤ 16) (hm : 1 ≤ m) (hm2 : m ≤ 6) {X M : Nat} (hM : 2 ≤ M) (hX0 : b ^ m < X) : (dueL b m).length ≤ genX X M b m m 1 % (X ^ M - 1) % X := by
  rw [← gen_cnt hM hX0]
  have hlo := lo_le (m := m) hb hm
  have hp := pow166 hb2 hm2
  have hsub : (dueL b m).Sublist ((List.range (b ^ m)).filter fun n => decide (st b m n = n)) := by
    have e : List.range (b ^ m) = List.range' 0 (loN b m) ++ List.range' (loN b m) (b ^ m - loN b m) := by
      have := List.range'_append (s := 0) (m := loN b m) (n := b ^ m - loN b m) (step := 1)
      rw [show loN b m + (b ^ m - loN b m) = b ^ m by omega, Nat.zero_add, Nat.one_mul] at this
      rw [List.range_eq_range', ← this]
    rw [e, List.filter_append]
    exact List.sublist_append_right _ _
  refine Nat.le_trans hsub.length_le ?_
  rw [← List.countP_eq_length_filter, ← List.countP_eq_length_filter]
  refine List.countP_mono_left fun n hn h => ?_
  have h := of_decide_eq_true h
  have hn := List.mem_range.mp hn
  have hs := st_ssum (b := b) (p := m) hb (by omega) hm m n hn (lt160 (by omega))
  refine decide_eq_true ?_
  unfold hX
  rw [← hs, h, Nat.one_mul]
  have : n + (M - 1) * n = M * n := by
    obtain ⟨k, rfl⟩ : ∃ k, M = k + 1 := ⟨M - 1, by omega⟩
    rw [Nat.succ_mul, Nat.add_sub_cancel]; omega
  rw [this, Nat.mul_mod_right]
theorem gen_all : ((List.range 17).all fun b => (List.range 7).all fun m => decide (genX 33554432 8191 b m m 1 % (33554432 ^ 8191 - 1) % 33554432 ≤ 4000)) = true := by decide +kernel
theorem own_len {b m : Nat} (hb : 2 ≤ b) (hb2 : b ≤ 16) (hm : 1 ≤ m) (hm2 : m ≤ 6) : (dueL b m).length ≤ 4000 := by
  have h := List.all_eq_true.mp gen_all b (by simp; omega)
  have h := List.all_eq_true.mp h m (by simp; omega)
  have h := of_decide_eq_true h
  have hp := pow166 hb2 hm2
  exact Nat.le_trans (own_few hb hb2 hm hm2 (by decide) (by omega)) h
end Fw
namespace Fw
open PySem PySem.Spec PyProof.Rows L2

/-! ### sorted(set(xs)), xs a tuple of whole numbers -/
section
variable {P : Program} {w : World} {A : Around} {E : Value → Shared → Prop} {s : Shared} {a : Addr}
theorem sorted_setW {S : Int → Bool} {n : Nat} {Q : Value → Shared → Prop} (R : SetR w s.heap a S n) (hh : A.handled = none)
    (hQ : ∀ s' p (out : List Value) (c : Nat) (ns : List Int), (∀ b o, s.heap.get? b = some o → s'.heap.get? b = some o) → s'.gens = s.gens → s'.os = s.os → s.heap.objs.size ≤ p →
      s'.heap.get? p = some (seqObj "list" out.toArray c) → IntsAre out ns → ns.Pairwise (· < ·) → (∀ k, k ∈ ns ↔ S k = true) → ns.length = n → Q (.ref p) s') :
    wpAny (model P w) A (call (.builtin "sorted") [.ref a]) Q E s := by
  obtain ⟨o, es, ep, t, ho, hex, hd, g, nd, hm, hb, hf, hn, hr, hl⟩ := R
  refine Calls.call_function_entry kind_sorted plain_sorted entry_sorted (args_sorted1 _) ?_
  unfold Builtin.«sorted»
  refine wpAny_bind (m := checkCount "sorted" 1 1 _) (wpAny_pure ?_)
  refine wpAny_bind (collect_set (A := A.in1) hh ⟨o, ho, hex.1, hd⟩ hf hb hr hl fun s1 vs k1 hz g1 o1 pm => ?_)
  have hvl : vs.length = n := by rw [pm.length_eq, List.length_map, Array.length_toList]; exact hn
  have hvs : vs.length ≤ sizeLine := by rw [pm.length_eq, List.length_map, Array.length_toList]; exact fits_of_scanBound hb
  have hI : IntsAre vs (vs.map Builtin.Re.reRawOf) := ints_of vs fun v hv => by
    obtain ⟨e, he, q⟩ := List.mem_map.mp (pm.mem_iff.mp hv)
    obtain ⟨k, tk, h1, _⟩ := g e he
    exact ⟨k, tk, by rw [← q]; exact h1⟩
  have pk : (vs.map Builtin.Re.reRawOf).Perm (es.toList.map keyOf) := by
    have q := pm.map Builtin.Re.reRawOf
    rw [List.map_map] at q
    exact q
  refine wpAny_bind (wpAny_newList ?_ hvs)
  have hoL : (s1.heap.push (seqObj "list" vs.toArray 0)).get? s1.heap.objs.size = some (seqObj "list" vs.toArray 0) := Heap.get?_push_size _ rfl
  refine wpAny_bind (wpAny_holding (wpAny_call_entry slot_list_sort ⟨_, hoL, rfl⟩ entry_list_sort ?_ (args_list_sort _)))
  refine SrtO.list_sort_ord SrtO.swo_int hoL hvs (fun h2 => SrtO.ints_sortable hI h2) fun out a1 a2 => ⟨_, rfl, ?_⟩
  obtain ⟨i1, i2, i3⟩ := SrtO.ints_out hI a1 a2
  obtain ⟨c, hc⟩ := sortedHeap_at (vs := vs) (out := out.toArray) hoL
  have pn : (out.map SrtO.iv).Perm (es.toList.map keyOf) := i2.trans pk
  refine wpAny_pure ⟨_, rfl, hQ _ s1.heap.objs.size out c (out.map SrtO.iv) (fun b u e => ?_) g1 o1 hz hc i1 (lt_of_le_nodup _ i3 (pn.nodup_iff.mpr nd)) (fun k => by rw [pn.mem_iff, ← hm k]) ?_⟩
  · have q := k1 b u e
    have hlt := Heap.lt_size q
    show (sortedHeap (s1.heap.push (seqObj "list" vs.toArray 0)) s1.heap.objs.size vs out.toArray).get? b = some u
    rw [sortedHeap_old (Nat.ne_of_lt hlt) (by rw [size_push']; exact Nat.lt_succ_of_lt hlt)]
    exact Heap.get?_push_of_some _ q
  · rw [pn.length_eq, List.length_map, Array.length_toList]; exact hn
end
def rSortSet (K : PySem.W.Frag) : V → Hp → VK → Prop := fun x H Q => ∃ (l : Addr) (ns : List Int), x = .ref l ∧ SqT K H l (ns.map V.int) ∧ ns.length ≤ 4000 ∧
  ∀ (ms : List Int) (p : Addr), ms.Pairwise (· < ·) → (∀ k, k ∈ ms ↔ k ∈ ns) → ms.length ≤ ns.length → H p = none → Q (.ref p) (upd H p (.lst (ms.map V.int)))
theorem pe_sortSet {X : Cx} {a : Expr} {ta : TE} {p p2 q pos : Pos} (hg : Gl X "sorted") (hm : X.mg "sorted" = none) (hg2 : Gl X "set") (hm2 : X.mg "set" = none) (ha : PE X a ta) (hc : X.calm = true)
    (na : starEach [a] X.env = (false, eval a X.env) :: starEach [] X.env := by rfl) : PE X (.Call (.Name "sorted" p) [.Call (.Name "set" p2) [a] [] q] [] pos) (fun σ H Q => ta σ H fun x H1 => rSortSet X.K x H1 Q) := by
  refine ⟨fun pins s σ H Q I h => ?_⟩
  refine Call_ (ld_blt I hg hm boot_sorted ?_)
  refine PyProof.Rows.callWith_builtin1 (PyProof.Rows.args_cons ?_ rfl) rfl rfl
  refine Call_ (ld_blt I hg2 hm2 boot_set ?_)
  refine PyProof.Rows.callWith_type1 (PyProof.Rows.args_cons (thn (ha.run pins s σ H _ I h) fun v s1 ⟨x, H1, I1, r1, q1⟩ => PyProof.Rows.args_nil ?_) na) na rfl
  obtain ⟨l, ns, rfl, hq, hl, q1⟩ := q1
  cases r1
  obtain ⟨its, rv, pt, hz⟩ := I1.tuple hq
  have hi : IntsAre its.toArray.toList ns := ints_of_vals rv
  have hd := I1.ok.hd hc
  refine call_set_tupI ns hd (show s1.heap.IsTuple l its.toArray from pt) hi (by unfold scanBound; omega) fun h' tk c R1 hcn k => ?_
  refine PyProof.Rows.args_nil ?_
  have I2 : Inv X pins σ H1 { s1 with heap := h', toks := tk } := I1.kept fun b o e => k b o e
  have R2 : SetR X.w ({ s1 with heap := h', toks := tk } : Shared).heap s1.heap.objs.size (fun j => decide (j ∈ ns)) c := R1
  revert I2 R2
  generalize ({ s1 with heap := h', toks := tk } : Shared) = s2
  intro I2 R2
  refine sorted_setW R2 hd fun s' p' out c' ms k' g o hp hgt hint hs hmm hlen => ?_
  have hle : (ms.map V.int).length ≤ sizeLine := by
    rw [List.length_map, sizeLine_eq]; omega
  have hn : H1 p' = none := I2.hok.fresh hp
  have J : Inv X pins σ (upd H1 p' (.lst (ms.map V.int))) { s2 with heap := s'.heap, gens := s'.gens, drawn := s'.drawn, toks := s'.toks } :=
    I2.call (ch := []) (Un.laid k' hp hn) (I2.hok.laid k' hp ⟨hle, out, c', vals_of_ints hint, hgt⟩) (by rw [g]; exact I2.bare) (fun _ z => nomatch z)
  have e : s' = { s2 with heap := s'.heap, gens := s'.gens, drawn := s'.drawn, toks := s'.toks } := by
    cases s'
    cases s2
    cases o
    rfl
  rw [e]
  exact ⟨.ref p', _, J, rfl, q1 ms p' hs (fun k => by rw [hmm]; exact decide_eq_true_iff) (by omega) hn⟩
/-- each once, in order -/
def dd : List Int → List Int
  | [] => []
  | x :: r => x :: (dd r).filter fun y => decide (y ≠ x)
theorem dd_mem {k : Int} : ∀ {ns : List Int}, k ∈ dd ns ↔ k ∈ ns
  | [] => by simp [dd]
  | x :: r => by
    simp only [dd, List.mem_cons, List.mem_filter, decide_eq_true_eq, dd_mem (ns := r)]
    constructor
    · rintro (h | ⟨h, _⟩)
      · exact .inl h
      · exact .inr h
    · rintro (h | h)
      · exact .inl h
      · by_cases c : k = x
        · exact .inl c
        · exact .inr ⟨h, c⟩
theorem dd_nd : ∀ (ns : List Int), (dd ns).Nodup
  | [] => by simp [dd]
  | x :: r => by
    refine List.nodup_cons.mpr ⟨fun h => ?_, List.Pairwise.filter _ (dd_nd r)⟩
    have := (List.mem_filter.mp h).2
    simp at this
def srtS (ns : List Int) : List Int := srt (dd ns)
theorem srtS_mem {k : Int} {ns : List Int} : k ∈ srtS ns ↔ k ∈ ns := (srt_perm (dd ns)).mem_iff.trans dd_mem
theorem srtS_lt (ns : List Int) : (srtS ns).Pairwise (· < ·) := lt_of_le_nodup _ (srt_le _) ((srt_perm (dd ns)).nodup_iff.mpr (dd_nd ns))
theorem lt_uniq {a b : List Int} (ha : a.Pairwise (· < ·)) (hb : b.Pairwise (· < ·)) (h : ∀ k, k ∈ a ↔ k ∈ b) : a = b := by
  have nd : ∀ {l : List Int}, l.Pairwise (· < ·) → l.Nodup := fun hl => hl.imp fun h e => by omega
  exact List.Perm.eq_of_pairwise (le := fun (x y : Int) => x < y) (fun x y _ _ h1 h2 => by omega) ha hb ((List.perm_ext_iff_of_nodup (nd ha) (nd hb)).mpr h)
theorem srtS_id {ns : List Int} (h : ns.Pairwise (· < ·)) : srtS ns = ns := lt_uniq (srtS_lt ns) h fun k => srtS_mem
def zSortSet : D → Option Z
  | .tup ds => (intsD ds).bind fun ns => if ns.length ≤ 4000 then some (.lst ((srtS ns).map D.int)) else none
  | _ => none
theorem us_sortSet {K : PySem.W.Frag} : UnS K (rSortSet K) zSortSet := by
  intro Hf H x dx z s t hz Q q
  unfold zSortSet at hz
  split at hz
  · rename_i ds
    rw [Option.bind_eq_some_iff] at hz
    obtain ⟨ns, hn, hz⟩ := hz
    split at hz
    · cases hz
      obtain ⟨a, xs, rfl, ha, ra⟩ := t.tup s
      rw [intsD_eq hn] at ra
      rw [ra.ints] at ha
      exact ⟨a, ns, rfl, ha, by assumption, fun ms p h1 h2 _ hp => by
        rw [lt_uniq h1 (srtS_lt ns) fun k => (h2 k).trans srtS_mem.symm]
        exact made_lst q (repL_ints _) hp⟩
    · cases hz
  · cases hz
section
variable {F : Fam} {a : Expr} {da : Den} {p p2 p3 pos : Pos}
theorem sd_sortSet (hm : F.mg "sorted" = none) (hm2 : F.mg "set" = none) (ha : PED F a da) (hg : F.sc.names.lookup ("sorted" : Str) = some .globalImplicit := by rfl) (hg2 : F.sc.names.lookup ("set" : Str) = some .globalImplicit := by rfl)
    (na : ∀ env, starEach [a] env = (false, eval a env) :: starEach [] env := by intro _; rfl) :
    PED F (.Call (.Name "sorted" p) [.Call (.Name "set" p2) [a] [] p3] [] pos) (dUn zSortSet da) :=
  let ⟨t0, p1, s1⟩ := ha; ⟨fun σ H Q => t0 σ H fun x H1 => rSortSet F.K x H1 Q, fun i => Fam.pe (t := fun K σ H Q => t0 σ H fun x H1 => rSortSet K x H1 Q) (pe_sortSet (Fam.gl hg i) (Fam.mgx hm i) (Fam.gl hg2 i) (Fam.mgx hm2 i) (p1 i) (F.calm i) (na _)), se_un us_sortSet s1⟩
end
end Fw
namespace Fw
open PySem L2

/-! ### what the laws of whole rounds share: least numbers in order, numbers by their figures -/
theorem rg_head {b p m l : Nat} (hl : perQ b p m = l) (h : 0 < l) : (rgL b p m)[0]? = some m := by
  unfold rgL
  rw [hl, row_at h]; rfl
theorem gk_max {b p : Nat} (h : PairN b p) : ∀ m, m < 2 ^ 160 → m ≤ st b p m → m ≤ gkF b p (topN b p) := fun m hm g => by
  rcases Nat.lt_or_ge (gkF b p (topN b p)) m with z | z
  · have := st_above h hm z; omega
  · exact z
theorem rows_ms {b p k : Nat} (h : PairT b p) (hk : k ≤ 1000000) : ∃ ms : List Nat, ms.Perm (lsts b p k) ∧ srtT (rdRows b p k) = ms.map (fun m => cst (rgL b p m)) := by
  have hp := srtT_perm (rdRows b p k)
  have hhd : ∀ m ∈ lsts b p k, ((cst (rgL b p m)).headD 0).toNat = m := fun m hm => by
    obtain ⟨l, l0, _, _, hl⟩ := per_pos h hk hm
    have := rg_head hl l0
    cases hr : rgL b p m with
    | nil => rw [hr] at this; simp at this
    | cons x r =>
      rw [hr] at this
      have : x = m := by simpa using this
      simp [cst, this]
  refine ⟨(srtT (rdRows b p k)).map fun r => (r.headD 0).toNat, ?_, ?_⟩
  · refine (hp.map _).trans ?_
    unfold rdRows
    rw [List.map_map]
    exact List.Perm.of_eq ((List.map_congr_left fun m hm => hhd m hm).trans (List.map_id _))
  · rw [List.map_map]
    conv => lhs; rw [← List.map_id (srtT (rdRows b p k))]
    refine List.map_congr_left fun r hr => ?_
    obtain ⟨m, hm, rfl⟩ := List.mem_map.mp (hp.mem_iff.mp hr)
    show cst (rgL b p m) = cst (rgL b p ((cst (rgL b p m)).headD 0).toNat)
    rw [hhd m hm]
theorem ltR_head {x y : Int} {r t : List Int} (h : x < y) : ltR (x :: r) (y :: t) = true := by
  unfold ltR
  simp only [List.map_cons]
  rw [PyProof.Rows.lex_true]
  exact .inl (decide_eq_true h)
theorem ms_sorted {b p k : Nat} (h : PairT b p) (hk : k ≤ 1000000) {ms : List Nat} (hp : ms.Perm (lsts b p k)) (hs : srtT (rdRows b p k) = ms.map (fun m => cst (rgL b p m))) : ms.Pairwise (· ≤ ·) := by
  have hw := srtT_srt (rdRows b p k)
  rw [hs, List.pairwise_map] at hw
  refine hw.imp_of_mem fun {x y} hx hy g => ?_
  rcases Nat.lt_or_ge y x with z | z
  · exfalso
    obtain ⟨l, l0, _, _, hl⟩ := per_pos h hk (hp.mem_iff.mp hx)
    obtain ⟨l', l0', _, _, hl'⟩ := per_pos h hk (hp.mem_iff.mp hy)
    have h1 := rg_head hl l0
    have h2 := rg_head hl' l0'
    cases hr : rgL b p x with
    | nil => rw [hr] at h1; simp at h1
    | cons u r =>
      cases ht : rgL b p y with
      | nil => rw [ht] at h2; simp at h2
      | cons v t =>
        rw [hr] at h1
        rw [ht] at h2
        have h1 : u = x := by simpa using h1
        have h2 : v = y := by simpa using h2
        rw [hr, ht] at g
        have := ltR_head (x := (v : Int)) (y := (u : Int)) (r := cst t) (t := cst r) (by omega)
        have g : ltR ((v : Int) :: cst t) ((u : Int) :: cst r) = false := g
        rw [this] at g; cases g
  · exact z
theorem lsts_eq {b p k m : Nat} (h : PairT b p) (hk : k ≤ 1000000) (hm : m ∈ lsts b p k) : (eQ b p m).2 = m ∧ m < 2 ^ 160 := by
  obtain ⟨n, h1, rfl⟩ := (lsts_mem h hk).mp hm
  have hn : n < 2 ^ 160 := lt160 (by omega)
  obtain ⟨i, e⟩ := eQ_reach h hn
  have := eQ_its h hn i
  rw [e] at this
  exact ⟨this, by rw [← e]; exact its_lt h.stk hn i⟩
structure MsOk (b p : Nat) (ms : List Nat) : Prop where
  perm : ms.Perm (lsts b p (gkF b p (topN b p) + 1))
  srt : ms.Pairwise (· ≤ ·)
  eqs : rdsT b p = ms.map (rgD b p)
theorem ms_ex {b p : Nat} (h : PairT b p) (hN : PairN b p) : ∃ ms, MsOk b p ms := by
  have hg := gk_small hN
  obtain ⟨ms, h1, h2⟩ := rows_ms (k := gkF b p (topN b p) + 1) h (by omega)
  refine ⟨ms, h1, ms_sorted h (by omega) h1 h2, ?_⟩
  unfold rdsT
  rw [h2, List.map_map]
  refine List.map_congr_left fun m _ => ?_
  show D.tup ((cst (rgL b p m)).map D.int) = rgD b p m
  rw [← nats_cst]; rfl
theorem heads_ev {b p : Nat} (h : PairT b p) (hN : PairN b p) {ms : List Nat} (hms : MsOk b p ms) {put : Put} {e : Env → Out D} {vs : List Nat} {Γ : Env} (he : ∀ m, zIx (rgD b p m) (.int 0) = some (.val (.int (m : Int))) → ∃ Γ1 Γ3, put (rgD b p m) Γ = some Γ1 ∧ e Γ1 = .ok (.int (m : Int)) Γ3 ∧ wipeE Γ3 vs = Γ) :
    compL put dYes e vs (ms.map (rgD b p)) [] Γ = .ok (nats ms) Γ := by
  have hg := gk_small hN
  have : ∀ (l : List Nat) (acc : List D), (∀ m ∈ l, m ∈ lsts b p (gkF b p (topN b p) + 1)) → compL put dYes e vs (l.map (rgD b p)) acc Γ = .ok (acc ++ nats l) Γ := by
    intro l
    induction l with
    | nil => intro acc _; simp [compL, nats]
    | cons m l ih =>
      intro acc hl
      obtain ⟨P, P0, _, _, hP⟩ := per_pos h (by omega) (hl m (by simp))
      have h0 : zIx (rgD b p m) (.int 0) = some (.val (.int (m : Int))) := by
        refine zIx_t (k := 0) ?_ rfl
        have := rg_head hP P0
        simp [nats, this]
      obtain ⟨Γ1, Γ3, h1, h2, h3⟩ := he m h0
      have hc : nats (m :: l) = D.int (m : Int) :: nats l := rfl
      simp only [List.map_cons, compL, h1, dYes_ap, bindO_ap, if_true, h2, h3]
      rw [ih _ fun q hq => hl q (by simp [hq]), hc]
      simp
  have := this ms [] fun m hm => hms.perm.mem_iff.mp hm
  simpa using this
theorem zSortU_nats {ms : List Nat} (h : ms.Pairwise (· ≤ ·)) : zSortU [.lst (nats ms)] = some (.lst (nats ms)) := by
  have e : srt (cst ms) = cst ms := (srt_eq (List.Perm.refl _) (by
    unfold cst
    rw [List.pairwise_map]
    exact h.imp fun g => by omega)).symm
  unfold zSortU
  rw [zSorted_l, e, nats_cst]
theorem zNe_nl (fs : List Nat) : zNe (.lst (nats fs)) (.lst []) = some (.val (.bl (!decide (fs = [])))) := by
  have h := zEq_ints (cst fs) []
  rw [← nats_cst, List.map_nil] at h
  unfold zEq at h
  have s1 : shp (.lst (nats fs)) = true := shp_nats fs
  have s2 : shp (.lst []) = true := shp_nats []
  rw [s1, s2] at h
  have h := D.bl.inj (Z.val.inj (Option.some.inj h))
  unfold zNe
  rw [s1, s2, h]
  show some (Z.val (.bl (!decide (cst fs = [])))) = _
  have e : (cst fs = []) ↔ (fs = []) := by unfold cst; exact List.map_eq_nil_iff
  congr 3
  by_cases c : fs = []
  · rw [decide_eq_true c, decide_eq_true (e.mpr c)]
  · rw [decide_eq_false c, decide_eq_false (fun z => c (e.mp z))]
theorem numBy_snoc (b d : Nat) : ∀ (fs : List Nat) (a : Nat), numBy b (fs ++ [d]) a = numBy b fs a * b + d
  | [], a => rfl
  | f :: fs, a => numBy_snoc b d fs (a * b + f)
theorem st_numBy {b p : Nat} (hb : 2 ≤ b) (hb2 : b < 1000) (hp : 1 ≤ p) : ∀ (k : Nat) (fs : List Nat), fs.length = k → (∀ f ∈ fs, f < b) → numBy b fs 0 < 2 ^ 160 → st b p (numBy b fs 0) = (fs.map (· ^ p)).sum
  | 0, fs, hk, _, _ => by
    have := List.eq_nil_of_length_eq_zero hk
    subst this
    exact st_z hb hb2 hp
  | k + 1, fs, hk, hf, hl => by
    have hne : fs ≠ [] := fun e => by rw [e] at hk; simp at hk
    obtain ⟨gs, d, rfl⟩ : ∃ gs d, fs = gs ++ [d] := ⟨fs.dropLast, fs.getLast hne, (List.dropLast_concat_getLast hne).symm⟩
    have hd : d < b := hf d (by simp)
    rw [numBy_snoc] at hl ⊢
    have hle : numBy b gs 0 ≤ numBy b gs 0 * b := Nat.le_mul_of_pos_right _ (by omega)
    have ih := st_numBy (p := p) hb hb2 hp k gs (by simpa using hk) (fun f h => hf f (by simp [h])) (by omega)
    rw [st_rec0 hb hb2 hp hl]
    have e1 : (numBy b gs 0 * b + d) / b = numBy b gs 0 := by
      rw [Nat.mul_comm, Nat.mul_add_div (by omega), Nat.div_eq_of_lt hd, Nat.add_zero]
    have e2 : (numBy b gs 0 * b + d) % b = d := by
      rw [Nat.mul_comm, Nat.mul_add_mod, Nat.mod_eq_of_lt hd]
    rw [e1, e2, ih]
    simp
theorem perm_sum {l m : List Nat} (h : l.Perm m) : l.sum = m.sum := by
  induction h with
  | nil => rfl
  | cons x _ ih => simp [ih]
  | swap x y l => simp; omega
  | trans _ _ h1 h2 => exact h1.trans h2
theorem pop_nats {fs : List Nat} {r : Nat} (h : r < fs.length) (hl : fs.length ≤ 1000) : mPopAt (nats fs) [.int (r : Int)] = some (nats (fs.eraseIdx r), .int ((fs[r] : Nat) : Int)) := by
  have hs : smallI (r : Int) = true := small_of (by omega) (by omega)
  have hi : ixN (nats fs).length (r : Int) = some r := by
    unfold ixN
    rw [nats_len, if_pos (by omega), if_pos (by omega), Int.toNat_natCast]
  have hg : (nats fs)[r]? = some (.int ((fs[r] : Nat) : Int)) := by
    unfold nats
    rw [List.getElem?_map, List.getElem?_eq_getElem h]; rfl
  have he : (nats fs).eraseIdx r = nats (fs.eraseIdx r) := by
    rw [List.eraseIdx_eq_take_drop_succ, List.eraseIdx_eq_take_drop_succ, nats_app, nats_take, nats_drop]
  simp only [mPopAt, hs, hi, hg, he, if_true]
theorem erase_perm {l : List Nat} {i : Nat} (h : i < l.length) : (l[i] :: l.eraseIdx i).Perm l := by
  rw [List.eraseIdx_eq_take_drop_succ]
  have e : l = l.take i ++ l[i] :: l.drop (i + 1) := by
    rw [List.getElem_cons_drop h, List.take_append_drop]
  conv => rhs; rw [e]
  exact List.perm_middle.symm

theorem pair_of {b m : Nat} (hb : 2 ≤ b) (hb2 : b ≤ 16) (hm : 1 ≤ m) (hm2 : m ≤ 6) (h : (b - 1) ^ m ≤ 1000) : PairOk (b : Int) (m : Int) := by
  have c : ((List.range 17).all fun b => (List.range 7).all fun m => decide (2 ≤ b → 1 ≤ m → (b - 1) ^ m ≤ 1000 → ((m - 1 : Nat) : Int) < (mostL[b - 2]?.getD 0))) = true := by decide +kernel
  have c := List.all_eq_true.mp c b (by simp; omega)
  have c := of_decide_eq_true (List.all_eq_true.mp c m (by simp; omega)) hb hm h
  have hl : b - 2 < mostL.length := by
    show b - 2 < 15
    omega
  rw [List.getElem?_eq_getElem hl] at c
  exact ⟨b - 2, m - 1, _, by omega, List.getElem?_eq_getElem hl, by omega, by omega, c⟩
end Fw
namespace Fw
open PySem L2

/-! ### a comprehension over a list of its own that stays its own -/
theorem comp_core {K : PySem.W.Frag} {g : TG} {put : Put} {tt : TT} {c : DenT} {te : TE} {e : Den} {vs : List Nat} (hg : SG K g put vs) (hc : ST K tt c) (he : SE K te e)
    {σ : L2.St} {Γ1 Γ' : Env} {Hf1 H1 H0 : Hp} {fp1 : List Addr} {J : It} {ds accF : List D} (hbig : ds.length ≤ big) (h2 : compL put c (dV e) vs ds [] (wipeE Γ1 vs) = .ok accF Γ') (E1 : EnvR K Hf1 H1 σ Γ1 fp1) (w1 : Wd K Hf1 H1 fp1) (itok : ItOk K Hf1 H1 fp1 J ds)
    {Q : VK} (q : ∀ Dl Hf' H' fp' xs, EnvR K Hf' H' σ Γ' fp' → (∀ i t, Γ'[i]? = some (some t) → i ∉ vs) → Wd K Hf' H' (fp' ++ [Dl]) → Step Hf1 H1 fp1 Hf' H' (fp' ++ [Dl]) → H' Dl = some (.lst xs) → RepL K Hf' accF xs → H1 Dl = none → Q (.ref Dl) H') :
    tLc (fun _ _ R => R J H1) g tt te vs σ H0 Q := by
  intro Dl hD
  obtain ⟨fw, Ew, sw⟩ := E1.wipe vs
  have hDfp : Dl ∉ fp1 := fun z => E1.alloc Dl z hD
  have hDf : Hf1 Dl = none := w1.same.free hD
  -- the world at a turn
  refine ⟨fun i m H => m = ds.length - i ∧ i ≤ ds.length ∧ ∃ Γ Hf fp acc xs, compL put c (dV e) vs (ds.drop i) acc Γ = .ok accF Γ' ∧ acc.length ≤ i ∧ EnvR K Hf H (L2.wipe σ vs) Γ fp ∧ (∀ i t, Γ[i]? = some (some t) → i ∉ vs) ∧ Wd K Hf H (fp ++ [Dl]) ∧ Step Hf1 H1 fp1 Hf H (fp ++ [Dl]) ∧ H Dl = some (.lst xs) ∧ RepL K Hf acc xs,
    ⟨_, rfl, Nat.zero_le _, wipeE Γ1 vs, Hf1, fw, [], [], by simpa using h2, Nat.le_refl _, Ew.stay (Ext.refl _) fun a _ o e => same_new hD a o e, fun i t e => (wipeE_none e).1, ?_, ?_, upd_same, by simp [RepL]⟩, ?_⟩
  · refine ⟨w1.same.trans (same_new hD), List.nodup_append.mpr ⟨w1.nd.sublist sw, by simp, fun a ha b hb e => ?_⟩, fun a ha => ?_⟩
    · simp at hb; subst hb; subst e; exact hDfp (sw.subset ha)
    · rcases List.mem_append.mp ha with z | z
      · exact w1.nf a (sw.subset z)
      · simp at z; subst z; exact hDf
  · refine ⟨Ext.refl _, fun a o _ e => same_new hD a o e, fun a ha => ?_, fun a _ e _ => e⟩
    rcases List.mem_append.mp ha with z | z
    · exact .inl (sw.subset z)
    · simp at z; subst z; exact .inr hD
  rintro i m H ⟨rfl, hil, Γ, Hf, fp, acc, xs, hcl, hacc, E, hv, w, s, hx, rx⟩
  have ok := itok i Hf H s.ext w.same fun a o ha e => s.keep a o ha e
  by_cases hlt : i < ds.length
  · right
    have hd : ds[i]? = some ds[i] := List.getElem?_eq_getElem hlt
    obtain ⟨go, yl⟩ := ok.2 _ hd
    have hdr : ds.drop i = ds[i] :: ds.drop (i + 1) := List.drop_eq_getElem_cons hlt
    rw [hdr] at hcl
    simp only [compL] at hcl
    split at hcl
    · cases hcl
    rename_i Γ2 hp2
    obtain ⟨b, Γ3, h3, hcl⟩ := bindO_ok hcl
    refine ⟨go, fun H' => ∃ Γ Hf fp acc xs, compL put c (dV e) vs (ds.drop (i + 1)) acc Γ = .ok accF Γ' ∧ acc.length ≤ i + 1 ∧ EnvR K Hf H' (L2.wipe σ vs) Γ fp ∧ (∀ i t, Γ[i]? = some (some t) → i ∉ vs) ∧ Wd K Hf H' (fp ++ [Dl]) ∧ Step Hf1 H1 fp1 Hf H' (fp ++ [Dl]) ∧ H' Dl = some (.lst xs) ∧ RepL K Hf acc xs,
      fun H' h => ⟨ds.length - (i + 1), by omega, rfl, hlt, h⟩, fun x H' y => ?_⟩
    obtain ⟨z, hz, mz⟩ := yl x H' y
    -- Dl beside
    have dn : Dl ∉ fp := fun z => (List.nodup_append.mp w.nd).2.2 Dl z Dl (by simp) rfl
    obtain ⟨Hf2, E2, w2, s2, r2⟩ := mz.frz E w.left hz
    refine hg (L2.wipe σ vs) Γ ds[i] Γ2 hp2 Hf2 H' fp x E2 w2 r2 _ fun σ3 fp3 E3 w3 m3 o3 l3 => ?_
    have ew : L2.wipe σ3 vs = L2.wipe σ vs := (wipe_eq l3 o3).trans wipe_wipe
    refine ⟨ew, ?_⟩
    have alD : ∀ a ∈ [Dl], H a ≠ none := fun a ha => by simp at ha; subst ha; rw [hx]; simp
    refine hc σ3 Γ2 b Γ3 h3 Hf2 H' fp3 E3 w3 _ fun Hf4 H4 fp4 E4 w4 s4 => ?_
    have st4 : Step Hf H fp Hf4 H4 fp4 := (s2.trans (Step.sub m3)).trans s4
    cases b with
    | false =>
      rw [if_neg Bool.false_ne_true]
      rw [if_neg Bool.false_ne_true] at hcl
      have w5 := w.join alD w4 st4
      obtain ⟨f5, E5, sb5⟩ := E4.wipe vs
      rw [ew] at E5
      refine ⟨wipeE Γ3 vs, Hf4, f5, acc, xs, hcl, by omega, E5, fun i t e => (wipeE_none e).1, ?_, ?_, st4.keep Dl _ dn hx, RepL.ext st4.ext _ _ rx⟩
      · exact ⟨w5.same, w5.nd.sublist (sb5.append_right _), fun a ha => w5.nf a ((sb5.append_right _).subset ha)⟩
      · exact (s.trans (st4.frame [Dl])).trans (Step.sub (sb5.append_right _).subset)
    | true =>
      rw [if_pos rfl]
      rw [if_pos rfl] at hcl
      obtain ⟨yd, Γ5, h5, hcl⟩ := bindO_ok hcl
      refine SV.of he σ3 Γ3 yd Γ5 h5 Hf4 H4 fp4 E4 w4 _ fun yv Hf5 H5 fp5 E5 w5 s5 r5 => ?_
      have st5 := st4.trans s5
      have hx5 : H5 Dl = some (.lst xs) := st5.keep Dl _ dn hx
      have rx5 := RepL.ext st5.ext _ _ rx
      refine ⟨xs, hx5, by rw [rx.len]; exact big_lt (by omega), ?_⟩
      have w6 := w.join alD w5 st5
      obtain ⟨f6, E6, sb6⟩ := E5.wipe vs
      rw [ew] at E6
      have dn6 : Dl ∉ f6 := fun z => (List.nodup_append.mp w6.nd).2.2 Dl (sb6.subset z) Dl (by simp) rfl
      have hf5 : Hf5 Dl = none := w6.nf Dl (by simp)
      refine ⟨wipeE Γ5 vs, Hf5, f6, acc ++ [yd], xs ++ [yv], hcl, by simp; omega, E6.stay (Ext.refl _) fun a ha o e => by rw [upd_ne (show a ≠ Dl from fun z => dn6 (by rw [← z]; exact ha))]; exact e, fun i t e => (wipeE_none e).1, ?_, ?_, upd_same, rx5.snoc r5⟩
      · refine ⟨fun a o ea => ?_, w6.nd.sublist (sb6.append_right _), fun a ha => w6.nf a ((sb6.append_right _).subset ha)⟩
        rw [upd_ne (ne_of_none ea hf5)]
        exact w6.same a o ea
      · refine (s.trans (st5.frame [Dl])).trans ⟨Ext.refl _, fun a o ha ea => ?_, fun a ha => .inl ((sb6.append_right _).subset ha), fun a _ ea _ => ea⟩
        rw [upd_ne (show a ≠ Dl from fun z => ha (by simp [z]))]
        exact ea
  · left
    have hdr : ds.drop i = [] := List.drop_eq_nil_of_le (by omega)
    rw [hdr] at hcl
    simp only [compL] at hcl
    cases hcl
    refine ⟨ok.1 (by omega), q Dl Hf H fp xs (E.congr (by rw [wipe_length]) fun i t e => (wipe_out (hv i t e)).symm) (fun i t e => (hv i t e)) w s hx rx hD⟩

def dCompB (i : Nat) (put : Put) (c : DenT) (e : Den) (vs : List Nat) : Den := fun Γ => match Γ[i]? with
  | some (some (.lst ds)) => if ds.length ≤ big ∧ i ∉ vs then bindO (compL put c (dV e) vs ds []) (fun acc Γ => match Γ[i]? with
      | some none => .ok (.own (.lst acc)) (Γ.set i (some (.lst ds)))
      | _ => .stuck) (wipeE (Γ.set i none) vs) else .stuck
  | _ => .stuck
theorem se_compB {K : PySem.W.Frag} {i : Nat} {g : TG} {put : Put} {tt : TT} {c : DenT} {te : TE} {e : Den} {vs : List Nat} (hg : SG K g put vs) (hc : ST K tt c) (he : SE K te e) :
    SE K (tLc (iList K (tVar i)) g tt te vs) (dCompB i put c e vs) := by
  intro σ Γ r Γ' hd Hf H fp E w Q q
  unfold dCompB at hd
  split at hd
  case h_2 => cases hd
  rename_i ds hi
  split at hd
  case isFalse => cases hd
  rename_i hbig
  obtain ⟨hbig, hiv⟩ := hbig
  obtain ⟨accF, Γ2, h2, hd⟩ := bindO_ok hd
  split at hd
  case h_2 => cases hd
  rename_i hn
  cases hd
  obtain ⟨v, f1, f2, hv, o, E2, p⟩ := E.split hi
  cases o with
  | @lst _ a xs ha ra =>
    have wp : Wd K Hf H ([a] ++ f2) := w.perm p
    have w2' : Wd K Hf H (f2 ++ [a]) := wp.perm List.perm_append_comm
    have w2 : Wd K Hf H f2 := wp.right
    have na : a ∉ f2 := fun z => (List.nodup_append.mp wp.nd).2.2 a (by simp) a z rfl
    have nf : Hf a = none := wp.nf a (by simp)
    unfold tLc iList
    refine ⟨_, hv, a, rfl, ⟨xs, .inl (.inl ha)⟩, ?_⟩
    have itok : ItOk K Hf H f2 (Itl K a) ds := by
      intro j Hf2 H2 e2 sm kp
      have hs : SqL K H2 a xs := .inl (.inl (kp a _ na ha))
      refine ⟨fun hj => ⟨xs, hs, by rw [ra.len]; exact hj⟩, fun d hd => ?_⟩
      obtain ⟨x, hx, rx⟩ := ra.get hd
      refine ⟨⟨xs, x, hs, hx⟩, fun y H3 hy => ⟨.val d, rfl, hy.1, ?_⟩⟩
      have := hy.2 xs hs
      rw [hx] at this; cases this
      exact Rep.ext e2 _ _ rx
    refine comp_core (H0 := H) (J := Itl K a) hg hc he hbig h2 E2 w2 itok fun Dl Hf' H' fp' xs' E' hvs w' s' hx rx hD => ?_
    have hne : H a ≠ none := by rw [ha]; simp
    have ha' := s'.keep a _ na ha
    obtain ⟨f3, E3, p3⟩ := E'.fill hn hv (Own.lst ha' (RepL.ext s'.ext _ _ ra))
    have w3 : Wd K Hf' H' (fp' ++ [Dl] ++ [a]) := Wd.join (w2' : Wd K Hf H (f2 ++ [a])) (fun x hx => by simp at hx; subst hx; exact hne) w' s'
    have pp : (f3 ++ [Dl]).Perm (fp' ++ [Dl] ++ [a]) := by
      refine (p3.symm.append_right [Dl]).trans ?_
      rw [List.append_assoc]
      exact List.perm_append_comm
    have s3 := s'.frame [a]
    have pf : (f2 ++ [a]).Perm fp := List.perm_append_comm.trans p
    exact q _ Hf' H' f3 [Dl] E3 (w3.perm pp) (s3.perm (fun x => pf.mem_iff) fun x hx => pp.mem_iff.mp hx) (.lst hx rx)
section
variable {F : Fam} {tg : Expr} {de : Den} {pos : Pos} {js : List Nat}
theorem sd_compB {elt : Expr} {ifs : List Expr} {scope : Scope} {x : Str} {np : Pos} {put : Put} {tc : DenT} {ks : List Nat} (i : Nat) (own : List (Str × Nat)) (hg : PGD (F.blk scope) tg put ks) (ht : PTsD (F.blk scope) ifs tc) (he : PED (F.blk scope) elt de) (hN : F.N[i]? = some x := by rfl) (hv : L2.Vis F.sc x := by first | exact Or.inl rfl | exact Or.inr (Or.inl rfl) | exact Or.inr (Or.inr rfl)) (hd : (x == ("__debug__" : Str)) = false := by decide)
    (hcd : (x == ("__classdict__" : Str)) = false := by decide) (hk : ks = own.map (·.2) := by rfl)
    (ok : blkC F.N F.sc scope own = true := by first | (dsimp only [bodyFam, Fam.blk]; decide +kernel) | rfl) (hs : ∀ env y, foldedSetIterable (.Name x np) env y = pure y := by intro _ _; rfl) : PED F (.ListComp elt [⟨tg, .Name x np, ifs, 0⟩] scope pos) (dCompB i put tc de ks) := by
  subst hk
  obtain ⟨_, p1, s1⟩ := hg
  obtain ⟨_, p2, s2⟩ := ht
  obtain ⟨_, p3, s3⟩ := he
  refine ⟨_, fun z => pe_lc (own := own) (F.calm z) (Fam.ndx z) (Fam.pi (t := fun K => iList K (tVar i)) (pi_list (pe_var (Fam.at hN z) (Fam.vis hv z) hd hcd))) (by rw [F.hN z, F.hsc z]; exact blkOk_by ok) (fun s H C cl fp => p1 (z, s, H, C, cl, fp)) (fun s H C cl fp => p2 (z, s, H, C, cl, fp)) (fun s H C cl fp => p3 (z, s, H, C, cl, fp)) (hs _), se_compB s1 s2 s3⟩
theorem c_setCB {elt : Expr} {ifs : List Expr} {scope : Scope} {x : Str} {np : Pos} {put : Put} {tc : DenT} {ks : List Nat} {y : Str} {py cpos spos : Pos} (k : Nat) (i : Nat) (own : List (Str × Nat)) (hg : PGD (F.blk scope) tg put ks) (ht : PTsD (F.blk scope) ifs tc) (he : PED (F.blk scope) elt de) (hN' : F.N[i]? = some x := by rfl) (hv : L2.Vis F.sc x := by first | exact Or.inl rfl | exact Or.inr (Or.inl rfl) | exact Or.inr (Or.inr rfl)) (hd : (x == ("__debug__" : Str)) = false := by decide)
    (hcd : (x == ("__classdict__" : Str)) = false := by decide) (hj : k ∉ js := by decide) (hN : F.N[k]? = some y := by rfl) (hyl : F.sc.names.lookup y = some .local := by rfl)
    (hsw : ∀ z, swapsWith (.ListComp elt [⟨tg, .Name x np, ifs, 0⟩] scope cpos) (some (.Name y py)) spos.line (F.X z).env = pure true := by exact fun _ => sw_true rfl rfl rfl (by decide +kernel)) (hk : ks = own.map (·.2) := by rfl)
    (ok : blkC F.N F.sc scope own = true := by first | (dsimp only [bodyFam, Fam.blk]; decide +kernel) | rfl) (hs : ∀ env y, foldedSetIterable (.Name x np) env y = pure y := by intro _ _; rfl) : PSD F js (.Assign [.Name y py] (.ListComp elt [⟨tg, .Name x np, ifs, 0⟩] scope cpos) spos) (sAsg k (dCompB i put tc de ks)) := by
  subst hk
  obtain ⟨_, p1, s1⟩ := hg
  obtain ⟨_, p2, s2⟩ := ht
  obtain ⟨_, p3, s3⟩ := he
  refine ⟨_, fun z => ps_setLc (i := k) (own := own) (F.calm z) (Fam.ndx z) (Fam.at hN z) (by rw [F.hsc z]; exact hyl) (hsw z) (Fam.pi (t := fun K => iList K (tVar i)) (pi_list (pe_var (Fam.at hN' z) (Fam.vis hv z) hd hcd))) (by rw [F.hN z, F.hsc z]; exact blkOk_by ok) (fun s H C cl fp => p1 (z, s, H, C, cl, fp)) (fun s H C cl fp => p2 (z, s, H, C, cl, fp)) (fun s H C cl fp => p3 (z, s, H, C, cl, fp)) (hs _), ss_asg (n := 0) (se_compB s1 s2 s3) hj⟩
end
theorem dCompB_lst {i : Nat} {put : Put} {c : DenT} {e : Den} {vs : List Nat} {Γ Γ2 : Env} {ds acc : List D} (hi : Γ[i]? = some (some (.lst ds))) (hl : ds.length ≤ big) (hv : i ∉ vs) (h : compL put c (dV e) vs ds [] (wipeE (Γ.set i none) vs) = .ok acc Γ2) (hn : Γ2[i]? = some none) : dCompB i put c e vs Γ = .ok (.own (.lst acc)) (Γ2.set i (some (.lst ds))) := by
  unfold dCompB
  simp only [hi, hl, hv, not_false_eq_true, and_self, if_true, bindO, h, hn]
end Fw
namespace Fw
open PySem PySem.Spec PyProof.Rows L2

/-! ### a kept number: an object of its own, changed by its methods alone -/
theorem knF_base (b p : Int) (l : Addr) : (knF b p l).lookup ("base" : Str) = some (.int b) := rfl
theorem knF_power (b p : Int) (l : Addr) : (knF b p l).lookup ("power" : Str) = some (.int p) := rfl
theorem knF_figures (b p : Int) (l : Addr) : (knF b p l).lookup ("figures" : Str) = some (.ref l) := rfl
theorem knF_put (b p : Int) (l l' : Addr) : putF "figures" (.ref l') (knF b p l) = knF b p l' := rfl
theorem knF_mk (b p : Int) (l : Addr) : putF "figures" (.ref l) (putF "power" (.int p) (putF "base" (.int b) [])) = knF b p l := rfl
/-- the class as the top has made it -/
structure KnT (K : PySem.W.Frag) (mg : Str → Option Value) (C : Addr) : Prop where
  at_ : PySem.W.nsIn K mainGlobals "KeptNumber" = some (some (.ref C))
  mg_ : mg "KeptNumber" = some (.ref C)
  cl : Cls K C
  nB : NoAttr K C "base"
  nP : NoAttr K C "power"
  nF : NoAttr K C "figures"
/-- a method, by what it is worth -/
structure Mok (P : Program) (w : World) (K : PySem.W.Frag) (mg : Str → Option Value) (base : Heap) (m : Str) (k : Nat) (f : FDen) : Prop where
  ex : ∃ (C a : Addr) (fd : FuncData) (ps : List Str), KnT K mg C ∧ Meth K C m a ∧ Binds K fd ps [] ∧ FnOk P w K mg base CX0 k a fd ps (spD K f) ∧ ∀ b p l, (knF b p l).lookup m = none
theorem Mok.mono {P : Program} {w : World} {K : PySem.W.Frag} {mg : Str → Option Value} {base : Heap} {m : Str} {j k : Nat} {f : FDen} (F : Mok P w K mg base m j f) (h : j ≤ k) : Mok P w K mg base m k f :=
  let ⟨C, a, fd, ps, t, m, b, G, n⟩ := F.ex; ⟨C, a, fd, ps, t, m, b, G.mono h, n⟩
def MCal (F : Fam) (m : Str) (f : FDen) : Prop := ∀ i, Mok (F.X i).prog (F.X i).w F.K F.mg (F.X i).base m F.k f
def isKn (i : Nat) (Γ : Env) : Bool := match Γ[i]? with
  | some (some (.kn _ _ _)) => true
  | _ => false
def dMeth (f : FDen) (i : Nat) (es : List Arg) : Den := fun Γ => if isKn i Γ = true then dCall f (.io i :: es) Γ else .stuck
theorem se_meth {K : PySem.W.Frag} {f : FDen} {C : Addr} {m : Str} {i : Nat} {t : TA} {es : List Arg} (hC : PySem.W.nsIn K mainGlobals "KeptNumber" = some (some (.ref C))) (hm : ∀ b p l, (knF b p l).lookup m = none) (h : SAs K t es) : SE K (tMeth C m (spD K f) [] E0 (tVar i) t) (dMeth f i es) := by
  intro σ Γ r Γ' he Hf H fp E w Q q
  unfold dMeth at he
  split at he
  case isFalse => cases he
  rename_i hk
  have key := se_call (E0 := E0) (f := f) (sas_io (i := i) h) σ Γ r Γ' he Hf H fp E w Q q
  unfold isKn at hk
  split at hk
  case h_2 => cases hk
  rename_i b p fs hi
  obtain ⟨v, f1, f2, hv, o, _, _⟩ := E.split hi
  cases o with
  | @kn _ _ _ a dx l C' hC' ha hl =>
    obtain ⟨v', hv', key⟩ := key
    rw [hv] at hv'; cases hv'
    rw [hC] at hC'; cases hC'
    exact ⟨_, hv, a, dx, _, rfl, ha, hm _ _ _, key⟩
theorem sas_emp {K : PySem.W.Frag} : SAs K tNil [] := sas_nil
section
variable {F : Fam} {e : Expr} {es : List Expr} {pos apos np : Pos} {as : List Arg} {x m : Str} {f : FDen}
theorem sd_meth (i : Nat) (C : MCal F m f) (ha : PAsD F (e :: es) as) (hN : F.N[i]? = some x := by rfl) (hv : L2.Vis F.sc x := by first | exact Or.inl rfl | exact Or.inr (Or.inl rfl) | exact Or.inr (Or.inr rfl)) (hd : (x == ("__debug__" : Str)) = false := by decide)
    (hcd : (x == ("__classdict__" : Str)) = false := by decide) (hst : ∀ env, starEach (e :: es) env = (false, eval e env) :: starEach es env := by intro _; rfl) (hpl : ∀ env, (backTo pos (starEach es env)).any (·.1) = false := by intro _; rfl)
    (ht : ∀ j, ∃ pl, eval (.Call (.Attribute (.Name x np) m apos) (e :: es) [] pos) (F.X j).env = (do
      let ov ← eval (.Name x np) (F.X j).env
      standAt apos.atName
      let (f, first) ← holding [ov] (getMethod ov m pl)
      callWith pos f first (backTo pos (starEach (e :: es) (F.X j).env)) (backToKw pos (keywordEach [] (F.X j).env))) := by intro _; exact ⟨_, rfl⟩) : PED F (.Call (.Attribute (.Name x np) m apos) (e :: es) [] pos) (dMeth f i as) := by
  obtain ⟨t, p1, s1⟩ := ha
  by_cases hne : Nonempty F.ι
  · obtain ⟨j0⟩ := hne
    obtain ⟨C0, _, _, _, T0, _, _, _, n0⟩ := (C j0).ex
    refine ⟨tMeth C0 m (spD F.K f) [] E0 (tVar i) t, fun j => ?_, se_meth T0.at_ n0 s1⟩
    obtain ⟨C1, a, fd, ps, T, M, b, G, _⟩ := (C j).ex
    have hC : C1 = C0 := by
      have := T.at_.symm.trans T0.at_
      cases this; rfl
    subst hC
    rw [← F.hK j, ← F.hmg j] at G
    have cl := T.cl
    rw [← F.hK j] at M b cl
    rw [← F.hK j]
    obtain ⟨pl, ht⟩ := ht j
    exact pe_meth (pl := pl) (dvs := []) (E := E0) (pe_var (Fam.at hN j) (Fam.vis hv j) hd hcd) cl M G (F.room j) b .nil pass0 (p1 j) (hst _) (hpl _) ht
  · exact ⟨fun _ _ _ => True, fun j => (hne ⟨j⟩).elim, fun _ _ _ _ _ _ _ _ _ _ _ _ => trivial⟩
theorem sd_meth0 (i : Nat) (C : MCal F m f) (hN : F.N[i]? = some x := by rfl) (hv : L2.Vis F.sc x := by first | exact Or.inl rfl | exact Or.inr (Or.inl rfl) | exact Or.inr (Or.inr rfl)) (hd : (x == ("__debug__" : Str)) = false := by decide)
    (hcd : (x == ("__classdict__" : Str)) = false := by decide)
    (ht : ∀ j, ∃ pl, eval (.Call (.Attribute (.Name x np) m apos) [] [] pos) (F.X j).env = (do
      let ov ← eval (.Name x np) (F.X j).env
      standAt apos.atName
      let (f, first) ← holding [ov] (getMethod ov m pl)
      callWith pos f first (backTo pos (starEach [] (F.X j).env)) (backToKw pos (keywordEach [] (F.X j).env))) := by intro _; exact ⟨_, rfl⟩) : PED F (.Call (.Attribute (.Name x np) m apos) [] [] pos) (dMeth f i []) := by
  by_cases hne : Nonempty F.ι
  · obtain ⟨j0⟩ := hne
    obtain ⟨C0, _, _, _, T0, _, _, _, n0⟩ := (C j0).ex
    refine ⟨tMeth C0 m (spD F.K f) [] E0 (tVar i) tNil, fun j => ?_, se_meth T0.at_ n0 sas_nil⟩
    obtain ⟨C1, a, fd, ps, T, M, b, G, _⟩ := (C j).ex
    have hC : C1 = C0 := by
      have := T.at_.symm.trans T0.at_
      cases this; rfl
    subst hC
    rw [← F.hK j, ← F.hmg j] at G
    have cl := T.cl
    rw [← F.hK j] at M b cl
    rw [← F.hK j]
    obtain ⟨pl, ht⟩ := ht j
    exact pe_meth0 (pl := pl) (dvs := []) (E := E0) (pe_var (Fam.at hN j) (Fam.vis hv j) hd hcd) cl M G (F.room j) b .nil pass0 ht
  · exact ⟨fun _ _ _ => True, fun j => (hne ⟨j⟩).elim, fun _ _ _ _ _ _ _ _ _ _ _ _ => trivial⟩
end
/-! reading a field -/
def dKnB (i : Nat) : Den := fun Γ => match Γ[i]? with
  | some (some (.kn b _ _)) => .ok (.frz (.int b)) Γ
  | _ => .stuck
def dKnP (i : Nat) : Den := fun Γ => match Γ[i]? with
  | some (some (.kn _ p _)) => .ok (.frz (.int p)) Γ
  | _ => .stuck
theorem se_knB {K : PySem.W.Frag} {mg : Str → Option Value} {C : Addr} {i : Nat} (T : KnT K mg C) : SE K (tFld K (tVar i) "base") (dKnB i) := by
  intro σ Γ r Γ' he Hf H fp E w Q q
  unfold dKnB at he
  split at he
  case h_2 => cases he
  rename_i b p fs hi
  cases he
  obtain ⟨v, f1, f2, hv, o, _, _⟩ := E.split hi
  cases o with
  | @kn _ _ _ a dx l C' hC' ha hl =>
    have := T.at_.symm.trans hC'
    cases this
    exact ⟨_, hv, a, C, dx, _, _, rfl, ha, T.cl, T.nB, knF_base _ _ _, q _ Hf H fp [] E (by simpa using w) (by simpa using Step.refl _ _ _) ⟨by simp only [Rep], rfl⟩⟩
theorem se_knP {K : PySem.W.Frag} {mg : Str → Option Value} {C : Addr} {i : Nat} (T : KnT K mg C) : SE K (tFld K (tVar i) "power") (dKnP i) := by
  intro σ Γ r Γ' he Hf H fp E w Q q
  unfold dKnP at he
  split at he
  case h_2 => cases he
  rename_i b p fs hi
  cases he
  obtain ⟨v, f1, f2, hv, o, _, _⟩ := E.split hi
  cases o with
  | @kn _ _ _ a dx l C' hC' ha hl =>
    have := T.at_.symm.trans hC'
    cases this
    exact ⟨_, hv, a, C, dx, _, _, rfl, ha, T.cl, T.nP, knF_power _ _ _, q _ Hf H fp [] E (by simpa using w) (by simpa using Step.refl _ _ _) ⟨by simp only [Rep], rfl⟩⟩
section
variable {F : Fam} {np apos : Pos} {x : Str} {C : Addr}
theorem sd_knB (i : Nat) (T : KnT F.K F.mg C) (hN : F.N[i]? = some x := by rfl) (hv : L2.Vis F.sc x := by first | exact Or.inl rfl | exact Or.inr (Or.inl rfl) | exact Or.inr (Or.inr rfl)) (hd : (x == ("__debug__" : Str)) = false := by decide)
    (hcd : (x == ("__classdict__" : Str)) = false := by decide) (hb : ∀ j, attributeBase (.Name x np) "base" (F.X j).env (eval (.Name x np) (F.X j).env) = eval (.Name x np) (F.X j).env := by intro _; rfl) : PED F (.Attribute (.Name x np) "base" apos) (dKnB i) :=
  ⟨_, fun j => Fam.pe (t := fun K => tFld K (tVar i) "base") (pe_fld (pe_var (Fam.at hN j) (Fam.vis hv j) hd hcd) (hb j)), se_knB T⟩
theorem sd_knP (i : Nat) (T : KnT F.K F.mg C) (hN : F.N[i]? = some x := by rfl) (hv : L2.Vis F.sc x := by first | exact Or.inl rfl | exact Or.inr (Or.inl rfl) | exact Or.inr (Or.inr rfl)) (hd : (x == ("__debug__" : Str)) = false := by decide)
    (hcd : (x == ("__classdict__" : Str)) = false := by decide) (hb : ∀ j, attributeBase (.Name x np) "power" (F.X j).env (eval (.Name x np) (F.X j).env) = eval (.Name x np) (F.X j).env := by intro _; rfl) : PED F (.Attribute (.Name x np) "power" apos) (dKnP i) :=
  ⟨_, fun j => Fam.pe (t := fun K => tFld K (tVar i) "power") (pe_fld (pe_var (Fam.at hN j) (Fam.vis hv j) hd hcd) (hb j)), se_knP T⟩
end
/-! made -/
def spInit (K : PySem.W.Frag) : Sp := fun vs H Q _ => ∃ (x dx C : Addr) (b p : Int), vs = [.ref x, .int b, .int p] ∧ PySem.W.nsIn K mainGlobals "KeptNumber" = some (some (.ref C)) ∧ H x = some (.ins C dx []) ∧
  ∀ (l : Addr) (H' : Hp), H l = none → H' x = some (.ins C dx (knF b p l)) → H' l = some (.lst [.int 0]) → (∀ a o, H a = some o → a ≠ x → H' a = some o) → Q .non H'
def dMk (es : List Den) : Den := bindO (dVs es) fun ds Γ => match ds with
  | [.int b, .int p] => .ok (.own (.kn b p [0])) Γ
  | _ => .stuck
theorem se_mk {K : PySem.W.Frag} {mg : Str → Option Value} {C : Addr} {t : TA} {es : List Den} (T : KnT K mg C) (h : SVs K t es) : SE K (tMake C (spInit K) [] E0 t) (dMk es) := by
  intro σ Γ r Γ' he Hf H fp E w Q q
  obtain ⟨ds, Γ1, h1, he⟩ := bindO_ok he
  split at he
  case h_2 => cases he
  rename_i b p
  cases he
  refine h σ Γ _ _ h1 Hf H fp E w _ fun vs Hf1 H1 fp1 E1 w1 s1 r1 => ?_
  simp only [RepL, Rep] at r1
  obtain ⟨_, _, rfl, rfl, _, _, rfl, rfl, rfl⟩ := r1
  intro x dx hx hdx hne
  have s0 : Same H1 (upd (upd H1 dx (.own x)) x (.ins C dx [])) := fun a o e => by
    rw [upd_ne (ne_of_none e hx), upd_ne (ne_of_none e hdx)]; exact e
  refine ⟨x, dx, C, b, p, rfl, T.at_, upd_same, fun l H2 hl hx2 hl2 kp => ⟨rfl, ?_⟩⟩
  have hxl : x ≠ l := ne_of_none upd_same hl
  have hl1 : H1 l = none := s0.free hl
  have k1 : ∀ a o, H1 a = some o → H2 a = some o := fun a o e => kp a o (s0 a o e) (ne_of_none e hx)
  have nx : x ∉ fp1 := fun z => E1.alloc x z hx
  have nl : l ∉ fp1 := fun z => E1.alloc l z hl1
  refine q _ Hf1 H2 fp1 [x, l] (E1.stay (Ext.refl _) fun a _ o e => k1 a o e) ⟨w1.same.trans k1, List.nodup_append.mpr ⟨w1.nd, by simp [hxl], fun a ha c hc e => ?_⟩, fun a ha => ?_⟩ (s1.trans ⟨Ext.refl _, fun a o _ e => k1 a o e, fun a ha => ?_, fun a _ e _ => e⟩) (.kn T.at_ hx2 hl2)
  · subst e
    simp at hc
    rcases hc with rfl | rfl
    · exact nx ha
    · exact nl ha
  · rcases List.mem_append.mp ha with z | z
    · exact w1.nf a z
    · simp at z
      rcases z with rfl | rfl
      · exact w1.same.free hx
      · exact w1.same.free hl1
  · rcases List.mem_append.mp ha with z | z
    · exact .inl z
    · simp at z
      rcases z with rfl | rfl
      · exact .inr hx
      · exact .inr hl1
/-- the class may be called -/
def MkC (F : Fam) : Prop := ∀ i, ∃ (C a : Addr) (fd : FuncData) (ps : List Str), KnT F.K F.mg C ∧ L2.Mk F.K C a ∧ Binds F.K fd ps [] ∧ ∃ k, FnOk (F.X i).prog (F.X i).w F.K F.mg (F.X i).base CX0 k a fd ps (spInit F.K) ∧ k + 1 ≤ F.k
section
variable {F : Fam} {e : Expr} {es : List Expr} {p pos : Pos} {ds : List Den}
theorem sd_mk (M : MkC F) (ha : PVsD F (e :: es) ds) (hg : F.sc.names.lookup ("KeptNumber" : Str) = some .globalImplicit := by rfl)
    (he : ∀ env, starEach (e :: es) env = (false, eval e env) :: starEach es env := by intro _; rfl) (hpl : ∀ env, (backTo pos (starEach es env)).any (·.1) = false := by intro _; rfl) : PED F (.Call (.Name "KeptNumber" p) (e :: es) [] pos) (dMk ds) := by
  obtain ⟨t, p1, s1⟩ := ha
  by_cases hne : Nonempty F.ι
  · obtain ⟨j0⟩ := hne
    obtain ⟨C0, _, _, _, T0, _⟩ := M j0
    refine ⟨tMake C0 (spInit F.K) [] E0 t, fun j => ?_, se_mk T0 s1⟩
    obtain ⟨C1, a, fd, ps, T, M1, b, k, G, hk⟩ := M j
    have hC : C1 = C0 := by
      have := T.at_.symm.trans T0.at_
      cases this; rfl
    subst hC
    have hr := (F.room j).mono hk
    rw [← F.hK j, ← F.hmg j] at G
    rw [← F.hK j] at M1 b
    rw [← F.hK j]
    exact pe_make (dvs := []) (E := E0) M1 G hr (Fam.gl hg j) (Fam.mgx T.mg_ j) b .nil pass0 (p1 j) rfl (he _) (hpl _)
  · exact ⟨fun _ _ _ => True, fun j => (hne ⟨j⟩).elim, fun _ _ _ _ _ _ _ _ _ _ _ _ => trivial⟩
end
/-! what the methods take and leave -/
theorem kn_out {K : PySem.W.Frag} {Hf H H' : Hp} {a l l' C dx : Addr} {b p b' p' : Int} {fs' : List Int} (w : Wd K Hf H [a, l]) (ha : H a = some (.ins C dx (knF b p l))) (ha' : H' a = some (.ins C dx (knF b' p' l'))) (hl' : H' l' = some (.lst (fs'.map V.int))) (hn : l' = l ∨ H l' = none)
    (kp : ∀ x o, x ≠ a → x ≠ l → H x = some o → H' x = some o) : Wd K Hf H' [a, l'] ∧ Step Hf H [a, l] Hf H' [a, l'] := by
  have hfa : Hf a = none := w.nf a (by simp)
  have hfl : Hf l = none := w.nf l (by simp)
  have hal : a ≠ l' := fun e => by subst e; rw [ha'] at hl'; cases hl'
  have hfl' : Hf l' = none := by
    rcases hn with rfl | hn
    · exact hfl
    · exact w.same.free hn
  refine ⟨⟨fun x o e => kp x o (ne_of_none e hfa) (ne_of_none e hfl) (w.same x o e), by simp [hal], fun x hx => ?_⟩, ⟨Ext.refl _, fun x o hx e => ?_, fun x hx => ?_, fun _ _ e _ => e⟩⟩
  · simp at hx
    rcases hx with rfl | rfl
    · exact hfa
    · exact hfl'
  · simp at hx
    exact kp x o hx.1 hx.2 e
  · simp at hx
    rcases hx with rfl | rfl
    · exact .inl (by simp)
    · rcases hn with rfl | hn
      · exact .inl (by simp)
      · exact .inr hn
def spNeed (C : Addr) : Sp := fun vs H Q _ => ∃ (a dx l : Addr) (b p f : Int), vs = [.ref a, .int f] ∧ H a = some (.ins C dx (knF b p l)) ∧ 0 ≤ f ∧ f < b ∧ Q .non H
def knPut (fs : List Int) (f : Int) : List Int := if fs = [0] then [f] else fs ++ [f]
def knOff (fs : List Int) : List Int := if fs.dropLast = [] then [0] else fs.dropLast
def numI (b : Int) (fs : List Int) (n : Int) : Int := fs.foldl (fun n f => b * n + f) n
def dPutF : FDen
  | [.kn b p fs, .frz (.int f)] => if 0 ≤ f ∧ f < b ∧ fs.length ≤ 1000 then .ok (.frz .non) [.kn b p (knPut fs f), .frz (.int f)] else .stuck
  | _ => .stuck
def dOffF : FDen
  | [.kn b p fs] => if fs ≠ [] ∧ fs.length ≤ 1000 then .ok (.frz .non) [.kn b p (knOff fs)] else .stuck
  | _ => .stuck
def dSetF : FDen
  | [.kn b p fs, .frz (.int k), .frz (.int f)] => if 0 ≤ k ∧ k < fs.length ∧ 0 ≤ f ∧ f < b ∧ ¬ (f = 0 ∧ 0 < k ∧ k = fs.length - 1) ∧ fs.length ≤ 1000 then .ok (.frz .non) [.kn b p (fs.set (fs.length - 1 - k.toNat) f), .frz (.int k), .frz (.int f)] else .stuck
  | _ => .stuck
def dNowF : FDen
  | [.kn b p fs] => if fs.length ≤ 1000 ∧ b.natAbs < 2 ^ 64 then .ok (.frz (.int (numI b fs 0))) [.kn b p fs] else .stuck
  | _ => .stuck

theorem no_if {X Y : Prop} (h : Y) : if false = true then X else Y := by rw [if_neg Bool.false_ne_true]; exact h
theorem yes_if {X Y : Prop} (h : X) : if true = true then X else Y := by rw [if_pos rfl]; exact h
/-! what a call of a method hands over, and what is asked behind it -/
theorem own_int {K : PySem.W.Frag} {Hf H : Hp} {i : Int} {v : V} {fa : List Addr} (o : Own K Hf H (.frz (.int i)) v fa) : v = .int i ∧ fa = [] := by
  cases o with
  | frz r => simp only [Rep] at r; exact ⟨r, rfl⟩
theorem kn_after {K : PySem.W.Frag} {Hf H H' : Hp} {a l l' C dx : Addr} {b p : Int} {fs' : List Int} {t : T} {v : V} {es : List T} {us : List V} {Q : VK} (hC : PySem.W.nsIn K mainGlobals "KeptNumber" = some (some (.ref C)))
    (w : Wd K Hf H [a, l]) (ha : H a = some (.ins C dx (knF b p l))) (hes : ∀ Hf' H', OwnL K Hf' H' es us []) (ht : ∀ Hf' H', Own K Hf' H' t v [])
    (post : ∀ v Hf' H' fo fr, OwnL K Hf' H' (.kn b p fs' :: es) (.ref a :: us) fo → Own K Hf' H' t v fr → Wd K Hf' H' (fo ++ fr) → Step Hf H [a, l] Hf' H' (fo ++ fr) → Q v H')
    (ha' : H' a = some (.ins C dx (knF b p l'))) (hl' : H' l' = some (.lst (fs'.map V.int))) (hn : l' = l ∨ H l' = none) (kp : ∀ x o, x ≠ a → x ≠ l → H x = some o → H' x = some o) : Q v H' := by
  obtain ⟨w', s'⟩ := kn_out w ha ha' hl' hn kp
  refine post v Hf H' [a, l'] [] (.cons (f1 := [a, l']) (f2 := []) (.kn hC ha' hl') (hes Hf H')) (ht Hf H') (by simpa using w') (by simpa using s')
theorem put_in {K : PySem.W.Frag} {C : Addr} (hC : PySem.W.nsIn K mainGlobals "KeptNumber" = some (some (.ref C))) {vs : List V} {H : Hp} {Q : VK} {E : XK} (h : spD K dPutF vs H Q E) : ∃ (a l dx : Addr) (b p : Int) (fs : List Int) (g : Int) (Hf : Hp), vs = [.ref a, .int g] ∧ H a = some (.ins C dx (knF b p l)) ∧ H l = some (.lst (fs.map V.int)) ∧ 0 ≤ g ∧ g < b ∧ fs.length ≤ 1000 ∧ Wd K Hf H [a, l] ∧
    ∀ (l' : Addr) (H' : Hp), H' a = some (.ins C dx (knF b p l')) → H' l' = some (.lst ((knPut fs g).map V.int)) → (l' = l ∨ H l' = none) → (∀ x o, x ≠ a → x ≠ l → H x = some o → H' x = some o) → Q .non H' := by
  obtain ⟨Hf, ts, fa, t, outs, o, w, hf, post⟩ := h
  unfold dPutF at hf
  split at hf
  case h_2 => cases hf
  rename_i b p fs g
  split at hf
  case isFalse => cases hf
  rename_i hc
  cases hf
  cases o with
  | cons o1 o2 =>
    cases o2 with
    | cons o2 o3 =>
      cases o3
      obtain ⟨rfl, rfl⟩ := own_int o2
      cases o1 with
      | @kn _ _ _ a dx l C' hC' ha hl =>
        rw [hC] at hC'; cases hC'
        simp only [List.append_nil] at w post
        exact ⟨a, l, dx, b, p, fs, g, Hf, rfl, ha, hl, hc.1, hc.2.1, hc.2.2, w, fun l' H' e1 e2 e3 e4 => kn_after (es := [.frz (.int g)]) (us := [.int g]) hC w ha (fun Hf' H' => .cons (f1 := []) (f2 := []) (.frz (by simp only [Rep])) .nil) (fun Hf' H' => .frz (by simp only [Rep])) post e1 e2 e3 e4⟩
theorem u64 {A : Around} {k : Nat} (hr : Room k A) : A.units + 64 < cLine := by have := hr.un; omega
theorem tyL {K : PySem.W.Frag} {H : Hp} {l : Addr} {ns : List Int} (hl : H l = some (.lst (ns.map V.int))) : tyV K "list" (.ref l) H := ty_list (fun _ => none) H _ (.lst (ns.map D.int)) (fun _ _ e => nomatch e) (.lst hl (repL_ints ns)) rfl
theorem off_in {K : PySem.W.Frag} {C : Addr} (hC : PySem.W.nsIn K mainGlobals "KeptNumber" = some (some (.ref C))) {vs : List V} {H : Hp} {Q : VK} {E : XK} (h : spD K dOffF vs H Q E) : ∃ (a l dx : Addr) (b p : Int) (fs : List Int) (Hf : Hp), vs = [.ref a] ∧ H a = some (.ins C dx (knF b p l)) ∧ H l = some (.lst (fs.map V.int)) ∧ fs ≠ [] ∧ fs.length ≤ 1000 ∧ Wd K Hf H [a, l] ∧
    ∀ (l' : Addr) (H' : Hp), H' a = some (.ins C dx (knF b p l')) → H' l' = some (.lst ((knOff fs).map V.int)) → (l' = l ∨ H l' = none) → (∀ x o, x ≠ a → x ≠ l → H x = some o → H' x = some o) → Q .non H' := by
  obtain ⟨Hf, ts, fa, t, outs, o, w, hf, post⟩ := h
  unfold dOffF at hf
  split at hf
  case h_2 => cases hf
  rename_i b p fs
  split at hf
  case isFalse => cases hf
  rename_i hc
  cases hf
  cases o with
  | cons o1 o2 =>
    cases o2
    cases o1 with
    | @kn _ _ _ a dx l C' hC' ha hl =>
      rw [hC] at hC'; cases hC'
      simp only [List.append_nil] at w post
      exact ⟨a, l, dx, b, p, fs, Hf, rfl, ha, hl, hc.1, hc.2, w, fun l' H' e1 e2 e3 e4 => kn_after (es := []) (us := []) hC w ha (fun Hf' H' => .nil) (fun Hf' H' => .frz (by simp only [Rep])) post e1 e2 e3 e4⟩
theorem now_in {K : PySem.W.Frag} {C : Addr} (hC : PySem.W.nsIn K mainGlobals "KeptNumber" = some (some (.ref C))) {vs : List V} {H : Hp} {Q : VK} {E : XK} (h : spD K dNowF vs H Q E) : ∃ (a l dx : Addr) (b p : Int) (fs : List Int) (Hf : Hp), vs = [.ref a] ∧ H a = some (.ins C dx (knF b p l)) ∧ H l = some (.lst (fs.map V.int)) ∧ fs.length ≤ 1000 ∧ b.natAbs < 2 ^ 64 ∧ Wd K Hf H [a, l] ∧ Q (.int (numI b fs 0)) H := by
  obtain ⟨Hf, ts, fa, t, outs, o, w, hf, post⟩ := h
  unfold dNowF at hf
  split at hf
  case h_2 => cases hf
  rename_i b p fs
  split at hf
  case isFalse => cases hf
  rename_i hc
  cases hf
  cases o with
  | cons o1 o2 =>
    cases o2
    cases o1 with
    | @kn _ _ _ a dx l C' hC' ha hl =>
      rw [hC] at hC'; cases hC'
      simp only [List.append_nil] at w post
      exact ⟨a, l, dx, b, p, fs, Hf, rfl, ha, hl, hc.1, hc.2, w, kn_after (es := []) (us := []) hC w ha (fun Hf' H' => .nil) (fun Hf' H' => .frz (by simp only [Rep])) post ha hl (.inl rfl) fun x o _ _ e => e⟩
theorem set_in {K : PySem.W.Frag} {C : Addr} (hC : PySem.W.nsIn K mainGlobals "KeptNumber" = some (some (.ref C))) {vs : List V} {H : Hp} {Q : VK} {E : XK} (h : spD K dSetF vs H Q E) : ∃ (a l dx : Addr) (b p : Int) (fs : List Int) (kk g : Int) (Hf : Hp), vs = [.ref a, .int kk, .int g] ∧ H a = some (.ins C dx (knF b p l)) ∧ H l = some (.lst (fs.map V.int)) ∧ 0 ≤ kk ∧ kk < fs.length ∧ 0 ≤ g ∧ g < b ∧ ¬ (g = 0 ∧ 0 < kk ∧ kk = fs.length - 1) ∧ fs.length ≤ 1000 ∧ Wd K Hf H [a, l] ∧
    ∀ (l' : Addr) (H' : Hp), H' a = some (.ins C dx (knF b p l')) → H' l' = some (.lst ((fs.set (fs.length - 1 - kk.toNat) g).map V.int)) → (l' = l ∨ H l' = none) → (∀ x o, x ≠ a → x ≠ l → H x = some o → H' x = some o) → Q .non H' := by
  obtain ⟨Hf, ts, fa, t, outs, o, w, hf, post⟩ := h
  unfold dSetF at hf
  split at hf
  case h_2 => cases hf
  rename_i b p fs kk g
  split at hf
  case isFalse => cases hf
  rename_i hc
  cases hf
  cases o with
  | cons o1 o2 =>
    cases o2 with
    | cons o2 o3 =>
      cases o3 with
      | cons o3 o4 =>
        cases o4
        obtain ⟨rfl, rfl⟩ := own_int o2
        obtain ⟨rfl, rfl⟩ := own_int o3
        cases o1 with
        | @kn _ _ _ a dx l C' hC' ha hl =>
          rw [hC] at hC'; cases hC'
          simp only [List.append_nil] at w post
          exact ⟨a, l, dx, b, p, fs, kk, g, Hf, rfl, ha, hl, hc.1, hc.2.1, hc.2.2.1, hc.2.2.2.1, hc.2.2.2.2.1, hc.2.2.2.2.2, w, fun l' H' e1 e2 e3 e4 => kn_after (es := [.frz (.int kk), .frz (.int g)]) (us := [.int kk, .int g]) hC w ha (fun Hf' H' => .cons (f1 := []) (f2 := []) (.frz (by simp only [Rep])) (.cons (f1 := []) (f2 := []) (.frz (by simp only [Rep])) .nil)) (fun Hf' H' => .frz (by simp only [Rep])) post e1 e2 e3 e4⟩
/-! for the printed walks -/
theorem def_fnQ {P : Program} {w : World} {K : PySem.W.Frag} {mg : Str → Option Value} {base : Heap} {x qual : Str} {st : Stmt} {N ps : List Str} {k : Nat} {io : List Bool} {body : SDen} {a : Addr} {fd : FuncData} (F : Fun K x qual st a fd) (S : FnScope N ps (defScope st)) (hio : io.length = ps.length)
    (hb : ∀ (f : Addr) (cdv : Value) (A : Around) (outer : List PySem.Env) (s : Shared) (H : Hp) (E : XK) (hr : Room k (A.deeper (PyProof.Rows.envOfC qual (defScope st) s.heap.objs.size f cdv))),
      PSsD (bodyFam P w K mg base N qual (defScope st) f cdv A outer s H E k S.nd hr) (jsOf io 0) (defBody st) body) : FnOk P w K mg base CX0 (k + 1) a fd ps (spD K (dFun N.length io body)) :=
  fun_ok F S hio fun cdv A outer s H E hr => by
    obtain ⟨t, p, q⟩ := hb a cdv A outer s H E hr
    exact ⟨t, p (), q⟩
theorem mcal_of {P : Program} {w : World} {K : PySem.W.Frag} {mg : Str → Option Value} {base : Heap} {N : List Str} {qual : Str} {sc : Scope} {f : Addr} {cdv : Value} {A : Around} {outer : List PySem.Env} {s : Shared} {H : Hp} {E : XK} {k j : Nat} {nd : N.Nodup} {hr : Room k (A.deeper (PyProof.Rows.envOfC qual sc s.heap.objs.size f cdv))} {m : Str} {g : FDen}
    (G : Mok P w K mg base m j g) (h : j ≤ k) : MCal (bodyFam P w K mg base N qual sc f cdv A outer s H E k nd hr) m g := fun _ => G.mono h
theorem mcal_blk {F : Fam} {m : Str} {g : FDen} {scope : Scope} (C : MCal F m g) : MCal (F.blk scope) m g := fun p => C p.1
/-- the class, made by its __init__ of level j -/
structure Mko (P : Program) (w : World) (K : PySem.W.Frag) (mg : Str → Option Value) (base : Heap) (j : Nat) : Prop where
  ex : ∃ (C a : Addr) (fd : FuncData) (ps : List Str), KnT K mg C ∧ L2.Mk K C a ∧ Binds K fd ps [] ∧ FnOk P w K mg base CX0 j a fd ps (spInit K)
theorem mkc_of {P : Program} {w : World} {K : PySem.W.Frag} {mg : Str → Option Value} {base : Heap} {N : List Str} {qual : Str} {sc : Scope} {f : Addr} {cdv : Value} {A : Around} {outer : List PySem.Env} {s : Shared} {H : Hp} {E : XK} {k j : Nat} {nd : N.Nodup} {hr : Room k (A.deeper (PyProof.Rows.envOfC qual sc s.heap.objs.size f cdv))}
    (G : Mko P w K mg base j) (h : j + 1 ≤ k) : MkC (bodyFam P w K mg base N qual sc f cdv A outer s H E k nd hr) := fun _ =>
  let ⟨C, a, fd, ps, t, m, b, G⟩ := G.ex; ⟨C, a, fd, ps, t, m, b, j, G, h⟩
theorem mkc_blk {F : Fam} {scope : Scope} (C : MkC F) : MkC (F.blk scope) := fun p => C p.1
end Fw
namespace Fw
open PySem L2

/-! ### figures of a number, by themselves -/
theorem fg_snoc (b n k : Nat) : fg b n (k + 1) = fg b (n / b) k ++ [n % b] := by
  unfold fg dg
  rw [List.range_succ_eq_map, List.map_cons, List.reverse_cons, List.map_map]
  congr 1
  · congr 1
    refine List.map_congr_left fun i _ => ?_
    show n / b ^ (i + 1) % b = n / b / b ^ i % b
    rw [Nat.div_div_eq_div_mul, Nat.pow_succ, Nat.mul_comm]
  · simp
theorem fg_num {b : Nat} (hb : 2 ≤ b) : ∀ (k : Nat) (gs : List Nat), gs.length = k + 1 → (∀ f ∈ gs, f < b) → fg b (numBy b gs 0) k = gs
  | 0, gs, hl, hf => by
    obtain ⟨f, rfl⟩ := List.length_eq_one_iff.mp hl
    have : f < b := hf f (by simp)
    simp [fg, dg, numBy, Nat.mod_eq_of_lt this]
  | k + 1, gs, hl, hf => by
    have hne : gs ≠ [] := fun e => by rw [e] at hl; simp at hl
    obtain ⟨hs, d, rfl⟩ : ∃ hs d, gs = hs ++ [d] := ⟨gs.dropLast, gs.getLast hne, (List.dropLast_concat_getLast hne).symm⟩
    have hd : d < b := hf d (by simp)
    have e1 : (numBy b hs 0 * b + d) / b = numBy b hs 0 := by rw [Nat.mul_comm, Nat.mul_add_div (by omega), Nat.div_eq_of_lt hd, Nat.add_zero]
    have e2 : (numBy b hs 0 * b + d) % b = d := by rw [Nat.mul_comm, Nat.mul_add_mod, Nat.mod_eq_of_lt hd]
    rw [fg_snoc, numBy_snoc, e1, e2, fg_num hb k hs (by simpa using hl) fun f h => hf f (by simp [h])]
theorem numBy_lt {b : Nat} : ∀ (gs : List Nat) (a : Nat), (∀ f ∈ gs, f < b) → numBy b gs a < (a + 1) * b ^ gs.length
  | [], a, _ => by simp [numBy]
  | f :: gs, a, h => by
    have hf : f < b := h f (by simp)
    have ih := numBy_lt gs (a * b + f) fun g hg => h g (by simp [hg])
    have : (a * b + f + 1) * b ^ gs.length ≤ (a + 1) * b * b ^ gs.length := Nat.mul_le_mul_right _ (by rw [Nat.add_mul]; omega)
    show numBy b gs (a * b + f) < _
    rw [List.length_cons, Nat.pow_succ, Nat.mul_comm (b ^ gs.length) b, ← Nat.mul_assoc]
    omega
theorem numBy_ge {b : Nat} : ∀ (gs : List Nat) (a : Nat), a * b ^ gs.length ≤ numBy b gs a
  | [], a => by simp [numBy]
  | f :: gs, a => by
    have ih := numBy_ge (b := b) gs (a * b + f)
    have : a * b * b ^ gs.length ≤ (a * b + f) * b ^ gs.length := Nat.mul_le_mul_right _ (by omega)
    show _ ≤ numBy b gs (a * b + f)
    rw [List.length_cons, Nat.pow_succ, Nat.mul_comm (b ^ gs.length) b, ← Nat.mul_assoc]
    omega
/-- figures with no nought ahead -/
structure Can (b : Nat) (gs : List Nat) : Prop where
  ne : gs ≠ []
  lt : ∀ f ∈ gs, f < b
  hd : gs.length = 1 ∨ ∃ f r, gs = f :: r ∧ f ≠ 0
theorem Can.zero {b : Nat} (hb : 2 ≤ b) : Can b [0] := ⟨by simp, by simp; omega, .inl rfl⟩
theorem Can.small {b : Nat} {gs : List Nat} (h : Can b gs) (hb2 : b ≤ 16) {m : Nat} (hl : gs.length ≤ m) (hm : m ≤ 40) : numBy b gs 0 < 2 ^ 160 := by
  have h1 := numBy_lt gs 0 h.lt
  rw [Nat.zero_add, Nat.one_mul] at h1
  have h2 : b ^ gs.length ≤ 16 ^ 40 := by
    rcases Nat.eq_zero_or_pos b with z | z
    · subst z
      have := Nat.zero_pow (n := gs.length) (List.length_pos_iff.mpr h.ne)
      omega
    · exact Nat.le_trans (Nat.pow_le_pow_left hb2 _) (Nat.pow_le_pow_right (by decide) (by omega))
  have h3 : (16 : Nat) ^ 40 = 2 ^ 160 := by decide +kernel
  omega
theorem Can.dgs {b : Nat} {gs : List Nat} (h : Can b gs) (hb : 2 ≤ b) (hn : numBy b gs 0 < 2 ^ 160) : dgs b (numBy b gs 0) = gs := by
  obtain ⟨k, hk⟩ : ∃ k, gs.length = k + 1 := ⟨gs.length - 1, by have := List.length_pos_iff.mpr h.ne; omega⟩
  have h1 := numBy_lt gs 0 h.lt
  rw [Nat.zero_add, Nat.one_mul, hk] at h1
  have t : Tk b (numBy b gs 0) k := ⟨h1, fun j hj => by
    rcases h.hd with z | ⟨f, r, rfl, hf⟩
    · omega
    · have h2 := numBy_ge (b := b) r (0 * b + f)
      have hr : r.length = k := by simpa using hk
      have h3 : b ^ (j + 1) ≤ b ^ k := Nat.pow_le_pow_right (by omega) (by omega)
      have h4 : 1 * b ^ k ≤ (0 * b + f) * b ^ k := Nat.mul_le_mul_right _ (by omega)
      rw [hr] at h2
      show _ ≤ numBy b r (0 * b + f)
      omega⟩
  have e := (tk_ok hb hn).2.uniq hb t
  show fg b (numBy b gs 0) (tk b (numBy b gs 0)) = gs
  rw [e, fg_num hb k gs hk h.lt]
def kPut (gs : List Nat) (f : Nat) : List Nat := if gs = [0] then [f] else gs ++ [f]
def kOff (gs : List Nat) : List Nat := if gs.dropLast = [] then [0] else gs.dropLast
theorem Can.put {b f : Nat} {gs : List Nat} (h : Can b gs) (hf : f < b) : Can b (kPut gs f) := by
  unfold kPut
  by_cases c : gs = [0]
  · rw [if_pos c]; exact ⟨by simp, by simp [hf], .inl rfl⟩
  · rw [if_neg c]
    refine ⟨by simp, fun g hg => ?_, .inr ?_⟩
    · rcases List.mem_append.mp hg with z | z
      · exact h.lt g z
      · obtain rfl := List.mem_singleton.mp z; exact hf
    · rcases h.hd with z | ⟨g, r, rfl, hg⟩
      · obtain ⟨g, rfl⟩ := List.length_eq_one_iff.mp z
        exact ⟨g, [f], rfl, fun e => c (by rw [e])⟩
      · exact ⟨g, r ++ [f], rfl, hg⟩
theorem Can.off {b : Nat} {gs : List Nat} (h : Can b gs) (hb : 2 ≤ b) : Can b (kOff gs) := by
  unfold kOff
  by_cases c : gs.dropLast = []
  · rw [if_pos c]; exact Can.zero hb
  · rw [if_neg c]
    refine ⟨c, fun g hg => h.lt g (List.dropLast_subset _ hg), .inr ?_⟩
    rcases h.hd with z | ⟨g, r, rfl, hg⟩
    · obtain ⟨g, rfl⟩ := List.length_eq_one_iff.mp z
      exact absurd rfl c
    · cases r with
      | nil => exact absurd rfl c
      | cons x r => exact ⟨g, (x :: r).dropLast, rfl, hg⟩
theorem put_off {b : Nat} {gs : List Nat} (h : Can b gs) (f : Nat) : kOff (kPut gs f) = gs := by
  unfold kOff kPut
  by_cases c : gs = [0]
  · rw [if_pos c, c]; rfl
  · rw [if_neg c, List.dropLast_concat, if_neg h.ne]
theorem put_num (b : Nat) (gs : List Nat) (f : Nat) : numBy b (kPut gs f) 0 = numBy b gs 0 * b + f := by
  unfold kPut
  by_cases c : gs = [0]
  · rw [if_pos c, c]; simp [numBy]
  · rw [if_neg c, numBy_snoc]
theorem kput_len (gs : List Nat) (f : Nat) : (kPut gs f).length ≤ gs.length + 1 := by
  unfold kPut
  split <;> simp
theorem koff_len (gs : List Nat) (h : gs ≠ []) : (kOff gs).length ≤ gs.length := by
  unfold kOff
  have := List.length_pos_iff.mpr h
  split
  · simp; omega
  · simp
theorem Can.set {b f k : Nat} {gs : List Nat} (h : Can b gs) (hf : f < b) (hk : k < gs.length) (hno : ¬ (f = 0 ∧ 0 < k ∧ k = gs.length - 1)) : Can b (gs.set (gs.length - 1 - k) f) := by
  refine ⟨fun e => h.ne (by have := congrArg List.length e; simpa using this), fun g hg => ?_, ?_⟩
  · rcases List.mem_or_eq_of_mem_set hg with z | z
    · exact h.lt g z
    · rw [z]; exact hf
  · rcases h.hd with z | ⟨g, r, rfl, hg⟩
    · left; rw [List.length_set]; exact z
    · by_cases c : (g :: r).length - 1 - k = 0
      · rw [c]
        by_cases c2 : r = []
        · subst c2; left; rfl
        · right
          refine ⟨f, r, rfl, fun e => hno ⟨e, ?_, ?_⟩⟩
          · have := List.length_pos_iff.mpr c2
            simp at c hk ⊢; omega
          · simp at c hk ⊢; omega
      · right
        obtain ⟨m, hm⟩ : ∃ m, (g :: r).length - 1 - k = m + 1 := ⟨(g :: r).length - 1 - k - 1, by omega⟩
        rw [hm]
        exact ⟨g, r.set m f, rfl, hg⟩
/-! ### the methods, at figures -/
def kn (b p : Nat) (gs : List Nat) : T := .kn b p (cst gs)
theorem cst_one (gs : List Nat) : cst gs = [0] ↔ gs = [0] := by
  constructor
  · intro h
    exact cst_inj (h.trans (show ([0] : List Int) = cst [0] from rfl))
  · rintro rfl; rfl
theorem knPut_cst (gs : List Nat) (f : Nat) : knPut (cst gs) (f : Int) = cst (kPut gs f) := by
  unfold knPut kPut
  by_cases c : gs = [0]
  · rw [if_pos c, if_pos ((cst_one gs).mpr c)]; rfl
  · rw [if_neg c, if_neg fun e => c ((cst_one gs).mp e)]
    simp [cst]
theorem knOff_cst (gs : List Nat) : knOff (cst gs) = cst (kOff gs) := by
  unfold knOff kOff
  have e : (cst gs).dropLast = cst gs.dropLast := by unfold cst; rw [List.map_dropLast]
  rw [e]
  by_cases c : gs.dropLast = []
  · rw [if_pos c, if_pos (by rw [c]; rfl)]; rfl
  · rw [if_neg c, if_neg fun z => c (cst_inj (z.trans (show ([] : List Int) = cst [] from rfl)))]
theorem numI_cst (b : Nat) : ∀ (gs : List Nat) (a : Nat), numI b (cst gs) (a : Int) = ((numBy b gs a : Nat) : Int)
  | [], a => rfl
  | f :: gs, a => by
    have e : (b : Int) * (a : Int) + (f : Int) = ((a * b + f : Nat) : Int) := by rw [Int.natCast_add, Int.natCast_mul, Int.mul_comm]
    show numI b (cst gs) ((b : Int) * (a : Int) + (f : Int)) = _
    rw [e, numI_cst b gs (a * b + f)]; rfl
theorem kput_ev {b p f : Nat} {gs : List Nat} (hf : f < b) (hl : gs.length ≤ 900) : dPutF [kn b p gs, .frz (.int f)] = .ok (.frz .non) [kn b p (kPut gs f), .frz (.int f)] := by
  show (if 0 ≤ (f : Int) ∧ (f : Int) < (b : Int) ∧ (cst gs).length ≤ 1000 then FOut.ok (.frz .non) [.kn b p (knPut (cst gs) f), .frz (.int f)] else .stuck) = _
  rw [if_pos ⟨by omega, by omega, by unfold cst; rw [List.length_map]; omega⟩, knPut_cst]; rfl
theorem koff_ev {b p : Nat} {gs : List Nat} (hne : gs ≠ []) (hl : gs.length ≤ 900) : dOffF [kn b p gs] = .ok (.frz .non) [kn b p (kOff gs)] := by
  show (if cst gs ≠ [] ∧ (cst gs).length ≤ 1000 then FOut.ok (.frz .non) [.kn b p (knOff (cst gs))] else .stuck) = _
  rw [if_pos ⟨fun e => hne (cst_inj (e.trans (show ([] : List Int) = cst [] from rfl))), by unfold cst; rw [List.length_map]; omega⟩, knOff_cst]; rfl
theorem kset_ev {b p f k : Nat} {gs : List Nat} (hf : f < b) (hk : k < gs.length) (hno : ¬ (f = 0 ∧ 0 < k ∧ k = gs.length - 1)) (hl : gs.length ≤ 900) : dSetF [kn b p gs, .frz (.int k), .frz (.int f)] = .ok (.frz .non) [kn b p (gs.set (gs.length - 1 - k) f), .frz (.int k), .frz (.int f)] := by
  have e : (cst gs).length = gs.length := by simp [cst]
  show (if 0 ≤ (k : Int) ∧ (k : Int) < (cst gs).length ∧ 0 ≤ (f : Int) ∧ (f : Int) < (b : Int) ∧ ¬ ((f : Int) = 0 ∧ 0 < (k : Int) ∧ (k : Int) = (cst gs).length - 1) ∧ (cst gs).length ≤ 1000 then FOut.ok (.frz .non) [.kn b p ((cst gs).set ((cst gs).length - 1 - (k : Int).toNat) f), .frz (.int k), .frz (.int f)] else .stuck) = _
  rw [e, if_pos ⟨by omega, by omega, by omega, by omega, fun ⟨h1, h2, h3⟩ => hno ⟨by omega, by omega, by omega⟩, by omega⟩, Int.toNat_natCast]
  have : (cst gs).set (gs.length - 1 - k) (f : Int) = cst (gs.set (gs.length - 1 - k) f) := by unfold cst; rw [List.map_set]
  rw [this]; rfl
theorem know_ev {b p : Nat} {gs : List Nat} (hb : b < 1000) (hl : gs.length ≤ 900) : dNowF [kn b p gs] = .ok (.frz (.int (numBy b gs 0 : Nat))) [kn b p gs] := by
  show (if (cst gs).length ≤ 1000 ∧ (b : Int).natAbs < 2 ^ 64 then FOut.ok (.frz (.int (numI b (cst gs) 0))) [.kn b p (cst gs)] else .stuck) = _
  rw [if_pos ⟨by unfold cst; rw [List.length_map]; omega, nat64 (by omega)⟩]
  have := numI_cst b gs 0
  rw [show ((0 : Nat) : Int) = 0 from rfl] at this
  rw [this]; rfl
@[simp ↓] theorem dMeth_ap {f : FDen} {i : Nat} {es : List Arg} {Γ : Env} : dMeth f i es Γ = if isKn i Γ = true then dCall f (.io i :: es) Γ else .stuck := rfl
theorem isKn_i {i : Nat} {Γ : Env} {b p : Nat} {gs : List Nat} (h : Γ[i]? = some (some (kn b p gs))) : isKn i Γ = true := by unfold isKn; rw [h]; rfl
def dStepNow : FDen := dFun 1 [true] (sRet (dCall dStep [.v (dMeth dNowF 0 []), .v (dKnB 0), .v (dKnP 0)]))
def dEndNow : FDen := dFun 1 [true] (sRet (dCall dEnd [.v (dMeth dNowF 0 []), .v (dKnB 0), .v (dKnP 0)]))
section
variable {b p : Nat} {gs : List Nat}
theorem knB_ap {Γ : Env} {i : Nat} (h : Γ[i]? = some (some (kn b p gs))) : dKnB i Γ = .ok (.frz (.int b)) Γ := by unfold dKnB; rw [h]; rfl
theorem knP_ap {Γ : Env} {i : Nat} (h : Γ[i]? = some (some (kn b p gs))) : dKnP i Γ = .ok (.frz (.int p)) Γ := by unfold dKnP; rw [h]; rfl
theorem now_gen {f : FDen} {n : Int} {d : D} {o : List T} (K : T) (hk : isKn 0 [some K] = true) (hb : dKnB 0 [some K] = .ok (.frz (.int b)) [some K]) (hp : dKnP 0 [some K] = .ok (.frz (.int p)) [some K]) (e1 : dNowF [K] = .ok (.frz (.int n)) [K]) (e2 : f [.frz (.int n), .frz (.int b), .frz (.int p)] = .ok (.frz d) o) :
    dFun 1 [true] (sRet (dCall f [.v (dMeth dNowF 0 []), .v (dKnB 0), .v (dKnP 0)])) [K] = .ok (.frz d) [K] := by
  simp [hk, hb, hp, e1, e2, putd3]
theorem kstep_ev (hb : b < 1000) (hl : gs.length ≤ 900) (hs : StOk b p) (hn : numBy b gs 0 < 2 ^ 160) : dStepNow [kn b p gs] = .ok (.frz (.int (st b p (numBy b gs 0) : Nat))) [kn b p gs] :=
  now_gen (b := b) (p := p) (kn b p gs) (isKn_i rfl) (knB_ap rfl) (knP_ap rfl) (know_ev hb hl) (stepN_ev hs hn)
theorem kend_ev (h : PairT b p) (hl : gs.length ≤ 900) (hn : numBy b gs 0 < 2 ^ 160) : dEndNow [kn b p gs] = .ok (.frz (epD b p (numBy b gs 0))) [kn b p gs] :=
  now_gen (b := b) (p := p) (kn b p gs) (isKn_i rfl) (knB_ap rfl) (knP_ap rfl) (know_ev (by have := h.b16; omega) hl) (endQ_ev h hn)
end
/-! ### the law's end, with a dict -/
theorem seqR {s1 s2 : SDen} {Γ Γ' : Env} {t : T} (h : s1 Γ = .ok (.ret t) Γ') : sSeq s1 s2 Γ = .ok (.ret t) Γ' := by rw [sSeq_ap, h]
theorem whileN_ret {c : DenT} {b : SDen} (I : Nat → Env → Prop) (Q : T → Env → Prop)
    (hs : ∀ m Γ, I m Γ → ∃ Γ1, c Γ = .ok true Γ1 ∧ ((∃ t Γ2, b Γ1 = .ok (.ret t) Γ2 ∧ Q t Γ2) ∨ ∃ Γ2 m2, b Γ1 = .ok .next Γ2 ∧ m2 < m ∧ I m2 Γ2)) :
    ∀ (m : Nat) (Γ : Env) (n : Nat), m < n → I m Γ → ∃ t Γ', whileN c b n Γ = .ok (.ret t) Γ' ∧ Q t Γ' := by
  intro m
  induction m using Nat.strongRecOn with
  | ind m ih =>
    intro Γ n hn h
    obtain ⟨n, rfl⟩ : ∃ k, n = k + 1 := ⟨n - 1, by omega⟩
    obtain ⟨Γ1, e1, ⟨t, Γ2, e2, q⟩ | ⟨Γ2, m2, e2, hm, h2⟩⟩ := hs m Γ h
    · exact ⟨t, Γ2, by simp only [whileN, e1, e2], q⟩
    · obtain ⟨t, Γ', e3, q⟩ := ih m2 hm Γ2 n (by omega) h2
      exact ⟨t, Γ', by simp only [whileN, e1, e2, e3], q⟩
def dLE1 : SDen := (sAsg 3 (dLst [(dName 0)]))
def dLE2' : SDen := (sAsg 4 (dDisp (dName 0) 0))
def dLE31 : SDen := (sAsg 0 (dCall dLStep [.v (dBin zIx (dName 3) (dUn zNeg (dC (.int 1)))), .v (dName 1), .v (dName 2)]))
def dLE32 : SDen := (sIf (dT (dBin zIn (dName 0) (dName 4))) (sRet (dTup [(dBin zIx (dName 4) (dName 0)), (dB zMin [(dSl zSl (dName 3) (some (dBin zIx (dName 4) (dName 0))) none)])])) sNext)
def dLE33 : SDen := (sPutK 4 (dName 0) (dB zLen [(dName 3)]))
def dLE34 : SDen := (sDrop (dMut mAppend 3 [(dName 0)]))
def dLE3B : SDen := (sSeq dLE31 (sSeq dLE32 (sSeq dLE33 dLE34)))
def dLE3C : DenT := (dT (dC (.bl true)))
def dLE3' : SDen := (sWhile dLE3C dLE3B)
def dLEndD : FDen := dFun 5 [false, false, false] (sSeq dLE1 (sSeq dLE2' dLE3'))
section
variable {n n' b p l a m x : Int} {F G : List D} {ks : List Key} {vs : List D} {B P : D} {o : List T} {c : Bool}
theorem le_1 : dLE1 [some (.frz (.int n)), some (.frz B), some (.frz P), none, none] = .ok .next [some (.frz (.int n)), some (.frz B), some (.frz P), some (.lst [.int n]), none] := by
  simp [dLE1]
theorem le_2 : dLE2' [some (.frz (.int n)), some (.frz B), some (.frz P), some (.lst F), none] = .ok .next [some (.frz (.int n)), some (.frz B), some (.frz P), some (.lst F), some (.dct [.inl n] [.int 0])] := by
  have e : dDisp (dName 0) 0 [some (.frz (.int n)), some (.frz B), some (.frz P), some (.lst F), none] = .ok (.own (.dct [.inl n] [.int 0])) [some (.frz (.int n)), some (.frz B), some (.frz P), some (.lst F), none] := rfl
  simp [dLE2', e]
theorem le_31 (hx : zIx (.lst F) (.int (-1)) = some (.val (.int x))) (e : dLStep [.frz (.int x), .frz B, .frz P] = .ok (.frz (.int n')) o) : dLE31 [some (.frz (.int n)), some (.frz B), some (.frz P), some (.lst F), some (.dct ks vs)] = .ok .next [some (.frz (.int n')), some (.frz B), some (.frz P), some (.lst F), some (.dct ks vs)] := by
  simp [dLE31, hx, e, putd3]
theorem in_dct {x : Int} {ks : List Key} {vs : List D} : zIn (.int x) (.dct ks vs) = some (.val (.bl (findK ks vs (.inl x)).isSome)) := rfl
theorem le_32n (hf : findK ks vs (.inl n) = none) : dLE32 [some (.frz (.int n)), some (.frz B), some (.frz P), some (.lst F), some (.dct ks vs)] = .ok .next [some (.frz (.int n)), some (.frz B), some (.frz P), some (.lst F), some (.dct ks vs)] := by
  have z : zIn (.int n) (.dct ks vs) = some (.val (.bl false)) := by rw [in_dct, hf]; rfl
  simp [dLE32, z]
theorem le_32y (hf : findK ks vs (.inl n) = some (.int a)) (hc : cutD F (some a) none = G) (hm : zMin [.lst G] = some (.val (.int m))) : dLE32 [some (.frz (.int n)), some (.frz B), some (.frz P), some (.lst F), some (.dct ks vs)] = .ok (.ret (.frz (.tup [.int a, .int m]))) [some (.frz (.int n)), some (.frz B), some (.frz P), some (.lst F), some (.dct ks vs)] := by
  have z : zIn (.int n) (.dct ks vs) = some (.val (.bl true)) := by rw [in_dct, hf]; rfl
  have zi : zIx (.dct ks vs) (.int n) = some (.val (.int a)) := by
    show (findK ks vs (.inl n)).map Z.val = _
    rw [hf]; rfl
  simp [dLE32, z, zi, hc, hm]
theorem le_33 (hl : ((F.length : Nat) : Int) = l) (hk : ks.length < big) : dLE33 [some (.frz (.int n)), some (.frz B), some (.frz P), some (.lst F), some (.dct ks vs)] = .ok .next [some (.frz (.int n)), some (.frz B), some (.frz P), some (.lst F), some (.dct (putKD (.inl n) (.int l) ks vs).1 (putKD (.inl n) (.int l) ks vs).2)] := by
  have kd : keyD (.int n) = some (.inl n) := rfl
  simp [dLE33, hl, kd, hk]
theorem le_34 (hF : F.length < big) : dLE34 [some (.frz (.int n)), some (.frz B), some (.frz P), some (.lst F), some (.dct ks vs)] = .ok .next [some (.frz (.int n)), some (.frz B), some (.frz P), some (.lst (F ++ [.int n])), some (.dct ks vs)] := by
  simp [dLE34, mAppend_ok hF]
theorem lwd_out {y3 y4 : Option T} {t : D} (e : whileN dLE3C dLE3B fuel [some (.frz (.int n)), some (.frz B), some (.frz P), some (.lst [.int n]), some (.dct [.inl n] [.int 0])] = .ok (.ret (.frz t)) [some (.frz (.int n')), some (.frz B), some (.frz P), y3, y4]) : dLEndD [.frz (.int n), .frz B, .frz P] = .ok (.frz t) [.frz (.int n), .frz B, .frz P] := by
  simp only [dLEndD, dFun_ap, List.map_cons, List.map_nil, List.length_cons, List.length_nil, List.replicate, List.cons_append, List.nil_append, sSeq_ap, le_1, le_2]
  simp [dLE3', e]
end
theorem find_one {n x : Int} : findK [.inl n] [.int 0] (.inl x) = if n = x then some (.int 0) else none := by
  by_cases c : n = x
  · subst c
    simp [findK]
  · simp [findK, c]
theorem lend_d {b p n : Nat} (h : PairT b p) (hn : n < 2 ^ 160) : ∃ o, dLEndD [.frz (.int n), .frz (.int b), .frz (.int p)] = .ok (.frz (epD b p n)) o := by
  have g := eQ_ok h hn
  generalize hq : eQ b p n = q at g
  obtain ⟨a, m⟩ := q
  have hD : epD b p n = .tup [.int a, .int m] := by unfold epD; rw [hq]
  rw [hD]
  have g : EndP b p n a m := g
  obtain ⟨L, hL, o, h1, h2⟩ := g
  have hlt := o.lt
  obtain ⟨t, Γ', e, rfl, n', y3, y4, rfl⟩ := whileN_ret (c := dLE3C) (b := dLE3B)
    (fun mm Γ => ∃ j ks vs, mm = L - j ∧ j < L ∧ Γ = [some (.frz (.int (its b p n j : Nat))), some (.frz (.int b)), some (.frz (.int p)), some (.lst (nats (row b p n (j + 1)))), some (.dct ks vs)] ∧ ks.length = vs.length ∧ ks.length ≤ j + 1 ∧ (∀ i, i < j + 1 → findK ks vs (.inl (its b p n i : Nat)) = some (.int (i : Nat))) ∧ ∀ x : Nat, x ∉ row b p n (j + 1) → findK ks vs (.inl (x : Int)) = none)
    (fun t Γ => t = .frz (.tup [.int a, .int m]) ∧ ∃ n' y3 y4, Γ = [some (.frz (.int n')), some (.frz (.int b)), some (.frz (.int p)), y3, y4])
    (by
      rintro mm Γ ⟨j, ks, vs, rfl, hj, rfl, k1, k2, k3, k4⟩
      refine ⟨_, rfl, ?_⟩
      have hst := o.stop (j := j + 1) (by omega)
      have hx : zIx (.lst (nats (row b p n (j + 1)))) (.int (-1)) = some (.val (.int (its b p n j : Nat))) := by
        rw [row_succ, nats_app]; exact zIx_last
      have c1 := le_31 (n := (its b p n j : Nat)) (ks := ks) (vs := vs) hx (lstepN_ev h.stk (its_lt h.stk hn j))
      by_cases c : j + 1 = L
      · left
        have hf : findK ks vs (.inl (its b p n (j + 1) : Nat)) = some (.int (a : Nat)) := by rw [c, o.back]; exact k3 a (by omega)
        have hcut : cutD (nats (row b p n (j + 1))) (some (a : Int)) none = nats ((row b p n L).drop a) := by
          rw [c, cutD_from _ a (by rw [nats_len, row_len]; omega), nats_drop]
        have c2 := le_32y (B := .int b) (P := .int p) hf hcut (zMin_nats ((held_mem (by omega)).mpr h1) fun x hx => by
          obtain ⟨i, i1, i2, rfl⟩ := (held_mem (by omega)).mp hx
          exact h2 i i1 i2)
        exact ⟨_, _, seq2 c1 (seqR c2), rfl, _, _, _, rfl⟩
      · right
        have hnm : its b p n (j + 1) ∉ row b p n (j + 1) := fun z => c (hst.mp z)
        have hf := k4 _ hnm
        have c2 := le_32n (F := nats (row b p n (j + 1))) (B := .int b) (P := .int p) hf
        have c3 := le_33 (n := (its b p n (j + 1) : Nat)) (F := nats (row b p n (j + 1))) (B := .int b) (P := .int p) (ks := ks) (vs := vs) (l := ((j + 1 : Nat) : Int)) (by rw [nats_len, row_len]) (by rw [big]; omega)
        have c4 := le_34 (n := (its b p n (j + 1) : Nat)) (F := nats (row b p n (j + 1))) (B := .int b) (P := .int p) (ks := (putKD (.inl ((its b p n (j + 1) : Nat) : Int)) (.int ((j + 1 : Nat) : Int)) ks vs).1) (vs := (putKD (.inl ((its b p n (j + 1) : Nat) : Int)) (.int ((j + 1 : Nat) : Int)) ks vs).2) (by rw [nats_len, row_len, big]; omega)
        have hp := put_len (k := .inl ((its b p n (j + 1) : Nat) : Int)) (d := .int ((j + 1 : Nat) : Int)) k1
        refine ⟨_, L - (j + 1), seq2 c1 (seq2 c2 (seq2 c3 c4)), by omega, j + 1, _, _, rfl, by omega, ?_, hp.1, by omega, fun i hi => ?_, fun x hx => ?_⟩
        · rw [row_succ b p n (j + 1), nats_app]; rfl
        · rw [find_put k1]
          rcases Nat.lt_succ_iff_lt_or_eq.mp hi with z | rfl
          · have hne : its b p n i ≠ its b p n (j + 1) := o.dif i (j + 1) z (by omega)
            rw [if_neg (fun g => hne (by have := Sum.inl.inj g; omega))]
            exact k3 i z
          · rw [if_pos rfl]
        · rw [row_succ] at hx
          rw [find_put k1]
          have hx1 : x ∉ row b p n (j + 1) := fun z => hx (List.mem_append_left _ z)
          have hx2 : x ≠ its b p n (j + 1) := fun z => hx (List.mem_append_right _ (by rw [z]; simp))
          rw [if_neg (fun g => hx2 (by have := Sum.inl.inj g; omega))]
          exact k4 x hx1)
    L [some (.frz (.int n)), some (.frz (.int b)), some (.frz (.int p)), some (.lst [.int n]), some (.dct [.inl (n : Int)] [.int 0])] fuel (by have : fuel = 1000000000000 := rfl; omega) ⟨0, _, _, by omega, by omega, rfl, rfl, by simp, fun i hi => by
      obtain rfl : i = 0 := by omega
      rw [find_one]; exact if_pos rfl, fun x hx => by
      rw [find_one, if_neg]
      intro e
      refine hx ?_
      have : x = n := by omega
      rw [this]
      exact row_mem.mpr ⟨0, by omega, rfl⟩⟩
  exact ⟨_, lwd_out e⟩
end Fw
set_option maxHeartbeats 4000000
namespace Fw
namespace Wk
open PySem L2 Fw
def d_read_number_1 : SDen := (sIf (dOrT (dT (dBin zEq (dName 0) (dC (.str "")))) (dAndT (dT (dBin zEq (dBin zIx (dName 0) (dC (.int 0))) (dC (.str "0")))) (dT (dBin zNe (dName 0) (dC (.str "0")))))) sNever sNext)
def d_read_number_2 : SDen := (sAsg 2 (dC (.int 0)))
def d_read_number_3_1 : SDen := (sIf (dT (dBin zNotIn (dName 4) (dSl zSl (dC (.str "0123456789abcdef")) none (some (dName 1))))) sNever sNext)
def d_read_number_3_2 : SDen := (sAsg 2 (dBin zAdd (dBin zMul (dName 1) (dName 2)) (dM isStr zFind (dC (.str "0123456789abcdef")) [(dName 4)])))
def d_read_number_3_b : SDen := (sSeq d_read_number_3_1 d_read_number_3_2)
def d_read_number_3 : SDen := (sFor (iEnuS (dName 0)) (putT (putLc (putN 3) (putLc (putN 4) putL0))) d_read_number_3_b)
def d_read_number_4 : SDen := (sRet (dName 2))
/-- read_number(text, base); slots text:0 base:1 number:2 place:3 sign:4 -/
def d_read_number : FDen := dFun 5 [false, false]
  (sSeq d_read_number_1 (sSeq d_read_number_2 (sSeq d_read_number_3 d_read_number_4)))
def d_figures_of_1 : SDen := (sAsg 2 (dLst []))
def d_figures_of_2_1 : SDen := (sDrop (dMut mAppend 2 [(dBin zMod (dName 0) (dName 1))]))
def d_figures_of_2_2 : SDen := (sAsg 0 (dBin zDiv (dName 0) (dName 1)))
def d_figures_of_2_b : SDen := (sSeq d_figures_of_2_1 d_figures_of_2_2)
def d_figures_of_2_c : DenT := (dT (dBin zGe (dName 0) (dName 1)))
def d_figures_of_2 : SDen := (sWhile d_figures_of_2_c d_figures_of_2_b)
def d_figures_of_3 : SDen := (sDrop (dMut mAppend 2 [(dName 0)]))
def d_figures_of_4 : SDen := (sRet (dB zTuple [(dUn zRev (dName 2))]))
/-- figures_of(number, base); slots number:0 base:1 found:2 -/
def d_figures_of : FDen := dFun 3 [false, false]
  (sSeq d_figures_of_1 (sSeq d_figures_of_2 (sSeq d_figures_of_3 d_figures_of_4)))
def d_number_shown_1 : SDen := (sRet (dM isStr zJoin (dC (.str "")) [(dComp (iTupD (dCall d_figures_of [.v (dName 0), .v (dName 1)])) (putN 2) dYes (dBin zIx (dC (.str "0123456789abcdef")) (dName 2)) [2])]))
/-- number_shown(number, base); slots number:0 base:1 figure:2 -/
def d_number_shown : FDen := dFun 3 [false, false]
  d_number_shown_1
def d_power_of_1 : SDen := (sAsg 2 (dC (.int 1)))
def d_power_of_2_1 : SDen := (sAsg 2 (dBin zMul (dName 2) (dName 0)))
def d_power_of_2_b : SDen := d_power_of_2_1
def d_power_of_2 : SDen := (sFor (iR1 (dName 1)) (putN 3) d_power_of_2_b)
def d_power_of_3 : SDen := (sRet (dName 2))
/-- power_of(number, often); slots number:0 often:1 found:2 turn:3 -/
def d_power_of : FDen := dFun 4 [false, false]
  (sSeq d_power_of_1 (sSeq d_power_of_2 d_power_of_3))
def d_step_of_1 : SDen := (sRet (dB zSum [(dComp (iTupD (dCall d_figures_of [.v (dName 0), .v (dName 1)])) (putN 3) dYes (dCall d_power_of [.v (dName 3), .v (dName 2)]) [3])]))
/-- step_of(number, base, power); slots number:0 base:1 power:2 figure:3 -/
def d_step_of : FDen := dFun 4 [false, false, false]
  d_step_of_1
def d_walked_1 : SDen := (sAsg 3 (dLst []))
def d_walked_2 : SDen := (sAsg 4 dDict0)
def d_walked_3_1 : SDen := (sPutK 4 (dName 0) (dB zLen [(dName 3)]))
def d_walked_3_2 : SDen := (sDrop (dMut mAppend 3 [(dName 0)]))
def d_walked_3_3 : SDen := (sAsg 0 (dCall d_step_of [.v (dName 0), .v (dName 1), .v (dName 2)]))
def d_walked_3_b : SDen := (sSeq d_walked_3_1 (sSeq d_walked_3_2 d_walked_3_3))
def d_walked_3_c : DenT := (dT (dBin zNotIn (dName 0) (dName 4)))
def d_walked_3 : SDen := (sWhile d_walked_3_c d_walked_3_b)
def d_walked_4 : SDen := (sRet (dTup [(dName 3), (dBin zIx (dName 4) (dName 0))]))
/-- walked(number, base, power); slots number:0 base:1 power:2 found:3 places:4 -/
def d_walked : FDen := dFun 5 [false, false, false]
  (sSeq d_walked_1 (sSeq d_walked_2 (sSeq d_walked_3 d_walked_4)))
def d_end_of_1 : SDen := (sAsgG (putT (putLc (putN 3) (putLc (putN 4) putL0))) (dCall d_walked [.v (dName 0), .v (dName 1), .v (dName 2)]))
def d_end_of_2 : SDen := (sRet (dTup [(dName 4), (dB zMin [(dSl zSl (dName 3) (some (dName 4)) none)])]))
/-- end_of(number, base, power); slots number:0 base:1 power:2 row:3 at:4 -/
def d_end_of : FDen := dFun 5 [false, false, false]
  (sSeq d_end_of_1 d_end_of_2)
def d__law_mix_1 : SDen := (sAsg 2 (dBin zAdd (dBin zMod (dName 0) (dC (.int 2147483629))) (dBin zMul (dBin zMul (dC (.int 1000003)) (dName 1)) (dName 1))))
def d__law_mix_2 : SDen := (sAsg 2 (dBin zMod (dBin zAdd (dName 2) (dBin zMul (dC (.int 7919)) (dName 1))) (dC (.int 2147483629))))
def d__law_mix_3 : SDen := (sAsg 2 (dBin zMod (dBin zMul (dName 2) (dName 2)) (dC (.int 2147483587))))
def d__law_mix_4 : SDen := (sRet (dBin zDiv (dBin zMod (dBin zMul (dName 2) (dBin zAdd (dName 2) (dC (.int 40961)))) (dC (.int 2147483563))) (dC (.int 4))))
/-- _law_mix(cell, k); slots cell:0 k:1 number:2 -/
def d__law_mix : FDen := dFun 3 [false, false]
  (sSeq d__law_mix_1 (sSeq d__law_mix_2 (sSeq d__law_mix_3 d__law_mix_4)))
def d__law_deck_1 : SDen := (sRet (dLst [(dSl zSl (dName 0) none (some (dC (.int 63)))), (dC (.int 0)), (dC (.int 0)), (dC (.int 0)), (dB zSum [(dSl zSl (dName 0) none (some (dC (.int 63))))])]))
/-- _law_deck(script); slots script:0 -/
def d__law_deck : FDen := dFun 1 [false]
  d__law_deck_1
def d__law_next_1 : SDen := (sIf (dAndT (dT (dBin zEq (dBin zIx (dName 0) (dC (.int 2))) (dC (.int 0)))) (dT (dBin zLt (dBin zIx (dName 0) (dC (.int 1))) (dB zLen [(dBin zIx (dName 0) (dC (.int 0)))])))) (sSeq (sAsg 2 (dBin zIx (dBin zIx (dName 0) (dC (.int 0))) (dBin zIx (dName 0) (dC (.int 1)))))
  (sSeq (sSetI 0 (dC (.int 1)) (dBin zAdd (dBin zIx (dName 0) (dC (.int 1))) (dC (.int 1))))
  (sSeq (sIf (dT (dBin zLt (dName 2) (dBin zPow (dC (.int 10)) (dC (.int 18))))) (sRet (dBin zMod (dCall d__law_mix [.v (dName 2), .v (dBin zIx (dName 0) (dC (.int 1)))]) (dName 1))) sNext)
  (sSetI 0 (dC (.int 2)) (dName 2))))) sNext)
def d__law_next_2 : SDen := (sIf (dT (dBin zGt (dBin zIx (dName 0) (dC (.int 2))) (dC (.int 0)))) (sSeq (sAsg 3 (dBin zMod (dBin zIx (dName 0) (dC (.int 2))) (dName 1)))
  (sSeq (sSetI 0 (dC (.int 2)) (dBin zDiv (dBin zIx (dName 0) (dC (.int 2))) (dName 1)))
  (sRet (dName 3)))) sNext)
def d__law_next_3 : SDen := (sSetI 0 (dC (.int 3)) (dBin zAdd (dBin zIx (dName 0) (dC (.int 3))) (dC (.int 1))))
def d__law_next_4 : SDen := (sRet (dBin zMod (dCall d__law_mix [.v (dBin zIx (dName 0) (dC (.int 4))), .v (dBin zAdd (dBin zIx (dName 0) (dC (.int 3))) (dC (.int 607)))]) (dName 1)))
/-- _law_next(deck, many); slots deck:0 many:1 cell:2 found:3 -/
def d__law_next : FDen := dFun 4 [true, false]
  (sSeq d__law_next_1 (sSeq d__law_next_2 (sSeq d__law_next_3 d__law_next_4)))
def d__law_pair_1 : SDen := (sAsg 1 (dBin zAdd (dC (.int 2)) (dCall d__law_next [.io 0, .v (dC (.int 15))])))
def d__law_pair_2 : SDen := (sAsg 2 (dBin zIx (dLst [(dC (.int 10)), (dC (.int 9)), (dC (.int 6)), (dC (.int 4)), (dC (.int 4)), (dC (.int 3)), (dC (.int 3)), (dC (.int 3)), (dC (.int 3)), (dC (.int 3)), (dC (.int 2)), (dC (.int 2)), (dC (.int 2)), (dC (.int 2)), (dC (.int 2))]) (dBin zSub (dName 1) (dC (.int 2)))))
def d__law_pair_3 : SDen := (sRet (dBin zIx (dLst [(dTup [(dName 1), (dBin zAdd (dC (.int 1)) (dCall d__law_next [.io 0, .v (dName 2)]))]), (dTup [(dName 1), (dName 2)])]) (dCall d__law_next [.io 0, .v (dC (.int 2))])))
/-- _law_pair(deck); slots deck:0 base:1 most:2 -/
def d__law_pair : FDen := dFun 3 [true]
  (sSeq d__law_pair_1 (sSeq d__law_pair_2 d__law_pair_3))
def d_step_now : FDen := dFun 1 [true] (sRet (dCall d_step_of [.v (dMeth dNowF 0 []), .v (dKnB 0), .v (dKnP 0)]))
def d_end_now : FDen := dFun 1 [true] (sRet (dCall d_end_of [.v (dMeth dNowF 0 []), .v (dKnB 0), .v (dKnP 0)]))
def d__law_told_1 : SDen := (sAsg 1 (dMeth d_end_now 0 []))
def d__law_told_2 : SDen := (sAsg 2 (dMeth d_step_now 0 []))
def d__law_told_3 : SDen := (sRet (dLst [(dMeth dNowF 0 []), (dName 2), (dName 1)]))
/-- _law_told(kept); slots kept:0 end:1 step:2 -/
def d__law_told : FDen := dFun 3 [true]
  (sSeq d__law_told_1 (sSeq d__law_told_2 d__law_told_3))
def d__law_deed_1 : SDen := (sAsg 4 (dCall d__law_next [.io 0, .v (dC (.int 6))]))
def d__law_deed_2 : SDen := (sAsg 5 (dCall d__law_next [.io 0, .v (dName 3)]))
def d__law_deed_3 : SDen := (sIf (dT (dBin zLt (dName 4) (dC (.int 3)))) (sSeq (sDrop (dMeth dPutF 1 [.v (dName 5)]))
  (sRet (dBin zAdd (dBin zIx (dLst [(dName 2), (dLst [])]) (dB zInt [(dBin zEq (dName 2) (dLst [(dC (.int 0))]))])) (dLst [(dName 5)])))) sNext)
def d__law_deed_4 : SDen := (sIf (dT (dBin zEq (dName 4) (dC (.int 3)))) (sSeq (sDrop (dMeth dOffF 1 []))
  (sRet (dBin zAdd (dSl zSl (dName 2) none (some (dUn zNeg (dC (.int 1))))) (dBin zMul (dLst [(dC (.int 0))]) (dB zInt [(dBin zEq (dB zLen [(dName 2)]) (dC (.int 1)))]))))) sNext)
def d__law_deed_5 : SDen := (sAsg 6 (dCall d__law_next [.io 0, .v (dB zLen [(dName 2)])]))
def d__law_deed_6 : SDen := (sAsg 5 (dB zMax [(dB zInt [(dBin zGt (dName 6) (dC (.int 0)))]), (dName 5)]))
def d__law_deed_7 : SDen := (sDrop (dMeth dSetF 1 [.v (dName 6), .v (dName 5)]))
def d__law_deed_8 : SDen := (sAsg 7 (dBin zSub (dBin zSub (dB zLen [(dName 2)]) (dC (.int 1))) (dName 6)))
def d__law_deed_9 : SDen := (sRet (dBin zAdd (dBin zAdd (dSl zSl (dName 2) none (some (dName 7))) (dLst [(dName 5)])) (dSl zSl (dName 2) (some (dBin zAdd (dName 7) (dC (.int 1)))) none)))
/-- _law_deed(deck, kept, figures, base); slots deck:0 kept:1 figures:2 base:3 way:4 figure:5 place:6 at:7 -/
def d__law_deed : FDen := dFun 8 [true, true, false, false]
  (sSeq d__law_deed_1 (sSeq d__law_deed_2 (sSeq d__law_deed_3 (sSeq d__law_deed_4 (sSeq d__law_deed_5 (sSeq d__law_deed_6 (sSeq d__law_deed_7 (sSeq d__law_deed_8 d__law_deed_9))))))))
def d__law_afresh_1 : SDen := (sAsg 4 (dMk [(dName 0), (dName 1)]))
def d__law_afresh_2_1 : SDen := (sDrop (dMeth dPutF 4 [.v (dBin zIx (dLst [(dName 5), (dName 3)]) (dB zInt [(dBin zGt (dName 3) (dC (.int 0)))]))]))
def d__law_afresh_2_b : SDen := d__law_afresh_2_1
def d__law_afresh_2 : SDen := (sFor (iLst (dName 2)) (putN 5) d__law_afresh_2_b)
def d__law_afresh_3_1 : SDen := (sDrop (dMeth dSetF 4 [.v (dBin zSub (dBin zSub (dB zLen [(dName 2)]) (dC (.int 1))) (dName 6)), .v (dBin zIx (dName 2) (dName 6))]))
def d__law_afresh_3_b : SDen := d__law_afresh_3_1
def d__law_afresh_3 : SDen := (sFor (iR1 (dBin zMul (dB zLen [(dName 2)]) (dB zInt [(dBin zGt (dName 3) (dC (.int 0)))]))) (putN 6) d__law_afresh_3_b)
def d__law_afresh_4 : SDen := (sRet (dName 4))
/-- _law_afresh(base, power, figures, other); slots base:0 power:1 figures:2 other:3 kept:4 figure:5 k:6 -/
def d__law_afresh : FDen := dFun 7 [false, false, false, false]
  (sSeq d__law_afresh_1 (sSeq d__law_afresh_2 (sSeq d__law_afresh_3 d__law_afresh_4)))
def d__law_back_right_1 : SDen := (sAsg 3 (dCall d__law_told [.io 1]))
def d__law_back_right_2 : SDen := (sAsg 4 (dCall d_figures_of [.v (dBin zIx (dName 3) (dC (.int 0))), .v (dName 2)]))
def d__law_back_right_3 : SDen := (sIf (dT (dBin zGt (dBin zIx (dName 3) (dC (.int 0))) (dC (.int 0)))) (sSeq (sDrop (dMeth dPutF 1 [.v (dCall d__law_next [.io 0, .v (dName 2)])]))
  (sSeq (sIf (dT (dBin zEq (dCall d__law_next [.io 0, .v (dC (.int 2))]) (dC (.int 0)))) (sDrop (dMeth dNowF 1 [])) sNext)
  (sDrop (dMeth dOffF 1 [])))) sNext)
def d__law_back_right_4 : SDen := (sIf (dT (dBin zNe (dCall d__law_told [.io 1]) (dName 3))) (sRet (dC (.bl false))) sNext)
def d__law_back_right_5 : SDen := (sAsg 5 (dCall d__law_next [.io 0, .v (dB zLen [(dName 4)])]))
def d__law_back_right_6 : SDen := (sDrop (dMeth dSetF 1 [.v (dName 5), .v (dBin zSub (dName 2) (dC (.int 1)))]))
def d__law_back_right_7 : SDen := (sIf (dT (dBin zEq (dCall d__law_next [.io 0, .v (dC (.int 2))]) (dC (.int 0)))) (sDrop (dMeth d_end_now 1 [])) sNext)
def d__law_back_right_8 : SDen := (sDrop (dMeth dSetF 1 [.v (dName 5), .v (dBin zIx (dName 4) (dBin zSub (dBin zSub (dB zLen [(dName 4)]) (dC (.int 1))) (dName 5)))]))
def d__law_back_right_9 : SDen := (sRet (dBin zEq (dCall d__law_told [.io 1]) (dName 3)))
/-- _law_back_right(deck, kept, base); slots deck:0 kept:1 base:2 ahead:3 figures:4 place:5 -/
def d__law_back_right : FDen := dFun 6 [true, true, false]
  (sSeq d__law_back_right_1 (sSeq d__law_back_right_2 (sSeq d__law_back_right_3 (sSeq d__law_back_right_4 (sSeq d__law_back_right_5 (sSeq d__law_back_right_6 (sSeq d__law_back_right_7 (sSeq d__law_back_right_8 d__law_back_right_9))))))))
def d_law_1 : SDen := (sAsg 1 (dCall d__law_deck [.v (dName 0)]))
def d_law_2 : SDen := (sAsgG (putT (putLc (putN 2) (putLc (putN 3) putL0))) (dCall d__law_pair [.io 1]))
def d_law_3 : SDen := (sAsg 4 (dMk [(dName 2), (dName 3)]))
def d_law_4 : SDen := (sAsg 5 (dLst [(dC (.int 0))]))
def d_law_5_1 : SDen := (sAsg 5 (dCall d__law_deed [.io 1, .io 4, .v (dName 5), .v (dName 2)]))
def d_law_5_2 : SDen := (sIf (dT (dBin zEq (dCall d__law_next [.io 1, .v (dC (.int 4))]) (dC (.int 0)))) (sDrop (dMeth d_end_now 4 [])) sNext)
def d_law_5_b : SDen := (sSeq d_law_5_1 d_law_5_2)
def d_law_5 : SDen := (sFor (iR1 (dCall d__law_next [.io 1, .v (dC (.int 40))])) (putN 6) d_law_5_b)
def d_law_6 : SDen := (sAsgG (putU (putLc (putN 7) (putLc (putN 8) (putLc (putN 9) putL0)))) (dCall d__law_told [.io 4]))
def d_law_7 : SDen := (sIf (dT (dBin zNe (dB zList [(dCall d_figures_of [.v (dName 7), .v (dName 2)])]) (dName 5))) (sRet (dC (.bl false))) sNext)
def d_law_8 : SDen := (sIf (dOrT (dT (dBin zNe (dCall d_read_number [.v (dCall d_number_shown [.v (dName 7), .v (dName 2)]), .v (dName 2)]) (dName 7))) (dT (dBin zNe (dName 8) (dCall d_step_of [.v (dName 7), .v (dName 2), .v (dName 3)])))) (sRet (dC (.bl false))) sNext)
def d_law_9 : SDen := (sIf (dOrT (dT (dBin zNe (dName 9) (dCall d_end_of [.v (dName 7), .v (dName 2), .v (dName 3)]))) (dT (dBin zNe (dCall d_end_of [.v (dName 8), .v (dName 2), .v (dName 3)]) (dTup [(dB zMax [(dC (.int 0)), (dBin zSub (dBin zIx (dName 9) (dC (.int 0))) (dC (.int 1)))]), (dBin zIx (dName 9) (dC (.int 1)))])))) (sRet (dC (.bl false))) sNext)
def d_law_10_1 : SDen := (sIf (dT (dBin zNe (dCallT d__law_told (dCall d__law_afresh [.v (dName 2), .v (dName 3), .v (dName 5), .v (dName 10)]) []) (dLst [(dName 7), (dName 8), (dName 9)]))) (sRet (dC (.bl false))) sNext)
def d_law_10_b : SDen := d_law_10_1
def d_law_10 : SDen := (sFor (iLst (dLst [(dC (.int 0)), (dBin zAdd (dC (.int 1)) (dCall d__law_next [.io 1, .v (dBin zSub (dName 2) (dC (.int 1)))]))])) (putN 10) d_law_10_b)
def d_law_11 : SDen := (sRet (dCall d__law_back_right [.io 1, .io 4, .v (dName 2)]))
/-- law(script); slots script:0 deck:1 base:2 power:3 kept:4 figures:5 turn:6 number:7 step:8 end:9 other:10 -/
def d_law : FDen := dFun 11 [false]
  (sSeq d_law_1 (sSeq d_law_2 (sSeq d_law_3 (sSeq d_law_4 (sSeq d_law_5 (sSeq d_law_6 (sSeq d_law_7 (sSeq d_law_8 (sSeq d_law_9 (sSeq d_law_10 d_law_11))))))))))
theorem eq_end : d_end_of = dEnd := rfl
theorem eq_step : d_step_of = dStep := rfl
theorem eq_fig : d_figures_of = dFig := rfl
theorem eq_read : d_read_number = dRead := rfl
theorem eq_shown : d_number_shown = dShown := rfl
theorem eq_snow : d_step_now = dStepNow := rfl
theorem eq_enow : d_end_now = dEndNow := rfl
theorem nx {N : Nat} {ds : List D} (h : DkA N ds) {m : Int} (hm : 0 < m) (hb : m.natAbs < 18446744073709551616) (hN : N ≤ 1000000000000) :
    ∃ r ds', d__law_next [.lst ds, .frz (.int m)] = .ok (.frz (.int r)) [.lst ds', .frz (.int m)] ∧ 0 ≤ r ∧ r < m ∧ DkA (N + 1) ds' :=
  nextA_ev (p := 1) (q := 607) rfl (by decide) h hm (nat64 hb) hN
theorem pr {N : Nat} {ds : List D} (h : DkA N ds) (hN : N ≤ 100000000000) :
    ∃ b p ds', d__law_pair [.lst ds] = .ok (.frz (.tup [.int b, .int p])) [.lst ds'] ∧ PairOk b p ∧ DkA (N + 3) ds' :=
  pairA_ev (w := 1) (v := 607) rfl (by decide) h hN
theorem pl_ep (b p n : Nat) : pl 64 (epD b p n) := (pl_tup (h := 5) (pl_ints [_, _])).mono (by decide)
/-! told -/
theorem told_gen {kb kp n s : Int} {kf : List Int} {E : D} (e1 : dEndNow [.kn kb kp kf] = .ok (.frz E) [.kn kb kp kf]) (e2 : dStepNow [.kn kb kp kf] = .ok (.frz (.int s)) [.kn kb kp kf]) (e3 : dNowF [.kn kb kp kf] = .ok (.frz (.int n)) [.kn kb kp kf]) : d__law_told [.kn kb kp kf] = .ok (.lst [.int n, .int s, E]) [.kn kb kp kf] := by
  simp [d__law_told, d__law_told_1, d__law_told_2, d__law_told_3, isKn, eq_enow, e1, eq_snow, e2, e3]
noncomputable def tdD (b p : Nat) (gs : List Nat) : List D := [.int (numBy b gs 0 : Nat), .int (st b p (numBy b gs 0) : Nat), epD b p (numBy b gs 0)]
theorem pl_td (b p : Nat) (gs : List Nat) : pl 64 (.lst (tdD b p gs)) := (pl_lst (h := 7) fun d hd => by
  simp only [tdD, List.mem_cons, List.not_mem_nil, or_false] at hd
  rcases hd with rfl | rfl | rfl
  · exact pl_int
  · exact pl_int
  · exact (pl_tup (h := 5) (pl_ints [_, _])).mono (by decide)).mono (by decide)
theorem told_ev {b p : Nat} {gs : List Nat} (h : PairT b p) (hl : gs.length ≤ 900) (hn : numBy b gs 0 < 2 ^ 160) : d__law_told [.kn b p (cst gs)] = .ok (.lst (tdD b p gs)) [.kn b p (cst gs)] := by
  have hb16 := h.b16
  exact told_gen (kend_ev h hl hn) (kstep_ev (by omega) hl h.stk hn) (know_ev (by omega) hl)
/-! a deed -/
section
variable {d0 d1 F G A C : List D} {b f w r x y v kb kp : Int} {kf kf' : List Int} {x4 x5 x6 x7 : Option T} {o : List T}
theorem e1_ {way : Int} (e : d__law_next [.lst d0, .frz (.int 6)] = .ok (.frz (.int way)) [.lst d1, .frz (.int 6)]) : d__law_deed_1 [some (.lst d0), some (.kn kb kp kf), some (.frz (.lst F)), some (.frz (.int b)), none, none, none, none] = .ok .next [some (.lst d1), some (.kn kb kp kf), some (.frz (.lst F)), some (.frz (.int b)), some (.frz (.int way)), none, none, none] := by
  simp [d__law_deed_1, e]
theorem e2_ (e : d__law_next [.lst d0, .frz (.int b)] = .ok (.frz (.int f)) [.lst d1, .frz (.int b)]) : d__law_deed_2 [some (.lst d0), some (.kn kb kp kf), some (.frz (.lst F)), some (.frz (.int b)), x4, none, none, none] = .ok .next [some (.lst d1), some (.kn kb kp kf), some (.frz (.lst F)), some (.frz (.int b)), x4, some (.frz (.int f)), none, none] := by
  simp [d__law_deed_2, e]
theorem e3y {c : Bool} (h : w < 3) (e : dPutF [.kn kb kp kf, .frz (.int f)] = .ok (.frz .non) [.kn kb kp kf', .frz (.int f)]) (hq : zEq (.lst F) (.lst [.int 0]) = some (.val (.bl c))) (hx : zIx (.lst [.lst F, .lst []]) (.int (if c = true then 1 else 0)) = some (.val (.lst G))) (hl : G.length + 1 ≤ big) : d__law_deed_3 [some (.lst d0), some (.kn kb kp kf), some (.frz (.lst F)), some (.frz (.int b)), some (.frz (.int w)), some (.frz (.int f)), none, none] = .ok (.ret (.lst (G ++ [.int f]))) [some (.lst d0), some (.kn kb kp kf'), some (.frz (.lst F)), some (.frz (.int b)), some (.frz (.int w)), some (.frz (.int f)), none, none] := by
  have za : zAdd (.lst G) (.lst [.int f]) = some (.lst (G ++ [.int f])) := by simp [zAdd, hl]
  simp [d__law_deed_3, h, isKn, e, hq, hx, za]
theorem e3n (h : ¬ w < 3) : d__law_deed_3 [some (.lst d0), some (.kn kb kp kf), some (.frz (.lst F)), some (.frz (.int b)), some (.frz (.int w)), some (.frz (.int f)), none, none] = .ok .next [some (.lst d0), some (.kn kb kp kf), some (.frz (.lst F)), some (.frz (.int b)), some (.frz (.int w)), some (.frz (.int f)), none, none] := by
  simp [d__law_deed_3, h]
theorem e4y (h : w = 3) (e : dOffF [.kn kb kp kf] = .ok (.frz .non) [.kn kb kp kf']) (hc : cutD F none (some (-1)) = A) (hx : (if ((F.length : Nat) : Int) = 1 then 1 else 0) = x) (hm : zMul (.lst [.int 0]) (.int x) = some (.lst C)) (hl : A.length + C.length ≤ big) : d__law_deed_4 [some (.lst d0), some (.kn kb kp kf), some (.frz (.lst F)), some (.frz (.int b)), some (.frz (.int w)), some (.frz (.int f)), none, none] = .ok (.ret (.lst (A ++ C))) [some (.lst d0), some (.kn kb kp kf'), some (.frz (.lst F)), some (.frz (.int b)), some (.frz (.int w)), some (.frz (.int f)), none, none] := by
  have za : zAdd (.lst A) (.lst C) = some (.lst (A ++ C)) := by simp [zAdd, hl]
  simp [d__law_deed_4, h, isKn, e, hc, hx, hm, za]
theorem e4n (h : w ≠ 3) : d__law_deed_4 [some (.lst d0), some (.kn kb kp kf), some (.frz (.lst F)), some (.frz (.int b)), some (.frz (.int w)), some (.frz (.int f)), none, none] = .ok .next [some (.lst d0), some (.kn kb kp kf), some (.frz (.lst F)), some (.frz (.int b)), some (.frz (.int w)), some (.frz (.int f)), none, none] := by
  simp [d__law_deed_4, h]
theorem e5_ (hl : ((F.length : Nat) : Int) = v) (e : d__law_next [.lst d0, .frz (.int v)] = .ok (.frz (.int y)) [.lst d1, .frz (.int v)]) : d__law_deed_5 [some (.lst d0), some (.kn kb kp kf), some (.frz (.lst F)), some (.frz (.int b)), x4, x5, none, none] = .ok .next [some (.lst d1), some (.kn kb kp kf), some (.frz (.lst F)), some (.frz (.int b)), x4, x5, some (.frz (.int y)), none] := by
  simp [d__law_deed_5, hl, e]
theorem e6_ (hx : (if 0 < y then 1 else 0) = x) (hm : zMax [.int x, .int f] = some (.val (.int v))) : d__law_deed_6 [some (.lst d0), some (.kn kb kp kf), some (.frz (.lst F)), some (.frz (.int b)), x4, some (.frz (.int f)), some (.frz (.int y)), none] = .ok .next [some (.lst d0), some (.kn kb kp kf), some (.frz (.lst F)), some (.frz (.int b)), x4, some (.frz (.int v)), some (.frz (.int y)), none] := by
  simp [d__law_deed_6, hx, hm]
theorem e7_ (e : dSetF [.kn kb kp kf, .frz (.int y), .frz (.int f)] = .ok (.frz .non) [.kn kb kp kf', .frz (.int y), .frz (.int f)]) : d__law_deed_7 [some (.lst d0), some (.kn kb kp kf), some (.frz (.lst F)), some (.frz (.int b)), x4, some (.frz (.int f)), some (.frz (.int y)), none] = .ok .next [some (.lst d0), some (.kn kb kp kf'), some (.frz (.lst F)), some (.frz (.int b)), x4, some (.frz (.int f)), some (.frz (.int y)), none] := by
  simp [d__law_deed_7, isKn, e]
theorem e8_ (hv : ((F.length : Nat) : Int) - 1 - y = v) : d__law_deed_8 [some (.lst d0), some (.kn kb kp kf), some (.frz (.lst F)), some (.frz (.int b)), x4, some (.frz (.int f)), some (.frz (.int y)), none] = .ok .next [some (.lst d0), some (.kn kb kp kf), some (.frz (.lst F)), some (.frz (.int b)), x4, some (.frz (.int f)), some (.frz (.int y)), some (.frz (.int v))] := by
  simp [d__law_deed_8, hv]
theorem e9_ (hA : cutD F none (some v) = A) (hC : cutD F (some (v + 1)) none = C) (h1 : A.length + 1 ≤ big) (h2 : A.length + 1 + C.length ≤ big) : d__law_deed_9 [some (.lst d0), some (.kn kb kp kf), some (.frz (.lst F)), some (.frz (.int b)), x4, some (.frz (.int f)), some (.frz (.int y)), some (.frz (.int v))] = .ok (.ret (.lst (A ++ [.int f] ++ C))) [some (.lst d0), some (.kn kb kp kf), some (.frz (.lst F)), some (.frz (.int b)), x4, some (.frz (.int f)), some (.frz (.int y)), some (.frz (.int v))] := by
  have z1 : zAdd (.lst A) (.lst [.int f]) = some (.lst (A ++ [.int f])) := by simp [zAdd, h1]
  have z2 : zAdd (.lst (A ++ [.int f])) (.lst C) = some (.lst (A ++ [.int f] ++ C)) := by
    have : (A ++ [D.int f]).length + C.length ≤ big := by simp; omega
    simp only [zAdd, this, if_true]
  simp only [d__law_deed_9, sRet_ap, dBin_ap, bindO_ap, dO_ap, dSl_ap, dName_ap, dLst_ap, dC_ap, List.getElem?_cons_zero, List.getElem?_cons_succ]
  simp [hA, hC, z1, z2]
theorem deed_ret {t : T} {Γ : List (Option T)} (h : sSeq d__law_deed_1 (sSeq d__law_deed_2 (sSeq d__law_deed_3 (sSeq d__law_deed_4 (sSeq d__law_deed_5 (sSeq d__law_deed_6 (sSeq d__law_deed_7 (sSeq d__law_deed_8 d__law_deed_9))))))) [some (.lst d0), some (.kn kb kp kf), some (.frz (.lst F)), some (.frz (.int b)), none, none, none, none] = .ok (.ret (.lst G)) [some (.lst d1), some (.kn kb kp kf'), some (.frz (.lst F)), some (.frz (.int b)), x4, x5, x6, x7]) :
    d__law_deed [.lst d0, .kn kb kp kf, .frz (.lst F), .frz (.int b)] = .ok (.lst G) [.lst d1, .kn kb kp kf', .frz (.lst F), .frz (.int b)] := by
  simp only [d__law_deed, dFun_ap, List.map_cons, List.map_nil, List.length_cons, List.length_nil, List.replicate, List.cons_append, List.nil_append, h]
  simp
end
theorem nats_drop1 (gs : List Nat) : cutD (nats gs) none (some (-1)) = nats gs.dropLast := by
  rcases List.eq_nil_or_concat gs with rfl | ⟨hs, x, rfl⟩
  · rfl
  · rw [List.concat_eq_append, nats_app, List.dropLast_concat]
    exact cutD_m1
theorem set_parts (gs : List Nat) (i f : Nat) (h : i < gs.length) : nats (gs.set i f) = (nats gs).take i ++ [D.int (f : Int)] ++ (nats gs).drop (i + 1) := by
  have e : nats (f :: gs.drop (i + 1)) = D.int (f : Int) :: (nats gs).drop (i + 1) := by rw [nats_drop]; rfl
  rw [List.set_eq_take_append_cons_drop, if_pos h, nats_app, ← nats_take, e]
  simp
theorem deed_ev {b p N : Nat} {gs : List Nat} {d0 : List D} (hb : 2 ≤ b) (hb16 : b ≤ 16) (hc : Can b gs) (hl : gs.length ≤ 40) (hd : DkA N d0) (hN : N ≤ 100000000) :
    ∃ d1 gs', d__law_deed [.lst d0, .kn b p (cst gs), .frz (.lst (nats gs)), .frz (.int b)] = .ok (.lst (nats gs')) [.lst d1, .kn b p (cst gs'), .frz (.lst (nats gs)), .frz (.int b)] ∧ Can b gs' ∧ gs'.length ≤ gs.length + 1 ∧ DkA (N + 3) d1 := by
  obtain ⟨w, d1, ew, w0, w1, h1⟩ := nx hd (m := 6) (by omega) (by omega) (by omega)
  obtain ⟨r, d2, er, r0, r1, h2⟩ := nx h1 (m := (b : Int)) (by omega) (by omega) (by omega)
  obtain ⟨f, rfl⟩ : ∃ f : Nat, r = (f : Int) := ⟨r.toNat, by omega⟩
  have hf : f < b := by omega
  have k1 := e1_ (kb := (b : Int)) (kp := (p : Int)) (kf := cst gs) (F := nats gs) (b := (b : Int)) ew
  have k2 := e2_ (kb := (b : Int)) (kp := (p : Int)) (kf := cst gs) (F := nats gs) (x4 := some (.frz (.int w))) er
  have hpos := List.length_pos_iff.mpr hc.ne
  by_cases c1 : w < 3
  · have hq : zEq (.lst (nats gs)) (.lst [.int 0]) = some (.val (.bl (decide (gs = [0])))) := by
      have := zEq_ints (cst gs) [0]
      rw [← nats_cst] at this
      rw [show decide (gs = [0]) = decide (cst gs = [0]) from decide_eq_decide.mpr (cst_one gs).symm]
      exact this
    have hx : zIx (.lst [.lst (nats gs), .lst []]) (.int (if decide (gs = [0]) = true then 1 else 0)) = some (.val (.lst (if gs = [0] then [] else nats gs))) := by
      by_cases c : gs = [0]
      · rw [if_pos (decide_eq_true c), if_pos c]; exact zIx_l (k := 1) rfl rfl
      · rw [if_neg (by simpa using c), if_neg c]; exact zIx_l (k := 0) rfl rfl
    have k3 := e3y (d0 := d2) (b := (b : Int)) c1 (kput_ev (p := p) (gs := gs) hf (by omega)) hq hx (by split <;> simp [nats_len, big]; omega)
    have hG : (if gs = [0] then [] else nats gs) ++ [D.int (f : Int)] = nats (kPut gs f) := by
      unfold kPut
      by_cases c : gs = [0]
      · rw [if_pos c, if_pos c]; rfl
      · rw [if_neg c, if_neg c, nats_app]; rfl
    rw [hG] at k3
    exact ⟨d2, kPut gs f, deed_ret (Γ := []) (t := .frz .non) (seq2 k1 (seq2 k2 (seqR k3))), hc.put hf, kput_len gs f, h2.mono (by omega)⟩
  · have k3 := e3n (d0 := d2) (kb := (b : Int)) (kp := (p : Int)) (kf := cst gs) (F := nats gs) (b := (b : Int)) (f := (f : Int)) c1
    by_cases c2 : w = 3
    · have hlen : ((nats gs).length : Int) = 1 ↔ gs.length = 1 := by rw [nats_len]; omega
      have k4 := e4y (d0 := d2) (b := (b : Int)) (f := (f : Int)) c2 (koff_ev (b := b) (p := p) (gs := gs) hc.ne (by omega)) (nats_drop1 gs) (x := if gs.length = 1 then 1 else 0) (by
        by_cases c : gs.length = 1
        · rw [if_pos (hlen.mpr c), if_pos c]
        · rw [if_neg (fun z => c (hlen.mp z)), if_neg c]) (C := if gs.length = 1 then [.int 0] else []) (by
        by_cases c : gs.length = 1
        · rw [if_pos c, if_pos c]; rfl
        · rw [if_neg c, if_neg c]; rfl) (by
        rw [nats_len, List.length_dropLast]
        split <;> simp [big] <;> omega)
      have hG : nats gs.dropLast ++ (if gs.length = 1 then [D.int 0] else []) = nats (kOff gs) := by
        unfold kOff
        by_cases c : gs.length = 1
        · have hd : gs.dropLast = [] := List.length_eq_zero_iff.mp (by rw [List.length_dropLast]; omega)
          rw [if_pos c, if_pos hd, hd]; rfl
        · have hd : gs.dropLast ≠ [] := fun e => by
            have := congrArg List.length e
            rw [List.length_dropLast] at this
            simp at this; omega
          rw [if_neg c, if_neg hd, List.append_nil]
      rw [hG] at k4
      have := koff_len gs hc.ne
      exact ⟨d2, kOff gs, deed_ret (Γ := []) (t := .frz .non) (seq2 k1 (seq2 k2 (seq2 k3 (seqR k4)))), hc.off hb, by omega, h2.mono (by omega)⟩
    · have k4 := e4n (d0 := d2) (kb := (b : Int)) (kp := (p : Int)) (kf := cst gs) (F := nats gs) (b := (b : Int)) (f := (f : Int)) c2
      obtain ⟨y, d3, ey, y0, y1, h3⟩ := nx h2 (m := ((gs.length : Nat) : Int)) (by omega) (by omega) (by omega)
      obtain ⟨j, rfl⟩ : ∃ j : Nat, y = (j : Int) := ⟨y.toNat, by omega⟩
      have hj : j < gs.length := by omega
      have k5 := e5_ (kb := (b : Int)) (kp := (p : Int)) (kf := cst gs) (F := nats gs) (b := (b : Int)) (x4 := some (.frz (.int w))) (x5 := some (.frz (.int (f : Int)))) (by rw [nats_len]) ey
      obtain ⟨g, hg, hgb, hg0⟩ : ∃ g : Nat, zMax [.int (if (0 : Int) < (j : Int) then 1 else 0), .int (f : Int)] = some (.val (.int (g : Int))) ∧ g < b ∧ (0 < j → g ≠ 0) := by
        have e : zMax [.int (if (0 : Int) < (j : Int) then 1 else 0), .int (f : Int)] = some (Z.val (.int (if (f : Int) > (if (0 : Int) < (j : Int) then 1 else 0) then (f : Int) else (if (0 : Int) < (j : Int) then 1 else 0)))) := rfl
        rw [e]
        by_cases c : (0 : Int) < (j : Int)
        · rw [if_pos c]
          by_cases c' : (f : Int) > 1
          · rw [if_pos c']; exact ⟨f, rfl, hf, fun _ => by omega⟩
          · rw [if_neg c']; exact ⟨1, rfl, by omega, fun _ => by omega⟩
        · rw [if_neg c]
          by_cases c' : (f : Int) > 0
          · rw [if_pos c']; exact ⟨f, rfl, hf, fun z => by omega⟩
          · rw [if_neg c']; exact ⟨0, rfl, by omega, fun z => by omega⟩
      have k6 := e6_ (d0 := d3) (kb := (b : Int)) (kp := (p : Int)) (kf := cst gs) (F := nats gs) (b := (b : Int)) (x4 := some (.frz (.int w))) rfl hg
      have hno : ¬ (g = 0 ∧ 0 < j ∧ j = gs.length - 1) := fun z => hg0 z.2.1 z.1
      have k7 := e7_ (d0 := d3) (F := nats gs) (b := (b : Int)) (x4 := some (.frz (.int w))) (kset_ev (b := b) (p := p) (f := g) (k := j) (gs := gs) hgb hj hno (by omega))
      have k8 := e8_ (d0 := d3) (kb := (b : Int)) (kp := (p : Int)) (kf := cst (gs.set (gs.length - 1 - j) g)) (F := nats gs) (b := (b : Int)) (f := (g : Int)) (x4 := some (.frz (.int w))) (y := (j : Int)) (v := ((gs.length - 1 - j : Nat) : Int)) (by rw [nats_len]; omega)
      have k9 := e9_ (d0 := d3) (kb := (b : Int)) (kp := (p : Int)) (kf := cst (gs.set (gs.length - 1 - j) g)) (F := nats gs) (b := (b : Int)) (f := (g : Int)) (x4 := some (.frz (.int w))) (y := (j : Int)) (v := ((gs.length - 1 - j : Nat) : Int)) (A := (nats gs).take (gs.length - 1 - j)) (C := (nats gs).drop (gs.length - 1 - j + 1)) (cutD_to _ _) (by
        have := cutD_from (nats gs) (gs.length - 1 - j + 1) (by rw [nats_len]; omega)
        rw [Int.natCast_add] at this
        exact this) (by rw [List.length_take, nats_len, big]; omega) (by rw [List.length_take, List.length_drop, nats_len, big]; omega)
      rw [← set_parts gs _ g (by omega)] at k9
      exact ⟨d3, gs.set (gs.length - 1 - j) g, deed_ret (Γ := []) (t := .frz .non) (seq2 k1 (seq2 k2 (seq2 k3 (seq2 k4 (seq2 k5 (seq2 k6 (seq2 k7 (seq2 k8 k9)))))))), hc.set hgb hj hno, by rw [List.length_set]; omega, h3.mono (by omega)⟩
/-! made afresh -/
theorem fold_put {b : Nat} : ∀ (r acc : List Nat), acc ≠ [0] → acc ≠ [] → r.foldl kPut acc = acc ++ r
  | [], acc, _, _ => by simp
  | f :: r, acc, h, hn => by
    have e : kPut acc f = acc ++ [f] := by unfold kPut; rw [if_neg h]
    rw [List.foldl_cons, e, fold_put (b := b) r (acc ++ [f]) (fun z => by
      have := congrArg List.length z
      have h2 := List.length_pos_iff.mpr hn
      simp at this
      exact hn this) (by simp), List.append_assoc]; rfl
theorem fold_can {b : Nat} {gs : List Nat} (h : Can b gs) : gs.foldl kPut [0] = gs := by
  rcases h.hd with z | ⟨f, r, rfl, hf⟩
  · obtain ⟨f, rfl⟩ := List.length_eq_one_iff.mp z
    simp [kPut]
  · rw [List.foldl_cons]
    have e : kPut [0] f = [f] := by simp [kPut]
    rw [e, fold_put (b := b) r [f] (fun z => hf (by simpa using z)) (by simp)]; rfl
theorem can_rep {b o n : Nat} (ho : o < b) (h0 : o ≠ 0) (hn : 0 < n) : Can b (List.replicate n o) := by
  obtain ⟨m, rfl⟩ : ∃ m, n = m + 1 := ⟨n - 1, by omega⟩
  exact ⟨by simp, fun f hf => by rw [(List.mem_replicate.mp hf).2]; exact ho, .inr ⟨o, List.replicate m o, rfl, h0⟩⟩
section
variable {F : List D} {b p f g w r x y v kb kp o n : Int} {kf kf' : List Int} {x4 x5 x6 : Option T}
theorem f1 : d__law_afresh_1 [some (.frz (.int b)), some (.frz (.int p)), some (.frz (.lst F)), some (.frz (.int o)), none, none, none] = .ok .next [some (.frz (.int b)), some (.frz (.int p)), some (.frz (.lst F)), some (.frz (.int o)), some (.kn b p [0]), none, none] := by
  simp [d__law_afresh_1, dMk]
theorem f2b (hx : zIx (.lst [.int y, .int o]) (.int (if 0 < o then 1 else 0)) = some (.val (.int g))) (e : dPutF [.kn kb kp kf, .frz (.int g)] = .ok (.frz .non) [.kn kb kp kf', .frz (.int g)]) : d__law_afresh_2_b [some (.frz (.int b)), some (.frz (.int p)), some (.frz (.lst F)), some (.frz (.int o)), some (.kn kb kp kf), some (.frz (.int y)), none] = .ok .next [some (.frz (.int b)), some (.frz (.int p)), some (.frz (.lst F)), some (.frz (.int o)), some (.kn kb kp kf'), some (.frz (.int y)), none] := by
  simp [d__law_afresh_2_b, d__law_afresh_2_1, hx, isKn, e]
theorem f3b (hv : ((F.length : Nat) : Int) - 1 - y = v) (hx : zIx (.lst F) (.int y) = some (.val (.int g))) (e : dSetF [.kn kb kp kf, .frz (.int v), .frz (.int g)] = .ok (.frz .non) [.kn kb kp kf', .frz (.int v), .frz (.int g)]) : d__law_afresh_3_b [some (.frz (.int b)), some (.frz (.int p)), some (.frz (.lst F)), some (.frz (.int o)), some (.kn kb kp kf), x5, some (.frz (.int y))] = .ok .next [some (.frz (.int b)), some (.frz (.int p)), some (.frz (.lst F)), some (.frz (.int o)), some (.kn kb kp kf'), x5, some (.frz (.int y))] := by
  simp [d__law_afresh_3_b, d__law_afresh_3_1, hv, hx, isKn, e]
theorem f_out {kf2 : List Int} {y5 y6 : Option T} (k2 : forL (putN 5) d__law_afresh_2_b F [some (.frz (.int b)), some (.frz (.int p)), some (.frz (.lst F)), some (.frz (.int o)), some (.kn b p [0]), none, none] = .ok .next [some (.frz (.int b)), some (.frz (.int p)), some (.frz (.lst F)), some (.frz (.int o)), some (.kn b p kf), y5, none])
    (hm : zMul (.int ((F.length : Nat) : Int)) (.int (if 0 < o then 1 else 0)) = some (.val (.int n))) (hs : smallI n = true) (k3 : forL (putN 6) d__law_afresh_3_b (rngD 0 1 n.toNat) [some (.frz (.int b)), some (.frz (.int p)), some (.frz (.lst F)), some (.frz (.int o)), some (.kn b p kf), y5, none] = .ok .next [some (.frz (.int b)), some (.frz (.int p)), some (.frz (.lst F)), some (.frz (.int o)), some (.kn b p kf2), y5, y6]) :
    ∃ outs, d__law_afresh [.frz (.int b), .frz (.int p), .frz (.lst F), .frz (.int o)] = .ok (.kn b p kf2) outs := by
  have s2 : d__law_afresh_2 [some (.frz (.int b)), some (.frz (.int p)), some (.frz (.lst F)), some (.frz (.int o)), some (.kn b p [0]), none, none] = .ok .next [some (.frz (.int b)), some (.frz (.int p)), some (.frz (.lst F)), some (.frz (.int o)), some (.kn b p kf), y5, none] := by
    simp [d__law_afresh_2, k2]
  have s3 : d__law_afresh_3 [some (.frz (.int b)), some (.frz (.int p)), some (.frz (.lst F)), some (.frz (.int o)), some (.kn b p kf), y5, none] = .ok .next [some (.frz (.int b)), some (.frz (.int p)), some (.frz (.lst F)), some (.frz (.int o)), some (.kn b p kf2), y5, y6] := by
    simp [d__law_afresh_3, hm, hs, k3]
  refine ⟨[.frz (.int b), .frz (.int p), .frz (.lst F), .frz (.int o)], ?_⟩
  simp only [d__law_afresh, dFun_ap, List.map_cons, List.map_nil, List.length_cons, List.length_nil, List.replicate, List.cons_append, List.nil_append, sSeq_ap, f1, s2, s3]
  simp [d__law_afresh_4]
end
theorem afresh_loop2 {b p o : Nat} {F : List D} (hb16 : b ≤ 16) (ho : o < b) : ∀ (r acc : List Nat) (x5 : Option T), (∀ f ∈ r, f < b) → acc.length + r.length ≤ 800 →
    ∃ y5, forL (putN 5) d__law_afresh_2_b (nats r) [some (.frz (.int b)), some (.frz (.int p)), some (.frz (.lst F)), some (.frz (.int o)), some (.kn b p (cst acc)), x5, none] = .ok .next [some (.frz (.int b)), some (.frz (.int p)), some (.frz (.lst F)), some (.frz (.int o)), some (.kn b p (cst (r.foldl (fun a f => kPut a (if o = 0 then f else o)) acc))), y5, none]
  | [], acc, x5, _, _ => ⟨x5, by simp [nats, forL]⟩
  | f :: r, acc, x5, h, hl => by
    have hf : f < b := h f (by simp)
    have hg : (if o = 0 then f else o) < b := by split <;> omega
    have hx : zIx (.lst [.int (f : Int), .int (o : Int)]) (.int (if (0 : Int) < (o : Int) then 1 else 0)) = some (.val (.int ((if o = 0 then f else o : Nat) : Int))) := by
      by_cases c : o = 0
      · rw [if_neg (by omega), if_pos c]; exact zIx_l (k := 0) rfl rfl
      · rw [if_pos (by omega), if_neg c]; exact zIx_l (k := 1) rfl rfl
    have c := f2b (b := (b : Int)) (p := (p : Int)) (F := F) hx (kput_ev (b := b) (p := p) (gs := acc) hg (by simp at hl; omega))
    have hlen := kput_len acc (if o = 0 then f else o)
    obtain ⟨y5, ih⟩ := afresh_loop2 (F := F) (p := p) hb16 ho r (kPut acc (if o = 0 then f else o)) (some (.frz (.int (f : Int)))) (fun g hg => h g (by simp [hg])) (by simp at hl ⊢; omega)
    refine ⟨y5, ?_⟩
    have hn : nats (f :: r) = D.int (f : Int) :: nats r := rfl
    have c' : d__law_afresh_2_b [some (.frz (.int b)), some (.frz (.int p)), some (.frz (.lst F)), some (.frz (.int o)), some (.kn b p (cst acc)), some (.frz (.int (f : Int))), none] = _ := c
    simp only [hn, forL, putN_ap, List.set_cons_succ, List.set_cons_zero, c']
    exact ih
theorem fold_same (o : Nat) : ∀ (r acc : List Nat), r.foldl (fun a _ => kPut a o) acc = (List.replicate r.length o).foldl kPut acc
  | [], _ => rfl
  | _ :: r, acc => by
    rw [List.foldl_cons, List.length_cons, List.replicate_succ, List.foldl_cons, fold_same o r]
/-- the first ones as they are, then the other figure -/
def mx (o : Nat) (gs : List Nat) (j : Nat) : List Nat := gs.take j ++ (List.replicate gs.length o).drop j
theorem mx_len (o : Nat) (gs : List Nat) (j : Nat) (hj : j ≤ gs.length) : (mx o gs j).length = gs.length := by
  simp [mx]; omega
theorem mx_set {o : Nat} {gs : List Nat} {j : Nat} (hj : j < gs.length) : (mx o gs j).set j (gs[j]) = mx o gs (j + 1) := by
  have hr : j < (List.replicate gs.length o).length := by rw [List.length_replicate]; exact hj
  unfold mx
  rw [List.drop_eq_getElem_cons hr, List.set_append_right _ _ (by rw [List.length_take]; omega), List.length_take, show j - min j gs.length = 0 by omega, List.set_cons_zero, List.take_succ_eq_append_getElem hj, List.append_assoc]
  rfl
theorem afresh_ev {b p o : Nat} {gs : List Nat} (hb16 : b ≤ 16) (hc : Can b gs) (hl : gs.length ≤ 40) (ho : o < b) : ∃ outs, d__law_afresh [.frz (.int b), .frz (.int p), .frz (.lst (nats gs)), .frz (.int o)] = .ok (.kn b p (cst gs)) outs := by
  have hpos := List.length_pos_iff.mpr hc.ne
  obtain ⟨y5, e2⟩ := afresh_loop2 (F := nats gs) (p := p) hb16 ho gs [0] none hc.lt (by simp; omega)
  have hz0 : ∀ j : Nat, (0 : Int) + (j : Int) * 1 = (j : Int) := fun j => by omega
  by_cases c : o = 0
  · subst c
    have hf : gs.foldl (fun a f => kPut a (if 0 = 0 then f else 0)) [0] = gs := fold_can hc
    rw [hf] at e2
    have hm : zMul (.int (((nats gs).length : Nat) : Int)) (.int (if (0 : Int) < ((0 : Nat) : Int) then 1 else 0)) = some (.val (.int 0)) := by
      rw [if_neg (by omega), zMul_i (mulOk_r (by decide)), Int.mul_zero]
    exact f_out e2 hm rfl rfl
  · have hf : gs.foldl (fun a f => kPut a (if o = 0 then f else o)) [0] = mx o gs 0 := by
      have e : (fun a f => kPut a (if o = 0 then f else o)) = fun (a : List Nat) (_ : Nat) => kPut a o := by
        funext a f; rw [if_neg c]
      rw [e, fold_same, fold_can (can_rep ho c hpos)]
      simp [mx]
    rw [hf] at e2
    have hm : zMul (.int (((nats gs).length : Nat) : Int)) (.int (if (0 : Int) < (o : Int) then 1 else 0)) = some (.val (.int (gs.length : Nat))) := by
      rw [if_pos (by omega), nats_len, zMul_i (mulOk_r (by decide)), Int.mul_one]
    obtain ⟨Γ', e3, y6, rfl⟩ := forL_rng (put := putN 6) (b := d__law_afresh_3_b) (fun j Γ => ∃ y6, Γ = [some (.frz (.int b)), some (.frz (.int p)), some (.frz (.lst (nats gs))), some (.frz (.int o)), some (.kn b p (cst (mx o gs j))), y5, y6]) 0 1 gs.length
      [some (.frz (.int b)), some (.frz (.int p)), some (.frz (.lst (nats gs))), some (.frz (.int o)), some (.kn b p (cst (mx o gs 0))), y5, none] ⟨none, rfl⟩ (by
        rintro j Γ hj ⟨y6, rfl⟩
        rw [hz0]
        have hg : gs[j]? = some (gs[j]) := List.getElem?_eq_getElem hj
        have hx : zIx (.lst (nats gs)) (.int (j : Int)) = some (.val (.int ((gs[j] : Nat) : Int))) := zIx_nats hg rfl
        have hgb : gs[j] < b := hc.lt _ (List.getElem_mem hj)
        have es := kset_ev (b := b) (p := p) (f := gs[j]) (k := gs.length - 1 - j) (gs := mx o gs j) hgb (by rw [mx_len _ _ _ (by omega)]; omega) (fun ⟨z1, z2, z3⟩ => by
          rw [mx_len _ _ _ (by omega)] at z3
          have hj0 : j = 0 := by omega
          subst hj0
          rcases hc.hd with z | ⟨f9, r9, e9, hf9⟩
          · omega
          · subst e9; exact hf9 (by simpa using z1)) (by rw [mx_len _ _ _ (by omega)]; omega)
        rw [mx_len _ _ _ (by omega), show gs.length - 1 - (gs.length - 1 - j) = j by omega, mx_set hj] at es
        have c3 := f3b (b := (b : Int)) (p := (p : Int)) (F := nats gs) (o := (o : Int)) (x5 := y5) (y := (j : Int)) (v := ((gs.length - 1 - j : Nat) : Int)) (by rw [nats_len]; omega) hx es
        exact ⟨_, _, rfl, c3, _, rfl⟩)
    have hend : mx o gs gs.length = gs := by
      unfold mx
      rw [List.take_length, List.drop_eq_nil_of_le (by simp), List.append_nil]
    rw [hend] at e3
    exact f_out e2 hm (small_of (by omega) (by omega)) e3
/-! put and taken off, changed and changed back -/
section
variable {d0 d1 A F : List D} {b f g w r x y v kb kp n : Int} {kf kf' : List Int} {x5 : Option T} {o : List T}
theorem b1 (e : d__law_told [.kn kb kp kf] = .ok (.lst A) [.kn kb kp kf]) : d__law_back_right_1 [some (.lst d0), some (.kn kb kp kf), some (.frz (.int b)), none, none, none] = .ok .next [some (.lst d0), some (.kn kb kp kf), some (.frz (.int b)), some (.lst A), none, none] := by
  simp [d__law_back_right_1, e]
theorem b2 (h0 : zIx (.lst A) (.int 0) = some (.val (.int n))) (e : dFig [.frz (.int n), .frz (.int b)] = .ok (.frz (.tup F)) o) : d__law_back_right_2 [some (.lst d0), some (.kn kb kp kf), some (.frz (.int b)), some (.lst A), none, none] = .ok .next [some (.lst d0), some (.kn kb kp kf), some (.frz (.int b)), some (.lst A), some (.frz (.tup F)), none] := by
  simp [d__law_back_right_2, h0, eq_fig, e, putd2]
theorem b3n (h0 : zIx (.lst A) (.int 0) = some (.val (.int n))) (h : ¬ 0 < n) : d__law_back_right_3 [some (.lst d0), some (.kn kb kp kf), some (.frz (.int b)), some (.lst A), some (.frz (.tup F)), none] = .ok .next [some (.lst d0), some (.kn kb kp kf), some (.frz (.int b)), some (.lst A), some (.frz (.tup F)), none] := by
  simp [d__law_back_right_3, h0, h]
theorem b3y {d2 : List D} {n2 : Int} (h0 : zIx (.lst A) (.int 0) = some (.val (.int n))) (h : 0 < n) (e1 : d__law_next [.lst d0, .frz (.int b)] = .ok (.frz (.int f)) [.lst d1, .frz (.int b)]) (e2 : dPutF [.kn kb kp kf, .frz (.int f)] = .ok (.frz .non) [.kn kb kp kf', .frz (.int f)])
    (e3 : d__law_next [.lst d1, .frz (.int 2)] = .ok (.frz (.int r)) [.lst d2, .frz (.int 2)]) (e4 : dNowF [.kn kb kp kf'] = .ok (.frz (.int n2)) [.kn kb kp kf']) (e5 : dOffF [.kn kb kp kf'] = .ok (.frz .non) [.kn kb kp kf]) : d__law_back_right_3 [some (.lst d0), some (.kn kb kp kf), some (.frz (.int b)), some (.lst A), some (.frz (.tup F)), none] = .ok .next [some (.lst d2), some (.kn kb kp kf), some (.frz (.int b)), some (.lst A), some (.frz (.tup F)), none] := by
  by_cases c : r = 0
  · simp [d__law_back_right_3, h0, h, isKn, e1, e2, e3, c, e4, e5]
  · simp [d__law_back_right_3, h0, h, isKn, e1, e2, e3, c, e5]
theorem b4 (e : d__law_told [.kn kb kp kf] = .ok (.lst A) [.kn kb kp kf]) (hn : zNe (.lst A) (.lst A) = some (.val (.bl false))) : d__law_back_right_4 [some (.lst d0), some (.kn kb kp kf), some (.frz (.int b)), some (.lst A), some (.frz (.tup F)), none] = .ok .next [some (.lst d0), some (.kn kb kp kf), some (.frz (.int b)), some (.lst A), some (.frz (.tup F)), none] := by
  simp [d__law_back_right_4, e, hn]
theorem b5 (hl : ((F.length : Nat) : Int) = v) (e : d__law_next [.lst d0, .frz (.int v)] = .ok (.frz (.int y)) [.lst d1, .frz (.int v)]) : d__law_back_right_5 [some (.lst d0), some (.kn kb kp kf), some (.frz (.int b)), some (.lst A), some (.frz (.tup F)), none] = .ok .next [some (.lst d1), some (.kn kb kp kf), some (.frz (.int b)), some (.lst A), some (.frz (.tup F)), some (.frz (.int y))] := by
  simp [d__law_back_right_5, hl, e]
theorem b6 (hw : b - 1 = w) (e : dSetF [.kn kb kp kf, .frz (.int y), .frz (.int w)] = .ok (.frz .non) [.kn kb kp kf', .frz (.int y), .frz (.int w)]) : d__law_back_right_6 [some (.lst d0), some (.kn kb kp kf), some (.frz (.int b)), some (.lst A), some (.frz (.tup F)), some (.frz (.int y))] = .ok .next [some (.lst d0), some (.kn kb kp kf'), some (.frz (.int b)), some (.lst A), some (.frz (.tup F)), some (.frz (.int y))] := by
  simp [d__law_back_right_6, hw, isKn, e]
theorem b7 {E : D} (e : d__law_next [.lst d0, .frz (.int 2)] = .ok (.frz (.int r)) [.lst d1, .frz (.int 2)]) (e2 : dEndNow [.kn kb kp kf] = .ok (.frz E) [.kn kb kp kf]) : d__law_back_right_7 [some (.lst d0), some (.kn kb kp kf), some (.frz (.int b)), some (.lst A), some (.frz (.tup F)), x5] = .ok .next [some (.lst d1), some (.kn kb kp kf), some (.frz (.int b)), some (.lst A), some (.frz (.tup F)), x5] := by
  by_cases c : r = 0
  · simp [d__law_back_right_7, e, c, isKn, eq_enow, e2]
  · simp [d__law_back_right_7, e, c]
theorem b8 (hv : ((F.length : Nat) : Int) - 1 - y = v) (hx : zIx (.tup F) (.int v) = some (.val (.int g))) (e : dSetF [.kn kb kp kf, .frz (.int y), .frz (.int g)] = .ok (.frz .non) [.kn kb kp kf', .frz (.int y), .frz (.int g)]) : d__law_back_right_8 [some (.lst d0), some (.kn kb kp kf), some (.frz (.int b)), some (.lst A), some (.frz (.tup F)), some (.frz (.int y))] = .ok .next [some (.lst d0), some (.kn kb kp kf'), some (.frz (.int b)), some (.lst A), some (.frz (.tup F)), some (.frz (.int y))] := by
  simp [d__law_back_right_8, hv, hx, isKn, e]
theorem b9 (e : d__law_told [.kn kb kp kf] = .ok (.lst A) [.kn kb kp kf]) (hn : zEq (.lst A) (.lst A) = some (.val (.bl true))) : d__law_back_right_9 [some (.lst d0), some (.kn kb kp kf), some (.frz (.int b)), some (.lst A), some (.frz (.tup F)), x5] = .ok (.ret (.frz (.bl true))) [some (.lst d0), some (.kn kb kp kf), some (.frz (.int b)), some (.lst A), some (.frz (.tup F)), x5] := by
  simp [d__law_back_right_9, e, hn]
theorem b_out {y3 y4 y5 : Option T} (h : sSeq d__law_back_right_1 (sSeq d__law_back_right_2 (sSeq d__law_back_right_3 (sSeq d__law_back_right_4 (sSeq d__law_back_right_5 (sSeq d__law_back_right_6 (sSeq d__law_back_right_7 (sSeq d__law_back_right_8 d__law_back_right_9))))))) [some (.lst d0), some (.kn kb kp kf), some (.frz (.int b)), none, none, none] = .ok (.ret (.frz (.bl true))) [some (.lst d1), some (.kn kb kp kf'), some (.frz (.int b)), y3, y4, y5]) : d__law_back_right [.lst d0, .kn kb kp kf, .frz (.int b)] = .ok (.frz (.bl true)) [.lst d1, .kn kb kp kf', .frz (.int b)] := by
  simp only [d__law_back_right, dFun_ap, List.map_cons, List.map_nil, List.length_cons, List.length_nil, List.replicate, List.cons_append, List.nil_append, h]
  simp
end
theorem back_ev {b p N : Nat} {gs : List Nat} {d0 : List D} (h : PairT b p) (hc : Can b gs) (hl : gs.length ≤ 40) (hd : DkA N d0) (hN : N ≤ 100000000) :
    ∃ d1, d__law_back_right [.lst d0, .kn b p (cst gs), .frz (.int b)] = .ok (.frz (.bl true)) [.lst d1, .kn b p (cst gs), .frz (.int b)] := by
  have hb := h.b2
  have hb16 := h.b16
  have hn := hc.small hb16 hl (by omega)
  have hpos := List.length_pos_iff.mpr hc.ne
  have et := told_ev h (by omega) hn
  have k1 := b1 (d0 := d0) (b := (b : Int)) et
  have h0 : zIx (.lst (tdD b p gs)) (.int 0) = some (.val (.int (numBy b gs 0 : Nat))) := zIx_l (k := 0) rfl rfl
  have ef := figN_ev hb (by omega) hn
  rw [hc.dgs hb hn] at ef
  have k2 := b2 (d0 := d0) (kb := (b : Int)) (kp := (p : Int)) (kf := cst gs) h0 ef
  have k3 : ∃ d2, d__law_back_right_3 [some (.lst d0), some (.kn b p (cst gs)), some (.frz (.int b)), some (.lst (tdD b p gs)), some (.frz (.tup (nats gs))), none] = .ok .next [some (.lst d2), some (.kn b p (cst gs)), some (.frz (.int b)), some (.lst (tdD b p gs)), some (.frz (.tup (nats gs))), none] ∧ DkA (N + 2) d2 := by
    by_cases c : (0 : Int) < ((numBy b gs 0 : Nat) : Int)
    · obtain ⟨r, d1, e1, r0, r1, h1⟩ := nx hd (m := (b : Int)) (by omega) (by omega) (by omega)
      obtain ⟨f, rfl⟩ : ∃ f : Nat, r = (f : Int) := ⟨r.toNat, by omega⟩
      obtain ⟨r2, d2, e2, _, _, h2⟩ := nx h1 (m := 2) (by omega) (by omega) (by omega)
      have hcp := hc.put (f := f) (by omega)
      have hlp := kput_len gs f
      have eo := koff_ev (b := b) (p := p) (gs := kPut gs f) hcp.ne (by omega)
      rw [put_off hc f] at eo
      exact ⟨d2, b3y h0 c e1 (kput_ev (p := p) (gs := gs) (by omega) (by omega)) e2 (know_ev (by omega) (by omega)) eo, h2.mono (by omega)⟩
    · exact ⟨d0, b3n h0 c, hd.mono (by omega)⟩
  obtain ⟨d2, k3, h2⟩ := k3
  have k4 := b4 (d0 := d2) (b := (b : Int)) (F := nats gs) et (zNe_same (pl_td b p gs))
  obtain ⟨y, d3, e3, y0, y1, h3⟩ := nx h2 (m := ((gs.length : Nat) : Int)) (by omega) (by omega) (by omega)
  obtain ⟨j, rfl⟩ : ∃ j : Nat, y = (j : Int) := ⟨y.toNat, by omega⟩
  have hj : j < gs.length := by omega
  have k5 := b5 (kb := (b : Int)) (kp := (p : Int)) (kf := cst gs) (b := (b : Int)) (A := tdD b p gs) (F := nats gs) (by rw [nats_len]) e3
  have hno : ¬ (b - 1 = 0 ∧ 0 < j ∧ j = gs.length - 1) := fun z => by omega
  have hc1 := hc.set (f := b - 1) (k := j) (by omega) hj hno
  have k6 := b6 (d0 := d3) (b := (b : Int)) (A := tdD b p gs) (F := nats gs) (w := ((b - 1 : Nat) : Int)) (by omega) (kset_ev (b := b) (p := p) (f := b - 1) (k := j) (gs := gs) (by omega) hj hno (by omega))
  obtain ⟨r4, d4, e4, _, _, h4⟩ := nx h3 (m := 2) (by omega) (by omega) (by omega)
  have k7 := b7 (b := (b : Int)) (A := tdD b p gs) (F := nats gs) (x5 := some (.frz (.int (j : Int)))) e4 (kend_ev (gs := gs.set (gs.length - 1 - j) (b - 1)) h (by rw [List.length_set]; omega) (hc1.small hb16 (m := 40) (by rw [List.length_set]; omega) (by omega)))
  have hi : gs.length - 1 - j < gs.length := by omega
  have hg : gs[gs.length - 1 - j]? = some (gs[gs.length - 1 - j]) := List.getElem?_eq_getElem hi
  have hx : zIx (.tup (nats gs)) (.int ((gs.length - 1 - j : Nat) : Int)) = some (.val (.int ((gs[gs.length - 1 - j] : Nat) : Int))) := zIx_t (k := gs.length - 1 - j) (by simp [nats, hg]) rfl
  have es := kset_ev (b := b) (p := p) (f := gs[gs.length - 1 - j]) (k := j) (gs := gs.set (gs.length - 1 - j) (b - 1)) (hc.lt _ (List.getElem_mem hi)) (by rw [List.length_set]; exact hj) (fun ⟨z1, z2, z3⟩ => by
    rw [List.length_set] at z3
    rcases hc.hd with z | ⟨f9, r9, e9, hf9⟩
    · omega
    · have hz : gs.length - 1 - j = 0 := by omega
      have : gs[gs.length - 1 - j]? = some f9 := by rw [hz, e9]; rfl
      rw [hg] at this
      have := Option.some.inj this
      exact hf9 (by rw [← this]; exact z1)) (by rw [List.length_set]; omega)
  rw [List.length_set, List.set_set, List.set_getElem_self] at es
  have k8 := b8 (d0 := d4) (b := (b : Int)) (A := tdD b p gs) (F := nats gs) (y := (j : Int)) (v := ((gs.length - 1 - j : Nat) : Int)) (by rw [nats_len]; omega) hx es
  have k9 := b9 (d0 := d4) (b := (b : Int)) (F := nats gs) (x5 := some (.frz (.int (j : Int)))) et (zEq_same (pl_td b p gs))
  exact ⟨d4, b_out (seq2 k1 (seq2 k2 (seq2 k3 (seq2 k4 (seq2 k5 (seq2 k6 (seq2 k7 (seq2 k8 k9))))))))⟩
/-! the law -/
section
variable {S x6 : Option T} {d0 d1 F A : List D} {b p n s v w r x y kb kp : Int} {kf kf' : List Int} {E E2 : D} {x7 x8 x9 x10 : Option T} {o o2 o3 : List T}
theorem l2 (e : d__law_pair [.lst d0] = .ok (.frz (.tup [.int b, .int p])) [.lst d1]) : d_law_2 [S, some (.lst d0), none, none, none, none, none, none, none, none, none] = .ok .next [S, some (.lst d1), some (.frz (.int b)), some (.frz (.int p)), none, none, none, none, none, none, none] := by
  simp [d_law_2, e]
theorem l34 : sSeq d_law_3 d_law_4 [S, some (.lst d0), some (.frz (.int b)), some (.frz (.int p)), none, none, none, none, none, none, none] = .ok .next [S, some (.lst d0), some (.frz (.int b)), some (.frz (.int p)), some (.kn b p [0]), some (.lst [.int 0]), none, none, none, none, none] := by
  simp [d_law_3, d_law_4, dMk]
theorem l51 (e : d__law_deed [.lst d0, .kn kb kp kf, .frz (.lst F), .frz (.int b)] = .ok (.lst A) [.lst d1, .kn kb kp kf', .frz (.lst F), .frz (.int b)]) : d_law_5_1 [S, some (.lst d0), some (.frz (.int b)), some (.frz (.int p)), some (.kn kb kp kf), some (.lst F), x6, none, none, none, none] = .ok .next [S, some (.lst d1), some (.frz (.int b)), some (.frz (.int p)), some (.kn kb kp kf'), some (.lst A), x6, none, none, none, none] := by
  simp [d_law_5_1, e]
theorem l52 (e : d__law_next [.lst d0, .frz (.int 4)] = .ok (.frz (.int r)) [.lst d1, .frz (.int 4)]) (e2 : dEndNow [.kn kb kp kf] = .ok (.frz E) [.kn kb kp kf]) : d_law_5_2 [S, some (.lst d0), some (.frz (.int b)), some (.frz (.int p)), some (.kn kb kp kf), some (.lst F), x6, none, none, none, none] = .ok .next [S, some (.lst d1), some (.frz (.int b)), some (.frz (.int p)), some (.kn kb kp kf), some (.lst F), x6, none, none, none, none] := by
  by_cases c : r = 0
  · simp [d_law_5_2, e, c, isKn, eq_enow, e2]
  · simp [d_law_5_2, e, c]
theorem l6 (e : d__law_told [.kn kb kp kf] = .ok (.lst [.int n, .int s, E]) [.kn kb kp kf]) : d_law_6 [S, some (.lst d0), some (.frz (.int b)), some (.frz (.int p)), some (.kn kb kp kf), some (.lst F), x6, none, none, none, none] = .ok .next [S, some (.lst d0), some (.frz (.int b)), some (.frz (.int p)), some (.kn kb kp kf), some (.lst F), x6, some (.frz (.int n)), some (.frz (.int s)), some (.frz E), none] := by
  simp [d_law_6, e, putU]
theorem l7 (e : dFig [.frz (.int n), .frz (.int b)] = .ok (.frz (.tup F)) o) (hn : zNe (.lst F) (.lst F) = some (.val (.bl false))) : d_law_7 [S, some (.lst d0), some (.frz (.int b)), some (.frz (.int p)), some (.kn kb kp kf), some (.lst F), x6, some (.frz (.int n)), some (.frz (.int s)), some (.frz E), none] = .ok .next [S, some (.lst d0), some (.frz (.int b)), some (.frz (.int p)), some (.kn kb kp kf), some (.lst F), x6, some (.frz (.int n)), some (.frz (.int s)), some (.frz E), none] := by
  have zl : zList [.tup F] = some (.lst F) := rfl
  simp [d_law_7, eq_fig, e, putd2, zl, hn]
theorem l8 {t : Str} (e1 : dShown [.frz (.int n), .frz (.int b)] = .ok (.frz (.str t)) o) (e2 : dRead [.frz (.str t), .frz (.int b)] = .ok (.frz (.int n)) o2) (e3 : dStep [.frz (.int n), .frz (.int b), .frz (.int p)] = .ok (.frz (.int s)) o3) : d_law_8 [S, some (.lst d0), some (.frz (.int b)), some (.frz (.int p)), some (.kn kb kp kf), some (.lst F), x6, some (.frz (.int n)), some (.frz (.int s)), some (.frz E), none] = .ok .next [S, some (.lst d0), some (.frz (.int b)), some (.frz (.int p)), some (.kn kb kp kf), some (.lst F), x6, some (.frz (.int n)), some (.frz (.int s)), some (.frz E), none] := by
  simp [d_law_8, eq_shown, e1, eq_read, e2, putd2, eq_step, e3, putd3]
theorem l9 {m : Int} (e1 : dEnd [.frz (.int n), .frz (.int b), .frz (.int p)] = .ok (.frz E) o) (hE : zNe E E = some (.val (.bl false))) (e2 : dEnd [.frz (.int s), .frz (.int b), .frz (.int p)] = .ok (.frz (.tup [.int v, .int m])) o2) (h0 : zIx E (.int 0) = some (.val (.int x))) (hm : zMax [.int 0, .int (x - 1)] = some (.val (.int v))) (h1 : zIx E (.int 1) = some (.val (.int m))) (hn : zNe (.tup [.int v, .int m]) (.tup [.int v, .int m]) = some (.val (.bl false))) :
    d_law_9 [S, some (.lst d0), some (.frz (.int b)), some (.frz (.int p)), some (.kn kb kp kf), some (.lst F), x6, some (.frz (.int n)), some (.frz (.int s)), some (.frz E), none] = .ok .next [S, some (.lst d0), some (.frz (.int b)), some (.frz (.int p)), some (.kn kb kp kf), some (.lst F), x6, some (.frz (.int n)), some (.frz (.int s)), some (.frz E), none] := by
  simp [d_law_9, eq_end, e1, e2, putd3, hE, h0, hm, h1, hn]
theorem putd4 {a b c d : D} {outs : List T} {Γ : Env} : putArgs [.d a, .d b, .d c, .d d] outs Γ = Γ := by
  rcases outs with _ | ⟨x1, _ | ⟨x2, _ | ⟨x3, _ | ⟨x4, r⟩⟩⟩⟩ <;> rfl
theorem l10b (e1 : d__law_afresh [.frz (.int b), .frz (.int p), .frz (.lst F), .frz (.int y)] = .ok (.kn kb kp kf) o) (e2 : d__law_told [.kn kb kp kf] = .ok (.lst [.int n, .int s, E]) [.kn kb kp kf]) (hn : zNe (.lst [.int n, .int s, E]) (.lst [.int n, .int s, E]) = some (.val (.bl false))) {x4 x5 : Option T} (hx : x5 = some (.lst F) ∨ x5 = some (.frz (.lst F))) : d_law_10_b [S, some (.lst d0), some (.frz (.int b)), some (.frz (.int p)), x4, x5, x6, some (.frz (.int n)), some (.frz (.int s)), some (.frz E), some (.frz (.int y))] = .ok .next [S, some (.lst d0), some (.frz (.int b)), some (.frz (.int p)), x4, some (.frz (.lst F)), x6, some (.frz (.int n)), some (.frz (.int s)), some (.frz E), some (.frz (.int y))] := by
  rcases hx with rfl | rfl
  · simp [d_law_10_b, d_law_10_1, e1, putd4, e2, hn]
  · simp [d_law_10_b, d_law_10_1, e1, putd4, e2, hn]
end
theorem max_ev (a : Nat) : zMax [.int 0, .int ((a : Int) - 1)] = some (.val (.int ((a - 1 : Nat) : Int))) := by
  have e : (if (a : Int) - 1 > 0 then (a : Int) - 1 else 0) = ((a - 1 : Nat) : Int) := by split <;> omega
  show some (Z.val (.int (if (a : Int) - 1 > 0 then (a : Int) - 1 else 0))) = _
  rw [e]
theorem others_ev {S : Option T} {b p n : Nat} {gs : List Nat} {d0 : List D} {x4 x6 : Option T} (h : PairT b p) (hc : Can b gs) (hl : gs.length ≤ 40) (hn : numBy b gs 0 = n) : ∀ (ls : List Nat) (x5 x10 : Option T), (∀ o ∈ ls, o < b) → (x5 = some (.lst (nats gs)) ∨ x5 = some (.frz (.lst (nats gs)))) →
    ∃ y5 y10, forL (putN 10) d_law_10_b (nats ls) [S, some (.lst d0), some (.frz (.int b)), some (.frz (.int p)), x4, x5, x6, some (.frz (.int (n : Nat))), some (.frz (.int (st b p n : Nat))), some (.frz (epD b p n)), x10] = .ok .next [S, some (.lst d0), some (.frz (.int b)), some (.frz (.int p)), x4, y5, x6, some (.frz (.int (n : Nat))), some (.frz (.int (st b p n : Nat))), some (.frz (epD b p n)), y10]
  | [], x5, x10, _, _ => ⟨x5, x10, by simp [nats, forL]⟩
  | o :: ls, x5, x10, ho, hx => by
    subst hn
    have hb16 := h.b16
    obtain ⟨outs, e1⟩ := afresh_ev (p := p) hb16 hc hl (ho o (by simp))
    have e2 := told_ev h (show gs.length ≤ 900 by omega) (hc.small hb16 hl (by omega))
    have c := l10b (S := S) (d0 := d0) (x4 := x4) (x6 := x6) e1 e2 (zNe_same (pl_td b p gs)) hx
    obtain ⟨y5, y10, ih⟩ := others_ev (S := S) (d0 := d0) (x4 := x4) (x6 := x6) h hc hl rfl ls (some (.frz (.lst (nats gs)))) (some (.frz (.int (o : Int)))) (fun q hq => ho q (by simp [hq])) (.inr rfl)
    refine ⟨y5, y10, ?_⟩
    have hnn : nats (o :: ls) = D.int (o : Int) :: nats ls := rfl
    simp only [hnn, forL, putN_ap, List.set_cons_succ, List.set_cons_zero, c]
    exact ih
theorem l10 {S x4 x5 x6 y5 y10 : Option T} {d0 d1 : List D} {b p n s w r v : Int} {E : D} (hw : b - 1 = w) (e : d__law_next [.lst d0, .frz (.int w)] = .ok (.frz (.int r)) [.lst d1, .frz (.int w)]) (hv : 1 + r = v)
    (e2 : forL (putN 10) d_law_10_b [.int 0, .int v] [S, some (.lst d1), some (.frz (.int b)), some (.frz (.int p)), x4, x5, x6, some (.frz (.int n)), some (.frz (.int s)), some (.frz E), none] = .ok .next [S, some (.lst d1), some (.frz (.int b)), some (.frz (.int p)), x4, y5, x6, some (.frz (.int n)), some (.frz (.int s)), some (.frz E), y10]) : d_law_10 [S, some (.lst d0), some (.frz (.int b)), some (.frz (.int p)), x4, x5, x6, some (.frz (.int n)), some (.frz (.int s)), some (.frz E), none] = .ok .next [S, some (.lst d1), some (.frz (.int b)), some (.frz (.int p)), x4, y5, x6, some (.frz (.int n)), some (.frz (.int s)), some (.frz E), y10] := by
  simp [d_law_10, hw, e, hv, e2]
theorem l11 {S x5 x6 x7 x8 x9 x10 : Option T} {d0 d1 : List D} {b p kb kp : Int} {kf : List Int} (e : d__law_back_right [.lst d0, .kn kb kp kf, .frz (.int b)] = .ok (.frz (.bl true)) [.lst d1, .kn kb kp kf, .frz (.int b)]) : d_law_11 [S, some (.lst d0), some (.frz (.int b)), some (.frz (.int p)), some (.kn kb kp kf), x5, x6, x7, x8, x9, x10] = .ok (.ret (.frz (.bl true))) [S, some (.lst d1), some (.frz (.int b)), some (.frz (.int p)), some (.kn kb kp kf), x5, x6, x7, x8, x9, x10] := by
  simp [d_law_11, e]
theorem fun_assoc2 {a b d : SDen} {Γ Γ1 : Env} {F : Out Flw} (c1 : sSeq a b Γ = .ok .next Γ1) (c2 : d Γ1 = F) : sSeq a (sSeq b d) Γ = F := by
  have e : sSeq a (sSeq b d) Γ = sSeq (sSeq a b) d Γ := by
    simp only [sSeq_ap]
    cases h1 : a Γ with
    | ok f Γ2 => cases f <;> rfl
    | exc x Γ2 => rfl
    | stuck => rfl
  rw [e, sSeq_ap, c1]; exact c2
theorem law_true (ns : List Int) (h : ns.length ≤ 63) : ∃ outs, d_law [.frz (.scr (ns.map D.int))] = .ok (.frz (.bl true)) outs := by
  generalize hS : (D.scr (ns.map D.int)) = S
  obtain ⟨d0, e0, h0⟩ := deckA_ev ns
  rw [hS] at e0
  have e0 : d__law_deck [.frz S] = .ok (.lst d0) [.frz S] := e0
  have s1 : d_law_1 [some (.frz S), none, none, none, none, none, none, none, none, none, none] = .ok .next [some (.frz S), some (.lst d0), none, none, none, none, none, none, none, none, none] := by simp [d_law_1, e0]
  obtain ⟨b', p', d1, e1, hP, h1⟩ := pr h0 (by omega)
  obtain ⟨b, p, rfl, rfl, hN⟩ := hP.nat
  have hT := hP.natT
  have hb := hT.b2
  have hb16 := hT.b16
  obtain ⟨r, d2, e2, r0, r1, h2⟩ := nx h1 (m := 40) (by omega) (by omega) (by omega)
  obtain ⟨many, rfl⟩ : ∃ many : Nat, r = (many : Int) := ⟨r.toNat, by omega⟩
  obtain ⟨Γ5, l5, gs, d3, x6, rfl, hc, hl, h3⟩ := forL_rng (put := putN 6) (b := d_law_5_b) (fun j Γ => ∃ gs ds x6, Γ = [some (.frz S), some (.lst ds), some (.frz (.int b)), some (.frz (.int p)), some (.kn b p (cst gs)), some (.lst (nats gs)), x6, none, none, none, none] ∧ Can b gs ∧ gs.length ≤ j + 1 ∧ DkA (10 + 4 * j) ds) 0 1 many
    [some (.frz S), some (.lst d2), some (.frz (.int b)), some (.frz (.int p)), some (.kn b p [0]), some (.lst [.int 0]), none, none, none, none, none] ⟨[0], d2, none, rfl, Can.zero hb, by simp, h2.mono (by omega)⟩ (by
      rintro j Γ hj ⟨gs, ds, x6, rfl, hc, hl, hd⟩
      have hz : (0 : Int) + (j : Int) * 1 = (j : Int) := by omega
      rw [hz]
      obtain ⟨d', gs', e, hc', hl', hd'⟩ := deed_ev (p := p) hb hb16 hc (by omega) hd (by omega)
      obtain ⟨r4, d'', e4, _, _, hd''⟩ := nx hd' (m := 4) (by omega) (by omega) (by omega)
      have k1 := l51 (S := some (.frz S)) (p := (p : Int)) (x6 := some (.frz (.int (j : Int)))) e
      have k2 := l52 (S := some (.frz S)) (b := (b : Int)) (p := (p : Int)) (F := nats gs') (x6 := some (.frz (.int (j : Int)))) e4 (kend_ev (gs := gs') hT (by omega) (hc'.small hb16 (m := 40) (by omega) (by omega)))
      exact ⟨_, _, rfl, seq2 k1 k2, gs', d'', _, rfl, hc', by omega, hd''.mono (by omega)⟩)
  have s5 : d_law_5 [some (.frz S), some (.lst d1), some (.frz (.int b)), some (.frz (.int p)), some (.kn b p [0]), some (.lst [.int 0]), none, none, none, none, none] = .ok .next [some (.frz S), some (.lst d3), some (.frz (.int b)), some (.frz (.int p)), some (.kn b p (cst gs)), some (.lst (nats gs)), x6, none, none, none, none] := by
    have hs : smallI (many : Int) = true := small_of (by omega) (by omega)
    simp [d_law_5, e2, hs, l5]
  have hl40 : gs.length ≤ 40 := by omega
  have hn := hc.small hb16 hl40 (by omega)
  have et := told_ev hT (show gs.length ≤ 900 by omega) hn
  have s6 := l6 (S := some (.frz S)) (d0 := d3) (b := (b : Int)) (p := (p : Int)) (F := nats gs) (x6 := x6) et
  have ef := figN_ev hb (by omega) hn
  rw [hc.dgs hb hn] at ef
  have s7 := l7 (S := some (.frz S)) (d0 := d3) (p := (p : Int)) (kb := (b : Int)) (kp := (p : Int)) (kf := cst gs) (s := ((st b p (numBy b gs 0) : Nat) : Int)) (E := epD b p (numBy b gs 0)) (x6 := x6) ef (zNe_nats gs)
  have s8 := l8 (S := some (.frz S)) (d0 := d3) (p := (p : Int)) (kb := (b : Int)) (kp := (p : Int)) (kf := cst gs) (F := nats gs) (E := epD b p (numBy b gs 0)) (x6 := x6) (shown_ev hb hb16 hn) (readN_ev hb hb16 hn) (stepN_ev hT.stk hn)
  have hst : st b p (numBy b gs 0) < 2 ^ 160 := its_lt hT.stk hn 1
  have eo := eQ_ok hT hn
  have s9 := l9 (S := some (.frz S)) (d0 := d3) (kb := (b : Int)) (kp := (p : Int)) (kf := cst gs) (F := nats gs) (x6 := x6) (endQ_ev hT hn) (zNe_same (pl_ep _ _ _)) (end_ev hT hst eo.step) (zIx_t (k := 0) rfl rfl) (max_ev _) (zIx_t (k := 1) rfl rfl) (zNe_same pl_two)
  obtain ⟨r5, d4, e5, r50, r51, h4⟩ := nx h3 (m := ((b - 1 : Nat) : Int)) (by omega) (by omega) (by omega)
  obtain ⟨v, hv⟩ : ∃ v : Nat, 1 + r5 = (v : Int) := ⟨(1 + r5).toNat, by omega⟩
  obtain ⟨y5, y10, e10⟩ := others_ev (S := some (.frz S)) (d0 := d4) (x4 := some (.kn b p (cst gs))) (x6 := x6) hT hc hl40 rfl [0, v] (some (.lst (nats gs))) none (by simp; omega) (.inl rfl)
  have s10 := l10 (S := some (.frz S)) (p := (p : Int)) (x4 := some (.kn b p (cst gs))) (x5 := some (.lst (nats gs))) (x6 := x6) (b := (b : Int)) (by omega) e5 hv e10
  obtain ⟨d5, e11⟩ := back_ev hT hc hl40 h4 (by omega)
  have s11 := l11 (S := some (.frz S)) (p := (p : Int)) (x5 := y5) (x6 := x6) (x7 := some (.frz (.int (numBy b gs 0 : Nat)))) (x8 := some (.frz (.int (st b p (numBy b gs 0) : Nat)))) (x9 := some (.frz (epD b p (numBy b gs 0)))) (x10 := y10) e11
  have all := seq2 s1 (seq2 (l2 e1) (fun_assoc2 l34 (seq2 s5 (seq2 s6 (seq2 s7 (seq2 s8 (seq2 s9 (seq2 s10 s11))))))))
  refine ⟨[.frz S], ?_⟩
  simp only [d_law, dFun_ap, List.map_cons, List.map_nil, List.length_cons, List.length_nil, List.replicate, List.cons_append, List.nil_append, all]
  simp
def topS (i : Nat) : Stmt := PySem.Challenge.pw_figurerounds_k33_whole_kept_as_afresh.main.body.getD i (.Pass ⟨0, 0, 0, 0⟩)
abbrev s_read_number : Stmt := topS 7
abbrev s_figures_of : Stmt := topS 8
abbrev s_number_shown : Stmt := topS 9
abbrev s_power_of : Stmt := topS 10
abbrev s_step_of : Stmt := topS 11
abbrev s_walked : Stmt := topS 13
abbrev s_end_of : Stmt := topS 14
abbrev s__law_mix : Stmt := topS 18
abbrev s__law_deck : Stmt := topS 19
abbrev s__law_next : Stmt := topS 20
abbrev s__law_pair : Stmt := topS 21
abbrev s__law_told : Stmt := topS 22
abbrev s__law_deed : Stmt := topS 23
abbrev s__law_afresh : Stmt := topS 24
abbrev s__law_back_right : Stmt := topS 25
abbrev s_law : Stmt := topS 26
structure Bn (mg : Str → Option Value) : Prop where
  b_enumerate : mg ("enumerate" : Str) = none
  b_int : mg ("int" : Str) = none
  b_len : mg ("len" : Str) = none
  b_list : mg ("list" : Str) = none
  b_max : mg ("max" : Str) = none
  b_min : mg ("min" : Str) = none
  b_range : mg ("range" : Str) = none
  b_sum : mg ("sum" : Str) = none
  b_tuple : mg ("tuple" : Str) = none
  g_FIGURES : ∃ t, mg ("FIGURES" : Str) = some (.str "0123456789abcdef" t)
section
variable {P : Program} {w : World} {K : PySem.W.Frag} {mg : Str → Option Value} {base : Heap}
abbrev s_kn_init : Stmt := inClass (topS 16) 0
abbrev s_kn_need : Stmt := inClass (topS 16) 1
abbrev s_kn_put : Stmt := inClass (topS 16) 2
abbrev s_kn_off : Stmt := inClass (topS 16) 3
abbrev s_kn_set : Stmt := inClass (topS 16) 4
abbrev s_kn_now : Stmt := inClass (topS 16) 5
abbrev s_kn_step : Stmt := inClass (topS 16) 6
abbrev s_kn_end : Stmt := inClass (topS 16) 7
theorem sc_kn_init : FnScope ["self", "base", "power"] ["self", "base", "power"] (defScope s_kn_init) := ⟨rfl, rfl, rfl, by decide +kernel, rfl, by decide +kernel, by decide +kernel⟩
theorem ok_kn_init {f C : Addr} {fd : FuncData} (F : Fun K "__init__" "KeptNumber.__init__" s_kn_init f fd) (T : KnT K mg C) : FnOk P w K mg base CX0 1 f fd ["self", "base", "power"] (spInit K) := by
  refine F.ok sc_kn_init (fun vs H Q E h => ?_) (fun cdv A outer s H vs Q E hr h => ?_)
  · obtain ⟨x, dx, C', b, p, rfl, _⟩ := h; rfl
  · obtain ⟨x, dx, C', b, p, rfl, hC, hx, k⟩ := h
    have := T.at_.symm.trans hC
    cases this
    refine ⟨_, pss_cons (ps_fld (pv 0) (pv 1) rfl) (pss_cons (ps_fld (pv 0) (pv 2) rfl) (pss_one (ps_fld (pv 0) (pe_lst (pa_cons pe_int pa_nil)) rfl))), ?_⟩
    refine ⟨_, rfl, _, rfl, x, C, dx, [], rfl, hx, T.cl, T.nB, (by show 0 < 1000; decide), _, rfl, _, rfl, x, C, dx, _, rfl, upd_same, T.cl, T.nP, (by show 1 < 1000; decide), (by show 1 ≤ sizeLine; rw [sizeLine_eq]; decide), fun l hl => ?_⟩
    have hxl : x ≠ l := ne_of_none upd_same hl
    refine ⟨_, rfl, x, C, dx, _, rfl, (by rw [upd_ne hxl]; exact upd_same), T.cl, T.nF, (by show 2 < 1000; decide), ?_⟩
    rw [upd_ne hxl.symm, upd_ne hxl.symm] at hl
    exact k l _ hl (by rw [knF_mk]; exact upd_same) (by rw [upd_ne hxl.symm, upd_same]) fun a o e ha => by rw [upd_ne ha, upd_ne (ne_of_none e hl), upd_ne ha, upd_ne ha]; exact e
theorem sc_kn_need : FnScope ["self", "figure"] ["self", "figure"] (defScope s_kn_need) := ⟨rfl, rfl, rfl, by decide +kernel, rfl, by decide +kernel, by decide +kernel⟩
theorem ok_kn_need {f C : Addr} {fd : FuncData} (F : Fun K "need_figure" "KeptNumber.need_figure" s_kn_need f fd) (T : KnT K mg C) : FnOk P w K mg base CX0 1 f fd ["self", "figure"] (spNeed C) := by
  refine F.ok sc_kn_need (fun vs H Q E h => ?_) (fun cdv A outer s H vs Q E hr h => ?_)
  · obtain ⟨a, dx, l, b, p, g, rfl, _⟩ := h; rfl
  · obtain ⟨a, dx, l, b, p, g, rfl, ha, h0, hb, k⟩ := h
    refine ⟨_, pss_one (ps_if (pw_or (pt_cmpR op_lt (pv 1) pe_int (nomark _)) (pw_or1 (pt_cmpR op_ge (pv 1) (pe_fld (pv 0) rfl) (nomark _)))).pt (pss_one ps_never) pss_nil), ?_⟩
    have e1 : decide (g < 0) = false := decide_eq_false (by omega)
    have e2 : decide (b ≤ g) = false := decide_eq_false (by omega)
    refine ⟨_, rfl, _, _, rfl, rfl, _, rfl, ?_⟩
    rw [e1]
    refine no_if ?_
    refine ⟨_, rfl, _, rfl, a, C, dx, _, _, rfl, ha, T.cl, T.nB, knF_base _ _ _, _, _, rfl, rfl, _, rfl, ?_⟩
    rw [e2]
    refine no_if ?_
    exact k
theorem sc_kn_put : FnScope ["self", "figure"] ["self", "figure"] (defScope s_kn_put) := ⟨rfl, rfl, rfl, by decide +kernel, rfl, by decide +kernel, by decide +kernel⟩
theorem ok_kn_put {f fN C : Addr} {fd fdN : FuncData} (F : Fun K "put_figure" "KeptNumber.put_figure" s_kn_put f fd) (T : KnT K mg C) (FN : Fun K "need_figure" "KeptNumber.need_figure" s_kn_need fN fdN) (bN : Binds K fdN ["self", "figure"] []) (mN : Meth K C "need_figure" fN) : FnOk P w K mg base CX0 2 f fd ["self", "figure"] (spD K dPutF) := by
  have GN : FnOk P w K mg base CX0 1 fN fdN ["self", "figure"] (spNeed C) := ok_kn_need FN T
  refine F.ok sc_kn_put (fun vs H Q E h => ?_) (fun cdv A outer s H vs Q E hr h => ?_)
  · obtain ⟨a, l, dx, b, p, fs, g, Hf, rfl, _⟩ := put_in T.at_ h; rfl
  · obtain ⟨a, l, dx, b, p, fs, g, Hf, rfl, ha, hl, h0, hb, hlen, w0, k⟩ := put_in T.at_ h
    refine ⟨_, pss_cons (ps_expr (pe_meth (pv 0) T.cl mN GN hr bN .nil pass0 (pa_cons (pv 1) pa_nil)))
      (pss_cons (ps_if (pt_cmpR (op_eqD (u64 hr)) (pe_fld (pv 0) rfl) (pe_lst (pa_cons pe_int pa_nil)) (nomark _)) (pss_one (ps_fld (pv 0) (pe_lst pa_nil) rfl)) pss_nil)
      (pss_one (ps_expr (pe_bm PySem.F.plainAttrs_list PySem.F.slot_list_append PySem.F.type_list_append mt_append (pe_fld (pv 0) rfl) (pa_cons (pv 1) pa_nil))))), ?_⟩
    refine ⟨_, rfl, a, dx, _, rfl, ha, rfl, _, rfl, a, dx, l, b, p, g, rfl, ha, h0, hb, ?_⟩
    refine ⟨_, rfl, a, C, dx, _, _, rfl, ha, T.cl, T.nF, knF_figures _ _ _, (by show 1 ≤ sizeLine; rw [sizeLine_eq]; decide), fun q hq => ?_⟩
    refine os_eq (fun _ => none) _ _ _ (.lst (fs.map D.int)) (.lst [.int 0]) _ (fun _ _ e => nomatch e) (.lst (by rw [upd_ne (ne_of_none hl hq)]; exact hl) (repL_ints _)) (.lst upd_same (repL_ints [0])) (zEq_ints fs [0]) _ fun v H' m => ?_
    obtain ⟨rfl, rv⟩ := m
    simp only [Rep] at rv
    subst rv
    refine ⟨_, rfl, ?_⟩
    have haq : a ≠ q := ne_of_none ha hq
    have ha1 : upd H q (.lst [.int 0]) a = some (.ins C dx (knF b p l)) := by rw [upd_ne haq]; exact ha
    by_cases c : fs = [0]
    · rw [decide_eq_true c]
      refine yes_if ?_
      refine ⟨(by show 0 ≤ sizeLine; omega), fun l2 hl2 => ?_⟩
      have hal : a ≠ l2 := ne_of_none ha1 hl2
      have hl2' : H l2 = none := by
        by_cases e : l2 = q
        · rw [e]; exact hq
        · rw [upd_ne e] at hl2; exact hl2
      refine ⟨_, rfl, a, C, dx, _, rfl, (by rw [upd_ne hal]; exact ha1), T.cl, T.nF, (by show 3 < 1000; decide), ?_⟩
      have hL : ∀ o, upd (upd (upd H q (.lst [.int 0])) l2 (.lst [])) a o l2 = some (.lst (([] : List Int).map V.int)) := fun o => by rw [upd_ne hal.symm]; exact upd_same
      refine ⟨_, rfl, a, C, dx, _, _, rfl, upd_same, T.cl, T.nF, knF_figures _ _ _, tyL (hL _), _, rfl, l2, [], _, rfl, rfl, hL _, (by show 0 < sizeLine; rw [sizeLine_eq]; decide), ?_⟩
      refine k l2 _ (by rw [upd_ne hal]; exact upd_same) (by rw [upd_same, c]; rfl) (.inr hl2') fun x o hxa hxl e => ?_
      rw [upd_ne (ne_of_none e hl2'), upd_ne hxa, upd_ne (ne_of_none e hl2'), upd_ne (ne_of_none e hq)]
      exact e
    · rw [decide_eq_false c]
      refine no_if ?_
      have hl1 : upd H q (.lst [.int 0]) l = some (.lst (fs.map V.int)) := by rw [upd_ne (ne_of_none hl hq)]; exact hl
      have hal : a ≠ l := fun e => by rw [e, hl] at ha; cases ha
      refine ⟨_, rfl, a, C, dx, _, _, rfl, ha1, T.cl, T.nF, knF_figures _ _ _, tyL hl1, _, rfl, l, _, _, rfl, rfl, hl1, (by rw [List.length_map, sizeLine_eq]; omega), ?_⟩
      refine k l _ (by rw [upd_ne hal]; exact ha1) (by rw [upd_same]; unfold knPut; rw [if_neg c, List.map_append]; rfl) (.inl rfl) fun x o hxa hxl e => ?_
      rw [upd_ne hxl, upd_ne (ne_of_none e hq)]
      exact e
theorem sc_kn_off : FnScope ["self"] ["self"] (defScope s_kn_off) := ⟨rfl, rfl, rfl, by decide +kernel, rfl, by decide +kernel, by decide +kernel⟩
theorem ok_kn_off {f C : Addr} {fd : FuncData} (F : Fun K "take_off" "KeptNumber.take_off" s_kn_off f fd) (T : KnT K mg C) : FnOk P w K mg base CX0 1 f fd ["self"] (spD K dOffF) := by
  refine F.ok sc_kn_off (fun vs H Q E h => ?_) (fun cdv A outer s H vs Q E hr h => ?_)
  · obtain ⟨a, l, dx, b, p, fs, Hf, rfl, _⟩ := off_in T.at_ h; rfl
  · obtain ⟨a, l, dx, b, p, fs, Hf, rfl, ha, hl, hne, hlen, w0, k⟩ := off_in T.at_ h
    have hal : a ≠ l := fun e => by rw [e, hl] at ha; cases ha
    refine ⟨_, pss_cons (ps_expr (pe_bm0 PySem.F.plainAttrs_list PySem.F.slot_list_pop PySem.F.type_list_pop mt_pop (pe_fld (pv 0) rfl)))
      (pss_one (ps_if (pt_cmpR (op_eqD (u64 hr)) (pe_fld (pv 0) rfl) (pe_lst pa_nil) (nomark _)) (pss_one (ps_fld (pv 0) (pe_lst (pa_cons pe_int pa_nil)) rfl)) pss_nil)), ?_⟩
    have hlast : (fs.map V.int)[(fs.map V.int).length - 1]? = some (.int (fs.getLast hne)) := by
      rw [List.length_map, List.getElem?_map, ← List.getLast?_eq_getElem?, List.getLast?_eq_getLast hne]; rfl
    refine ⟨_, rfl, a, C, dx, _, _, rfl, ha, T.cl, T.nF, knF_figures _ _ _, tyL hl, l, _, _, rfl, rfl, hl, hlast, ?_⟩
    have ha1 : upd H l (.lst (fs.map V.int).dropLast) a = some (.ins C dx (knF b p l)) := by rw [upd_ne hal]; exact ha
    have hl1 : upd H l (.lst (fs.map V.int).dropLast) l = some (.lst (fs.dropLast.map V.int)) := by rw [upd_same, List.map_dropLast]
    refine ⟨_, rfl, a, C, dx, _, _, rfl, ha1, T.cl, T.nF, knF_figures _ _ _, (by show 0 ≤ sizeLine; omega), fun q hq => ?_⟩
    refine os_eq (fun _ => none) _ _ _ (.lst (fs.dropLast.map D.int)) (.lst []) _ (fun _ _ e => nomatch e) (.lst (by rw [upd_ne (ne_of_none hl1 hq)]; exact hl1) (repL_ints _)) (.lst upd_same (repL_ints [])) (zEq_ints fs.dropLast []) _ fun v H' m => ?_
    obtain ⟨rfl, rv⟩ := m
    simp only [Rep] at rv
    subst rv
    refine ⟨_, rfl, ?_⟩
    have haq : a ≠ q := ne_of_none ha1 hq
    have hql : q ≠ l := (ne_of_none hl1 hq).symm
    by_cases c : fs.dropLast = []
    · rw [decide_eq_true c]
      refine yes_if ?_
      refine ⟨(by show 1 ≤ sizeLine; rw [sizeLine_eq]; decide), fun l2 hl2 => ?_⟩
      have ha2 : upd (upd H l (.lst (fs.map V.int).dropLast)) q (.lst []) a = some (.ins C dx (knF b p l)) := by rw [upd_ne haq]; exact ha1
      have hal2 : a ≠ l2 := ne_of_none ha2 hl2
      have hl2' : H l2 = none := by
        by_cases e : l2 = q
        · rw [e]; rw [upd_ne hql] at hq; exact hq
        · rw [upd_ne e] at hl2
          by_cases e2 : l2 = l
          · rw [e2, upd_same] at hl2; cases hl2
          · rw [upd_ne e2] at hl2; exact hl2
      refine ⟨_, rfl, a, C, dx, _, rfl, (by rw [upd_ne hal2]; exact ha2), T.cl, T.nF, (by show 3 < 1000; decide), ?_⟩
      refine k l2 _ upd_same (by rw [upd_ne hal2.symm, upd_same]; unfold knOff; rw [if_pos c]; rfl) (.inr hl2') fun x o hxa hxl e => ?_
      rw [upd_ne hxa, upd_ne (ne_of_none e hl2')]
      have hxq : x ≠ q := fun z => by rw [z] at e; rw [upd_ne hql] at hq; rw [e] at hq; cases hq
      rw [upd_ne hxq, upd_ne hxl]
      exact e
    · rw [decide_eq_false c]
      refine no_if ?_
      refine k l _ (by rw [upd_ne haq]; exact ha1) (by rw [upd_ne hql.symm, hl1]; unfold knOff; rw [if_neg c]) (.inl rfl) fun x o hxa hxl e => ?_
      have hxq : x ≠ q := fun z => by rw [z] at e; rw [upd_ne hql] at hq; rw [e] at hq; cases hq
      rw [upd_ne hxq, upd_ne hxl]
      exact e
theorem sc_kn_set : FnScope ["self", "place", "figure"] ["self", "place", "figure"] (defScope s_kn_set) := ⟨rfl, rfl, rfl, by decide +kernel, rfl, by decide +kernel, by decide +kernel⟩
theorem ok_kn_set {f fN C : Addr} {fd fdN : FuncData} (hlen : mg "len" = none) (F : Fun K "set_figure" "KeptNumber.set_figure" s_kn_set f fd) (T : KnT K mg C) (FN : Fun K "need_figure" "KeptNumber.need_figure" s_kn_need fN fdN) (bN : Binds K fdN ["self", "figure"] []) (mN : Meth K C "need_figure" fN) : FnOk P w K mg base CX0 2 f fd ["self", "place", "figure"] (spD K dSetF) := by
  have GN : FnOk P w K mg base CX0 1 fN fdN ["self", "figure"] (spNeed C) := ok_kn_need FN T
  refine F.ok sc_kn_set (fun vs H Q E h => ?_) (fun cdv A outer s H vs Q E hr h => ?_)
  · obtain ⟨a, l, dx, b, p, fs, kk, g, Hf, rfl, _⟩ := set_in T.at_ h; rfl
  · obtain ⟨a, l, dx, b, p, fs, kk, g, Hf, rfl, ha, hl, hk0, hk1, h0, hb, hno, hln, w0, k⟩ := set_in T.at_ h
    have hal : a ≠ l := fun e => by rw [e, hl] at ha; cases ha
    have hL : LenV K (.ref l) H fs.length := .inl ⟨_, SqL.of hl, by rw [List.length_map]⟩
    refine ⟨_, pss_cons (ps_if (pw_or (pt_cmpR op_lt (pv 1) pe_int (nomark _)) (pw_or1 (pt_cmpR op_ge (pv 1) (pe_callB call_len (by rfl) (by exact hlen) boot_len (pa_cons (pe_fld (pv 0) rfl) pa_nil)) (nomark _)))).pt (pss_one ps_never) pss_nil)
      (pss_cons (ps_expr (pe_meth (pv 0) T.cl mN GN hr bN .nil pass0 (pa_cons (pv 2) pa_nil)))
      (pss_cons (ps_if (pw_and (pt_cmpR op_eq (pv 2) pe_int (nomark _)) (pw_and (pt_cmpR op_gt (pv 1) pe_int (nomark _)) (pw_and1 (pt_cmpR op_eq (pv 1) (pe_op op_sub (pe_callB call_len (by rfl) (by exact hlen) boot_len (pa_cons (pe_fld (pv 0) rfl) pa_nil)) pe_int) (nomark _))))).pt (pss_one ps_never) pss_nil)
      (pss_one (ps_asg (pv 2) (pg_sub (pe_fld (pv 0) rfl) (pe_op op_sub (pe_op op_sub (pe_callB call_len (by rfl) (by exact hlen) boot_len (pa_cons (pe_fld (pv 0) rfl) pa_nil)) pe_int) (pv 1)) set_list (fun _ => rfl)))))), ?_⟩
    have e1 : decide (kk < 0) = false := decide_eq_false (by omega)
    have e2 : decide ((fs.length : Int) ≤ kk) = false := decide_eq_false (by omega)
    refine ⟨_, rfl, _, _, rfl, rfl, _, rfl, ?_⟩
    rw [e1]
    refine no_if ?_
    refine ⟨_, rfl, _, rfl, a, C, dx, _, _, rfl, ha, T.cl, T.nF, knF_figures _ _ _, _, _, rfl, hL, _, _, rfl, rfl, _, rfl, ?_⟩
    rw [e2]
    refine no_if ?_
    refine ⟨_, rfl, a, dx, _, rfl, ha, rfl, _, rfl, a, dx, l, b, p, g, rfl, ha, h0, hb, ?_⟩
    have hj : ixN fs.length ((fs.length : Int) - 1 - kk) = some (fs.length - 1 - kk.toNat) := by
      unfold ixN
      rw [if_pos (by omega), if_pos (by omega)]
      exact congrArg some (by omega)
    have fin : ∀ Q' : Hp → Prop, (∀ H', H' = upd H l (.lst ((fs.set (fs.length - 1 - kk.toNat) g).map V.int)) → Q' H') → rSetL (.ref l) (.int ((fs.length : Int) - 1 - kk)) (.int g) H Q' := fun Q' q => ⟨l, _, _, fs.length - 1 - kk.toNat, rfl, rfl, hl, (by rw [List.length_map]; exact hj), q _ (by rw [List.map_set])⟩
    have last : tAsg (tVar 2) (gSub (tFld K (tVar 0) "figures") (tOp (rI0 fun i j => .int (i - j)) (tOp (rI0 fun i j => .int (i - j)) (tCB (fun xs H Q => ∃ x n, xs = [x] ∧ LenV K x H n ∧ Q (.int n) H) (tCons (tFld K (tVar 0) "figures") tNil)) (tC (.int 1))) (tVar 1)) rSetL) { nx := fun x H' => Q V.non H', rt := Q } (L2.start ["self", "place", "figure"] [V.ref a, V.int kk, V.int g]) H := by
      refine ⟨_, rfl, _, rfl, a, C, dx, _, _, rfl, ha, T.cl, T.nF, knF_figures _ _ _, _, rfl, a, C, dx, _, _, rfl, ha, T.cl, T.nF, knF_figures _ _ _, _, _, rfl, hL, _, _, rfl, rfl, _, rfl, _, _, rfl, rfl, fin _ fun H' e => ?_⟩
      subst e
      exact k l _ (by rw [upd_ne hal]; exact ha) upd_same (.inl rfl) fun x o _ hxl e => by rw [upd_ne hxl]; exact e
    refine ⟨_, rfl, rfl, _, rfl, ?_⟩
    by_cases c1 : g = 0
    · rw [decide_eq_true (show V.int g = V.int 0 by rw [c1])]
      refine yes_if ?_
      refine ⟨_, rfl, _, _, rfl, rfl, _, rfl, ?_⟩
      by_cases c2 : 0 < kk
      · rw [decide_eq_true c2]
        refine yes_if ?_
        have c3 : ¬ kk = (fs.length : Int) - 1 := fun e => hno ⟨c1, c2, by omega⟩
        refine ⟨_, rfl, _, rfl, a, C, dx, _, _, rfl, ha, T.cl, T.nF, knF_figures _ _ _, _, _, rfl, hL, _, _, rfl, rfl, rfl, _, rfl, ?_⟩
        rw [decide_eq_false (show ¬ V.int kk = V.int ((fs.length : Int) - 1) from fun e => c3 (V.int.inj e))]
        refine no_if ?_
        exact last
      · rw [decide_eq_false c2]
        refine no_if ?_
        refine no_if ?_
        exact last
    · rw [decide_eq_false (show ¬ V.int g = V.int 0 from fun e => c1 (V.int.inj e))]
      refine no_if ?_
      refine no_if ?_
      exact last
theorem sc_kn_now : FnScope ["self", "number", "figure"] ["self"] (defScope s_kn_now) := ⟨rfl, rfl, rfl, by decide +kernel, rfl, by decide +kernel, by decide +kernel⟩
theorem ok_kn_now {f C : Addr} {fd : FuncData} (F : Fun K "number_now" "KeptNumber.number_now" s_kn_now f fd) (T : KnT K mg C) : FnOk P w K mg base CX0 1 f fd ["self"] (spD K dNowF) := by
  refine F.ok sc_kn_now (fun vs H Q E h => ?_) (fun cdv A outer s H vs Q E hr h => ?_)
  · obtain ⟨a, l, dx, b, p, fs, Hf, rfl, _⟩ := now_in T.at_ h; rfl
  · obtain ⟨a, l, dx, b, p, fs, Hf, rfl, ha, hl, hlen, hb, w0, k⟩ := now_in T.at_ h
    refine ⟨_, pss_cons (ps_set (i := 1) sc_kn_now.nd rfl (Or.inl rfl) pe_int)
      (pss_cons (ps_for PassesOwn.never rfl (pi_list (pe_fld (pv 0) rfl)) (pg_name (i := 2) sc_kn_now.nd rfl (Or.inl rfl)) (pss_one (ps_set (i := 1) sc_kn_now.nd rfl (Or.inl rfl) (pe_op op_add (pe_op (op_mul.or op_mulX) (pe_fld (pv 0) rfl) (pv 1)) (pv 2)))))
      (pss_one (ps_ret (pv 1)))), ?_⟩
    refine ⟨_, rfl, a, C, dx, _, _, rfl, ha, T.cl, T.nF, knF_figures _ _ _, l, rfl, ⟨_, SqL.of hl⟩, for_list (K := K) (a := l) (xs := fs.map V.int) (fun i σ H2 => ∃ (v : Option V), σ = [some (.ref a), some (.int (numI b (fs.take i) 0)), v] ∧ H2 = H)
      ⟨none, rfl, rfl⟩ (fun i σ H2 _ ⟨_, _, e⟩ => by rw [e]; exact SqL.of hl) ?_ ?_⟩
    · rintro i y σ H2 hi ⟨v, rfl, rfl⟩
      obtain ⟨z, hz, rfl⟩ : ∃ z, fs[i]? = some z ∧ y = V.int z := by
        rw [List.getElem?_map] at hi
        cases e : fs[i]? with
        | none => rw [e] at hi; cases hi
        | some z => rw [e] at hi; exact ⟨z, rfl, (Option.some.inj hi).symm⟩
      refine ⟨_, rfl, a, C, dx, _, _, rfl, ha, T.cl, T.nB, knF_base _ _ _, _, rfl, ?_⟩
      refine os_mulI (K := K) (Hf := H2) (mulOk_l hb) fun v2 H3 m => ?_
      obtain ⟨rfl, rv⟩ := m
      simp only [Rep] at rv
      subst rv
      refine ⟨_, rfl, _, _, rfl, rfl, some (.int z), ?_, rfl⟩
      have : numI b (fs.take (i + 1)) 0 = b * numI b (fs.take i) 0 + z := by
        rw [List.take_add_one, hz]
        unfold numI
        rw [List.foldl_append]; rfl
      rw [this]; rfl
    · rintro σ H2 ⟨v, rfl, rfl⟩
      refine ⟨_, rfl, ?_⟩
      rw [List.length_map, List.take_of_length_le (Nat.le_refl _)]
      exact k
theorem sc_kn_step : FnScope ["self"] ["self"] (defScope s_kn_step) := ⟨rfl, rfl, rfl, by decide +kernel, rfl, by decide +kernel, by decide +kernel⟩
theorem ok_kn_step {f C : Addr} {fd : FuncData} (F : Fun K "step_now" "KeptNumber.step_now" s_kn_step f fd) (T : KnT K mg C) (c_step_of : Fok P w K mg base "step_of" 2 d_step_of) (m_number_now : Mok P w K mg base "number_now" 1 dNowF) : FnOk P w K mg base CX0 3 f fd ["self"] (spD K d_step_now) :=
  def_fnQ F sc_kn_step rfl fun _ _ _ _ _ _ _ _ =>
  (b_one (c_ret (sd_call (cal_of c_step_of (by decide)) (as_v (sd_meth0 0 (mcal_of m_number_now (by decide))) (as_v (sd_knB 0 T) (as_v (sd_knP 0 T) as_nil))))))
theorem sc_kn_end : FnScope ["self"] ["self"] (defScope s_kn_end) := ⟨rfl, rfl, rfl, by decide +kernel, rfl, by decide +kernel, by decide +kernel⟩
theorem ok_kn_end {f C : Addr} {fd : FuncData} (F : Fun K "end_now" "KeptNumber.end_now" s_kn_end f fd) (T : KnT K mg C) (c_end_of : Fok P w K mg base "end_of" 4 d_end_of) (m_number_now : Mok P w K mg base "number_now" 1 dNowF) : FnOk P w K mg base CX0 5 f fd ["self"] (spD K d_end_now) :=
  def_fnQ F sc_kn_end rfl fun _ _ _ _ _ _ _ _ =>
  (b_one (c_ret (sd_call (cal_of c_end_of (by decide)) (as_v (sd_meth0 0 (mcal_of m_number_now (by decide))) (as_v (sd_knB 0 T) (as_v (sd_knP 0 T) as_nil))))))
theorem sc_read_number : FnScope ["text", "base", "number", "place", "sign"] ["text", "base"] (defScope s_read_number) := ⟨rfl, rfl, rfl, by decide +kernel, rfl, by decide +kernel, by decide +kernel⟩
theorem ok_read_number (B : Bn mg) (D0 : DefAt K mg "read_number" s_read_number ["text", "base"])  : Fok P w K mg base "read_number" 1 d_read_number :=
  def_ok D0 sc_read_number rfl fun _ _ _ _ _ _ _ _ =>
  (b_cons (c_if (td_w (wd_or (td_cmp cd_eq (sd_name 0) sd_str) (wd_or1 (td_w (wd_and (td_cmp cd_eq (sd_ix (sd_name 0) sd_int) sd_str) (wd_and1 (td_cmp cd_ne (sd_name 0) sd_str))))))) (b_one c_never) b_nil)
  (b_cons (c_set 2 sd_int)
  (b_cons (c_for (fun _ => PassesOwn.never) (i_enuS B.b_enumerate (sd_name 0)) (g_tup (gs_cons (g_name 3) (gs_cons (g_name 4) gs_nil)) (putLc_len (putLc_len putL0_len))) (b_cons (c_if (td_cmp cd_notIn (sd_name 4) (sd_sl (sd_gstr B.g_FIGURES.choose_spec) od_none (od_some (sd_name 1)))) (b_one c_never) b_nil)
  (b_one (c_set 2 (sd_add (sd_mul (sd_name 1) (sd_name 2)) (sd_find (sd_gstr B.g_FIGURES.choose_spec) (os_cons (sd_name 4) os_nil)))))))
  (b_one (c_ret (sd_name 2))))))
theorem sc_figures_of : FnScope ["number", "base", "found"] ["number", "base"] (defScope s_figures_of) := ⟨rfl, rfl, rfl, by decide +kernel, rfl, by decide +kernel, by decide +kernel⟩
theorem ok_figures_of (B : Bn mg) (D0 : DefAt K mg "figures_of" s_figures_of ["number", "base"])  : Fok P w K mg base "figures_of" 1 d_figures_of :=
  def_ok D0 sc_figures_of rfl fun _ _ _ _ _ _ _ _ =>
  (b_cons (c_set 2 (sd_lst vs_nil))
  (b_cons (c_while (fun _ => PassesOwn.never) (td_cmp cd_ge (sd_name 0) (sd_name 1)) (b_cons (c_expr (sd_append 2 (vs_cons (sd_mod (sd_name 0) (sd_name 1)) vs_nil)))
  (b_one (c_set 0 (sd_div (sd_name 0) (sd_name 1))))))
  (b_cons (c_expr (sd_append 2 (vs_cons (sd_name 0) vs_nil)))
  (b_one (c_ret (sd_b bd_tuple B.b_tuple (os_cons (sd_rev (sd_name 2)) os_nil)))))))
theorem sc_number_shown : FnScope ["number", "base", "figure"] ["number", "base"] (defScope s_number_shown) := ⟨rfl, rfl, rfl, by decide +kernel, rfl, by decide +kernel, by decide +kernel⟩
theorem ok_number_shown (B : Bn mg) (D0 : DefAt K mg "number_shown" s_number_shown ["number", "base"]) (c_figures_of : Fok P w K mg base "figures_of" 1 d_figures_of) : Fok P w K mg base "number_shown" 2 d_number_shown :=
  def_ok D0 sc_number_shown rfl fun _ _ _ _ _ _ _ _ =>
  (b_one (c_ret (sd_join sd_str (os_cons (sd_comp [("figure", 2)] (i_tup (sd_call (cal_of c_figures_of (by decide)) (as_v (sd_name 0) (as_v (sd_name 1) as_nil)))) (g_name 2) ts_nil (sd_ix (sd_gstr B.g_FIGURES.choose_spec) (sd_name 2))) os_nil))))
theorem sc_power_of : FnScope ["number", "often", "found", "turn"] ["number", "often"] (defScope s_power_of) := ⟨rfl, rfl, rfl, by decide +kernel, rfl, by decide +kernel, by decide +kernel⟩
theorem ok_power_of (B : Bn mg) (D0 : DefAt K mg "power_of" s_power_of ["number", "often"])  : Fok P w K mg base "power_of" 1 d_power_of :=
  def_ok D0 sc_power_of rfl fun _ _ _ _ _ _ _ _ =>
  (b_cons (c_set 2 sd_int)
  (b_cons (c_for (fun _ => PassesOwn.never) (i_r1 B.b_range (sd_name 1)) (g_name 3) (b_one (c_set 2 (sd_mul (sd_name 2) (sd_name 0)))))
  (b_one (c_ret (sd_name 2)))))
theorem sc_step_of : FnScope ["number", "base", "power", "figure"] ["number", "base", "power"] (defScope s_step_of) := ⟨rfl, rfl, rfl, by decide +kernel, rfl, by decide +kernel, by decide +kernel⟩
theorem ok_step_of (B : Bn mg) (D0 : DefAt K mg "step_of" s_step_of ["number", "base", "power"]) (c_power_of : Fok P w K mg base "power_of" 1 d_power_of) (c_figures_of : Fok P w K mg base "figures_of" 1 d_figures_of) : Fok P w K mg base "step_of" 2 d_step_of :=
  def_ok D0 sc_step_of rfl fun _ _ _ _ _ _ _ _ =>
  (b_one (c_ret (sd_b bd_sum B.b_sum (os_cons (sd_comp [("figure", 3)] (i_tup (sd_call (cal_of c_figures_of (by decide)) (as_v (sd_name 0) (as_v (sd_name 1) as_nil)))) (g_name 3) ts_nil (sd_call (cal_blk (cal_of c_power_of (by decide))) (as_v (sd_name 3) (as_v (sd_name 2) as_nil)))) os_nil))))
theorem sc_walked : FnScope ["number", "base", "power", "found", "places"] ["number", "base", "power"] (defScope s_walked) := ⟨rfl, rfl, rfl, by decide +kernel, rfl, by decide +kernel, by decide +kernel⟩
theorem ok_walked (B : Bn mg) (D0 : DefAt K mg "walked" s_walked ["number", "base", "power"]) (c_step_of : Fok P w K mg base "step_of" 2 d_step_of) : Fok P w K mg base "walked" 3 d_walked :=
  def_ok D0 sc_walked rfl fun _ _ _ _ _ _ _ _ =>
  (b_cons (c_set 3 (sd_lst vs_nil))
  (b_cons (c_set 4 sd_dict0)
  (b_cons (c_while (fun _ => PassesOwn.never) (td_cmp cd_notIn (sd_name 0) (sd_name 4)) (b_cons (c_putK 4 (sd_name 0) (sd_b bd_len B.b_len (os_cons (sd_name 3) os_nil)))
  (b_cons (c_expr (sd_append 3 (vs_cons (sd_name 0) vs_nil)))
  (b_one (c_set 0 (sd_call (cal_of c_step_of (by decide)) (as_v (sd_name 0) (as_v (sd_name 1) (as_v (sd_name 2) as_nil)))))))))
  (b_one (c_ret (sd_tup (vs_cons (sd_name 3) (vs_cons (sd_ix (sd_name 4) (sd_name 0)) vs_nil))))))))
theorem sc_end_of : FnScope ["number", "base", "power", "row", "at"] ["number", "base", "power"] (defScope s_end_of) := ⟨rfl, rfl, rfl, by decide +kernel, rfl, by decide +kernel, by decide +kernel⟩
theorem ok_end_of (B : Bn mg) (D0 : DefAt K mg "end_of" s_end_of ["number", "base", "power"]) (c_walked : Fok P w K mg base "walked" 3 d_walked) : Fok P w K mg base "end_of" 4 d_end_of :=
  def_ok D0 sc_end_of rfl fun _ _ _ _ _ _ _ _ =>
  (b_cons (c_asg (sd_call (cal_of c_walked (by decide)) (as_v (sd_name 0) (as_v (sd_name 1) (as_v (sd_name 2) as_nil)))) (g_tup (gs_cons (g_name 3) (gs_cons (g_name 4) gs_nil)) (putLc_len (putLc_len putL0_len))))
  (b_one (c_ret (sd_tup (vs_cons (sd_name 4) (vs_cons (sd_b bd_min B.b_min (os_cons (sd_sl (sd_name 3) (od_some (sd_name 4)) od_none) os_nil)) vs_nil))))))
theorem sc__law_mix : FnScope ["cell", "k", "number"] ["cell", "k"] (defScope s__law_mix) := ⟨rfl, rfl, rfl, by decide +kernel, rfl, by decide +kernel, by decide +kernel⟩
theorem ok__law_mix (B : Bn mg) (D0 : DefAt K mg "_law_mix" s__law_mix ["cell", "k"])  : Fok P w K mg base "_law_mix" 1 d__law_mix :=
  def_ok D0 sc__law_mix rfl fun _ _ _ _ _ _ _ _ =>
  (b_cons (c_set 2 (sd_add (sd_mod (sd_name 0) sd_int) (sd_mul (sd_mul sd_int (sd_name 1)) (sd_name 1))))
  (b_cons (c_set 2 (sd_mod (sd_add (sd_name 2) (sd_mul sd_int (sd_name 1))) sd_int))
  (b_cons (c_set 2 (sd_mod (sd_mul (sd_name 2) (sd_name 2)) sd_int))
  (b_one (c_ret (sd_div (sd_mod (sd_mul (sd_name 2) (sd_add (sd_name 2) sd_int)) sd_int) sd_int))))))
theorem sc__law_deck : FnScope ["script"] ["script"] (defScope s__law_deck) := ⟨rfl, rfl, rfl, by decide +kernel, rfl, by decide +kernel, by decide +kernel⟩
theorem ok__law_deck (B : Bn mg) (D0 : DefAt K mg "_law_deck" s__law_deck ["script"])  : Fok P w K mg base "_law_deck" 1 d__law_deck :=
  def_ok D0 sc__law_deck rfl fun _ _ _ _ _ _ _ _ =>
  (b_one (c_ret (sd_lst (vs_cons (sd_sl (sd_name 0) od_none (od_some sd_int)) (vs_cons sd_int (vs_cons sd_int (vs_cons sd_int (vs_cons (sd_b bd_sum B.b_sum (os_cons (sd_sl (sd_name 0) od_none (od_some sd_int)) os_nil)) vs_nil))))))))
theorem sc__law_next : FnScope ["deck", "many", "cell", "found"] ["deck", "many"] (defScope s__law_next) := ⟨rfl, rfl, rfl, by decide +kernel, rfl, by decide +kernel, by decide +kernel⟩
theorem ok__law_next (B : Bn mg) (D0 : DefAt K mg "_law_next" s__law_next ["deck", "many"]) (c__law_mix : Fok P w K mg base "_law_mix" 1 d__law_mix) : Fok P w K mg base "_law_next" 2 d__law_next :=
  def_ok D0 sc__law_next rfl fun _ _ _ _ _ _ _ _ =>
  (b_cons (c_if (td_w (wd_and (td_cmp cd_eq (sd_ix (sd_name 0) sd_int) sd_int) (wd_and1 (td_cmp cd_lt (sd_ix (sd_name 0) sd_int) (sd_b bd_len B.b_len (os_cons (sd_ix (sd_name 0) sd_int) os_nil)))))) (b_cons (c_set 2 (sd_ix (sd_ix (sd_name 0) sd_int) (sd_ix (sd_name 0) sd_int)))
  (b_cons (c_setI 0 sd_int (sd_add (sd_ix (sd_name 0) sd_int) sd_int))
  (b_cons (c_if (td_cmp cd_lt (sd_name 2) (sd_pow sd_int sd_int)) (b_one (c_ret (sd_mod (sd_call (cal_of c__law_mix (by decide)) (as_v (sd_name 2) (as_v (sd_ix (sd_name 0) sd_int) as_nil))) (sd_name 1)))) b_nil)
  (b_one (c_setI 0 sd_int (sd_name 2)))))) b_nil)
  (b_cons (c_if (td_cmp cd_gt (sd_ix (sd_name 0) sd_int) sd_int) (b_cons (c_set 3 (sd_mod (sd_ix (sd_name 0) sd_int) (sd_name 1)))
  (b_cons (c_setI 0 sd_int (sd_div (sd_ix (sd_name 0) sd_int) (sd_name 1)))
  (b_one (c_ret (sd_name 3))))) b_nil)
  (b_cons (c_setI 0 sd_int (sd_add (sd_ix (sd_name 0) sd_int) sd_int))
  (b_one (c_ret (sd_mod (sd_call (cal_of c__law_mix (by decide)) (as_v (sd_ix (sd_name 0) sd_int) (as_v (sd_add (sd_ix (sd_name 0) sd_int) sd_int) as_nil))) (sd_name 1)))))))
theorem sc__law_pair : FnScope ["deck", "base", "most"] ["deck"] (defScope s__law_pair) := ⟨rfl, rfl, rfl, by decide +kernel, rfl, by decide +kernel, by decide +kernel⟩
theorem ok__law_pair (B : Bn mg) (D0 : DefAt K mg "_law_pair" s__law_pair ["deck"]) (c__law_next : Fok P w K mg base "_law_next" 2 d__law_next) : Fok P w K mg base "_law_pair" 3 d__law_pair :=
  def_ok D0 sc__law_pair rfl fun _ _ _ _ _ _ _ _ =>
  (b_cons (c_set 1 (sd_add sd_int (sd_call (cal_of c__law_next (by decide)) (as_io 0 (as_v sd_int as_nil)))))
  (b_cons (c_set 2 (sd_ix (sd_lst (vs_cons sd_int (vs_cons sd_int (vs_cons sd_int (vs_cons sd_int (vs_cons sd_int (vs_cons sd_int (vs_cons sd_int (vs_cons sd_int (vs_cons sd_int (vs_cons sd_int (vs_cons sd_int (vs_cons sd_int (vs_cons sd_int (vs_cons sd_int (vs_cons sd_int vs_nil)))))))))))))))) (sd_sub (sd_name 1) sd_int)))
  (b_one (c_ret (sd_ix (sd_lst (vs_cons (sd_tup (vs_cons (sd_name 1) (vs_cons (sd_add sd_int (sd_call (cal_of c__law_next (by decide)) (as_io 0 (as_v (sd_name 2) as_nil)))) vs_nil))) (vs_cons (sd_tup (vs_cons (sd_name 1) (vs_cons (sd_name 2) vs_nil))) vs_nil))) (sd_call (cal_of c__law_next (by decide)) (as_io 0 (as_v sd_int as_nil))))))))
theorem sc__law_told : FnScope ["kept", "end", "step"] ["kept"] (defScope s__law_told) := ⟨rfl, rfl, rfl, by decide +kernel, rfl, by decide +kernel, by decide +kernel⟩
theorem ok__law_told (B : Bn mg) (D0 : DefAt K mg "_law_told" s__law_told ["kept"])  (m_number_now : Mok P w K mg base "number_now" 1 dNowF) (m_step_now : Mok P w K mg base "step_now" 3 d_step_now) (m_end_now : Mok P w K mg base "end_now" 5 d_end_now) : Fok P w K mg base "_law_told" 6 d__law_told :=
  def_ok D0 sc__law_told rfl fun _ _ _ _ _ _ _ _ =>
  (b_cons (c_set 1 (sd_meth0 0 (mcal_of m_end_now (by decide))))
  (b_cons (c_set 2 (sd_meth0 0 (mcal_of m_step_now (by decide))))
  (b_one (c_ret (sd_lst (vs_cons (sd_meth0 0 (mcal_of m_number_now (by decide))) (vs_cons (sd_name 2) (vs_cons (sd_name 1) vs_nil))))))))
theorem sc__law_deed : FnScope ["deck", "kept", "figures", "base", "way", "figure", "place", "at"] ["deck", "kept", "figures", "base"] (defScope s__law_deed) := ⟨rfl, rfl, rfl, by decide +kernel, rfl, by decide +kernel, by decide +kernel⟩
theorem ok__law_deed (B : Bn mg) (D0 : DefAt K mg "_law_deed" s__law_deed ["deck", "kept", "figures", "base"]) (c__law_next : Fok P w K mg base "_law_next" 2 d__law_next) (m_put_figure : Mok P w K mg base "put_figure" 2 dPutF) (m_take_off : Mok P w K mg base "take_off" 1 dOffF) (m_set_figure : Mok P w K mg base "set_figure" 2 dSetF) : Fok P w K mg base "_law_deed" 3 d__law_deed :=
  def_ok D0 sc__law_deed rfl fun _ _ _ _ _ _ _ _ =>
  (b_cons (c_set 4 (sd_call (cal_of c__law_next (by decide)) (as_io 0 (as_v sd_int as_nil))))
  (b_cons (c_set 5 (sd_call (cal_of c__law_next (by decide)) (as_io 0 (as_v (sd_name 3) as_nil))))
  (b_cons (c_if (td_cmp cd_lt (sd_name 4) sd_int) (b_cons (c_expr (sd_meth 1 (mcal_of m_put_figure (by decide)) (as_v (sd_name 5) as_nil)))
  (b_one (c_ret (sd_add (sd_ix (sd_lst (vs_cons (sd_name 2) (vs_cons (sd_lst vs_nil) vs_nil))) (sd_b bd_int B.b_int (os_cons (sd_cmp cd_eq (sd_name 2) (sd_lst (vs_cons sd_int vs_nil))) os_nil))) (sd_lst (vs_cons (sd_name 5) vs_nil)))))) b_nil)
  (b_cons (c_if (td_cmp cd_eq (sd_name 4) sd_int) (b_cons (c_expr (sd_meth0 1 (mcal_of m_take_off (by decide))))
  (b_one (c_ret (sd_add (sd_sl (sd_name 2) od_none (od_some (sd_neg sd_int))) (sd_mul (sd_lst (vs_cons sd_int vs_nil)) (sd_b bd_int B.b_int (os_cons (sd_cmp cd_eq (sd_b bd_len B.b_len (os_cons (sd_name 2) os_nil)) sd_int) os_nil))))))) b_nil)
  (b_cons (c_set 6 (sd_call (cal_of c__law_next (by decide)) (as_io 0 (as_v (sd_b bd_len B.b_len (os_cons (sd_name 2) os_nil)) as_nil))))
  (b_cons (c_set 5 (sd_b bd_max B.b_max (os_cons (sd_b bd_int B.b_int (os_cons (sd_cmp cd_gt (sd_name 6) sd_int) os_nil)) (os_cons (sd_name 5) os_nil))))
  (b_cons (c_expr (sd_meth 1 (mcal_of m_set_figure (by decide)) (as_v (sd_name 6) (as_v (sd_name 5) as_nil))))
  (b_cons (c_set 7 (sd_sub (sd_sub (sd_b bd_len B.b_len (os_cons (sd_name 2) os_nil)) sd_int) (sd_name 6)))
  (b_one (c_ret (sd_add (sd_add (sd_sl (sd_name 2) od_none (od_some (sd_name 7))) (sd_lst (vs_cons (sd_name 5) vs_nil))) (sd_sl (sd_name 2) (od_some (sd_add (sd_name 7) sd_int)) od_none))))))))))))
theorem sc__law_afresh : FnScope ["base", "power", "figures", "other", "kept", "figure", "k"] ["base", "power", "figures", "other"] (defScope s__law_afresh) := ⟨rfl, rfl, rfl, by decide +kernel, rfl, by decide +kernel, by decide +kernel⟩
theorem ok__law_afresh (B : Bn mg) (D0 : DefAt K mg "_law_afresh" s__law_afresh ["base", "power", "figures", "other"])  (m_put_figure : Mok P w K mg base "put_figure" 2 dPutF) (m_set_figure : Mok P w K mg base "set_figure" 2 dSetF) (mk_kn : Mko P w K mg base 1) : Fok P w K mg base "_law_afresh" 3 d__law_afresh :=
  def_ok D0 sc__law_afresh rfl fun _ _ _ _ _ _ _ _ =>
  (b_cons (c_set 4 (sd_mk (mkc_of mk_kn (by decide)) (vs_cons (sd_name 0) (vs_cons (sd_name 1) vs_nil))))
  (b_cons (c_for (fun _ => PassesOwn.never) (i_lst (sd_name 2)) (g_name 5) (b_one (c_expr (sd_meth 4 (mcal_of m_put_figure (by decide)) (as_v (sd_ix (sd_lst (vs_cons (sd_name 5) (vs_cons (sd_name 3) vs_nil))) (sd_b bd_int B.b_int (os_cons (sd_cmp cd_gt (sd_name 3) sd_int) os_nil))) as_nil)))))
  (b_cons (c_for (fun _ => PassesOwn.never) (i_r1 B.b_range (sd_mul (sd_b bd_len B.b_len (os_cons (sd_name 2) os_nil)) (sd_b bd_int B.b_int (os_cons (sd_cmp cd_gt (sd_name 3) sd_int) os_nil)))) (g_name 6) (b_one (c_expr (sd_meth 4 (mcal_of m_set_figure (by decide)) (as_v (sd_sub (sd_sub (sd_b bd_len B.b_len (os_cons (sd_name 2) os_nil)) sd_int) (sd_name 6)) (as_v (sd_ix (sd_name 2) (sd_name 6)) as_nil))))))
  (b_one (c_ret (sd_name 4))))))
theorem sc__law_back_right : FnScope ["deck", "kept", "base", "ahead", "figures", "place"] ["deck", "kept", "base"] (defScope s__law_back_right) := ⟨rfl, rfl, rfl, by decide +kernel, rfl, by decide +kernel, by decide +kernel⟩
theorem ok__law_back_right (B : Bn mg) (D0 : DefAt K mg "_law_back_right" s__law_back_right ["deck", "kept", "base"]) (c__law_told : Fok P w K mg base "_law_told" 6 d__law_told) (c__law_next : Fok P w K mg base "_law_next" 2 d__law_next) (c_figures_of : Fok P w K mg base "figures_of" 1 d_figures_of) (m_put_figure : Mok P w K mg base "put_figure" 2 dPutF) (m_take_off : Mok P w K mg base "take_off" 1 dOffF) (m_set_figure : Mok P w K mg base "set_figure" 2 dSetF) (m_number_now : Mok P w K mg base "number_now" 1 dNowF) (m_end_now : Mok P w K mg base "end_now" 5 d_end_now) : Fok P w K mg base "_law_back_right" 7 d__law_back_right :=
  def_ok D0 sc__law_back_right rfl fun _ _ _ _ _ _ _ _ =>
  (b_cons (c_set 3 (sd_call (cal_of c__law_told (by decide)) (as_io 1 as_nil)))
  (b_cons (c_set 4 (sd_call (cal_of c_figures_of (by decide)) (as_v (sd_ix (sd_name 3) sd_int) (as_v (sd_name 2) as_nil))))
  (b_cons (c_if (td_cmp cd_gt (sd_ix (sd_name 3) sd_int) sd_int) (b_cons (c_expr (sd_meth 1 (mcal_of m_put_figure (by decide)) (as_v (sd_call (cal_of c__law_next (by decide)) (as_io 0 (as_v (sd_name 2) as_nil))) as_nil)))
  (b_cons (c_if (td_cmp cd_eq (sd_call (cal_of c__law_next (by decide)) (as_io 0 (as_v sd_int as_nil))) sd_int) (b_one (c_expr (sd_meth0 1 (mcal_of m_number_now (by decide))))) b_nil)
  (b_one (c_expr (sd_meth0 1 (mcal_of m_take_off (by decide))))))) b_nil)
  (b_cons (c_if (td_cmp cd_ne (sd_call (cal_of c__law_told (by decide)) (as_io 1 as_nil)) (sd_name 3)) (b_one (c_ret sd_bl)) b_nil)
  (b_cons (c_set 5 (sd_call (cal_of c__law_next (by decide)) (as_io 0 (as_v (sd_b bd_len B.b_len (os_cons (sd_name 4) os_nil)) as_nil))))
  (b_cons (c_expr (sd_meth 1 (mcal_of m_set_figure (by decide)) (as_v (sd_name 5) (as_v (sd_sub (sd_name 2) sd_int) as_nil))))
  (b_cons (c_if (td_cmp cd_eq (sd_call (cal_of c__law_next (by decide)) (as_io 0 (as_v sd_int as_nil))) sd_int) (b_one (c_expr (sd_meth0 1 (mcal_of m_end_now (by decide))))) b_nil)
  (b_cons (c_expr (sd_meth 1 (mcal_of m_set_figure (by decide)) (as_v (sd_name 5) (as_v (sd_ix (sd_name 4) (sd_sub (sd_sub (sd_b bd_len B.b_len (os_cons (sd_name 4) os_nil)) sd_int) (sd_name 5))) as_nil))))
  (b_one (c_ret (sd_cmp cd_eq (sd_call (cal_of c__law_told (by decide)) (as_io 1 as_nil)) (sd_name 3))))))))))))
theorem sc_law : FnScope ["script", "deck", "base", "power", "kept", "figures", "turn", "number", "step", "end", "other"] ["script"] (defScope s_law) := ⟨rfl, rfl, rfl, by decide +kernel, rfl, by decide +kernel, by decide +kernel⟩
theorem ok_law (B : Bn mg) {a : Addr} {fd : FuncData} (D0 : Fun K "law" "law" s_law a fd) (c__law_told : Fok P w K mg base "_law_told" 6 d__law_told) (c__law_deck : Fok P w K mg base "_law_deck" 1 d__law_deck) (c__law_afresh : Fok P w K mg base "_law_afresh" 3 d__law_afresh) (c__law_deed : Fok P w K mg base "_law_deed" 3 d__law_deed) (c_number_shown : Fok P w K mg base "number_shown" 2 d_number_shown) (c__law_next : Fok P w K mg base "_law_next" 2 d__law_next) (c_figures_of : Fok P w K mg base "figures_of" 1 d_figures_of) (c__law_back_right : Fok P w K mg base "_law_back_right" 7 d__law_back_right) (c_end_of : Fok P w K mg base "end_of" 4 d_end_of) (c__law_pair : Fok P w K mg base "_law_pair" 3 d__law_pair) (c_step_of : Fok P w K mg base "step_of" 2 d_step_of) (c_read_number : Fok P w K mg base "read_number" 1 d_read_number) (m_end_now : Mok P w K mg base "end_now" 5 d_end_now) (mk_kn : Mko P w K mg base 1) : FnOk P w K mg base CX0 8 a fd ["script"] (spD K d_law) :=
  def_fn D0 sc_law rfl fun _ _ _ _ _ _ _ _ =>
  (b_cons (c_set 1 (sd_call (cal_of c__law_deck (by decide)) (as_v (sd_name 0) as_nil)))
  (b_cons (c_asg (sd_call (cal_of c__law_pair (by decide)) (as_io 1 as_nil)) (g_tup (gs_cons (g_name 2) (gs_cons (g_name 3) gs_nil)) (putLc_len (putLc_len putL0_len))))
  (b_cons (c_set 4 (sd_mk (mkc_of mk_kn (by decide)) (vs_cons (sd_name 2) (vs_cons (sd_name 3) vs_nil))))
  (b_cons (c_set 5 (sd_lst (vs_cons sd_int vs_nil)))
  (b_cons (c_for (fun _ => PassesOwn.never) (i_r1 B.b_range (sd_call (cal_of c__law_next (by decide)) (as_io 1 (as_v sd_int as_nil)))) (g_name 6) (b_cons (c_set 5 (sd_call (cal_of c__law_deed (by decide)) (as_io 1 (as_io 4 (as_v (sd_name 5) (as_v (sd_name 2) as_nil))))))
  (b_one (c_if (td_cmp cd_eq (sd_call (cal_of c__law_next (by decide)) (as_io 1 (as_v sd_int as_nil))) sd_int) (b_one (c_expr (sd_meth0 4 (mcal_of m_end_now (by decide))))) b_nil))))
  (b_cons (c_asg (sd_call (cal_of c__law_told (by decide)) (as_io 4 as_nil)) (g_unl (gs_cons (g_name 7) (gs_cons (g_name 8) (gs_cons (g_name 9) gs_nil))) (putLc_len (putLc_len (putLc_len putL0_len)))))
  (b_cons (c_if (td_cmp cd_ne (sd_b bd_list B.b_list (os_cons (sd_call (cal_of c_figures_of (by decide)) (as_v (sd_name 7) (as_v (sd_name 2) as_nil))) os_nil)) (sd_name 5)) (b_one (c_ret sd_bl)) b_nil)
  (b_cons (c_if (td_w (wd_or (td_cmp cd_ne (sd_call (cal_of c_read_number (by decide)) (as_v (sd_call (cal_of c_number_shown (by decide)) (as_v (sd_name 7) (as_v (sd_name 2) as_nil))) (as_v (sd_name 2) as_nil))) (sd_name 7)) (wd_or1 (td_cmp cd_ne (sd_name 8) (sd_call (cal_of c_step_of (by decide)) (as_v (sd_name 7) (as_v (sd_name 2) (as_v (sd_name 3) as_nil)))))))) (b_one (c_ret sd_bl)) b_nil)
  (b_cons (c_if (td_w (wd_or (td_cmp cd_ne (sd_name 9) (sd_call (cal_of c_end_of (by decide)) (as_v (sd_name 7) (as_v (sd_name 2) (as_v (sd_name 3) as_nil))))) (wd_or1 (td_cmp cd_ne (sd_call (cal_of c_end_of (by decide)) (as_v (sd_name 8) (as_v (sd_name 2) (as_v (sd_name 3) as_nil)))) (sd_tup (vs_cons (sd_b bd_max B.b_max (os_cons sd_int (os_cons (sd_sub (sd_ix (sd_name 9) sd_int) sd_int) os_nil))) (vs_cons (sd_ix (sd_name 9) sd_int) vs_nil))))))) (b_one (c_ret sd_bl)) b_nil)
  (b_cons (c_for (fun _ => PassesOwn.never) (i_lst (sd_lst (vs_cons sd_int (vs_cons (sd_add sd_int (sd_call (cal_of c__law_next (by decide)) (as_io 1 (as_v (sd_sub (sd_name 2) sd_int) as_nil)))) vs_nil)))) (g_name 10) (b_one (c_if (td_cmp cd_ne (sd_callT (cal_of c__law_told (by decide)) (sd_call (cal_of c__law_afresh (by decide)) (as_v (sd_name 2) (as_v (sd_name 3) (as_v (sd_name 5) (as_v (sd_name 10) as_nil))))) as_nil) (sd_lst (vs_cons (sd_name 7) (vs_cons (sd_name 8) (vs_cons (sd_name 9) vs_nil))))) (b_one (c_ret sd_bl)) b_nil)))
  (b_one (c_ret (sd_call (cal_of c__law_back_right (by decide)) (as_io 1 (as_io 4 (as_v (sd_name 2) as_nil))))))))))))))))
end
theorem all_mk {l : PySem.W.OpenLaw} {w : World} {K : PySem.W.Frag} {h : Heap} {mg : Str → Option Value} {fa : Addr} (X : K.In h) (G : h.Ns mainGlobals mg) (hfa : mg "law" = some (.ref fa))
    {cK : Addr} {f_init : Addr} {od_init an_init : Option Addr} {sl_init : Array (Option Value)} {oc_init kV_init dc_init pm_init cd_init ct_init : Value} {f_need : Addr} {od_need an_need : Option Addr} {sl_need : Array (Option Value)} {oc_need kV_need dc_need pm_need cd_need ct_need : Value} {f_put : Addr} {od_put an_put : Option Addr} {sl_put : Array (Option Value)} {oc_put kV_put dc_put pm_put cd_put ct_put : Value} {f_off : Addr} {od_off an_off : Option Addr} {sl_off : Array (Option Value)} {oc_off kV_off dc_off pm_off cd_off ct_off : Value} {f_set : Addr} {od_set an_set : Option Addr} {sl_set : Array (Option Value)} {oc_set kV_set dc_set pm_set cd_set ct_set : Value} {f_now : Addr} {od_now an_now : Option Addr} {sl_now : Array (Option Value)} {oc_now kV_now dc_now pm_now cd_now ct_now : Value} {f_step : Addr} {od_step an_step : Option Addr} {sl_step : Array (Option Value)} {oc_step kV_step dc_step pm_step cd_step ct_step : Value} {f_end : Addr} {od_end an_end : Option Addr} {sl_end : Array (Option Value)} {oc_end kV_end dc_end pm_end cd_end ct_end : Value} {f0 : Addr} {od0 an0 : Option Addr} {sl0 : Array (Option Value)} {oc0 kV0 dc0 pm0 cd0 ct0 : Value} {f1 : Addr} {od1 an1 : Option Addr} {sl1 : Array (Option Value)} {oc1 kV1 dc1 pm1 cd1 ct1 : Value} {f2 : Addr} {od2 an2 : Option Addr} {sl2 : Array (Option Value)} {oc2 kV2 dc2 pm2 cd2 ct2 : Value} {f3 : Addr} {od3 an3 : Option Addr} {sl3 : Array (Option Value)} {oc3 kV3 dc3 pm3 cd3 ct3 : Value} {f4 : Addr} {od4 an4 : Option Addr} {sl4 : Array (Option Value)} {oc4 kV4 dc4 pm4 cd4 ct4 : Value} {f5 : Addr} {od5 an5 : Option Addr} {sl5 : Array (Option Value)} {oc5 kV5 dc5 pm5 cd5 ct5 : Value} {f6 : Addr} {od6 an6 : Option Addr} {sl6 : Array (Option Value)} {oc6 kV6 dc6 pm6 cd6 ct6 : Value} {f7 : Addr} {od7 an7 : Option Addr} {sl7 : Array (Option Value)} {oc7 kV7 dc7 pm7 cd7 ct7 : Value} {f8 : Addr} {od8 an8 : Option Addr} {sl8 : Array (Option Value)} {oc8 kV8 dc8 pm8 cd8 ct8 : Value} {f9 : Addr} {od9 an9 : Option Addr} {sl9 : Array (Option Value)} {oc9 kV9 dc9 pm9 cd9 ct9 : Value} {f10 : Addr} {od10 an10 : Option Addr} {sl10 : Array (Option Value)} {oc10 kV10 dc10 pm10 cd10 ct10 : Value} {f11 : Addr} {od11 an11 : Option Addr} {sl11 : Array (Option Value)} {oc11 kV11 dc11 pm11 cd11 ct11 : Value} {f12 : Addr} {od12 an12 : Option Addr} {sl12 : Array (Option Value)} {oc12 kV12 dc12 pm12 cd12 ct12 : Value} {f13 : Addr} {od13 an13 : Option Addr} {sl13 : Array (Option Value)} {oc13 kV13 dc13 pm13 cd13 ct13 : Value} {f14 : Addr} {od14 an14 : Option Addr} {sl14 : Array (Option Value)} {oc14 kV14 dc14 pm14 cd14 ct14 : Value} {f15 : Addr} {od15 an15 : Option Addr} {sl15 : Array (Option Value)} {oc15 kV15 dc15 pm15 cd15 ct15 : Value}
    (aK : PySem.W.nsIn K mainGlobals "KeptNumber" = some (some (.ref cK))) (pgK : PySem.W.plainGet K cK Str.empty = true) (hdK : PySem.W.hasDictIn K cK = true) (poK : PySem.W.plainOver K cK = true) (saK : PySem.W.findIn K (.ref cK) "__setattr__" = some (some (.builtin "object.__setattr__"))) (mkK : PySem.W.makesIn K cK = true) (kcK : PySem.W.keepIn K (.ref cK) = true)
    (nbK : PySem.W.findIn K (.ref cK) "base" = some none) (npK : PySem.W.findIn K (.ref cK) "power" = some none) (nfK : PySem.W.findIn K (.ref cK) "figures" = some none)
    (a_init : PySem.W.findIn K (.ref cK) "__init__" = some (some (.ref f_init))) (i_init : PySem.W.isFn K (.ref f_init) = true) (l_init : K.lookup f_init = some ⟨oc_init, od_init, .func (PySem.W.fnOf "__init__" "KeptNumber.__init__" (defArgs s_kn_init) (defBody s_kn_init) (defScope s_kn_init) .none kV_init dc_init pm_init an_init cd_init ct_init), sl_init⟩) (c_init : PySem.W.codeIn K cd_init "KeptNumber.__init__" = true) (k_init : PySem.W.keepIn K (.ref f_init) = true)
    (a_need : PySem.W.findIn K (.ref cK) "need_figure" = some (some (.ref f_need))) (i_need : PySem.W.isFn K (.ref f_need) = true) (l_need : K.lookup f_need = some ⟨oc_need, od_need, .func (PySem.W.fnOf "need_figure" "KeptNumber.need_figure" (defArgs s_kn_need) (defBody s_kn_need) (defScope s_kn_need) .none kV_need dc_need pm_need an_need cd_need ct_need), sl_need⟩) (c_need : PySem.W.codeIn K cd_need "KeptNumber.need_figure" = true) (k_need : PySem.W.keepIn K (.ref f_need) = true)
    (a_put : PySem.W.findIn K (.ref cK) "put_figure" = some (some (.ref f_put))) (i_put : PySem.W.isFn K (.ref f_put) = true) (l_put : K.lookup f_put = some ⟨oc_put, od_put, .func (PySem.W.fnOf "put_figure" "KeptNumber.put_figure" (defArgs s_kn_put) (defBody s_kn_put) (defScope s_kn_put) .none kV_put dc_put pm_put an_put cd_put ct_put), sl_put⟩) (c_put : PySem.W.codeIn K cd_put "KeptNumber.put_figure" = true) (k_put : PySem.W.keepIn K (.ref f_put) = true)
    (a_off : PySem.W.findIn K (.ref cK) "take_off" = some (some (.ref f_off))) (i_off : PySem.W.isFn K (.ref f_off) = true) (l_off : K.lookup f_off = some ⟨oc_off, od_off, .func (PySem.W.fnOf "take_off" "KeptNumber.take_off" (defArgs s_kn_off) (defBody s_kn_off) (defScope s_kn_off) .none kV_off dc_off pm_off an_off cd_off ct_off), sl_off⟩) (c_off : PySem.W.codeIn K cd_off "KeptNumber.take_off" = true) (k_off : PySem.W.keepIn K (.ref f_off) = true)
    (a_set : PySem.W.findIn K (.ref cK) "set_figure" = some (some (.ref f_set))) (i_set : PySem.W.isFn K (.ref f_set) = true) (l_set : K.lookup f_set = some ⟨oc_set, od_set, .func (PySem.W.fnOf "set_figure" "KeptNumber.set_figure" (defArgs s_kn_set) (defBody s_kn_set) (defScope s_kn_set) .none kV_set dc_set pm_set an_set cd_set ct_set), sl_set⟩) (c_set : PySem.W.codeIn K cd_set "KeptNumber.set_figure" = true) (k_set : PySem.W.keepIn K (.ref f_set) = true)
    (a_now : PySem.W.findIn K (.ref cK) "number_now" = some (some (.ref f_now))) (i_now : PySem.W.isFn K (.ref f_now) = true) (l_now : K.lookup f_now = some ⟨oc_now, od_now, .func (PySem.W.fnOf "number_now" "KeptNumber.number_now" (defArgs s_kn_now) (defBody s_kn_now) (defScope s_kn_now) .none kV_now dc_now pm_now an_now cd_now ct_now), sl_now⟩) (c_now : PySem.W.codeIn K cd_now "KeptNumber.number_now" = true) (k_now : PySem.W.keepIn K (.ref f_now) = true)
    (a_step : PySem.W.findIn K (.ref cK) "step_now" = some (some (.ref f_step))) (i_step : PySem.W.isFn K (.ref f_step) = true) (l_step : K.lookup f_step = some ⟨oc_step, od_step, .func (PySem.W.fnOf "step_now" "KeptNumber.step_now" (defArgs s_kn_step) (defBody s_kn_step) (defScope s_kn_step) .none kV_step dc_step pm_step an_step cd_step ct_step), sl_step⟩) (c_step : PySem.W.codeIn K cd_step "KeptNumber.step_now" = true) (k_step : PySem.W.keepIn K (.ref f_step) = true)
    (a_end : PySem.W.findIn K (.ref cK) "end_now" = some (some (.ref f_end))) (i_end : PySem.W.isFn K (.ref f_end) = true) (l_end : K.lookup f_end = some ⟨oc_end, od_end, .func (PySem.W.fnOf "end_now" "KeptNumber.end_now" (defArgs s_kn_end) (defBody s_kn_end) (defScope s_kn_end) .none kV_end dc_end pm_end an_end cd_end ct_end), sl_end⟩) (c_end : PySem.W.codeIn K cd_end "KeptNumber.end_now" = true) (k_end : PySem.W.keepIn K (.ref f_end) = true)
    (a0 : PySem.W.nsIn K mainGlobals "read_number" = some (some (.ref f0))) (l0 : K.lookup f0 = some ⟨oc0, od0, .func (PySem.W.fnOf "read_number" "read_number" (defArgs s_read_number) (defBody s_read_number) (defScope s_read_number) .none kV0 dc0 pm0 an0 cd0 ct0), sl0⟩) (c0 : PySem.W.codeIn K cd0 "read_number" = true) (k0 : PySem.W.keepIn K (.ref f0) = true)
    (a1 : PySem.W.nsIn K mainGlobals "figures_of" = some (some (.ref f1))) (l1 : K.lookup f1 = some ⟨oc1, od1, .func (PySem.W.fnOf "figures_of" "figures_of" (defArgs s_figures_of) (defBody s_figures_of) (defScope s_figures_of) .none kV1 dc1 pm1 an1 cd1 ct1), sl1⟩) (c1 : PySem.W.codeIn K cd1 "figures_of" = true) (k1 : PySem.W.keepIn K (.ref f1) = true)
    (a2 : PySem.W.nsIn K mainGlobals "number_shown" = some (some (.ref f2))) (l2 : K.lookup f2 = some ⟨oc2, od2, .func (PySem.W.fnOf "number_shown" "number_shown" (defArgs s_number_shown) (defBody s_number_shown) (defScope s_number_shown) .none kV2 dc2 pm2 an2 cd2 ct2), sl2⟩) (c2 : PySem.W.codeIn K cd2 "number_shown" = true) (k2 : PySem.W.keepIn K (.ref f2) = true)
    (a3 : PySem.W.nsIn K mainGlobals "power_of" = some (some (.ref f3))) (l3 : K.lookup f3 = some ⟨oc3, od3, .func (PySem.W.fnOf "power_of" "power_of" (defArgs s_power_of) (defBody s_power_of) (defScope s_power_of) .none kV3 dc3 pm3 an3 cd3 ct3), sl3⟩) (c3 : PySem.W.codeIn K cd3 "power_of" = true) (k3 : PySem.W.keepIn K (.ref f3) = true)
    (a4 : PySem.W.nsIn K mainGlobals "step_of" = some (some (.ref f4))) (l4 : K.lookup f4 = some ⟨oc4, od4, .func (PySem.W.fnOf "step_of" "step_of" (defArgs s_step_of) (defBody s_step_of) (defScope s_step_of) .none kV4 dc4 pm4 an4 cd4 ct4), sl4⟩) (c4 : PySem.W.codeIn K cd4 "step_of" = true) (k4 : PySem.W.keepIn K (.ref f4) = true)
    (a5 : PySem.W.nsIn K mainGlobals "walked" = some (some (.ref f5))) (l5 : K.lookup f5 = some ⟨oc5, od5, .func (PySem.W.fnOf "walked" "walked" (defArgs s_walked) (defBody s_walked) (defScope s_walked) .none kV5 dc5 pm5 an5 cd5 ct5), sl5⟩) (c5 : PySem.W.codeIn K cd5 "walked" = true) (k5 : PySem.W.keepIn K (.ref f5) = true)
    (a6 : PySem.W.nsIn K mainGlobals "end_of" = some (some (.ref f6))) (l6 : K.lookup f6 = some ⟨oc6, od6, .func (PySem.W.fnOf "end_of" "end_of" (defArgs s_end_of) (defBody s_end_of) (defScope s_end_of) .none kV6 dc6 pm6 an6 cd6 ct6), sl6⟩) (c6 : PySem.W.codeIn K cd6 "end_of" = true) (k6 : PySem.W.keepIn K (.ref f6) = true)
    (a7 : PySem.W.nsIn K mainGlobals "_law_mix" = some (some (.ref f7))) (l7 : K.lookup f7 = some ⟨oc7, od7, .func (PySem.W.fnOf "_law_mix" "_law_mix" (defArgs s__law_mix) (defBody s__law_mix) (defScope s__law_mix) .none kV7 dc7 pm7 an7 cd7 ct7), sl7⟩) (c7 : PySem.W.codeIn K cd7 "_law_mix" = true) (k7 : PySem.W.keepIn K (.ref f7) = true)
    (a8 : PySem.W.nsIn K mainGlobals "_law_deck" = some (some (.ref f8))) (l8 : K.lookup f8 = some ⟨oc8, od8, .func (PySem.W.fnOf "_law_deck" "_law_deck" (defArgs s__law_deck) (defBody s__law_deck) (defScope s__law_deck) .none kV8 dc8 pm8 an8 cd8 ct8), sl8⟩) (c8 : PySem.W.codeIn K cd8 "_law_deck" = true) (k8 : PySem.W.keepIn K (.ref f8) = true)
    (a9 : PySem.W.nsIn K mainGlobals "_law_next" = some (some (.ref f9))) (l9 : K.lookup f9 = some ⟨oc9, od9, .func (PySem.W.fnOf "_law_next" "_law_next" (defArgs s__law_next) (defBody s__law_next) (defScope s__law_next) .none kV9 dc9 pm9 an9 cd9 ct9), sl9⟩) (c9 : PySem.W.codeIn K cd9 "_law_next" = true) (k9 : PySem.W.keepIn K (.ref f9) = true)
    (a10 : PySem.W.nsIn K mainGlobals "_law_pair" = some (some (.ref f10))) (l10 : K.lookup f10 = some ⟨oc10, od10, .func (PySem.W.fnOf "_law_pair" "_law_pair" (defArgs s__law_pair) (defBody s__law_pair) (defScope s__law_pair) .none kV10 dc10 pm10 an10 cd10 ct10), sl10⟩) (c10 : PySem.W.codeIn K cd10 "_law_pair" = true) (k10 : PySem.W.keepIn K (.ref f10) = true)
    (a11 : PySem.W.nsIn K mainGlobals "_law_told" = some (some (.ref f11))) (l11 : K.lookup f11 = some ⟨oc11, od11, .func (PySem.W.fnOf "_law_told" "_law_told" (defArgs s__law_told) (defBody s__law_told) (defScope s__law_told) .none kV11 dc11 pm11 an11 cd11 ct11), sl11⟩) (c11 : PySem.W.codeIn K cd11 "_law_told" = true) (k11 : PySem.W.keepIn K (.ref f11) = true)
    (a12 : PySem.W.nsIn K mainGlobals "_law_deed" = some (some (.ref f12))) (l12 : K.lookup f12 = some ⟨oc12, od12, .func (PySem.W.fnOf "_law_deed" "_law_deed" (defArgs s__law_deed) (defBody s__law_deed) (defScope s__law_deed) .none kV12 dc12 pm12 an12 cd12 ct12), sl12⟩) (c12 : PySem.W.codeIn K cd12 "_law_deed" = true) (k12 : PySem.W.keepIn K (.ref f12) = true)
    (a13 : PySem.W.nsIn K mainGlobals "_law_afresh" = some (some (.ref f13))) (l13 : K.lookup f13 = some ⟨oc13, od13, .func (PySem.W.fnOf "_law_afresh" "_law_afresh" (defArgs s__law_afresh) (defBody s__law_afresh) (defScope s__law_afresh) .none kV13 dc13 pm13 an13 cd13 ct13), sl13⟩) (c13 : PySem.W.codeIn K cd13 "_law_afresh" = true) (k13 : PySem.W.keepIn K (.ref f13) = true)
    (a14 : PySem.W.nsIn K mainGlobals "_law_back_right" = some (some (.ref f14))) (l14 : K.lookup f14 = some ⟨oc14, od14, .func (PySem.W.fnOf "_law_back_right" "_law_back_right" (defArgs s__law_back_right) (defBody s__law_back_right) (defScope s__law_back_right) .none kV14 dc14 pm14 an14 cd14 ct14), sl14⟩) (c14 : PySem.W.codeIn K cd14 "_law_back_right" = true) (k14 : PySem.W.keepIn K (.ref f14) = true)
    (a15 : PySem.W.nsIn K mainGlobals "law" = some (some (.ref f15))) (l15 : K.lookup f15 = some ⟨oc15, od15, .func (PySem.W.fnOf "law" "law" (defArgs s_law) (defBody s_law) (defScope s_law) .none kV15 dc15 pm15 an15 cd15 ct15), sl15⟩) (c15 : PySem.W.codeIn K cd15 "law" = true) (k15 : PySem.W.keepIn K (.ref f15) = true)
    (z_enumerate : PySem.W.nsIn K mainGlobals "enumerate" = some none)
    (z_int : PySem.W.nsIn K mainGlobals "int" = some none)
    (z_len : PySem.W.nsIn K mainGlobals "len" = some none)
    (z_list : PySem.W.nsIn K mainGlobals "list" = some none)
    (z_max : PySem.W.nsIn K mainGlobals "max" = some none)
    (z_min : PySem.W.nsIn K mainGlobals "min" = some none)
    (z_range : PySem.W.nsIn K mainGlobals "range" = some none)
    (z_sum : PySem.W.nsIn K mainGlobals "sum" = some none)
    (z_tuple : PySem.W.nsIn K mainGlobals "tuple" = some none)
    {gt_FIGURES : Tok} (g_FIGURES : PySem.W.nsIn K mainGlobals "FIGURES" = some (some (.str "0123456789abcdef" gt_FIGURES)))
    : ∃ fd : FuncData, (∀ (s : Shared) (v : Value), BindsTo s fd ⟨[v], []⟩ [("script", v)]) ∧ ∀ base : Heap, K.In base → base.Ns mainGlobals mg → FnOk l.prog w K mg base CX0 8 fa fd ["script"] (spLawD K) := by
  have e := hfa.symm.trans (PySem.W.mg_of X G a15)
  cases e
  have B : Bn mg := ⟨PySem.W.mg_none_of X G z_enumerate, PySem.W.mg_none_of X G z_int, PySem.W.mg_none_of X G z_len, PySem.W.mg_none_of X G z_list, PySem.W.mg_none_of X G z_max, PySem.W.mg_none_of X G z_min, PySem.W.mg_none_of X G z_range, PySem.W.mg_none_of X G z_sum, PySem.W.mg_none_of X G z_tuple, ⟨_, PySem.W.mg_of X G g_FIGURES⟩⟩
  refine ⟨PySem.W.fnOf "law" "law" (defArgs s_law) (defBody s_law) (defScope s_law) .none kV15 dc15 pm15 an15 cd15 ct15, fun s v => .of_eq rfl, fun base _ _ => ?_⟩
  have c_read_number := ok_read_number (P := l.prog) (w := w) (base := base) B (def_at X G a0 l0 c0 k0 fun _ _ _ _ _ _ us hl => match us, hl with | [_, _], _ => rfl) 
  have c_figures_of := ok_figures_of (P := l.prog) (w := w) (base := base) B (def_at X G a1 l1 c1 k1 fun _ _ _ _ _ _ us hl => match us, hl with | [_, _], _ => rfl) 
  have c_number_shown := ok_number_shown (P := l.prog) (w := w) (base := base) B (def_at X G a2 l2 c2 k2 fun _ _ _ _ _ _ us hl => match us, hl with | [_, _], _ => rfl) c_figures_of
  have c_power_of := ok_power_of (P := l.prog) (w := w) (base := base) B (def_at X G a3 l3 c3 k3 fun _ _ _ _ _ _ us hl => match us, hl with | [_, _], _ => rfl) 
  have c_step_of := ok_step_of (P := l.prog) (w := w) (base := base) B (def_at X G a4 l4 c4 k4 fun _ _ _ _ _ _ us hl => match us, hl with | [_, _, _], _ => rfl) c_power_of c_figures_of
  have c_walked := ok_walked (P := l.prog) (w := w) (base := base) B (def_at X G a5 l5 c5 k5 fun _ _ _ _ _ _ us hl => match us, hl with | [_, _, _], _ => rfl) c_step_of
  have c_end_of := ok_end_of (P := l.prog) (w := w) (base := base) B (def_at X G a6 l6 c6 k6 fun _ _ _ _ _ _ us hl => match us, hl with | [_, _, _], _ => rfl) c_walked
  have c__law_mix := ok__law_mix (P := l.prog) (w := w) (base := base) B (def_at X G a7 l7 c7 k7 fun _ _ _ _ _ _ us hl => match us, hl with | [_, _], _ => rfl) 
  have c__law_deck := ok__law_deck (P := l.prog) (w := w) (base := base) B (def_at X G a8 l8 c8 k8 fun _ _ _ _ _ _ us hl => match us, hl with | [_], _ => rfl) 
  have c__law_next := ok__law_next (P := l.prog) (w := w) (base := base) B (def_at X G a9 l9 c9 k9 fun _ _ _ _ _ _ us hl => match us, hl with | [_, _], _ => rfl) c__law_mix
  have c__law_pair := ok__law_pair (P := l.prog) (w := w) (base := base) B (def_at X G a10 l10 c10 k10 fun _ _ _ _ _ _ us hl => match us, hl with | [_], _ => rfl) c__law_next
  have TK : KnT K mg cK := ⟨aK, PySem.W.mg_of X G aK, ⟨pgK, hdK, poK, saK⟩, nbK, npK, nfK⟩
  have F_init := fun_mk (st := s_kn_init) l_init c_init k_init
  have b_init := F_init.binds (ps := ["self", "base", "power"]) fun _ _ _ _ _ _ us hl => match us, hl with | [_, _, _], _ => rfl
  have F_need := fun_mk (st := s_kn_need) l_need c_need k_need
  have b_need := F_need.binds (ps := ["self", "figure"]) fun _ _ _ _ _ _ us hl => match us, hl with | [_, _], _ => rfl
  have F_put := fun_mk (st := s_kn_put) l_put c_put k_put
  have b_put := F_put.binds (ps := ["self", "figure"]) fun _ _ _ _ _ _ us hl => match us, hl with | [_, _], _ => rfl
  have F_off := fun_mk (st := s_kn_off) l_off c_off k_off
  have b_off := F_off.binds (ps := ["self"]) fun _ _ _ _ _ _ us hl => match us, hl with | [_], _ => rfl
  have F_set := fun_mk (st := s_kn_set) l_set c_set k_set
  have b_set := F_set.binds (ps := ["self", "place", "figure"]) fun _ _ _ _ _ _ us hl => match us, hl with | [_, _, _], _ => rfl
  have F_now := fun_mk (st := s_kn_now) l_now c_now k_now
  have b_now := F_now.binds (ps := ["self"]) fun _ _ _ _ _ _ us hl => match us, hl with | [_], _ => rfl
  have F_step := fun_mk (st := s_kn_step) l_step c_step k_step
  have b_step := F_step.binds (ps := ["self"]) fun _ _ _ _ _ _ us hl => match us, hl with | [_], _ => rfl
  have F_end := fun_mk (st := s_kn_end) l_end c_end k_end
  have b_end := F_end.binds (ps := ["self"]) fun _ _ _ _ _ _ us hl => match us, hl with | [_], _ => rfl
  have mk_kn : Mko l.prog w K mg base 1 := ⟨cK, _, _, _, TK, ⟨mkK, a_init, i_init, kcK⟩, b_init, ok_kn_init F_init TK⟩
  have m_put_figure : Mok l.prog w K mg base "put_figure" 2 dPutF := ⟨cK, _, _, _, TK, ⟨a_put, i_put, k_put⟩, b_put, ok_kn_put F_put TK F_need b_need ⟨a_need, i_need, k_need⟩, fun _ _ _ => rfl⟩
  have m_take_off : Mok l.prog w K mg base "take_off" 1 dOffF := ⟨cK, _, _, _, TK, ⟨a_off, i_off, k_off⟩, b_off, ok_kn_off F_off TK, fun _ _ _ => rfl⟩
  have m_set_figure : Mok l.prog w K mg base "set_figure" 2 dSetF := ⟨cK, _, _, _, TK, ⟨a_set, i_set, k_set⟩, b_set, ok_kn_set B.b_len F_set TK F_need b_need ⟨a_need, i_need, k_need⟩, fun _ _ _ => rfl⟩
  have m_number_now : Mok l.prog w K mg base "number_now" 1 dNowF := ⟨cK, _, _, _, TK, ⟨a_now, i_now, k_now⟩, b_now, ok_kn_now F_now TK, fun _ _ _ => rfl⟩
  have m_step_now : Mok l.prog w K mg base "step_now" 3 d_step_now := ⟨cK, _, _, _, TK, ⟨a_step, i_step, k_step⟩, b_step, ok_kn_step F_step TK c_step_of m_number_now, fun _ _ _ => rfl⟩
  have m_end_now : Mok l.prog w K mg base "end_now" 5 d_end_now := ⟨cK, _, _, _, TK, ⟨a_end, i_end, k_end⟩, b_end, ok_kn_end F_end TK c_end_of m_number_now, fun _ _ _ => rfl⟩
  have c__law_told := ok__law_told (P := l.prog) (w := w) (base := base) B (def_at X G a11 l11 c11 k11 fun _ _ _ _ _ _ us hl => match us, hl with | [_], _ => rfl)  m_number_now m_step_now m_end_now
  have c__law_deed := ok__law_deed (P := l.prog) (w := w) (base := base) B (def_at X G a12 l12 c12 k12 fun _ _ _ _ _ _ us hl => match us, hl with | [_, _, _, _], _ => rfl) c__law_next m_put_figure m_take_off m_set_figure
  have c__law_afresh := ok__law_afresh (P := l.prog) (w := w) (base := base) B (def_at X G a13 l13 c13 k13 fun _ _ _ _ _ _ us hl => match us, hl with | [_, _, _, _], _ => rfl)  m_put_figure m_set_figure mk_kn
  have c__law_back_right := ok__law_back_right (P := l.prog) (w := w) (base := base) B (def_at X G a14 l14 c14 k14 fun _ _ _ _ _ _ us hl => match us, hl with | [_, _, _], _ => rfl) c__law_told c__law_next c_figures_of m_put_figure m_take_off m_set_figure m_number_now m_end_now
  exact law_sp (ok_law B (fun_mk (st := s_law) l15 c15 k15) c__law_told c__law_deck c__law_afresh c__law_deed c_number_shown c__law_next c_figures_of c__law_back_right c_end_of c__law_pair c_step_of c_read_number m_end_now mk_kn) law_true
end Wk
end Fw
open PySem PySem.W PyProof.Rows in
set_option maxRecDepth 100000 in
set_option maxHeartbeats 0 in
theorem PySem.Challenge.cw_figurerounds_k33_whole_kept_as_afresh_holds : PySem.Challenge.rw_figurerounds_k33_whole_kept_as_afresh.Holds := by
  w_on; o_law; k_head; (case hw => w_witness2)
  k_fill
  refine L2.walk_of (l := PySem.Challenge.rw_figurerounds_k33_whole_kept_as_afresh) (n := 63) (k := 8) (x := "script") (CX := fun _ => L2.CX0) (sp := fun w => Fw.spLawD _) rfl (by decide) rfl ⟨rfl, by decide, by decide⟩ (fun w h Y => PySem.W.kIn_of Y) ?F (fun _ _ a ns hl _ hS => ⟨a, ns, rfl, hS, hl, fun _ _ e => e⟩) (fun _ _ _ _ _ h => h)
  case F =>
    intro w mg fa h KX G hmg
    refine' Fw.Wk.all_mk KX G hmg ?aK ?pgK ?hdK ?poK ?saK ?mkK ?kcK ?nbK ?npK ?nfK ?a_init ?i_init ?l_init ?c_init ?k_init ?a_need ?i_need ?l_need ?c_need ?k_need ?a_put ?i_put ?l_put ?c_put ?k_put ?a_off ?i_off ?l_off ?c_off ?k_off ?a_set ?i_set ?l_set ?c_set ?k_set ?a_now ?i_now ?l_now ?c_now ?k_now ?a_step ?i_step ?l_step ?c_step ?k_step ?a_end ?i_end ?l_end ?c_end ?k_end ?a0 ?l0 ?c0 ?k0 ?a1 ?l1 ?c1 ?k1 ?a2 ?l2 ?c2 ?k2 ?a3 ?l3 ?c3 ?k3 ?a4 ?l4 ?c4 ?k4 ?a5 ?l5 ?c5 ?k5 ?a6 ?l6 ?c6 ?k6 ?a7 ?l7 ?c7 ?k7 ?a8 ?l8 ?c8 ?k8 ?a9 ?l9 ?c9 ?k9 ?a10 ?l10 ?c10 ?k10 ?a11 ?l11 ?c11 ?k11 ?a12 ?l12 ?c12 ?k12 ?a13 ?l13 ?c13 ?k13 ?a14 ?l14 ?c14 ?k14 ?a15 ?l15 ?c15 ?k15 ?z_enumerate ?z_int ?z_len ?z_list ?z_max ?z_min ?z_range ?z_sum ?z_tuple ?g_FIGURES
    (case aK => k_is)
    (case pgK => k_is)
    (case hdK => k_is)
    (case poK => k_is)
    (case saK => k_is)
    (case mkK => k_is)
    (case kcK => k_is)
    (case nbK => k_is)
    (case npK => k_is)
    (case nfK => k_is)
    (case a_init => k_is)
    (case i_init => k_is)
    (case l_init => k_is)
    (case c_init => k_is)
    (case k_init => k_is)
    (case a_need => k_is)
    (case i_need => k_is)
    (case l_need => k_is)
    (case c_need => k_is)
    (case k_need => k_is)
    (case a_put => k_is)
    (case i_put => k_is)
    (case l_put => k_is)
    (case c_put => k_is)
    (case k_put => k_is)
    (case a_off => k_is)
    (case i_off => k_is)
    (case l_off => k_is)
    (case c_off => k_is)
    (case k_off => k_is)
    (case a_set => k_is)
    (case i_set => k_is)
    (case l_set => k_is)
    (case c_set => k_is)
    (case k_set => k_is)
    (case a_now => k_is)
    (case i_now => k_is)
    (case l_now => k_is)
    (case c_now => k_is)
    (case k_now => k_is)
    (case a_step => k_is)
    (case i_step => k_is)
    (case l_step => k_is)
    (case c_step => k_is)
    (case k_step => k_is)
    (case a_end => k_is)
    (case i_end => k_is)
    (case l_end => k_is)
    (case c_end => k_is)
    (case k_end => k_is)
    (case a0 => k_is)
    (case l0 => k_is)
    (case c0 => k_is)
    (case k0 => k_is)
    (case a1 => k_is)
    (case l1 => k_is)
    (case c1 => k_is)
    (case k1 => k_is)
    (case a2 => k_is)
    (case l2 => k_is)
    (case c2 => k_is)
    (case k2 => k_is)
    (case a3 => k_is)
    (case l3 => k_is)
    (case c3 => k_is)
    (case k3 => k_is)
    (case a4 => k_is)
    (case l4 => k_is)
    (case c4 => k_is)
    (case k4 => k_is)
    (case a5 => k_is)
    (case l5 => k_is)
    (case c5 => k_is)
    (case k5 => k_is)
    (case a6 => k_is)
    (case l6 => k_is)
    (case c6 => k_is)
    (case k6 => k_is)
    (case a7 => k_is)
    (case l7 => k_is)
    (case c7 => k_is)
    (case k7 => k_is)
    (case a8 => k_is)
    (case l8 => k_is)
    (case c8 => k_is)
    (case k8 => k_is)
    (case a9 => k_is)
    (case l9 => k_is)
    (case c9 => k_is)
    (case k9 => k_is)
    (case a10 => k_is)
    (case l10 => k_is)
    (case c10 => k_is)
    (case k10 => k_is)
    (case a11 => k_is)
    (case l11 => k_is)
    (case c11 => k_is)
    (case k11 => k_is)
    (case a12 => k_is)
    (case l12 => k_is)
    (case c12 => k_is)
    (case k12 => k_is)
    (case a13 => k_is)
    (case l13 => k_is)
    (case c13 => k_is)
    (case k13 => k_is)
    (case a14 => k_is)
    (case l14 => k_is)
    (case c14 => k_is)
    (case k14 => k_is)
    (case a15 => k_is)
    (case l15 => k_is)
    (case c15 => k_is)
    (case k15 => k_is)
    (case z_enumerate => k_is)
    (case z_int => k_is)
    (case z_len => k_is)
    (case z_list => k_is)
    (case z_max => k_is)
    (case z_min => k_is)
    (case z_range => k_is)
    (case z_sum => k_is)
    (case z_tuple => k_is)
    (case g_FIGURES => k_is)
