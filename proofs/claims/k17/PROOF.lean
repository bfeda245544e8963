import PyProof.Rows.All
import Wide.All
import OpenK.AllK
import Wide.FinOn
import HandS.ForMost
import HandS.ForExc
import HandS.Wide
import HandS.Style
import HandS.Conv
import HandS.SortInts
import HandS.IsInst
import PyProof.ReprRoads
import HandS.WideBits
import HandS.Ends
import PyProof.ReprLen
import PyProof.FitsBits
import KE.BitLaws
import PySem.Challenge.RW_wholepoll_k17_sets
set_option Elab.async false
set_option linter.all false
set_option maxRecDepth 100000
set_option maxHeartbeats 4000000
namespace DL
open PySem L2
inductive Sh where
  | lst | tup | dK (ks : List Key) | dT (ks : List (List Key)) | ins (C dx : Addr) (ns : List Str)
def Sh.mk : Sh → List V → HO
  | .lst, vs => .lst vs
  | .tup, vs => .tup vs
  | .dK ks, vs => .dK (ks.zip vs)
  | .dT ks, vs => .dT (ks.zip vs)
  | .ins C dx ns, vs => .ins C dx (ns.zip vs)
inductive T where
  | leaf (v : V)
  | node (o : Bool) (s : Sh) (k : List T)
  | pin (s : Sh) (vs : List V)
def Konst (K : PySem.W.Frag) (a : Addr) (vs : List V) : Sh → Prop
  | .lst => ∃ (o : Obj) (its : Array Value) (n : Nat), K.lookup a = some o ∧ o.cls = .type "list" ∧ o.dict = none ∧ o.data = .seq its n ∧ its.size ≤ sizeLine ∧ Vals vs its.toList
  | .tup => ∃ (o : Obj) (its : Array Value) (n : Nat), K.lookup a = some o ∧ o.cls = .type "tuple" ∧ o.data = .seq its n ∧ its.size ≤ sizeLine ∧ Vals vs its.toList
  | _ => False
mutual
inductive OwnP (K : PySem.W.Frag) (F : Addr → Prop) (H : Hp) : V → T → List Addr → Prop
  | leaf (v : V) : OwnP K F H v (.leaf v) []
  | fz {a : Addr} {s : Sh} {vs : List V} {ts : List T} : F a → H a = some (s.mk vs) → OwnL K F H vs ts [] → OwnP K F H (.ref a) (.node false s ts) []
  | pinF {a : Addr} {s : Sh} {vs : List V} : F a → Rd H a (s.mk vs) → OwnP K F H (.ref a) (.pin s vs) []
  | pinK {a : Addr} {s : Sh} {vs : List V} : Konst K a vs s → OwnP K F H (.ref a) (.pin s vs) []
  | kz {a : Addr} {vs : List V} {ts : List T} : Konst K a vs .tup → OwnL K F H vs ts [] → OwnP K F H (.ref a) (.node false .tup ts) []
  | own {a : Addr} {s : Sh} {vs : List V} {ts : List T} {fp : List Addr} : H a = some (s.mk vs) → OwnL K F H vs ts fp → OwnP K F H (.ref a) (.node true s ts) (a :: fp)
inductive OwnL (K : PySem.W.Frag) (F : Addr → Prop) (H : Hp) : List V → List T → List Addr → Prop
  | nil : OwnL K F H [] [] []
  | cons {v : V} {t : T} {fp : List Addr} {vs : List V} {ts : List T} {fp' : List Addr} : OwnP K F H v t fp → OwnL K F H vs ts fp' → OwnL K F H (v :: vs) (t :: ts) (fp ++ fp')
end
mutual
def frz : T → T
  | .leaf v => .leaf v
  | .pin s vs => .pin s vs
  | .node _ s k => .node false s (frzL k)
def frzL : List T → List T
  | [] => []
  | t :: ts => frz t :: frzL ts
end
theorem frzL_map : ∀ ts : List T, frzL ts = ts.map frz
  | [] => by simp [frzL]
  | t :: ts => by simp [frzL, frzL_map ts]
mutual
theorem frz_frz : ∀ t : T, frz (frz t) = frz t
  | .leaf _ => by simp [frz]
  | .pin _ _ => by simp [frz]
  | .node _ s k => by simp [frz, frzL_frzL k]
theorem frzL_frzL : ∀ ts : List T, frzL (frzL ts) = frzL ts
  | [] => by simp [frzL]
  | t :: ts => by simp [frzL, frz_frz t, frzL_frzL ts]
end
section
variable {K : PySem.W.Frag} {F F' : Addr → Prop} {H H' : Hp}
theorem OwnL.length : ∀ {vs : List V} {ts : List T} {fp : List Addr}, OwnL K F H vs ts fp → vs.length = ts.length
  | _, _, _, .nil => rfl
  | _, _, _, .cons _ h => by simp [OwnL.length h]
mutual
theorem OwnP.mono (hF : ∀ a, F a → F' a) : ∀ (t : T) {v : V} {fp : List Addr}, OwnP K F H v t fp → (∀ a, (F a ∨ a ∈ fp) → ∀ o, H a = some o → H' a = some o) → OwnP K F' H' v t fp
  | .leaf _, _, _, h, _ => by
    cases h
    exact .leaf _
  | .pin _ _, _, _, h, hH => by
    cases h with
    | pinF hf hr =>
      refine .pinF (hF _ hf) ?_
      rcases hr with hr | ⟨o, hr⟩
      · exact .inl (hH _ (.inl hf) _ hr)
      · exact .inr ⟨o, hH _ (.inl hf) _ hr⟩
    | pinK hc => exact .pinK hc
  | .node o s ts, _, _, h, hH => by
    cases h with
    | fz hf hr hk =>
      refine .fz (hF _ hf) (hH _ (.inl hf) _ hr) (OwnL.mono hF ts hk fun a ha => hH a ?_)
      rcases ha with ha | ha
      · exact .inl ha
      · cases ha
    | kz hc hk =>
      refine .kz hc (OwnL.mono hF ts hk fun a ha => hH a ?_)
      rcases ha with ha | ha
      · exact .inl ha
      · cases ha
    | own ha hk =>
      refine .own (hH _ (.inr List.mem_cons_self) _ ha) (OwnL.mono hF ts hk fun a ha => hH a ?_)
      rcases ha with ha | ha
      · exact .inl ha
      · exact .inr (List.mem_cons_of_mem _ ha)
theorem OwnL.mono (hF : ∀ a, F a → F' a) : ∀ (ts : List T) {vs : List V} {fp : List Addr}, OwnL K F H vs ts fp → (∀ a, (F a ∨ a ∈ fp) → ∀ o, H a = some o → H' a = some o) → OwnL K F' H' vs ts fp
  | [], _, _, h, _ => by
    cases h
    exact .nil
  | t :: ts, _, _, h, hH => by
    cases h with
    | cons h1 h2 =>
      exact .cons (OwnP.mono hF t h1 fun a ha => hH a (ha.imp id (List.mem_append_left _))) (OwnL.mono hF ts h2 fun a ha => hH a (ha.imp id (List.mem_append_right _)))
end
mutual
theorem OwnP.freeze (hF : ∀ a, F a → F' a) : ∀ (t : T) {v : V} {fp : List Addr}, OwnP K F H v t fp → (∀ a ∈ fp, F' a) → OwnP K F' H v (frz t) []
  | .leaf _, _, _, h, _ => by
    cases h
    exact .leaf _
  | .pin _ _, _, _, h, _ => by
    cases h with
    | pinF hf hr => exact .pinF (hF _ hf) hr
    | pinK hc => exact .pinK hc
  | .node o s ts, _, _, h, hp => by
    cases h with
    | fz hf hr hk => exact .fz (hF _ hf) hr (OwnL.freeze hF ts hk (fun _ z => nomatch z))
    | kz hc hk => exact .kz hc (OwnL.freeze hF ts hk (fun _ z => nomatch z))
    | own ha hk => exact .fz (hp _ List.mem_cons_self) ha (OwnL.freeze hF ts hk fun a z => hp a (List.mem_cons_of_mem _ z))
theorem OwnL.freeze (hF : ∀ a, F a → F' a) : ∀ (ts : List T) {vs : List V} {fp : List Addr}, OwnL K F H vs ts fp → (∀ a ∈ fp, F' a) → OwnL K F' H vs (frzL ts) []
  | [], _, _, h, _ => by
    cases h
    exact .nil
  | t :: ts, _, _, h, hp => by
    cases h with
    | cons h1 h2 => exact .cons (fp := []) (OwnP.freeze hF t h1 fun a z => hp a (List.mem_append_left _ z)) (OwnL.freeze hF ts h2 fun a z => hp a (List.mem_append_right _ z))
end
mutual
theorem OwnP.nofp : ∀ (t : T) {v : V} {fp : List Addr}, OwnP K F H v t fp → frz t = t → fp = []
  | .leaf _, _, _, h, _ => by cases h; rfl
  | .pin _ _, _, _, h, _ => by cases h <;> rfl
  | .node o s ts, _, _, h, e => by
    cases h with
    | fz _ _ _ => rfl
    | kz _ _ => rfl
    | own _ _ => simp [frz] at e
end
theorem OwnP.tracked : ∀ {t : T} {v : V} {fp : List Addr}, OwnP K F H v t fp → ∀ a ∈ fp, H a ≠ none := by
  intro t v fp h
  exact OwnP.rec (motive_1 := fun v t fp _ => ∀ a ∈ fp, H a ≠ none) (motive_2 := fun vs ts fp _ => ∀ a ∈ fp, H a ≠ none)
    (fun _ _ z => nomatch z) (fun _ _ _ _ _ z => nomatch z) (fun _ _ _ z => nomatch z) (fun _ _ z => nomatch z) (fun _ _ _ _ z => nomatch z)
    (fun ha _ ih a z => by
      rcases List.mem_cons.mp z with e | z
      · rw [e, ha]; exact nofun
      · exact ih a z) (fun _ z => nomatch z)
    (fun _ _ ih1 ih2 a z => (List.mem_append.mp z).elim (ih1 a) (ih2 a)) h
theorem OwnL.tracked {ts : List T} {vs : List V} {fp : List Addr} (h : OwnL K F H vs ts fp) : ∀ a ∈ fp, H a ≠ none :=
  OwnL.rec (motive_1 := fun v t fp _ => ∀ a ∈ fp, H a ≠ none) (motive_2 := fun vs ts fp _ => ∀ a ∈ fp, H a ≠ none)
    (fun _ _ z => nomatch z) (fun _ _ _ _ _ z => nomatch z) (fun _ _ _ z => nomatch z) (fun _ _ z => nomatch z) (fun _ _ _ _ z => nomatch z)
    (fun ha _ ih a z => by
      rcases List.mem_cons.mp z with e | z
      · rw [e, ha]; exact nofun
      · exact ih a z) (fun _ z => nomatch z)
    (fun _ _ ih1 ih2 a z => (List.mem_append.mp z).elim (ih1 a) (ih2 a)) h
abbrev Its := List (V × T)
def OwnZ (K : PySem.W.Frag) (F : Addr → Prop) (H : Hp) (zs : Its) (fp : List Addr) : Prop := OwnL K F H (zs.map (·.1)) (zs.map (·.2)) fp
theorem OwnZ.nil : OwnZ K F H [] [] := OwnL.nil
theorem OwnZ.cons {v : V} {t : T} {zs : Its} {fp fp' : List Addr} (h1 : OwnP K F H v t fp) (h2 : OwnZ K F H zs fp') : OwnZ K F H ((v, t) :: zs) (fp ++ fp') := OwnL.cons h1 h2
theorem OwnZ.uncons {v : V} {t : T} {zs : Its} {fp : List Addr} (h : OwnZ K F H ((v, t) :: zs) fp) : ∃ f1 f2, fp = f1 ++ f2 ∧ OwnP K F H v t f1 ∧ OwnZ K F H zs f2 := by
  cases h with
  | cons h1 h2 => exact ⟨_, _, rfl, h1, h2⟩
theorem OwnZ.append : ∀ {zs ys : Its} {f1 f2 : List Addr}, OwnZ K F H zs f1 → OwnZ K F H ys f2 → OwnZ K F H (zs ++ ys) (f1 ++ f2)
  | [], _, _, _, h1, h2 => by
    cases h1
    exact h2
  | (v, t) :: zs, _, _, _, h1, h2 => by
    obtain ⟨a, b, rfl, p, q⟩ := h1.uncons
    rw [List.append_assoc]
    exact .cons p (OwnZ.append q h2)
theorem OwnZ.split : ∀ {zs ys : Its} {fp : List Addr}, OwnZ K F H (zs ++ ys) fp → ∃ f1 f2, fp = f1 ++ f2 ∧ OwnZ K F H zs f1 ∧ OwnZ K F H ys f2
  | [], _, _, h => ⟨[], _, rfl, .nil, h⟩
  | (v, t) :: zs, _, _, h => by
    obtain ⟨a, b, rfl, p, q⟩ := OwnZ.uncons (zs := zs ++ _) h
    obtain ⟨f1, f2, rfl, q1, q2⟩ := OwnZ.split q
    exact ⟨a ++ f1, f2, by rw [List.append_assoc], .cons p q1, q2⟩
theorem OwnZ.perm {zs ys : Its} (e : zs.Perm ys) : ∀ {fp : List Addr}, OwnZ K F H zs fp → ∃ fp', fp.Perm fp' ∧ OwnZ K F H ys fp' := by
  induction e with
  | nil => exact fun h => ⟨_, .refl _, h⟩
  | cons x _ ih =>
    intro fp h
    obtain ⟨a, b, rfl, p, q⟩ := h.uncons
    obtain ⟨b', e', q'⟩ := ih q
    exact ⟨a ++ b', List.Perm.append_left _ e', .cons p q'⟩
  | swap x y l =>
    intro fp h
    obtain ⟨a, b, rfl, p, q⟩ := h.uncons
    obtain ⟨c, d, rfl, p2, q2⟩ := OwnZ.uncons (v := x.1) (t := x.2) q
    refine ⟨c ++ (a ++ d), ?_, .cons p2 (.cons p q2)⟩
    rw [← List.append_assoc, ← List.append_assoc]
    exact List.Perm.append_right _ List.perm_append_comm
  | trans _ _ ih1 ih2 =>
    intro fp h
    obtain ⟨f1, e1, h1⟩ := ih1 h
    obtain ⟨f2, e2, h2⟩ := ih2 h1
    exact ⟨f2, e1.trans e2, h2⟩
theorem OwnZ.mono {zs : Its} {fp : List Addr} (hF : ∀ a, F a → F' a) (h : OwnZ K F H zs fp) (hH : ∀ a, (F a ∨ a ∈ fp) → ∀ o, H a = some o → H' a = some o) : OwnZ K F' H' zs fp := OwnL.mono hF _ h hH
theorem OwnZ.tracked {zs : Its} {fp : List Addr} (h : OwnZ K F H zs fp) : ∀ a ∈ fp, H a ≠ none := OwnL.tracked h
theorem OwnL.zip {vs : List V} {ts : List T} {fp : List Addr} (h : OwnL K F H vs ts fp) : OwnZ K F H (vs.zip ts) fp := by
  have e := h.length
  unfold OwnZ
  rw [List.map_fst_zip (by omega), List.map_snd_zip (by omega)]
  exact h
theorem OwnL.unzip {vs : List V} {ts : List T} {fp : List Addr} (e : vs.length = ts.length) (h : OwnZ K F H (vs.zip ts) fp) : OwnL K F H vs ts fp := by
  unfold OwnZ at h
  rw [List.map_fst_zip (by omega), List.map_snd_zip (by omega)] at h
  exact h
end
abbrev Ev := List (Option T)
inductive EnvIs : St → Ev → Its → Prop
  | nil : EnvIs [] [] []
  | skip {x : Option V} {σ : St} {g : Ev} {zs : Its} : EnvIs σ g zs → EnvIs (x :: σ) (none :: g) zs
  | have {v : V} {t : T} {σ : St} {g : Ev} {zs : Its} : EnvIs σ g zs → EnvIs (some v :: σ) (some t :: g) ((v, t) :: zs)
theorem EnvIs.length : ∀ {σ : St} {g : Ev} {zs : Its}, EnvIs σ g zs → σ.length = g.length
  | _, _, _, .nil => rfl
  | _, _, _, .skip h => by simp [EnvIs.length h]
  | _, _, _, .have h => by simp [EnvIs.length h]
theorem EnvIs.take : ∀ {σ : St} {g : Ev} {zs : Its} {i : Nat} {t : T}, EnvIs σ g zs → g[i]? = some (some t) → ∃ v ys, σ[i]? = some (some v) ∧ zs.Perm ((v, t) :: ys) ∧ EnvIs σ (g.set i none) ys
  | _, _, _, i, _, .nil, e => by simp at e
  | _, _, _, 0, _, .skip h, e => by simp at e
  | _, _, _, 0, _, .have h, e => by
    simp at e
    subst e
    exact ⟨_, _, rfl, .refl _, .skip h⟩
  | _, _, _, i + 1, _, .skip h, e => by
    obtain ⟨v, ys, e1, p, q⟩ := EnvIs.take (i := i) h (by simpa using e)
    exact ⟨v, ys, by simpa using e1, p, .skip q⟩
  | _, _, _, i + 1, _, .have (v := w) (t := t0) h, e => by
    obtain ⟨v, ys, e1, p, q⟩ := EnvIs.take (i := i) h (by simpa using e)
    exact ⟨v, (w, t0) :: ys, by simpa using e1, (List.Perm.cons _ p).trans (List.Perm.swap _ _ _), .have q⟩
theorem EnvIs.drop : ∀ {σ : St} {g : Ev} {zs : Its} {i : Nat} (x : Option V), EnvIs σ g zs → ∃ ds ys, zs.Perm (ds ++ ys) ∧ EnvIs (σ.set i x) (g.set i none) ys
  | _, _, _, i, x, .nil => ⟨[], [], .refl _, by simpa using EnvIs.nil⟩
  | _, _, _, 0, x, .skip h => ⟨[], _, .refl _, .skip h⟩
  | _, _, _, 0, x, .have (v := w) (t := t0) h => ⟨[(w, t0)], _, .refl _, .skip h⟩
  | _, _, _, i + 1, x, .skip h => by
    obtain ⟨ds, ys, p, q⟩ := EnvIs.drop (i := i) x h
    exact ⟨ds, ys, p, .skip q⟩
  | _, _, _, i + 1, x, .have (v := w) (t := t0) h => by
    obtain ⟨ds, ys, p, q⟩ := EnvIs.drop (i := i) x h
    exact ⟨ds, (w, t0) :: ys, (List.Perm.cons _ p).trans List.perm_middle.symm, .have q⟩
theorem EnvIs.fill : ∀ {σ : St} {g : Ev} {zs : Its} {i : Nat} {v : V} (t : T), EnvIs σ g zs → g[i]? = some none → σ[i]? = some (some v) → ∃ ys, ys.Perm ((v, t) :: zs) ∧ EnvIs σ (g.set i (some t)) ys
  | _, _, _, i, _, t, .nil, e, _ => by simp at e
  | _, _, _, 0, _, t, .skip h, _, e => by
    simp at e
    subst e
    exact ⟨_, .refl _, .have h⟩
  | _, _, _, 0, _, t, .have h, e, _ => by simp at e
  | _, _, _, i + 1, _, t, .skip h, e, e' => by
    obtain ⟨ys, p, q⟩ := EnvIs.fill (i := i) t h (by simpa using e) (by simpa using e')
    exact ⟨ys, p, .skip q⟩
  | _, _, _, i + 1, _, t, .have h, e, e' => by
    obtain ⟨ys, p, q⟩ := EnvIs.fill (i := i) t h (by simpa using e) (by simpa using e')
    exact ⟨_, (List.Perm.cons _ p).trans (List.Perm.swap _ _ _), .have q⟩
structure Bs where
  H0 : Hp
  F0 : Addr → Prop
  fp0 : List Addr
structure Fine (B : Bs) (F : Addr → Prop) (H : Hp) (fp : List Addr) : Prop where
  nd : fp.Nodup
  off : ∀ a ∈ fp, ¬ F a
  trk : ∀ a, F a → H a ≠ none
  inc : ∀ a, B.F0 a → F a
  keep : ∀ a o, B.H0 a = some o → a ∉ B.fp0 → H a = some o
  newF : ∀ a, F a → B.F0 a ∨ a ∈ B.fp0 ∨ B.H0 a = none
  newO : ∀ a ∈ fp, a ∈ B.fp0 ∨ B.H0 a = none
def RepG (K : PySem.W.Frag) (B : Bs) (lim : List Addr) (σ : St) (H : Hp) (g : Ev) (Φ : Its) : Prop :=
  ∃ (F : Addr → Prop) (zs : Its) (fp : List Addr), EnvIs σ g zs ∧ OwnZ K F H (zs ++ Φ) fp ∧ Fine B F H (lim ++ fp) ∧ ∀ a ∈ lim, H a ≠ none
abbrev Rep (K : PySem.W.Frag) (B : Bs) (σ : St) (H : Hp) (g : Ev) (Φ : Its) : Prop := RepG K B [] σ H g Φ
section
variable {K : PySem.W.Frag} {B : Bs} {lim : List Addr} {σ : St} {H H' : Hp} {g : Ev} {Φ Ψ : Its}
theorem Fine.perm {F : Addr → Prop} {fp fp' : List Addr} (h : Fine B F H fp) (e : fp.Perm fp') : Fine B F H fp' :=
  ⟨e.nodup_iff.mp h.nd, fun a z => h.off a (e.mem_iff.mpr z), h.trk, h.inc, h.keep, h.newF, fun a z => h.newO a (e.mem_iff.mpr z)⟩
theorem Fine.sub {F : Addr → Prop} {fp fp' : List Addr} (h : Fine B F H fp) (e : fp'.Sublist fp) : Fine B F H fp' :=
  ⟨h.nd.sublist e, fun a z => h.off a (e.subset z), h.trk, h.inc, h.keep, h.newF, fun a z => h.newO a (e.subset z)⟩
theorem rep_items {F : Addr → Prop} {zs ys ds : Its} {g' : Ev} {σ' : St} {fp : List Addr} (e2 : EnvIs σ' g' ys) (h : OwnZ K F H zs fp) (f : Fine B F H (lim ++ fp)) (hl : ∀ a ∈ lim, H a ≠ none) (p : zs.Perm (ds ++ (ys ++ Ψ))) : RepG K B lim σ' H g' Ψ := by
  obtain ⟨fp', pf, h'⟩ := h.perm p
  obtain ⟨f1, f2, rfl, _, h2⟩ := h'.split
  refine ⟨F, ys, f2, e2, h2, (f.perm (List.Perm.append_left _ pf)).sub ?_, hl⟩
  exact List.Sublist.append (List.Sublist.refl _) (List.sublist_append_right _ _)
theorem RepG.perm (h : RepG K B lim σ H g Φ) (p : Φ.Perm Ψ) : RepG K B lim σ H g Ψ := by
  obtain ⟨F, zs, fp, e, o, f, hl⟩ := h
  exact rep_items (ds := []) e o f hl (List.Perm.append_left _ p)
theorem RepG.dropT {x : V × T} (h : RepG K B lim σ H g (x :: Φ)) : RepG K B lim σ H g Φ := by
  obtain ⟨F, zs, fp, e, o, f, hl⟩ := h
  exact rep_items (ds := [x]) e o f hl (List.perm_middle)
theorem RepG.dropTs {xs : Its} (h : RepG K B lim σ H g (xs ++ Φ)) : RepG K B lim σ H g Φ := by
  induction xs with
  | nil => exact h
  | cons x xs ih => exact ih (RepG.dropT h)
theorem RepG.len (h : RepG K B lim σ H g Φ) : σ.length = g.length := by
  obtain ⟨F, zs, fp, e, _⟩ := h
  exact e.length
theorem RepG.move {i : Nat} {t : T} (h : RepG K B lim σ H g Φ) (e : g[i]? = some (some t)) : ∃ v, σ[i]? = some (some v) ∧ RepG K B lim σ H (g.set i none) ((v, t) :: Φ) := by
  obtain ⟨F, zs, fp, en, o, f, hl⟩ := h
  obtain ⟨v, ys, ev, p, en'⟩ := en.take e
  exact ⟨v, ev, rep_items (ds := []) en' o f hl ((List.Perm.append_right _ p).trans List.perm_middle.symm)⟩
theorem RepG.clear (h : RepG K B lim σ H g Φ) (i : Nat) (x : Option V) : RepG K B lim (σ.set i x) H (g.set i none) Φ := by
  obtain ⟨F, zs, fp, en, o, f, hl⟩ := h
  obtain ⟨ds, ys, p, en'⟩ := en.drop (i := i) x
  exact rep_items (ds := ds) en' o f hl (by rw [← List.append_assoc]; exact List.Perm.append_right _ p)
theorem set_at {α : Type} {l : List α} {i : Nat} {x : α} (h : l[i]? = some x) : l.set i x = l := by
  apply List.ext_getElem?
  intro j
  by_cases e : i = j
  · subst e
    have hi : i < l.length := by
      rw [List.getElem?_eq_some_iff] at h
      exact h.1
    rw [List.getElem?_set_self hi, h]
  · rw [List.getElem?_set_ne e]
theorem RepG.forget (h : RepG K B lim σ H g Φ) (i : Nat) : RepG K B lim σ H (g.set i none) Φ := by
  by_cases hi : i < σ.length
  · have q := h.clear i (σ[i])
    rwa [set_at (by simp [hi])] at q
  · have hg : g.set i none = g := List.set_eq_of_length_le (by rw [← h.len]; omega)
    rw [hg]
    exact h
theorem RepG.put {i : Nat} {v : V} {t : T} (h : RepG K B lim σ H g ((v, t) :: Φ)) (hi : i < σ.length) : RepG K B lim (σ.set i (some v)) H (g.set i (some t)) Φ := by
  have h1 := h.clear i (some v)
  obtain ⟨F, zs, fp, en, o, f, hl⟩ := h1
  have hl' := en.length
  simp only [List.length_set] at hl'
  obtain ⟨ys, p, en'⟩ := en.fill (i := i) (v := v) t (by rw [List.getElem?_set_self (by omega)]) (by rw [List.getElem?_set_self hi])
  rw [List.set_set] at en'
  exact rep_items (ds := []) en' o f hl ((List.perm_middle).trans (List.Perm.append_right _ p.symm))
theorem RepG.back {i : Nat} {v : V} {t : T} (h : RepG K B lim σ H g ((v, t) :: Φ)) (hi : σ[i]? = some (some v)) : RepG K B lim σ H (g.set i (some t)) Φ := by
  have hlt : i < σ.length := by
    rw [List.getElem?_eq_some_iff] at hi
    exact hi.1
  have q := h.put hlt
  rwa [set_at hi] at q
theorem RepG.freezeT {v : V} {t : T} (h : RepG K B lim σ H g ((v, t) :: Φ)) : RepG K B lim σ H g ((v, frz t) :: Φ) := by
  obtain ⟨F, zs, fp, en, o, f, hl⟩ := h
  obtain ⟨fp', pf, o'⟩ := o.perm (List.perm_middle (a := (v, t)))
  obtain ⟨f1, f2, rfl, p1, o2⟩ := OwnZ.uncons (zs := zs ++ Φ) o'
  have f' := f.perm (List.Perm.append_left lim pf)
  have nd := f'.nd
  have hz : OwnZ K (fun a => F a ∨ a ∈ f1) H ((v, frz t) :: (zs ++ Φ)) ([] ++ f2) :=
    .cons (OwnP.freeze (fun a z => .inl z) _ p1 fun a z => .inr z) (o2.mono (fun a z => .inl z) fun _ _ _ e => e)
  have fin : Fine B (fun a => F a ∨ a ∈ f1) H (lim ++ ([] ++ f2)) := by
    rw [List.nil_append]
    have sub : (lim ++ f2).Sublist (lim ++ (f1 ++ f2)) := List.Sublist.append (List.Sublist.refl _) (List.sublist_append_right _ _)
    refine ⟨nd.sublist sub, fun a z => ?_, fun a z => ?_, fun a z => .inl (f.inc a z), f.keep, fun a z => ?_, fun a z => f'.newO a (sub.subset z)⟩
    · rintro (k | k)
      · exact f'.off a (sub.subset z) k
      · rcases List.mem_append.mp z with z | z
        · exact (List.nodup_append.mp nd).2.2 a z a (List.mem_append_left _ k) rfl
        · exact (List.nodup_append.mp (List.nodup_append.mp nd).2.1).2.2 a k a z rfl
    · rcases z with z | z
      · exact f.trk a z
      · exact p1.tracked a z
    · rcases z with z | z
      · exact f.newF a z
      · rcases f'.newO a (List.mem_append_right _ (List.mem_append_left _ z)) with q | q
        · exact .inr (.inl q)
        · exact .inr (.inr q)
  exact rep_items (ds := []) en hz fin hl (List.perm_middle.symm)
theorem RepG.look {i : Nat} {t : T} (h : RepG K B lim σ H g Φ) (e : g[i]? = some (some t)) (hf : frz t = t) : ∃ v, σ[i]? = some (some v) ∧ RepG K B lim σ H g ((v, t) :: Φ) := by
  obtain ⟨F, zs, fp, en, o, f, hl⟩ := h
  obtain ⟨v, ys, ev, p, en'⟩ := id en.take e
  refine ⟨v, ev, ?_⟩
  obtain ⟨fp', pf, o'⟩ := o.perm (List.Perm.append_right Φ p)
  obtain ⟨f1, f2, rfl, p1, o2⟩ := OwnZ.uncons (zs := ys ++ Φ) o'
  obtain rfl := p1.nofp _ hf
  have f' := f.perm (List.Perm.append_left lim pf)
  have hz : OwnZ K F H ((v, t) :: (v, t) :: (ys ++ Φ)) ([] ++ ([] ++ f2)) := .cons p1 (.cons p1 o2)
  refine rep_items (ds := []) en hz f' hl ?_
  exact ((List.Perm.cons _ (List.Perm.append_right Φ p.symm))).trans List.perm_middle.symm
theorem RepG.freeze {i : Nat} {t : T} (h : RepG K B lim σ H g Φ) (e : g[i]? = some (some t)) : RepG K B lim σ H (g.set i (some (frz t))) Φ := by
  obtain ⟨v, ev, h1⟩ := h.move e
  have h2 := h1.freezeT.back ev
  rwa [List.set_set] at h2
end
end DL
set_option Elab.async false
set_option linter.all false
set_option maxRecDepth 100000
set_option maxHeartbeats 4000000
namespace DL
open PySem L2
section
variable {K : PySem.W.Frag} {B : Bs} {lim : List Addr} {σ : St} {H H' : Hp} {g : Ev} {Φ Ψ : Its}
theorem RepG.lim0 (h : RepG K B lim σ H g Φ) : RepG K B [] σ H g Φ := by
  obtain ⟨F, zs, fp, en, o, f, hl⟩ := h
  exact ⟨F, zs, fp, en, o, f.sub (List.sublist_append_right _ _), fun _ z => nomatch z⟩
theorem RepG.only (h : RepG K B lim σ H g Φ) : RepG K B [] σ H g [] := (RepG.dropTs (xs := Φ) (Φ := []) (by rw [List.append_nil]; exact h)).lim0
theorem RepG.open_ {v : V} {s : Sh} {ts : List T} (h : RepG K B lim σ H g ((v, .node true s ts) :: Φ)) :
    ∃ a vs, v = .ref a ∧ vs.length = ts.length ∧ H a = some (s.mk vs) ∧ RepG K B (a :: lim) σ H g (vs.zip ts ++ Φ) := by
  obtain ⟨F, zs, fp, en, o, f, hl⟩ := h
  obtain ⟨fp', pf, o'⟩ := o.perm (List.perm_middle (a := (v, T.node true s ts)))
  obtain ⟨f1, f2, rfl, p1, o2⟩ := OwnZ.uncons (zs := zs ++ Φ) o'
  have f' := f.perm (List.Perm.append_left lim pf)
  cases p1 with
  | @own a _ vs _ fk ha hk =>
    refine ⟨a, vs, rfl, hk.length, ha, ?_⟩
    have oz : OwnZ K F H (vs.zip ts ++ (zs ++ Φ)) (fk ++ f2) := hk.zip.append o2
    have ff : Fine B F H ((a :: lim) ++ (fk ++ f2)) := f'.perm (by
      rw [List.cons_append, List.cons_append]
      exact List.perm_middle)
    refine rep_items (ds := []) en oz ff (fun b z => ?_) ?_
    · rcases List.mem_cons.mp z with e | z
      · rw [e, ha]; exact nofun
      · exact hl b z
    · rw [List.nil_append, ← List.append_assoc, ← List.append_assoc]
      exact List.Perm.append_right _ List.perm_append_comm
theorem RepG.close {a : Addr} {s : Sh} {zs : Its} (h : RepG K B (a :: lim) σ H g (zs ++ Φ)) :
    RepG K B lim σ (upd H a (s.mk (zs.map (·.1)))) g ((.ref a, .node true s (zs.map (·.2))) :: Φ) := by
  obtain ⟨F, ys, fp, en, o, f, hl⟩ := h
  have p : (ys ++ (zs ++ Φ)).Perm (zs ++ (ys ++ Φ)) := by
    rw [← List.append_assoc, ← List.append_assoc]
    exact List.Perm.append_right _ List.perm_append_comm
  obtain ⟨fp', pf, o'⟩ := o.perm p
  obtain ⟨f1, f2, rfl, o1, o2⟩ := o'.split
  have f' := f.perm (List.Perm.append_left (a :: lim) pf)
  have nd := f'.nd
  rw [List.cons_append, List.nodup_cons] at nd
  have na : a ∉ lim ∧ a ∉ f1 ∧ a ∉ f2 := by
    have := nd.1
    simp only [List.mem_append, not_or] at this
    exact this
  have nF : ¬ F a := f'.off a (by simp)
  have st : ∀ b o, b ≠ a → H b = some o → (upd H a (s.mk (zs.map (·.1)))) b = some o := fun b o hb e => by rw [upd_ne hb]; exact e
  have k1 : OwnZ K F (upd H a (s.mk (zs.map (·.1)))) zs f1 := o1.mono (fun _ z => z) fun b hb o e => st b o (fun z => by subst z; rcases hb with q | q; exact nF q; exact na.2.1 q) e
  have k2 : OwnZ K F (upd H a (s.mk (zs.map (·.1)))) (ys ++ Φ) f2 := o2.mono (fun _ z => z) fun b hb o e => st b o (fun z => by subst z; rcases hb with q | q; exact nF q; exact na.2.2 q) e
  have oz : OwnZ K F (upd H a (s.mk (zs.map (·.1)))) ((V.ref a, T.node true s (zs.map (·.2))) :: (ys ++ Φ)) ((a :: f1) ++ f2) := .cons (.own upd_same k1) k2
  have ff : Fine B F (upd H a (s.mk (zs.map (·.1)))) (lim ++ ((a :: f1) ++ f2)) := by
    have f2' := f'.perm (show ((a :: lim) ++ (f1 ++ f2)).Perm (lim ++ ((a :: f1) ++ f2)) by
      rw [List.cons_append, List.cons_append]
      exact List.perm_middle.symm)
    refine ⟨f2'.nd, f2'.off, fun b z e => ?_, f2'.inc, fun b o e nb => ?_, f2'.newF, f2'.newO⟩
    · have hb : b ≠ a := fun q => by subst q; exact nF z
      rw [upd_ne hb] at e
      exact f2'.trk b z e
    · have hb : b ≠ a := fun q => by
        subst q
        rcases f2'.newO b (by simp) with q | q
        · exact nb q
        · rw [q] at e; cases e
      exact st b o hb (f2'.keep b o e nb)
  refine rep_items (ds := []) en oz ff (fun b z e => ?_) (List.perm_middle.symm)
  have hb : b ≠ a := fun q => by subst q; exact na.1 z
  rw [upd_ne hb] at e
  exact hl b (List.mem_cons_of_mem _ z) e
theorem RepG.alloc {p : Addr} {o : HO} (h : RepG K B lim σ H g Φ) (hp : H p = none) : RepG K B (p :: lim) σ (upd H p o) g Φ := by
  obtain ⟨F, zs, fp, en, oz, f, hl⟩ := h
  have st : ∀ b u, H b = some u → (upd H p o) b = some u := fun b u e => by rw [upd_ne (ne_of_none e hp)]; exact e
  have stn : ∀ b, H b ≠ none → (upd H p o) b ≠ none := fun b e => by
    cases q : H b with
    | none => exact absurd q e
    | some u => rw [st b u q]; exact nofun
  refine ⟨F, zs, fp, en, oz.mono (fun _ z => z) fun b _ u e => st b u e, ⟨?_, fun a z => ?_, fun a z => stn a (f.trk a z), f.inc, fun a u e na => st a u (f.keep a u e na), f.newF, fun a z => ?_⟩, fun b z => ?_⟩
  · rw [List.cons_append, List.nodup_cons]
    refine ⟨fun z => ?_, f.nd⟩
    rcases List.mem_append.mp z with z | z
    · exact hl p z hp
    · exact oz.tracked p z hp
  · rw [List.cons_append, List.mem_cons] at z
    rcases z with rfl | z
    · exact fun q => f.trk a q hp
    · exact f.off a z
  · rw [List.cons_append, List.mem_cons] at z
    rcases z with rfl | z
    · by_cases hb : a ∈ B.fp0
      · exact .inl hb
      · refine .inr ?_
        cases q : B.H0 a with
        | none => rfl
        | some u =>
          have := f.keep a u q hb
          rw [hp] at this; cases this
    · exact f.newO a z
  · rcases List.mem_cons.mp z with rfl | z
    · rw [upd_same]; exact nofun
    · exact stn b (hl b z)
theorem RepG.make {p : Addr} {s : Sh} {zs : Its} (h : RepG K B lim σ H g (zs ++ Φ)) (hp : H p = none) :
    RepG K B lim σ (upd H p (s.mk (zs.map (·.1)))) g ((.ref p, .node true s (zs.map (·.2))) :: Φ) := by
  have q := (h.alloc (o := s.mk (zs.map (·.1))) hp).close (s := s)
  rwa [upd_upd] at q
theorem RepG.node {v : V} {o : Bool} {s : Sh} {ts : List T} (h : RepG K B lim σ H g ((v, .node o s ts) :: Φ)) :
    ∃ a vs, v = .ref a ∧ vs.length = ts.length ∧ (Rd H a (s.mk vs) ∨ Konst K a vs s) := by
  obtain ⟨F, zs, fp, en, oz, f, hl⟩ := h
  obtain ⟨fp', pf, o'⟩ := oz.perm (List.perm_middle (a := (v, T.node o s ts)))
  obtain ⟨f1, f2, rfl, p1, o2⟩ := OwnZ.uncons (zs := zs ++ Φ) o'
  cases p1 with
  | fz hf hr hk => exact ⟨_, _, rfl, hk.length, .inl (.inl hr)⟩
  | kz hc hk => exact ⟨_, _, rfl, hk.length, .inr hc⟩
  | own ha hk => exact ⟨_, _, rfl, hk.length, .inl (.inl ha)⟩
theorem RepG.nodeH {v : V} {o : Bool} {s : Sh} {ts : List T} (h : RepG K B lim σ H g ((v, .node o s ts) :: Φ)) (hs : s ≠ .tup) :
    ∃ a vs, v = .ref a ∧ vs.length = ts.length ∧ H a = some (s.mk vs) := by
  obtain ⟨F, zs, fp, en, oz, f, hl⟩ := h
  obtain ⟨fp', pf, o'⟩ := oz.perm (List.perm_middle (a := (v, T.node o s ts)))
  obtain ⟨f1, f2, rfl, p1, o2⟩ := OwnZ.uncons (zs := zs ++ Φ) o'
  cases p1 with
  | fz hf hr hk => exact ⟨_, _, rfl, hk.length, hr⟩
  | kz hc hk => exact absurd rfl hs
  | own ha hk => exact ⟨_, _, rfl, hk.length, ha⟩
theorem RepG.kids {v : V} {s : Sh} {ts : List T} (h : RepG K B lim σ H g ((v, .node false s ts) :: Φ)) :
    ∃ a vs, v = .ref a ∧ vs.length = ts.length ∧ (Rd H a (s.mk vs) ∨ Konst K a vs s) ∧ RepG K B lim σ H g (vs.zip ts ++ (v, .node false s ts) :: Φ) := by
  obtain ⟨F, zs, fp, en, oz, f, hl⟩ := h
  obtain ⟨fp', pf, o'⟩ := oz.perm (List.perm_middle (a := (v, T.node false s ts)))
  obtain ⟨f1, f2, rfl, p1, o2⟩ := OwnZ.uncons (zs := zs ++ Φ) o'
  have f' := f.perm (List.Perm.append_left lim pf)
  have p1' := p1
  have fin : ∀ vs : List V, OwnL K F H vs ts [] → f1 = [] → RepG K B lim σ H g (vs.zip ts ++ (v, .node false s ts) :: Φ) := fun vs hk e => by
    subst e
    have oz2 : OwnZ K F H (vs.zip ts ++ ((v, T.node false s ts) :: (zs ++ Φ))) ([] ++ ([] ++ f2)) := hk.zip.append (.cons p1' o2)
    refine rep_items (ds := []) en oz2 f' hl ?_
    rw [List.nil_append]
    have e1 : (vs.zip ts ++ (v, T.node false s ts) :: (zs ++ Φ)).Perm ((zs ++ ((v, T.node false s ts) :: Φ)) ++ vs.zip ts) :=
      List.perm_append_comm.trans (List.Perm.append_right _ List.perm_middle.symm)
    refine e1.trans ?_
    rw [List.append_assoc]
    exact List.Perm.append_left _ List.perm_append_comm
  cases p1 with
  | fz hf hr hk => exact ⟨_, _, rfl, hk.length, .inl (.inl hr), fin _ hk rfl⟩
  | kz hc hk => exact ⟨_, _, rfl, hk.length, .inr hc, fin _ hk rfl⟩
theorem RepG.leaf {v : V} {w : V} (h : RepG K B lim σ H g ((v, .leaf w) :: Φ)) : v = w := by
  obtain ⟨F, zs, fp, en, oz, f, hl⟩ := h
  obtain ⟨fp', pf, o'⟩ := oz.perm (List.perm_middle (a := (v, T.leaf w)))
  obtain ⟨f1, f2, rfl, p1, o2⟩ := OwnZ.uncons (zs := zs ++ Φ) o'
  cases p1
  rfl
theorem RepG.addLeaf {v : V} (h : RepG K B lim σ H g Φ) : RepG K B lim σ H g ((v, .leaf v) :: Φ) := by
  obtain ⟨F, zs, fp, en, oz, f, hl⟩ := h
  exact rep_items (ds := []) en (OwnZ.cons (fp := []) (.leaf v) oz) f hl List.perm_middle.symm
theorem RepG.grow (h : RepG K B lim σ H g Φ) (e : ∀ a o, H a = some o → H' a = some o) : RepG K B lim σ H' g Φ := by
  obtain ⟨F, zs, fp, en, oz, f, hl⟩ := h
  have stn : ∀ b, H b ≠ none → H' b ≠ none := fun b q => by
    cases z : H b with
    | none => exact absurd z q
    | some u => rw [e b u z]; exact nofun
  exact ⟨F, zs, fp, en, oz.mono (fun _ z => z) fun b _ u q => e b u q, ⟨f.nd, f.off, fun a z => stn a (f.trk a z), f.inc, fun a u q na => e a u (f.keep a u q na), f.newF, f.newO⟩, fun b z => stn b (hl b z)⟩
theorem seqL {a : Addr} {vs : List V} (h : Rd H a (Sh.lst.mk vs) ∨ Konst K a vs .lst) : SqL K H a vs := h
theorem seqT {a : Addr} {vs : List V} (h : Rd H a (Sh.tup.mk vs) ∨ Konst K a vs .tup) : SqT K H a vs := h
end
abbrev XP := Value → List (Str × V) → Ev → Prop
abbrev DTE := Ev → (T → Ev → Prop) → XP → Prop
abbrev DTT := Ev → (Bool → Ev → Prop) → XP → Prop
abbrev DTA := Ev → (List T → Ev → Prop) → XP → Prop
structure DEnds where
  nx : Ev → Prop
  rt : T → Ev → Prop
  ex : XP
  bk : Ev → Prop := fun _ => False
  ct : Ev → Prop := fun _ => False
abbrev DTS := DEnds → Ev → Prop
def XD (d : Option Addr) (fs : List (Str × V)) (H : Hp) : Prop := match d with
  | none => fs = []
  | some a => H a = some (.xd fs)
def liftX (K : PySem.W.Frag) (B : Bs) (W : WX) (σ : St) (E : XP) : Prop := ∀ c fs g d H, RepG K B [] σ H g [] → XD d fs H → E c fs g → W c d σ H
def liftE (K : PySem.W.Frag) (B : Bs) (W : WX) (t : DTE) : TE := fun σ H Q => ∃ (Φ : Its) (lim : List Addr) (g : Ev) (E : XP), RepG K B lim σ H g Φ ∧ liftX K B W σ E ∧
  t g (fun τ g' => ∀ v H', RepG K B lim σ H' g' ((v, τ) :: Φ) → Q v H') E
def liftT (K : PySem.W.Frag) (B : Bs) (W : WX) (t : DTT) : TT := fun σ H Q => ∃ (Φ : Its) (lim : List Addr) (g : Ev) (E : XP), RepG K B lim σ H g Φ ∧ liftX K B W σ E ∧
  t g (fun b g' => ∀ H', RepG K B lim σ H' g' Φ → Q b H') E
def BackOk (σ : St) : List V → List (Option Nat) → Prop
  | [], [] => True
  | v :: vs, some j :: bs => σ[j]? = some (some v) ∧ BackOk σ vs bs
  | _ :: vs, none :: bs => BackOk σ vs bs
  | _, _ => False
def liftA (K : PySem.W.Frag) (B : Bs) (W : WX) (bs : List (Option Nat)) (t : DTA) : TA := fun σ H Q => ∃ (Φ : Its) (lim : List Addr) (g : Ev) (E : XP), RepG K B lim σ H g Φ ∧ liftX K B W σ E ∧
  t g (fun τs g' => ∀ vs H', vs.length = τs.length → BackOk σ vs bs → RepG K B lim σ H' g' (vs.zip τs ++ Φ) → Q vs H') E
def Kept (m : Nat → Bool) (σ σ' : St) : Prop := σ'.length = σ.length ∧ ∀ i, m i = true → σ'[i]? = σ[i]?
def low (K : PySem.W.Frag) (B : Bs) (m : Nat → Bool) (σ0 : St) (lim : List Addr) (Φ : Its) (D : Ends) (E : XP) : DEnds :=
  { nx := fun g' => ∀ σ' H', RepG K B lim σ' H' g' Φ → Kept m σ0 σ' → D.nx σ' H', rt := fun τ g' => ∀ v σ' H', RepG K B [] σ' H' g' [(v, τ)] → Kept m σ0 σ' → D.rt v H', ex := E,
    bk := fun g' => ∀ σ' H', RepG K B lim σ' H' g' Φ → Kept m σ0 σ' → D.bk σ' H', ct := fun g' => ∀ σ' H', RepG K B lim σ' H' g' Φ → Kept m σ0 σ' → D.ct σ' H' }
def liftS (K : PySem.W.Frag) (B : Bs) (W : WX) (m : Nat → Bool) (σ0 : St) (t : DTS) : TS := fun D σ H => ∃ (Φ : Its) (lim : List Addr) (g : Ev) (E : XP), RepG K B lim σ H g Φ ∧ Kept m σ0 σ ∧
  (∀ σ, Kept m σ0 σ → liftX K B W σ E) ∧ t (low K B m σ0 lim Φ D E) g
structure DE (X : Cx) (W : WX) (e : Expr) (t : DTE) : Prop where
  run : ∀ B, PE X e (liftE X.K B W t)
  mono : ∀ g Q Q' E E', (∀ τ g', Q τ g' → Q' τ g') → (∀ c fs g', E c fs g' → E' c fs g') → t g Q E → t g Q' E'
structure DT (X : Cx) (W : WX) (e : Expr) (t : DTT) : Prop where
  run : ∀ B, PT X e (liftT X.K B W t)
  mono : ∀ g Q Q' E E', (∀ b g', Q b g' → Q' b g') → (∀ c fs g', E c fs g' → E' c fs g') → t g Q E → t g Q' E'
structure DW (X : Cx) (W : WX) (e : Expr) (t : DTT) : Prop where
  run : ∀ B, PW X e (liftT X.K B W t)
  mono : ∀ g Q Q' E E', (∀ b g', Q b g' → Q' b g') → (∀ c fs g', E c fs g' → E' c fs g') → t g Q E → t g Q' E'
structure DA (X : Cx) (W : WX) (es : List Expr) (bs : List (Option Nat)) (t : DTA) : Prop where
  run : ∀ B, PA X es (liftA X.K B W bs t)
  mono : ∀ g Q Q' E E', (∀ τs g', Q τs g' → Q' τs g') → (∀ c fs g', E c fs g' → E' c fs g') → t g Q E → t g Q' E'
structure DEnds.Le (D D' : DEnds) : Prop where
  nx : ∀ g, D.nx g → D'.nx g
  rt : ∀ τ g, D.rt τ g → D'.rt τ g
  ex : ∀ c fs g, D.ex c fs g → D'.ex c fs g
  bk : ∀ g, D.bk g → D'.bk g
  ct : ∀ g, D.ct g → D'.ct g
structure DS (X : Cx) (W : WX) (m : Nat → Bool) (st : Stmt) (t : DTS) : Prop where
  run : ∀ B σ0, PS X st (liftS X.K B W m σ0 t)
  mono : ∀ D D' g, D.Le D' → t D g → t D' g
structure DSs (X : Cx) (W : WX) (m : Nat → Bool) (st : List Stmt) (t : DTS) : Prop where
  run : ∀ B σ0, PSs X st (liftS X.K B W m σ0 t)
  mono : ∀ D D' g, D.Le D' → t D g → t D' g
theorem PE.imp {X : Cx} {e : Expr} {t t' : TE} (h : PE X e t) (i : ∀ σ H Q, t' σ H Q → t σ H Q) : PE X e t' := ⟨fun pins s σ H Q I hw => h.run pins s σ H Q I (i σ H Q hw)⟩
theorem PT.imp {X : Cx} {e : Expr} {t t' : TT} (h : PT X e t) (i : ∀ σ H Q, t' σ H Q → t σ H Q) : PT X e t' := ⟨fun pins s σ H Q I hw => h.run pins s σ H Q I (i σ H Q hw)⟩
theorem PW.imp {X : Cx} {e : Expr} {t t' : TT} (h : PW X e t) (i : ∀ σ H Q, t' σ H Q → t σ H Q) : PW X e t' := ⟨fun wh pins s σ H Q I hw => h.run wh pins s σ H Q I (i σ H Q hw)⟩
theorem PA.imp {X : Cx} {e : List Expr} {t t' : TA} (h : PA X e t) (i : ∀ σ H Q, t' σ H Q → t σ H Q) : PA X e t' := ⟨fun pos pins s σ H Q I hw => h.run pos pins s σ H Q I (i σ H Q hw)⟩
theorem PS.imp {X : Cx} {e : Stmt} {t t' : TS} (h : PS X e t) (i : ∀ D σ H, t' D σ H → t D σ H) : PS X e t' := ⟨fun pins s σ H D I hw => h.run pins s σ H D I (i D σ H hw)⟩
theorem PSs.imp {X : Cx} {e : List Stmt} {t t' : TS} (h : PSs X e t) (i : ∀ D σ H, t' D σ H → t D σ H) : PSs X e t' := ⟨fun pins s σ H D I hw => h.run pins s σ H D I (i D σ H hw)⟩
section
variable {X : Cx} {W : WX} {m : Nat → Bool} {a b c e : Expr} {es : List Expr} {ta tb tc te : DTE} {pos : Pos}
def xVar (i : Nat) : DTE := fun g Q _ => match g[i]? with
  | some (some t) => frz t = t ∧ Q t g
  | _ => False
def xFrz (i : Nat) : DTE := fun g Q _ => match g[i]? with
  | some (some t) => Q (frz t) (g.set i (some (frz t)))
  | _ => False
def xMov (i : Nat) : DTE := fun g Q _ => match g[i]? with
  | some (some t) => Q t (g.set i none)
  | _ => False
def xC (v : V) : DTE := fun g Q _ => Q (.leaf v) g
theorem m_match {i : Nat} {g : Ev} {P P' : T → Prop} (h : ∀ t, P t → P' t) : (match g[i]? with | some (some t) => P t | _ => False) → (match g[i]? with | some (some t) => P' t | _ => False) := by
  intro q
  split at q
  · rename_i t e
    exact h t q
  · exact q.elim
theorem d_var (i : Nat) (h : PE X e (tVar i)) : DE X W e (xVar i) := by
  refine ⟨fun B => PE.imp h fun σ H Q ⟨Φ, lim, g, E, r, hx, q⟩ => ?_, fun g Q Q' E E' hq _ q => m_match (fun t z => ⟨z.1, hq _ _ z.2⟩) q⟩
  unfold xVar at q
  split at q
  · rename_i t ht
    obtain ⟨v, hv, r'⟩ := r.look ht q.1
    exact ⟨v, hv, q.2 v H r'⟩
  · exact q.elim
theorem d_frz (i : Nat) (h : PE X e (tVar i)) : DE X W e (xFrz i) := by
  refine ⟨fun B => PE.imp h fun σ H Q ⟨Φ, lim, g, E, r, hx, q⟩ => ?_, fun g Q Q' E E' hq _ q => m_match (fun t z => hq _ _ z) q⟩
  unfold xFrz at q
  split at q
  · rename_i t ht
    have hi : i < g.length := by
      rw [List.getElem?_eq_some_iff] at ht
      exact ht.1
    obtain ⟨v, hv, r'⟩ := (r.freeze ht).look (List.getElem?_set_self hi) (frz_frz t)
    exact ⟨v, hv, q v H r'⟩
  · exact q.elim
theorem d_mov (i : Nat) (h : PE X e (tVar i)) : DE X W e (xMov i) := by
  refine ⟨fun B => PE.imp h fun σ H Q ⟨Φ, lim, g, E, r, hx, q⟩ => ?_, fun g Q Q' E E' hq _ q => m_match (fun t z => hq _ _ z) q⟩
  unfold xMov at q
  split at q
  · rename_i t ht
    obtain ⟨v, hv, r'⟩ := r.move ht
    exact ⟨v, hv, q v H r'⟩
  · exact q.elim
theorem d_c {v : V} (h : PE X e (tC v)) : DE X W e (xC v) := by
  refine ⟨fun B => PE.imp h fun σ H Q ⟨Φ, lim, g, E, r, hx, q⟩ => ?_, fun g Q Q' E E' hq _ q => hq _ _ q⟩
  exact q v H r.addLeaf
theorem d_int {i j pos} : DE X W (.Constant (.int i) j pos) (xC (.int i)) := d_c pe_int
theorem d_bl {b j pos} : DE X W (.Constant (.bool b) j pos) (xC (.bl b)) := d_c pe_bl
theorem d_non {j pos} : DE X W (.Constant .none j pos) (xC .non) := d_c pe_non
theorem d_str {x j pos} : DE X W (.Constant (.str x) j pos) (xC (.str x)) := d_c pe_str
def ifB : Bool → Prop → Prop → Prop
  | true, a, _ => a
  | false, _, b => b
theorem ifB_dec {p : Prop} [Decidable p] {a b : Prop} (h1 : p → a) (h2 : ¬ p → b) : ifB (decide p) a b := by
  by_cases h : p
  · rw [decide_eq_true h]
    exact h1 h
  · rw [decide_eq_false h]
    exact h2 h
theorem ifB_of {c : Bool} {a b : Prop} (h1 : c = true → a) (h2 : c = false → b) : ifB c a b := by
  cases c with
  | true => exact h1 rfl
  | false => exact h2 rfl
abbrev R2T := T → T → (T → Prop) → Prop
def Op2 (K : PySem.W.Frag) (r : R2) (rt : R2T) : Prop :=
  (∀ (B : Bs) (lim : List Addr) (σ : St) (H : Hp) (g : Ev) (Φ : Its) (v1 v2 : V) (τ1 τ2 : T) (Q : VK), RepG K B lim σ H g ((v2, τ2) :: (v1, τ1) :: Φ) →
    rt τ1 τ2 (fun τ => ∀ v H', RepG K B lim σ H' g ((v, τ) :: Φ) → Q v H') → r v1 v2 H Q) ∧
  ∀ τ1 τ2 Q Q', (∀ τ, Q τ → Q' τ) → rt τ1 τ2 Q → rt τ1 τ2 Q'
def xOp (rt : R2T) (ta tb : DTE) : DTE := fun g Q E => ta g (fun τ1 g1 => tb g1 (fun τ2 g2 => rt τ1 τ2 fun τ => Q τ g2) E) E
theorem lift2 {K : PySem.W.Frag} {B : Bs} {σ : St} {H : Hp} {R : V → V → Hp → Prop} {R' : T → T → Ev → Prop} {Φ : Its} {lim : List Addr} {g : Ev} {E : XP} (r : RepG K B lim σ H g Φ) (hx : liftX K B W σ E)
    (mb : ∀ g Q Q' E E', (∀ τ g', Q τ g' → Q' τ g') → (∀ c fs g', E c fs g' → E' c fs g') → tb g Q E → tb g Q' E')
    (ma : ∀ g Q Q' E E', (∀ τ g', Q τ g' → Q' τ g') → (∀ c fs g', E c fs g' → E' c fs g') → ta g Q E → ta g Q' E')
    (q : ta g (fun τ1 g1 => tb g1 (fun τ2 g2 => R' τ1 τ2 g2) E) E) (h : ∀ v1 v2 τ1 τ2 g2 H2, RepG K B lim σ H2 g2 ((v2, τ2) :: (v1, τ1) :: Φ) → R' τ1 τ2 g2 → R v1 v2 H2) :
    liftE K B W ta σ H fun x H1 => liftE K B W tb σ H1 fun y H2 => R x y H2 := by
  refine ⟨Φ, lim, g, E, r, hx, ma _ _ _ _ _ (fun τ1 g1 q1 v1 H1 r1 => ?_) (fun _ _ _ z => z) q⟩
  exact ⟨(v1, τ1) :: Φ, lim, g1, E, r1, hx, mb _ _ _ _ _ (fun τ2 g2 q2 v2 H2 r2 => h v1 v2 τ1 τ2 g2 H2 r2 q2) (fun _ _ _ z => z) q1⟩
theorem d_op2 {op : Operator} {r : R2} {rt : R2T} (ho : OpR X (binaryOp op) r) (hr : Op2 X.K r rt) (ha : DE X W a ta) (hb : DE X W b tb) : DE X W (.BinOp a op b pos) (xOp rt ta tb) := by
  refine ⟨fun B => PE.imp (pe_op ho (ha.run B) (hb.run B)) fun σ H Q ⟨Φ, lim, g, E, r, hx, q⟩ => ?_, fun g Q Q' E E' hq he q => ?_⟩
  · exact lift2 r hx hb.mono ha.mono q fun v1 v2 τ1 τ2 g2 H2 r2 q2 => hr.1 B lim σ H2 g2 Φ v1 v2 τ1 τ2 Q r2 q2
  · exact ha.mono _ _ _ _ _ (fun τ1 g1 q1 => hb.mono _ _ _ _ _ (fun τ2 g2 q2 => hr.2 _ _ _ _ (fun τ z => hq _ _ z) q2) he q1) he q
def rtI (C : Int → Int → Prop) (f : Int → Int → V) : R2T := fun τ1 τ2 Q => match τ1, τ2 with
  | .leaf (.int i), .leaf (.int j) => C i j ∧ Q (.leaf (f i j))
  | _, _ => False
def rtI0 (f : Int → Int → V) : R2T := fun τ1 τ2 Q => match τ1, τ2 with
  | .leaf (.int i), .leaf (.int j) => Q (.leaf (f i j))
  | _, _ => False
theorem op2_I {K : PySem.W.Frag} {C C' : Int → Int → Prop} {f : Int → Int → V} (hc : ∀ i j, C' i j → C i j) : Op2 K (rI C f) (rtI C' f) := by
  refine ⟨fun B lim σ H g Φ v1 v2 τ1 τ2 Q r q => ?_, fun τ1 τ2 Q Q' hq q => ?_⟩
  · unfold rtI at q
    split at q
    · obtain rfl := r.leaf
      obtain rfl := r.dropT.leaf
      exact ⟨_, _, rfl, rfl, hc _ _ q.1, q.2 _ _ r.dropT.dropT.addLeaf⟩
    · exact q.elim
  · unfold rtI at q
    split at q
    · exact ⟨q.1, hq _ q.2⟩
    · exact q.elim
theorem op2_I0 {K : PySem.W.Frag} {f : Int → Int → V} : Op2 K (rI0 f) (rtI0 f) := by
  refine ⟨fun B lim σ H g Φ v1 v2 τ1 τ2 Q r q => ?_, fun τ1 τ2 Q Q' hq q => ?_⟩
  · unfold rtI0 at q
    split at q
    · obtain rfl := r.leaf
      obtain rfl := r.dropT.leaf
      exact ⟨_, _, rfl, rfl, q _ _ r.dropT.dropT.addLeaf⟩
    · exact q.elim
  · unfold rtI0 at q
    split at q
    · exact hq _ q
    · exact q.elim
end
end DL
set_option Elab.async false
set_option linter.all false
set_option maxRecDepth 100000
set_option maxHeartbeats 4000000
namespace DL
open PySem L2
section
variable {X : Cx} {W : WX} {m : Nat → Bool} {a b c e : Expr} {es : List Expr} {ta tb tc te : DTE} {tA tB' : DTT} {pos : Pos}
theorem d_cmp {op : CmpOp} {r : R2} {rt : R2T} (ho : OpR X (compareOp op) r) (hr : Op2 X.K r rt) (ha : DE X W a ta) (hb : DE X W b tb) (hm : behindInMarks op b = false) : DE X W (.Compare a [op] [b] pos) (xOp rt ta tb) := by
  refine ⟨fun B => PE.imp (pe_cmpR ho (ha.run B) (hb.run B) hm) fun σ H Q ⟨Φ, lim, g, E, r, hx, q⟩ => ?_, fun g Q Q' E E' hq he q => ?_⟩
  · exact lift2 r hx hb.mono ha.mono q fun v1 v2 τ1 τ2 g2 H2 r2 q2 => hr.1 B lim σ H2 g2 Φ v1 v2 τ1 τ2 Q r2 q2
  · exact ha.mono _ _ _ _ _ (fun τ1 g1 q1 => hb.mono _ _ _ _ _ (fun τ2 g2 q2 => hr.2 _ _ _ _ (fun τ z => hq _ _ z) q2) he q1) he q
def xB (te : DTE) : DTT := fun g Q E => te g (fun τ g1 => match τ with
  | .leaf (.bl b) => Q b g1
  | _ => False) E
theorem m_bl {g1 : Ev} {Q Q' : Bool → Ev → Prop} (h : ∀ b g', Q b g' → Q' b g') : ∀ {τ : T}, (match τ with | .leaf (.bl b) => Q b g1 | _ => False) → (match τ with | .leaf (.bl b) => Q' b g1 | _ => False) := by
  intro τ q
  split at q
  · exact h _ _ q
  · exact q.elim
theorem dt_of (h : ∀ (t : TE), PE X e t → PT X e (tB t)) (he : DE X W e te) : DT X W e (xB te) := by
  refine ⟨fun B => PT.imp (h _ (he.run B)) fun σ H Q ⟨Φ, lim, g, E, r, hx, q⟩ => ?_, fun g Q Q' E E' hq hE q => ?_⟩
  · refine ⟨Φ, lim, g, E, r, hx, he.mono _ _ _ _ _ (fun τ g1 q1 v H1 r1 => ?_) (fun _ _ _ z => z) q⟩
    split at q1
    · obtain rfl := r1.leaf
      exact ⟨_, rfl, q1 H1 r1.dropT⟩
    · exact q1.elim
  · exact he.mono _ _ _ _ _ (fun τ g1 q1 => m_bl hq q1) hE q
theorem dt_val (he : DE X W e te) (hp : ∀ whole, isTrue e X.env whole = (do let v ← whole; standAt e.pos; holding [v] (truthy v)) := by intro _; rfl) : DT X W e (xB te) :=
  dt_of (fun t h => pt_val h hp) he
theorem dt_cmp {op : CmpOp} {rr : R2} {rt : R2T} (ho : OpR X (compareOp op) rr) (hr : Op2 X.K rr rt) (ha : DE X W a ta) (hb : DE X W b tb) (hm : behindInMarks op b = false) : DT X W (.Compare a [op] [b] pos) (xB (xOp rt ta tb)) := by
  refine ⟨fun B => PT.imp (pt_cmpR ho (ha.run B) (hb.run B) hm) fun σ H Q ⟨Φ, lim, g, E, r, hx, q⟩ => ?_, fun g Q Q' E E' hq he q => ?_⟩
  · refine lift2 (R := fun v1 v2 H2 => rr v1 v2 H2 fun x H3 => ∃ k, x = .bl k ∧ Q k H3) r hx hb.mono ha.mono q fun v1 v2 τ1 τ2 g2 H2 r2 q2 => hr.1 B lim σ H2 g2 Φ v1 v2 τ1 τ2 _ r2 (hr.2 _ _ _ _ (fun τ z v H' r' => ?_) q2)
    dsimp only at z
    split at z
    · obtain rfl := r'.leaf
      exact ⟨_, rfl, z H' r'.dropT⟩
    · exact z.elim
  · exact ha.mono _ _ _ _ _ (fun τ1 g1 q1 => hb.mono _ _ _ _ _ (fun τ2 g2 q2 => hr.2 _ _ _ _ (fun τ z => m_bl hq z) q2) he q1) he q
def xAnd (t u : DTT) : DTT := fun g Q E => t g (fun b g1 => ifB b (u g1 Q E) (Q false g1)) E
def xOr (t u : DTT) : DTT := fun g Q E => t g (fun b g1 => ifB b (Q true g1) (u g1 Q E)) E
def xNot (t : DTT) : DTT := fun g Q E => t g (fun b g1 => Q (!b) g1) E
theorem DW.dt (h : DW X W e tA) : DT X W e tA := ⟨fun B => (h.run B).pt, h.mono⟩
theorem dw_and1 (h : DT X W a tA) : DW X W (.BoolOp .And [a] pos) tA := ⟨fun B => pw_and1 (h.run B), h.mono⟩
theorem dw_or1 (h : DT X W a tA) : DW X W (.BoolOp .Or [a] pos) tA := ⟨fun B => pw_or1 (h.run B), h.mono⟩
theorem xAnd_mono (ha : ∀ g Q Q' E E', (∀ b g', Q b g' → Q' b g') → (∀ c fs g', E c fs g' → E' c fs g') → tA g Q E → tA g Q' E') (hb : ∀ g Q Q' E E', (∀ b g', Q b g' → Q' b g') → (∀ c fs g', E c fs g' → E' c fs g') → tB' g Q E → tB' g Q' E') :
    ∀ g Q Q' E E', (∀ b g', Q b g' → Q' b g') → (∀ c fs g', E c fs g' → E' c fs g') → xAnd tA tB' g Q E → xAnd tA tB' g Q' E' := fun g Q Q' E E' hq he q =>
  ha _ _ _ _ _ (fun b g1 q1 => by
    cases b with
    | true => exact hb _ _ _ _ _ hq he q1
    | false => exact hq _ _ q1) he q
theorem xOr_mono (ha : ∀ g Q Q' E E', (∀ b g', Q b g' → Q' b g') → (∀ c fs g', E c fs g' → E' c fs g') → tA g Q E → tA g Q' E') (hb : ∀ g Q Q' E E', (∀ b g', Q b g' → Q' b g') → (∀ c fs g', E c fs g' → E' c fs g') → tB' g Q E → tB' g Q' E') :
    ∀ g Q Q' E E', (∀ b g', Q b g' → Q' b g') → (∀ c fs g', E c fs g' → E' c fs g') → xOr tA tB' g Q E → xOr tA tB' g Q' E' := fun g Q Q' E E' hq he q =>
  ha _ _ _ _ _ (fun b g1 q1 => by
    cases b with
    | true => exact hq _ _ q1
    | false => exact hb _ _ _ _ _ hq he q1) he q
theorem dw_and {rest : List Expr} (ha : DT X W a tA) (hb : DW X W (.BoolOp .And (b :: rest) pos) tB') : DW X W (.BoolOp .And (a :: b :: rest) pos) (xAnd tA tB') := by
  refine ⟨fun B => PW.imp (pw_and (ha.run B) (hb.run B)) fun σ H Q ⟨Φ, lim, g, E, r, hx, q⟩ => ?_, xAnd_mono ha.mono hb.mono⟩
  refine ⟨Φ, lim, g, E, r, hx, ha.mono _ _ _ _ _ (fun b g1 q1 H1 r1 => ?_) (fun _ _ _ z => z) q⟩
  cases b with
  | true => exact ⟨Φ, lim, g1, E, r1, hx, q1⟩
  | false => exact q1 H1 r1
theorem dw_or {rest : List Expr} (ha : DT X W a tA) (hb : DW X W (.BoolOp .Or (b :: rest) pos) tB') : DW X W (.BoolOp .Or (a :: b :: rest) pos) (xOr tA tB') := by
  refine ⟨fun B => PW.imp (pw_or (ha.run B) (hb.run B)) fun σ H Q ⟨Φ, lim, g, E, r, hx, q⟩ => ?_, xOr_mono ha.mono hb.mono⟩
  refine ⟨Φ, lim, g, E, r, hx, ha.mono _ _ _ _ _ (fun b g1 q1 H1 r1 => ?_) (fun _ _ _ z => z) q⟩
  cases b with
  | true => exact q1 H1 r1
  | false => exact ⟨Φ, lim, g1, E, r1, hx, q1⟩
theorem dt_not (ha : DT X W a tA) : DT X W (.UnaryOp .Not a pos) (xNot tA) := by
  refine ⟨fun B => PT.imp (pt_not (ha.run B)) fun σ H Q ⟨Φ, lim, g, E, r, hx, q⟩ => ?_, fun g Q Q' E E' hq he q => ha.mono _ _ _ _ _ (fun b g1 q1 => hq _ _ q1) he q⟩
  exact ⟨Φ, lim, g, E, r, hx, q⟩
def xAndV (ta tb : DTE) : DTE := fun g Q E => ta g (fun τ g1 => match τ with
  | .leaf (.bl b) => ifB b (tb g1 Q E) (Q (.leaf (.bl false)) g1)
  | _ => False) E
def xOrV (ta tb : DTE) : DTE := fun g Q E => ta g (fun τ g1 => match τ with
  | .leaf (.bl b) => ifB b (Q (.leaf (.bl true)) g1) (tb g1 Q E)
  | _ => False) E
def xNotV (ta : DTE) : DTE := fun g Q E => ta g (fun τ g1 => match τ with
  | .leaf (.bl b) => Q (.leaf (.bl (!b))) g1
  | _ => False) E
theorem d_one {op} (h : DE X W a ta) : DE X W (.BoolOp op [a] pos) ta := ⟨fun B => pe_one (h.run B), h.mono⟩
theorem d_and {rest : List Expr} (ha : DE X W a ta) (hb : DE X W (.BoolOp .And (b :: rest) pos) tb) : DE X W (.BoolOp .And (a :: b :: rest) pos) (xAndV ta tb) := by
  refine ⟨fun B => PE.imp (pe_and (ha.run B) (hb.run B)) fun σ H Q ⟨Φ, lim, g, E, r, hx, q⟩ => ?_, fun g Q Q' E E' hq he q => ?_⟩
  · refine ⟨Φ, lim, g, E, r, hx, ha.mono _ _ _ _ _ (fun τ g1 q1 v H1 r1 => ?_) (fun _ _ _ z => z) q⟩
    split at q1
    · rename_i b
      obtain rfl := r1.leaf
      refine ⟨_, rfl, ?_⟩
      cases b with
      | true =>
        exact ⟨Φ, lim, g1, E, r1.dropT, hx, q1⟩
      | false =>
        exact q1 _ H1 r1.dropT.addLeaf
    · exact q1.elim
  · refine ha.mono _ _ _ _ _ (fun τ g1 q1 => ?_) he q
    split at q1
    · rename_i b
      cases b with
      | true =>
        exact hb.mono _ _ _ _ _ hq he q1
      | false =>
        exact hq _ _ q1
    · exact q1.elim
theorem d_or {rest : List Expr} (ha : DE X W a ta) (hb : DE X W (.BoolOp .Or (b :: rest) pos) tb) : DE X W (.BoolOp .Or (a :: b :: rest) pos) (xOrV ta tb) := by
  refine ⟨fun B => PE.imp (pe_or (ha.run B) (hb.run B)) fun σ H Q ⟨Φ, lim, g, E, r, hx, q⟩ => ?_, fun g Q Q' E E' hq he q => ?_⟩
  · refine ⟨Φ, lim, g, E, r, hx, ha.mono _ _ _ _ _ (fun τ g1 q1 v H1 r1 => ?_) (fun _ _ _ z => z) q⟩
    split at q1
    · rename_i b
      obtain rfl := r1.leaf
      refine ⟨_, rfl, ?_⟩
      cases b with
      | true =>
        exact q1 _ H1 r1.dropT.addLeaf
      | false =>
        exact ⟨Φ, lim, g1, E, r1.dropT, hx, q1⟩
    · exact q1.elim
  · refine ha.mono _ _ _ _ _ (fun τ g1 q1 => ?_) he q
    split at q1
    · rename_i b
      cases b with
      | true =>
        exact hq _ _ q1
      | false =>
        exact hb.mono _ _ _ _ _ hq he q1
    · exact q1.elim
theorem d_not (ha : DE X W a ta) : DE X W (.UnaryOp .Not a pos) (xNotV ta) := by
  refine ⟨fun B => PE.imp (pe_not (ha.run B)) fun σ H Q ⟨Φ, lim, g, E, r, hx, q⟩ => ?_, fun g Q Q' E E' hq he q => ?_⟩
  · refine ⟨Φ, lim, g, E, r, hx, ha.mono _ _ _ _ _ (fun τ g1 q1 v H1 r1 => ?_) (fun _ _ _ z => z) q⟩
    split at q1
    · obtain rfl := r1.leaf
      exact ⟨_, rfl, q1 _ H1 r1.dropT.addLeaf⟩
    · exact q1.elim
  · refine ha.mono _ _ _ _ _ (fun τ g1 q1 => ?_) he q
    split at q1
    · exact hq _ _ q1
    · exact q1.elim
def xIte (t : DTT) (ta tb : DTE) : DTE := fun g Q E => t g (fun b g1 => ifB b (ta g1 Q E) (tb g1 Q E)) E
theorem d_ite (hc : DT X W c tA) (ha : DE X W a ta) (hb : DE X W b tb) : DE X W (.IfExp c a b pos) (xIte tA ta tb) := by
  refine ⟨fun B => PE.imp (pe_ifExp (hc.run B) (ha.run B) (hb.run B)) fun σ H Q ⟨Φ, lim, g, E, r, hx, q⟩ => ?_, fun g Q Q' E E' hq he q => hc.mono _ _ _ _ _ (fun b g1 q1 => ?_) he q⟩
  · refine ⟨Φ, lim, g, E, r, hx, hc.mono _ _ _ _ _ (fun b g1 q1 H1 r1 => ?_) (fun _ _ _ z => z) q⟩
    cases b with
    | true => exact ⟨Φ, lim, g1, E, r1, hx, q1⟩
    | false => exact ⟨Φ, lim, g1, E, r1, hx, q1⟩
  · cases b with
    | true => exact ha.mono _ _ _ _ _ hq he q1
    | false => exact hb.mono _ _ _ _ _ hq he q1
def aNil : DTA := fun g Q _ => Q [] g
def aCons (te : DTE) (t : DTA) : DTA := fun g Q E => te g (fun τ g1 => t g1 (fun τs g2 => Q (τ :: τs) g2) E) E
theorem da_nil : DA X W [] [] aNil := by
  refine ⟨fun B => PA.imp pa_nil fun σ H Q ⟨Φ, lim, g, E, r, hx, q⟩ => ?_, fun g Q Q' E E' hq he q => hq _ _ q⟩
  exact q [] H rfl trivial r
theorem da_cons {bs : List (Option Nat)} {t : DTA} (ha : DE X W e ta) (hr : DA X W es bs t) (hs : starEach (e :: es) X.env = (false, eval e X.env) :: starEach es X.env := by rfl) : DA X W (e :: es) (none :: bs) (aCons ta t) := by
  refine ⟨fun B => PA.imp (pa_cons (ha.run B) (hr.run B) hs) fun σ H Q h => ?_, fun g Q Q' E E' hq he q => ha.mono _ _ _ _ _ (fun τ g1 q1 => hr.mono _ _ _ _ _ (fun τs g2 q2 => hq _ _ q2) he q1) he q⟩
  obtain ⟨Φ, lim, g, E, r, hx, q⟩ := h
  refine ⟨Φ, lim, g, E, r, hx, ha.mono _ _ _ _ _ (fun τ g1 q1 v H1 r1 => ?_) (fun _ _ _ z => z) q⟩
  refine ⟨(v, τ) :: Φ, lim, g1, E, r1, hx, hr.mono _ _ _ _ _ (fun τs g2 q2 vs H2 hl hb r2 => ?_) (fun _ _ _ z => z) q1⟩
  refine q2 (v :: vs) H2 (by simp [hl]) hb ?_
  show RepG X.K B lim σ H2 g2 ((v, τ) :: (vs.zip τs ++ Φ))
  exact r2.perm List.perm_middle
theorem da_lend (j : Nat) {bs : List (Option Nat)} {t : DTA} (h : PE X e (tVar j)) (hr : DA X W es bs t) (hs : starEach (e :: es) X.env = (false, eval e X.env) :: starEach es X.env := by rfl) : DA X W (e :: es) (some j :: bs) (aCons (xMov j) t) := by
  refine ⟨fun B => PA.imp (pa_cons h (hr.run B) hs) fun σ H Q ⟨Φ, lim, g, E, r, hx, q⟩ => ?_, fun g Q Q' E E' hq he q => m_match (fun τ z => hr.mono _ _ _ _ _ (fun τs g2 q2 => hq _ _ q2) he z) q⟩
  unfold aCons xMov at q
  split at q
  · rename_i τ ht
    obtain ⟨v, hv, r'⟩ := r.move ht
    refine ⟨v, hv, (v, τ) :: Φ, lim, _, E, r', hx, hr.mono _ _ _ _ _ (fun τs g2 q2 vs H2 hl hb r2 => ?_) (fun _ _ _ z => z) q⟩
    refine q2 (v :: vs) H2 (by simp [hl]) ⟨hv, hb⟩ ?_
    show RepG X.K B lim σ H2 g2 ((v, τ) :: (vs.zip τs ++ Φ))
    exact r2.perm List.perm_middle
  · exact q.elim
def xLst (t : DTA) : DTE := fun g Q E => t g (fun τs g1 => τs.length ≤ sizeLine ∧ Q (.node true .lst τs) g1) E
def xTup (t : DTA) : DTE := fun g Q E => t g (fun τs g1 => τs.length ≤ sizeLine ∧ Q (.node true .tup τs) g1) E
theorem make_of {K : PySem.W.Frag} {B : Bs} {lim : List Addr} {σ : St} {H : Hp} {g : Ev} {Φ : Its} {vs : List V} {τs : List T} (s : Sh) (hl : vs.length = τs.length) (r : RepG K B lim σ H g (vs.zip τs ++ Φ)) {p : Addr} (hp : H p = none) :
    RepG K B lim σ (upd H p (s.mk vs)) g ((.ref p, .node true s τs) :: Φ) := by
  have q := r.make (s := s) hp
  rwa [List.map_fst_zip (by omega), List.map_snd_zip (by omega)] at q
theorem d_lst {bs : List (Option Nat)} {t : DTA} (h : DA X W es bs t) : DE X W (.List es pos) (xLst t) := by
  refine ⟨fun B => PE.imp (pe_lst (h.run B)) fun σ H Q ⟨Φ, lim, g, E, r, hx, q⟩ => ?_, fun g Q Q' E E' hq he q => h.mono _ _ _ _ _ (fun τs g1 q1 => ⟨q1.1, hq _ _ q1.2⟩) he q⟩
  exact ⟨Φ, lim, g, E, r, hx, h.mono _ _ _ _ _ (fun τs g1 q1 vs H1 hl _ r1 => ⟨by rw [hl]; exact q1.1, fun p hp => q1.2 _ _ (make_of .lst hl r1 hp)⟩) (fun _ _ _ z => z) q⟩
theorem d_tup {x1} {bs : List (Option Nat)} {t : DTA} (h : DA X W es bs t) : DE X W (.Tuple es x1 pos) (xTup t) := by
  refine ⟨fun B => PE.imp (pe_tup (h.run B)) fun σ H Q ⟨Φ, lim, g, E, r, hx, q⟩ => ?_, fun g Q Q' E E' hq he q => h.mono _ _ _ _ _ (fun τs g1 q1 => ⟨q1.1, hq _ _ q1.2⟩) he q⟩
  exact ⟨Φ, lim, g, E, r, hx, h.mono _ _ _ _ _ (fun τs g1 q1 vs H1 hl _ r1 => ⟨by rw [hl]; exact q1.1, fun p hp => q1.2 _ _ (make_of .tup hl r1 hp)⟩) (fun _ _ _ z => z) q⟩
theorem kept_refl {σ : St} : Kept m σ σ := ⟨rfl, fun _ _ => rfl⟩
theorem Kept.trans {σ σ1 σ2 : St} (h : Kept m σ σ1) (h' : Kept m σ1 σ2) : Kept m σ σ2 := ⟨h'.1.trans h.1, fun i hi => (h'.2 i hi).trans (h.2 i hi)⟩
theorem Kept.set {σ σ1 : St} {i : Nat} {x : Option V} (h : Kept m σ σ1) (hi : m i = false) : Kept m σ (σ1.set i x) := ⟨by rw [List.length_set]; exact h.1, fun j hj => by
  rw [List.getElem?_set_ne (fun e => by rw [e, hj] at hi; cases hi)]
  exact h.2 j hj⟩
theorem RepG.put' {K : PySem.W.Frag} {B : Bs} {lim : List Addr} {σ : St} {H : Hp} {g : Ev} {Φ : Its} {i : Nat} {v : V} {t : T} (h : RepG K B lim σ H g ((v, t) :: Φ)) : RepG K B lim (σ.set i (some v)) H (g.set i (some t)) Φ := by
  by_cases hi : i < σ.length
  · exact h.put hi
  · have e1 : σ.set i (some v) = σ := List.set_eq_of_length_le (by omega)
    have e2 : g.set i (some t) = g := List.set_eq_of_length_le (by rw [← h.len]; omega)
    rw [e1, e2]
    exact h.dropT
theorem RepG.ret {K : PySem.W.Frag} {B : Bs} {lim : List Addr} {σ : St} {H : Hp} {g : Ev} {Φ : Its} {x : V × T} (h : RepG K B lim σ H g (x :: Φ)) : RepG K B [] σ H g [x] :=
  ((h.perm (Ψ := Φ ++ [x]) (by
    have := (List.perm_append_comm (l₁ := [x]) (l₂ := Φ))
    exact this)).dropTs).lim0
theorem DS.mk' {st : Stmt} {t : DTS} {tt : Bs → St → TS} (h : ∀ B σ0, PS X st (tt B σ0))
    (hr : ∀ B σ0 D σ H Φ lim g E, RepG X.K B lim σ H g Φ → Kept m σ0 σ → (∀ σ, Kept m σ0 σ → liftX X.K B W σ E) → t (low X.K B m σ0 lim Φ D E) g → tt B σ0 D σ H) (mono : ∀ D D' g, D.Le D' → t D g → t D' g) : DS X W m st t :=
  ⟨fun B σ0 => PS.imp (h B σ0) fun D σ H ⟨Φ, lim, g, E, r, hk, hx, q⟩ => hr B σ0 D σ H Φ lim g E r hk hx q, mono⟩
def sNext : DTS := fun D g => D.nx g
def seqE (u : DTS) (D : DEnds) : DEnds := { D with nx := u D }
def sSeq (t u : DTS) : DTS := fun D g => t (seqE u D) g
theorem le_nx {D D' : DEnds} (h : D.Le D') {f f' : Ev → Prop} (hf : ∀ g, f g → f' g) : DEnds.Le { D with nx := f } { D' with nx := f' } := ⟨hf, h.rt, h.ex, h.bk, h.ct⟩
theorem dss_nil : DSs X W m [] sNext := ⟨fun B σ0 => PSs.imp pss_nil fun D σ H ⟨Φ, lim, g, E, r, hk, hx, q⟩ => q σ H r hk, fun D D' g h q => h.nx g q⟩
theorem dss_cons {st : Stmt} {rest : List Stmt} {t u : DTS} (h1 : DS X W m st t) (h2 : DSs X W m rest u) : DSs X W m (st :: rest) (sSeq t u) := by
  refine ⟨fun B σ0 => PSs.imp (pss_cons (h1.run B σ0) (h2.run B σ0)) fun D σ H ⟨Φ, lim, g, E, r, hk, hx, q⟩ => ?_, fun D D' g h q => h1.mono _ _ _ (le_nx h fun g' q' => h2.mono _ _ _ h q') q⟩
  exact ⟨Φ, lim, g, E, r, hk, hx, h1.mono { low X.K B m σ0 lim Φ D E with nx := u (low X.K B m σ0 lim Φ D E) } _ _ ⟨fun g1 q1 σ1 H1 r1 hk1 => ⟨Φ, lim, g1, E, r1, hk1, hx, q1⟩, fun _ _ z => z, fun _ _ _ z => z, fun _ z => z, fun _ z => z⟩ q⟩
theorem dss_one {st : Stmt} {t : DTS} (h1 : DS X W m st t) : DSs X W m [st] t := ⟨fun B σ0 => pss_one (h1.run B σ0), h1.mono⟩
theorem ds_pass : DS X W m (.Pass pos) sNext := .mk' (fun _ _ => ps_pass) (fun B σ0 D σ H Φ lim g E r hk hx q => q σ H r hk) fun D D' g h q => h.nx g q
def sBrk : DTS := fun D g => D.bk g
def sCont : DTS := fun D g => D.ct g
theorem ds_break : DS X W m (.Break pos) sBrk := .mk' (fun _ _ => ps_break) (fun B σ0 D σ H Φ lim g E r hk hx q => q σ H r hk) fun D D' g h q => h.bk g q
theorem ds_continue : DS X W m (.Continue pos) sCont := .mk' (fun _ _ => ps_continue) (fun B σ0 D σ H Φ lim g E r hk hx q => q σ H r hk) fun D D' g h q => h.ct g q
def sSet (own : Bool) (i : Nat) (te : DTE) : DTS := fun D g => te g (fun τ g1 => D.nx (g1.set i (some (if own = true then τ else frz τ)))) D.ex
theorem ds_set {i : Nat} {x : Str} {pos' : Pos} (own : Bool) (hN : X.N.Nodup) (hi : X.N[i]? = some x) (hx : Loc X.env.scope x) (he : DE X W e te) (hm : m i = false) (hs : swapsWith e (some (.Name x pos')) pos.line X.env = pure false := by rfl)
    (hf : X.fn x = true ∨ X.env.scope.names.lookup x = some .local := by first | exact .inl rfl | exact .inr rfl | assumption) : DS X W m (.Assign [.Name x pos'] e pos) (sSet own i te) := by
  refine .mk' (fun B σ0 => ps_set hN hi hx (he.run B) hs hf) (fun B σ0 D σ H Φ lim g E r hk hX q => ?_) fun D D' g h q => he.mono _ _ _ _ _ (fun τ g1 q1 => h.nx _ q1) h.ex q
  refine ⟨Φ, lim, g, E, r, hX σ hk, he.mono _ _ _ _ _ (fun τ g1 q1 v H1 r1 => ?_) (fun _ _ _ z => z) q⟩
  refine q1 (σ.set i (some v)) H1 ?_ (hk.set hm)
  cases own with
  | true => exact r1.put'
  | false => exact r1.freezeT.put'
def sDrop (te : DTE) : DTS := fun D g => te g (fun _ g1 => D.nx g1) D.ex
theorem ds_expr (he : DE X W e te) (hs : swapsWith e none pos.line X.env = pure false := by rfl) : DS X W m (.Expr e pos) (sDrop te) := by
  refine .mk' (fun B σ0 => ps_expr (he.run B) hs) (fun B σ0 D σ H Φ lim g E r hk hX q => ?_) fun D D' g h q => he.mono _ _ _ _ _ (fun τ g1 q1 => h.nx _ q1) h.ex q
  exact ⟨Φ, lim, g, E, r, hX σ hk, he.mono _ _ _ _ _ (fun τ g1 q1 v H1 r1 => q1 σ H1 r1.dropT hk) (fun _ _ _ z => z) q⟩
def sRet (te : DTE) : DTS := fun D g => te g D.rt D.ex
theorem ds_ret (he : DE X W e te) : DS X W m (.Return (some e) pos) (sRet te) := by
  refine .mk' (fun B σ0 => ps_ret (he.run B)) (fun B σ0 D σ H Φ lim g E r hk hX q => ?_) fun D D' g h q => he.mono _ _ _ _ _ h.rt h.ex q
  exact ⟨Φ, lim, g, E, r, hX σ hk, he.mono _ _ _ _ _ (fun τ g1 q1 v H1 r1 => q1 v σ H1 r1.ret hk) (fun _ _ _ z => z) q⟩
def sRetN : DTS := fun D g => D.rt (.leaf .non) g
theorem ds_retN : DS X W m (.Return none pos) sRetN := .mk' (fun _ _ => ps_retN) (fun B σ0 D σ H Φ lim g E r hk hx q => q .non σ H (RepG.ret r.addLeaf) hk) fun D D' g h q => h.rt _ g q
def sIf (c : DTT) (t u : DTS) : DTS := fun D g => c g (fun b g1 => ifB b (t D g1) (u D g1)) D.ex
theorem ds_if {sa sb : List Stmt} {t u : DTS} (hc : DT X W c tA) (ha : DSs X W m sa t) (hb : DSs X W m sb u) : DS X W m (.If c sa sb pos) (sIf tA t u) := by
  refine .mk' (fun B σ0 => ps_if (hc.run B) (ha.run B σ0) (hb.run B σ0)) (fun B σ0 D σ H Φ lim g E r hk hX q => ?_) fun D D' g h q => hc.mono _ _ _ _ _ (fun b g1 q1 => ?_) h.ex q
  · refine ⟨Φ, lim, g, E, r, hX σ hk, hc.mono _ _ _ _ _ (fun b g1 q1 H1 r1 => ?_) (fun _ _ _ z => z) q⟩
    cases b with
    | true => exact ⟨Φ, lim, g1, E, r1, hk, hX, q1⟩
    | false => exact ⟨Φ, lim, g1, E, r1, hk, hX, q1⟩
  · cases b with
    | true => exact ha.mono _ _ _ h q1
    | false => exact hb.mono _ _ _ h q1
def sRaise (c : Value) : DTS := fun D g => D.ex c [] g
theorem ds_raise {C : Addr} {bmB : List Value} {Bn newId initId : String} {x t : Str} {j : Nat} {p p2 p3 : Pos} (hc : X.calm = true) (tk : Takes X W) (F : ExcBaseFacts Bn newId initId bmB) (q : PySem.W.excIn X.K C bmB newId = true) (gC : X.mg x = some (.ref C))
    (kC : PySem.W.keepIn X.K (.ref C) = true) (r : Raises X (.ref C)) (hg : Gl X x) (hdb : (x == ("__debug__" : Str)) = false := by decide) :
    DS X W m (.Raise (some (.Call (.Name x p) [.Constant (.str t) j p2] [] p3)) none pos) (sRaise (.ref C)) :=
  .mk' (fun B σ0 => ps_raise hc tk (pmk_own F q gC kC r hg hdb)) (fun B σ0 D σ H Φ lim g E rp hk hX q => hX σ hk _ _ _ _ _ rp.only rfl q) fun D D' g h q => h.ex _ _ g q
end
end DL
set_option Elab.async false
set_option linter.all false
set_option maxRecDepth 100000
set_option maxHeartbeats 4000000
namespace DL
open PySem L2
abbrev DSp := List T → (T → List T → Prop) → (Value → List (Str × V) → List T → Prop) → Prop
def MonoD (m : DSp) : Prop := ∀ ts Q Q' E E', (∀ t us, Q t us → Q' t us) → (∀ c fs us, E c fs us → E' c fs us) → m ts Q E → m ts Q' E'
def pick {α : Type} : List Bool → List α → List α
  | true :: bs, x :: xs => x :: pick bs xs
  | false :: bs, _ :: xs => pick bs xs
  | _, _ => []
def Aft (K : PySem.W.Frag) (F : Addr → Prop) (fp : List Addr) (H : Hp) (ws : List V) (H' : Hp) (us : List T) (Φ : Its) : Prop :=
  ∃ (F' : Addr → Prop) (f' : List Addr), ws.length = us.length ∧ OwnZ K F' H' (ws.zip us ++ Φ) f' ∧ Fine ⟨H, F, fp⟩ F' H' f'
def spD (K : PySem.W.Frag) (fl : List Bool) (m : DSp) : Sp := fun vs H Q E => ∃ (ts : List T) (F : Addr → Prop) (fp : List Addr), OwnL K F H vs ts fp ∧ fp.Nodup ∧ (∀ a ∈ fp, ¬ F a) ∧ (∀ a, F a → H a ≠ none) ∧ vs.length = fl.length ∧
  m ts (fun t us => ∀ v H', Aft K F fp H (pick fl vs) H' us [(v, t)] → Q v H') (fun c fs us => ∀ d H', Aft K F fp H (pick fl vs) H' us [] → XD d fs H' → E c d H')
def restore : Ev → List (Option Nat) → List T → Ev
  | g, none :: bs, us => restore g bs us
  | g, some j :: bs, u :: us => restore (g.set j (some u)) bs us
  | g, _, _ => g
section
variable {K : PySem.W.Frag} {B : Bs} {lim : List Addr} {σ : St} {H H' : Hp} {g : Ev} {Φ Ψ : Its}
theorem call_frame {F F' : Addr → Prop} {zs : Its} {fpA fpR f' : List Addr} (en : EnvIs σ g zs) (oR : OwnZ K F H (zs ++ Φ) fpR) (f : Fine B F H (lim ++ (fpA ++ fpR))) (hl : ∀ a ∈ lim, H a ≠ none)
    (o' : OwnZ K F' H' Ψ f') (fn : Fine ⟨H, F, fpA⟩ F' H' f') : RepG K B lim σ H' g (Ψ ++ Φ) := by
  have nd := f.nd
  have ndA : ∀ a, a ∈ fpA → a ∉ lim ∧ a ∉ fpR := fun a ha => by
    refine ⟨fun z => (List.nodup_append.mp nd).2.2 a z a (List.mem_append_left _ ha) rfl, fun z => ?_⟩
    exact (List.nodup_append.mp (List.nodup_append.mp nd).2.1).2.2 a ha a z rfl
  have keepF : ∀ a o, H a = some o → a ∉ fpA → H' a = some o := fn.keep
  have oR' : OwnZ K F' H' (zs ++ Φ) fpR := oR.mono fn.inc fun a ha o e => keepF a o e fun z => by
    rcases ha with q | q
    · exact f.off a (List.mem_append_right _ (List.mem_append_left _ z)) q
    · exact (ndA a z).2 q
  have trk : ∀ a, a ∈ lim ∨ a ∈ fpR → H a ≠ none := fun a ha => ha.elim (hl a) (oR.tracked a)
  have notF' : ∀ a, a ∈ lim ∨ a ∈ fpR → ¬ F' a := fun a ha q => by
    rcases fn.newF a q with q | q | q
    · exact f.off a (by rcases ha with z | z <;> simp [z]) q
    · exact ha.elim (ndA a q).1 (ndA a q).2
    · exact trk a ha q
  have keepL : ∀ a, a ∈ lim → H' a ≠ none := fun a ha => by
    cases q : H a with
    | none => exact absurd q (hl a ha)
    | some o => rw [keepF a o q fun z => (ndA a z).1 ha]; exact nofun
  have old : ∀ a, a ∈ f' → a ∉ lim ∧ a ∉ fpR := fun a ha => by
    rcases fn.newO a ha with q | q
    · exact ndA a q
    · exact ⟨fun z => trk a (.inl z) q, fun z => trk a (.inr z) q⟩
  have fresh : ∀ a, H a = none → a ∈ B.fp0 ∨ B.H0 a = none := fun a q => by
    by_cases hb : a ∈ B.fp0
    · exact .inl hb
    · refine .inr ?_
      cases z : B.H0 a with
      | none => rfl
      | some o =>
        have := f.keep a o z hb
        rw [q] at this; cases this
  have oldA : ∀ a, a ∈ fpA → a ∈ B.fp0 ∨ B.H0 a = none := fun a ha => f.newO a (List.mem_append_right _ (List.mem_append_left _ ha))
  have fin : Fine B F' H' (lim ++ (f' ++ fpR)) := by
    refine ⟨?_, fun a z => ?_, fn.trk, fun a z => fn.inc a (f.inc a z), fun a o e na => ?_, fun a z => ?_, fun a z => ?_⟩
    · refine List.nodup_append.mpr ⟨(List.nodup_append.mp nd).1, List.nodup_append.mpr ⟨fn.nd, (List.nodup_append.mp (List.nodup_append.mp nd).2.1).2.1, fun a ha b hb e => ?_⟩, fun a ha b hb e => ?_⟩
      · subst e
        exact (old a ha).2 hb
      · subst e
        rcases List.mem_append.mp hb with q | q
        · exact (old a q).1 ha
        · exact (List.nodup_append.mp nd).2.2 a ha a (List.mem_append_right _ q) rfl
    · rcases List.mem_append.mp z with q | q
      · exact notF' a (.inl q)
      · rcases List.mem_append.mp q with q | q
        · exact fn.off a q
        · exact notF' a (.inr q)
    · refine keepF a o (f.keep a o e na) fun q => ?_
      rcases oldA a q with k | k
      · exact na k
      · rw [e] at k; cases k
    · rcases fn.newF a z with q | q | q
      · exact f.newF a q
      · exact .inr (oldA a q)
      · exact .inr (fresh a q)
    · rcases List.mem_append.mp z with q | q
      · exact f.newO a (List.mem_append_left _ q)
      · rcases List.mem_append.mp q with q | q
        · rcases fn.newO a q with k | k
          · exact oldA a k
          · exact fresh a k
        · exact f.newO a (List.mem_append_right _ (List.mem_append_right _ q))
  have oz : OwnZ K F' H' (Ψ ++ (zs ++ Φ)) (f' ++ fpR) := o'.append oR'
  refine rep_items (ds := []) en oz fin keepL ?_
  rw [List.nil_append, ← List.append_assoc, ← List.append_assoc]
  exact List.Perm.append_right _ List.perm_append_comm
theorem RepG.restore : ∀ {vs : List V} {bs : List (Option Nat)} {us : List T} {g : Ev}, BackOk σ vs bs → (pick (bs.map Option.isSome) vs).length = us.length → RepG K B lim σ H g ((pick (bs.map Option.isSome) vs).zip us ++ Φ) → RepG K B lim σ H (restore g bs us) Φ
  | [], [], us, g, _, hl, h => by
    cases us with
    | nil => exact h
    | cons => cases hl
  | v :: vs, none :: bs, us, g, hb, hl, h => RepG.restore (vs := vs) (bs := bs) hb hl h
  | v :: vs, some j :: bs, [], g, hb, hl, h => by cases hl
  | v :: vs, some j :: bs, u :: us, g, hb, hl, h => by
    have h1 : RepG K B lim σ H g ((v, u) :: ((pick (bs.map Option.isSome) vs).zip us ++ Φ)) := h
    exact RepG.restore (vs := vs) (bs := bs) hb.2 (by simpa [pick] using hl) (h1.back hb.1)
  | [], _ :: _, _, _, hb, _, _ => by
    exact False.elim hb
  | _ :: _, [], _, _, hb, _, _ => False.elim hb
end
structure FnG (P : Program) (w : World) (K : PySem.W.Frag) (mg : Str → Option Value) (base : Heap) (k : Nat) (f : Addr) (fd : FuncData) (ps : List Str) (sp : Sp) : Prop where
  len : ∀ vs H Q E, sp vs H Q E → vs.length = ps.length
  run : ∀ (A : Around) (outer : List Env) (s : Shared) (H : Hp) (args : Args) (us : List Value) (vs : List V) (Q : VK) (E : XK), Room k A → A.guards = some [] → Env0 P w K mg base A outer s H →
    PySem.BindsTo s fd args (ps.zip us) → Vals vs us → sp vs H Q E → codeAny (model P w) A (.call (.ref f) args) (CR (L2.CX P w) outer P w H s Q E) s
theorem FnG.mono {P : Program} {w : World} {K : PySem.W.Frag} {mg : Str → Option Value} {base : Heap} {j k : Nat} {f : Addr} {fd : FuncData} {ps : List Str} {sp : Sp} (F : FnG P w K mg base j f fd ps sp) (h : j ≤ k) : FnG P w K mg base k f fd ps sp :=
  ⟨F.len, fun A outer s H args us vs Q E hr => F.run A outer s H args us vs Q E (hr.mono h)⟩
theorem fnG_of {P : Program} {w : World} {K : PySem.W.Frag} {mg : Str → Option Value} {base : Heap} {x qual : Str} {st : Stmt} {f : Addr} {fd : FuncData} {N ps : List Str} {k : Nat} {sp : Sp} (F : Fun K x qual st f fd) (S : FnScope N ps (defScope st)) (len : ∀ vs H Q E, sp vs H Q E → vs.length = ps.length)
    (hbody : ∀ (cdv : Value) (A : Around) (outer : List Env) (s : Shared) (H : Hp) (vs : List V) (Q : VK) (E : XK), Room k (A.deeper (PyProof.Rows.envOfC qual (defScope st) s.heap.objs.size f cdv)) → A.guards = some [] → sp vs H Q E →
      ∃ t, PSs (cxOf (L2.CX P w) P w K mg base N qual (defScope st) f cdv A outer s H E) (defBody st) t ∧ t { nx := fun _ H' => Q .non H', rt := Q } (L2.start N vs) H) : FnG P w K mg base (k + 1) f fd ps sp := by
  obtain ⟨oc, od, kV, doc, pm, an, cdv, ct, osl, rfl, lk, hcd⟩ := F.ex
  refine ⟨len, fun A outer s H args us vs Q E hr hg e0 hb r hsp => ?_⟩
  have hlen := len _ _ _ _ hsp
  have kb : ∀ b o, base.get? b = some o → s.heap.get? b = some o := fun b o e => (e0.bs b o e).1
  have KX : K.In s.heap := e0.mod.kin.keeps kb
  have nl : s.heap.NoLimit := e0.mod.nolimit.keeps kb
  refine codeAny_call_function hr.depth (KX _ _ lk) rfl S.co S.gen rfl (PySem.W.codeRec_of KX hcd) (hb _ _ _ _ ?_)
  refine wpAny_newFunctionEnv_cells S.kind (fun y hy => ?_) fun env he s1 xx => ?_
  · obtain ⟨y1, y2⟩ := y
    rcases S.par y1 (List.of_mem_zip hy).1 with z | z
    · exact .inl z
    · exact .inr ⟨z, PySem.W.cellsFrom_some _ _ _ (.inl z)⟩
  subst he
  refine ⟨nl.keeps xx.toInCall.keep, codeAny_func ?_⟩
  obtain ⟨t, ht, hq⟩ := hbody cdv A outer s H vs Q E (hr.deeper _) hg hsp
  have I := inv_start (CX := L2.CX P w) (E := E) S hr.hd e0 hlen r xx
  refine wpAny_mono (ht.run [] s1 _ H _ I hq) (fun fl s' z => ?_) fun _ _ z => z
  match fl, z with
  | .ret u, ⟨v, σ', H', J, rv, q⟩ => exact ⟨v, H', J.os, J.bare, J.base, J.hok, rv, q⟩
  | .next, ⟨σ', H', J, q⟩ => exact ⟨.non, H', J.os, J.bare, J.base, J.hok, rfl, q⟩
  | .brk, ⟨_, _, _, q⟩ => exact q.elim
  | .cont, ⟨_, _, _, q⟩ => exact q.elim
section
variable {X : Cx} {k : Nat} {f : Addr} {fd : FuncData} {ps : List Str} {sp : Sp} {E : St → XK} {x : Str} {p pos : Pos} {e : Expr} {es : List Expr} {t : TA}
theorem run_fnG {pins : List (Addr × Obj)} {σ : St} {H : Hp} {s : Shared} {Q : VK} {us : List Value} {vs : List V} (F : FnG X.prog X.w X.K X.mg X.base k f fd ps sp) (hr : Room k X.A) (hgd : X.A.guards = some []) (hb : Binds X.K fd ps [])
    (hx : PassesAt (L2.CX X.prog X.w) X σ (E σ)) (I : Inv X pins σ H s) (r : Vals vs us) (h : sp vs H Q (E σ)) : wpAny (model X.prog X.w) X.A (call (.ref f) us) (EP X pins σ Q) X.xe s := by
  have b := hb s us I.kIn (by rw [List.append_nil, ← r.length]; exact F.len _ _ _ _ h)
  rw [List.append_nil] at b
  refine wpAny_call (codeAny_mono (F.run X.A X.stack s H ⟨us, []⟩ us vs Q (E σ) hr hgd I.env0 b r h) fun rr s' z => ?_)
  match rr, z with
  | .error e, z => exact hx pins H s e s' I z
  | .ok (.ret u), z => exact I.after z
theorem pe_callG (F : FnG X.prog X.w X.K X.mg X.base k f fd ps sp) (hr : Room k X.A) (hgd : X.A.guards = some []) (hg : Gl X x) (hm : X.mg x = some (.ref f)) (hk : PySem.W.keepIn X.K (.ref f) = true) (hb : Binds X.K fd ps [])
    (hx : ∀ σ, PassesAt (L2.CX X.prog X.w) X σ (E σ)) (ha : PA X (e :: es) t) (hdb : (x == ("__debug__" : Str)) = false := by decide) (he : starEach (e :: es) X.env = (false, eval e X.env) :: starEach es X.env := by rfl)
    (hpl : (backTo pos (starEach es X.env)).any (·.1) = false := by rfl) : PE X (.Call (.Name x p) (e :: es) [] pos) (tCallS sp E t) :=
  ⟨fun pins s σ H Q I h => wpAny_Call_Name_kw (ld_glob I hg hm (PySem.W.callWith_K (h₀ := X.base) I.ok.mod.kin hk (thn (ha.run pos pins s σ H _ I h) fun us s1 ⟨vs, H1, I1, r, q⟩ => ⟨I1.kIn, run_fnG F hr hgd hb (hx σ) I1 r q⟩) he hpl) hdb)⟩
end
section
variable {X : Cx} {W : WX} {m : Nat → Bool} {a b c e : Expr} {es : List Expr} {ta tb tc te : DTE} {t : DTA} {bs : List (Option Nat)} {pos p : Pos}
def xCall (m : DSp) (bs : List (Option Nat)) (t : DTA) : DTE := fun g Q E => t g (fun τs g1 => m τs (fun τ us => Q τ (restore g1 bs us)) (fun c fs us => E c fs (restore g1 bs us))) E
theorem backOk_len {σ : St} : ∀ {vs : List V} {bs : List (Option Nat)}, BackOk σ vs bs → vs.length = bs.length
  | [], [], _ => rfl
  | v :: vs, none :: bs, h => by simp [backOk_len (vs := vs) (bs := bs) h]
  | v :: vs, some j :: bs, h => by simp [backOk_len (vs := vs) (bs := bs) h.2]
  | [], _ :: _, h => False.elim h
  | _ :: _, [], h => False.elim h
theorem call_sp {B : Bs} {σ : St} {H : Hp} {Φ : Its} {lim : List Addr} {g1 : Ev} {E : XP} {sp : DSp} {vs : List V} {τs : List T} {Q : VK} (hm : MonoD sp) (hx : liftX X.K B W σ E) (hl : vs.length = τs.length) (hb : BackOk σ vs bs)
    (r : RepG X.K B lim σ H g1 (vs.zip τs ++ Φ)) (q : sp τs (fun τ us => ∀ v H', RepG X.K B lim σ H' (restore g1 bs us) ((v, τ) :: Φ) → Q v H') (fun c fs us => E c fs (restore g1 bs us))) :
    spD X.K (bs.map Option.isSome) sp vs H Q (WE W σ) := by
  obtain ⟨F, zs, fp, en, oz, f, hlim⟩ := r
  have p1 : (zs ++ (vs.zip τs ++ Φ)).Perm (vs.zip τs ++ (zs ++ Φ)) := by
    rw [← List.append_assoc, ← List.append_assoc]
    exact List.Perm.append_right _ List.perm_append_comm
  obtain ⟨fp', pf, o'⟩ := oz.perm p1
  obtain ⟨fpA, fpR, rfl, oA, oR⟩ := o'.split
  have f' := f.perm (List.Perm.append_left lim pf)
  have nd := (List.nodup_append.mp f'.nd).2.1
  refine ⟨τs, F, fpA, OwnL.unzip hl oA, (List.nodup_append.mp nd).1, fun a ha => f'.off a (List.mem_append_right _ (List.mem_append_left _ ha)), f'.trk, by rw [List.length_map]; exact backOk_len hb, ?_⟩
  refine hm _ _ _ _ _ (fun τ us q1 v H' aft => ?_) (fun c fs us q1 d H' aft xd => ?_) q
  · obtain ⟨F', f2, hlen, o2, fn⟩ := aft
    have r2 := call_frame en oR f' hlim o2 fn
    rw [List.append_assoc] at r2
    exact q1 v H' (RepG.restore hb hlen r2)
  · obtain ⟨F', f2, hlen, o2, fn⟩ := aft
    have r2 := call_frame en oR f' hlim o2 fn
    rw [List.append_assoc] at r2
    exact hx c fs _ d H' (RepG.restore hb hlen r2).only xd q1
theorem xCall_mono {sp : DSp} (hm : MonoD sp) (ht : ∀ g Q Q' E E', (∀ τs g', Q τs g' → Q' τs g') → (∀ c fs g', E c fs g' → E' c fs g') → t g Q E → t g Q' E') :
    ∀ g Q Q' E E', (∀ τ g', Q τ g' → Q' τ g') → (∀ c fs g', E c fs g' → E' c fs g') → xCall sp bs t g Q E → xCall sp bs t g Q' E' := fun g Q Q' E E' hq he q =>
  ht _ _ _ _ _ (fun τs g1 q1 => hm _ _ _ _ _ (fun τ us z => hq _ _ z) (fun c fs us z => he _ _ _ z) q1) he q
theorem d_call {sp : DSp} {k : Nat} {f : Addr} {fd : FuncData} {ps : List Str} {x : Str} {fl : List Bool} (F : FnG X.prog X.w X.K X.mg X.base k f fd ps (spD X.K fl sp)) (hm : MonoD sp) (hr : Room k X.A) (hgd : X.A.guards = some []) (hg : Gl X x) (hmg : X.mg x = some (.ref f))
    (hk : PySem.W.keepIn X.K (.ref f) = true) (hb : Binds X.K fd ps []) (tk : Takes X W) (ha : DA X W (e :: es) bs t) (hfl : bs.map Option.isSome = fl := by rfl) (hdb : (x == ("__debug__" : Str)) = false := by decide)
    (he : starEach (e :: es) X.env = (false, eval e X.env) :: starEach es X.env := by rfl) (hpl : (backTo pos (starEach es X.env)).any (·.1) = false := by rfl) : DE X W (.Call (.Name x p) (e :: es) [] pos) (xCall sp bs t) := by
  subst hfl
  refine ⟨fun B => PE.imp (pe_callG F hr hgd hg hmg hk hb (fun σ => passAt tk σ) (ha.run B) hdb he hpl) fun σ H Q ⟨Φ, lim, g, E, r, hx, q⟩ => ?_, xCall_mono hm ha.mono⟩
  exact ⟨Φ, lim, g, E, r, hx, ha.mono _ _ _ _ _ (fun τs g1 q1 vs H1 hl hb r1 => call_sp hm hx hl hb r1 (hm _ _ _ _ _ (fun τ us z => z) (fun _ _ _ z => z) q1)) (fun _ _ _ z => z) q⟩
end
def outs : List Nat → Ev → Option (List T)
  | [], _ => some []
  | i :: is, g => match g[i]? with
    | some (some t) => (outs is (g.set i none)).map (t :: ·)
    | _ => none
def slots : Nat → List Bool → List Nat
  | _, [] => []
  | n, true :: bs => n :: slots (n + 1) bs
  | n, false :: bs => slots (n + 1) bs
def mutOf (fl : List Bool) : Nat → Bool := fun i => fl.getD i false
def svs : List Nat → St → Option (List V)
  | [], _ => some []
  | i :: is, σ => match σ[i]? with
    | some (some v) => (svs is σ).map (v :: ·)
    | _ => none
theorem svs_congr {σ σ' : St} : ∀ {is : List Nat}, (∀ i ∈ is, σ'[i]? = σ[i]?) → svs is σ' = svs is σ
  | [], _ => rfl
  | i :: is, h => by
    unfold svs
    rw [h i List.mem_cons_self, svs_congr fun j hj => h j (List.mem_cons_of_mem _ hj)]
theorem RepG.outs {K : PySem.W.Frag} {B : Bs} {lim : List Addr} {σ : St} {H : Hp} : ∀ {is : List Nat} {g : Ev} {Φ : Its} {us : List T} {ws : List V}, outs is g = some us → svs is σ = some ws → RepG K B lim σ H g Φ →
    ∃ g', us.length = ws.length ∧ RepG K B lim σ H g' (ws.zip us ++ Φ)
  | [], g, Φ, us, ws, e, ew, h => by
    cases e
    cases ew
    exact ⟨g, rfl, h⟩
  | i :: is, g, Φ, us, ws, e, ew, h => by
    unfold DL.outs at e
    split at e
    · rename_i t ht
      cases eo : DL.outs is (g.set i none) with
      | none => rw [eo] at e; cases e
      | some us' =>
        rw [eo] at e
        cases e
        obtain ⟨v, hv, r1⟩ := h.move ht
        unfold svs at ew
        rw [hv] at ew
        cases em : svs is σ with
        | none => rw [em] at ew; cases ew
        | some ws' =>
          rw [em] at ew
          cases ew
          obtain ⟨g', hl, r2⟩ := RepG.outs (ws := ws') eo em r1
          refine ⟨g', by simp [hl], r2.perm ?_⟩
          exact List.perm_middle
    · cases e
theorem slots_get {rest : St} : ∀ {fl : List Bool} {n : Nat} {pre : St} {vs' : List V}, pre.length = n → vs'.length = fl.length → svs (slots n fl) (pre ++ vs'.map some ++ rest) = some (pick fl vs')
  | [], n, pre, vs', _, h => by
    have : vs' = [] := List.eq_nil_of_length_eq_zero h
    subst this
    rfl
  | b :: fl, n, pre, [], _, h => by cases h
  | true :: fl, n, pre, v :: vs', hp, h => by
    have ih := slots_get (rest := rest) (fl := fl) (n := n + 1) (pre := pre ++ [some v]) (vs' := vs') (by simp [hp]) (by simpa using h)
    have e1 : pre ++ (v :: vs').map some ++ rest = (pre ++ [some v]) ++ vs'.map some ++ rest := by simp
    rw [e1]
    have e2 : ((pre ++ [some v]) ++ vs'.map some ++ rest)[n]? = some (some v) := by
      subst hp
      simp
    show svs (n :: slots (n + 1) fl) _ = _
    unfold svs
    rw [e2, ih]
    rfl
  | false :: fl, n, pre, v :: vs', hp, h => by
    have ih := slots_get (rest := rest) (fl := fl) (n := n + 1) (pre := pre ++ [some v]) (vs' := vs') (by simp [hp]) (by simpa using h)
    have e1 : pre ++ (v :: vs').map some ++ rest = (pre ++ [some v]) ++ vs'.map some ++ rest := by simp
    rw [e1]
    exact ih
theorem slots_mem : ∀ {fl : List Bool} {n i : Nat}, i ∈ slots n fl → n ≤ i ∧ fl.getD (i - n) false = true
  | true :: fl, n, i, h => by
    rcases List.mem_cons.mp h with e | h
    · subst e
      simp
    · obtain ⟨h1, h2⟩ := slots_mem h
      refine ⟨by omega, ?_⟩
      have : i - n = (i - (n + 1)) + 1 := by omega
      rw [this]
      exact h2
  | false :: fl, n, i, h => by
    obtain ⟨h1, h2⟩ := slots_mem (fl := fl) (n := n + 1) h
    refine ⟨by omega, ?_⟩
    have : i - n = (i - (n + 1)) + 1 := by omega
    rw [this]
    exact h2
def startE (n : Nat) (ts : List T) : Ev := ts.map some ++ List.replicate (n - ts.length) none
def retD (fl : List Bool) (Q : T → List T → Prop) : T → Ev → Prop := fun τ g => match outs (slots 0 fl) g with
  | some us => Q τ us
  | none => False
def exD (fl : List Bool) (E : Value → List (Str × V) → List T → Prop) : XP := fun c fs g => match outs (slots 0 fl) g with
  | some us => E c fs us
  | none => False
def bodyEnds (fl : List Bool) (Q : T → List T → Prop) (E : Value → List (Str × V) → List T → Prop) : DEnds := { nx := fun g => retD fl Q (.leaf .non) g, rt := retD fl Q, ex := exD fl E }
theorem env_start {K : PySem.W.Frag} {F : Addr → Prop} {H : Hp} : ∀ {vs : List V} {ts : List T} {fp : List Addr}, OwnL K F H vs ts fp → ∀ k : Nat, EnvIs (vs.map some ++ List.replicate k none) (ts.map some ++ List.replicate k none) (vs.zip ts) := by
  intro vs ts fp h k
  have rep : ∀ k : Nat, EnvIs (List.replicate k none) (List.replicate k none) [] := fun k => by
    induction k with
    | zero => exact .nil
    | succ k ih => exact .skip ih
  have e := h.length
  clear h
  induction vs generalizing ts with
  | nil =>
    have : ts = [] := List.eq_nil_of_length_eq_zero e.symm
    subst this
    exact rep k
  | cons v vs ih =>
    cases ts with
    | nil => cases e
    | cons t ts => exact .have (ih (by simpa using e))
section
variable {P : Program} {w : World} {K : PySem.W.Frag} {mg : Str → Option Value} {base : Heap}
theorem fnD_of {x qual : Str} {st : Stmt} {f : Addr} {fd : FuncData} {N ps : List Str} {k : Nat} {sp : DSp} {fl : List Bool} (F : Fun K x qual st f fd) (S : FnScope N ps (defScope st)) (hfl : fl.length = ps.length)
    (hbody : ∀ (cdv : Value) (A : Around) (outer : List Env) (s : Shared) (H : Hp) (E : XK), Room k (A.deeper (PyProof.Rows.envOfC qual (defScope st) s.heap.objs.size f cdv)) → A.guards = some [] →
      ∃ t, DSs (cxOf (L2.CX P w) P w K mg base N qual (defScope st) f cdv A outer s H E) (fun cls d _ H => E cls d H) (mutOf fl) (defBody st) t ∧
        ∀ ts Q' E', ts.length = ps.length → sp ts Q' E' → t (bodyEnds fl Q' E') (startE N.length ts)) :
    FnG P w K mg base (k + 1) f fd ps (spD K fl sp) := by
  refine fnG_of F S (fun vs H Q E h => ?_) (fun cdv A outer s H vs Q E hr hgd h => ?_)
  · obtain ⟨ts, F, fp, o, _, _, _, hl, _⟩ := h
    omega
  · obtain ⟨ts, F0, fp, o, nd, off, trk, hl, hq⟩ := h
    obtain ⟨t, ht, hb⟩ := hbody cdv A outer s H E hr hgd
    have hlt : ts.length = ps.length := by rw [← o.length]; omega
    refine ⟨_, ht.run ⟨H, F0, fp⟩ (L2.start N vs), [], [], startE N.length ts, exD fl (fun c fs us => ∀ d H', Aft K F0 fp H (pick fl vs) H' us [] → XD d fs H' → E c d H'), ?_, kept_refl, ?_, ht.mono _ _ _ ?_ (hb ts _ _ hlt hq)⟩
    · refine ⟨F0, vs.zip ts, fp, ?_, ?_, ?_, fun _ z => nomatch z⟩
      · have := env_start o (N.length - vs.length)
        unfold L2.start startE
        rw [← o.length]
        exact this
      · rw [List.append_nil]
        exact o.zip
      · exact ⟨nd, off, trk, fun _ z => z, fun a o e _ => e, fun a z => .inl z, fun a z => .inl z⟩
    · -- exceptions
      intro σ hk c fs g d H' r xd q
      unfold exD at q
      split at q
      · rename_i us hus
        have hw : svs (slots 0 fl) σ = some (pick fl vs) := by
          have e1 := slots_get (rest := List.replicate (N.length - vs.length) none) (fl := fl) (n := 0) (pre := []) (vs' := vs) rfl hl
          rw [List.nil_append] at e1
          rw [← e1]
          refine svs_congr fun i hi => ?_
          have := (slots_mem hi).2
          exact hk.2 i (by unfold mutOf; simpa using this)
        obtain ⟨g', hlen, r'⟩ := r.outs hus hw
        obtain ⟨F', zs, f', en, oz, f, _⟩ := r'
        obtain ⟨f1, f2, rfl, _, o2⟩ := oz.split
        exact q d H' ⟨F', f2, hlen.symm, o2, f.sub (by rw [List.nil_append]; exact List.sublist_append_right _ _)⟩ xd
      · exact q.elim
    · have ret : ∀ τ g, retD fl (fun t us => ∀ v H', Aft K F0 fp H (pick fl vs) H' us [(v, t)] → Q v H') τ g → ∀ v σ' H', RepG K ⟨H, F0, fp⟩ [] σ' H' g [(v, τ)] → Kept (mutOf fl) (L2.start N vs) σ' → Q v H' := by
        intro τ g q v σ H' r hk
        unfold retD at q
        split at q
        · rename_i us hus
          have hw : svs (slots 0 fl) σ = some (pick fl vs) := by
            have e1 := slots_get (rest := List.replicate (N.length - vs.length) none) (fl := fl) (n := 0) (pre := []) (vs' := vs) rfl hl
            rw [List.nil_append] at e1
            rw [← e1]
            refine svs_congr fun i hi => ?_
            have := (slots_mem hi).2
            exact hk.2 i (by unfold mutOf; simpa using this)
          obtain ⟨g', hlen, r'⟩ := r.outs hus hw
          obtain ⟨F', zs, f', en, oz, f, _⟩ := r'
          obtain ⟨f1, f2, rfl, _, o2⟩ := oz.split
          exact q v H' ⟨F', f2, hlen.symm, o2, f.sub (by rw [List.nil_append]; exact List.sublist_append_right _ _)⟩
        · exact q.elim
      exact ⟨fun g q σ' H' r hk => ret _ g q .non σ' H' r.addLeaf hk, fun τ g q v σ' H' r hk => ret τ g q v σ' H' r hk, fun _ _ _ z => z, fun _ z => z.elim, fun _ z => z.elim⟩
end
end DL
set_option Elab.async false
set_option linter.all false
set_option maxRecDepth 100000
set_option maxHeartbeats 4000000
namespace DL
open PySem L2
section
variable {K : PySem.W.Frag} {B : Bs} {lim : List Addr} {σ : St} {H H' : Hp} {g : Ev} {Φ Ψ : Its}
theorem perm_at {α : Type} : ∀ {l : List α} {i : Nat} {x : α}, l[i]? = some x → ∃ r, l.Perm (x :: r)
  | [], _, _, h => by simp at h
  | a :: l, 0, x, h => by
    simp at h
    subst h
    exact ⟨l, .refl _⟩
  | a :: l, i + 1, x, h => by
    obtain ⟨r, p⟩ := perm_at (l := l) (i := i) (x := x) (by simpa using h)
    exact ⟨a :: r, (List.Perm.cons _ p).trans (List.Perm.swap _ _ _)⟩
theorem RepG.one {zs : Its} {i : Nat} {x : V × T} (h : RepG K B lim σ H g (zs ++ Φ)) (e : zs[i]? = some x) : RepG K B lim σ H g (x :: Φ) := by
  obtain ⟨r, p⟩ := perm_at e
  have h1 : RepG K B lim σ H g (r ++ (x :: Φ)) := h.perm (((List.Perm.append_right Φ p)).trans List.perm_middle.symm)
  exact h1.dropTs
theorem RepG.dup {v : V} {t : T} (h : RepG K B lim σ H g ((v, t) :: Φ)) (hf : frz t = t) : RepG K B lim σ H g ((v, t) :: (v, t) :: Φ) := by
  obtain ⟨F, zs, fp, en, o, f, hl⟩ := h
  obtain ⟨fp', pf, o'⟩ := o.perm (List.perm_middle (a := (v, t)))
  obtain ⟨f1, f2, rfl, p1, o2⟩ := OwnZ.uncons (zs := zs ++ Φ) o'
  obtain rfl := p1.nofp _ hf
  have f' := f.perm (List.Perm.append_left lim pf)
  have hz : OwnZ K F H ((v, t) :: (v, t) :: (zs ++ Φ)) ([] ++ ([] ++ f2)) := .cons p1 (.cons p1 o2)
  refine rep_items (ds := []) en hz f' hl ?_
  rw [List.nil_append]
  exact (List.Perm.cons _ List.perm_middle.symm).trans List.perm_middle.symm
theorem RepG.dupAt {zs : Its} {i : Nat} {v : V} {t : T} (h : RepG K B lim σ H g (zs ++ Φ)) (e : zs[i]? = some (v, t)) (hf : frz t = t) : RepG K B lim σ H g ((v, t) :: (zs ++ Φ)) := by
  obtain ⟨r, p⟩ := perm_at e
  have h1 := (h.perm (List.Perm.append_right Φ p)).dup hf
  exact h1.perm (List.Perm.cons _ (List.Perm.append_right Φ p.symm))
theorem frzL_get : ∀ {ts : List T} {i : Nat} {t : T}, (frzL ts)[i]? = some t → frz t = t
  | [], _, _, h => by simp [frzL] at h
  | a :: ts, 0, t, h => by
    simp only [frzL, List.getElem?_cons_zero, Option.some.injEq] at h
    subst h
    exact frz_frz a
  | a :: ts, i + 1, t, h => frzL_get (ts := ts) (i := i) (by simpa [frzL] using h)
theorem frzL_length : ∀ ts : List T, (frzL ts).length = ts.length
  | [] => rfl
  | _ :: ts => by simp [frzL, frzL_length ts]
theorem zip_get {α β : Type} : ∀ {l : List α} {r : List β} {i : Nat} {b : β}, l.length = r.length → r[i]? = some b → ∃ a, l[i]? = some a ∧ (l.zip r)[i]? = some (a, b)
  | [], [], _, _, _, h => by simp at h
  | a :: l, b' :: r, 0, b, _, h => by
    simp at h
    subst h
    exact ⟨a, rfl, rfl⟩
  | a :: l, b' :: r, i + 1, b, e, h => by
    obtain ⟨x, e1, e2⟩ := zip_get (l := l) (r := r) (i := i) (b := b) (by simpa using e) (by simpa using h)
    exact ⟨x, by simpa using e1, by simpa using e2⟩
  | [], _ :: _, _, _, e, _ => by cases e
  | _ :: _, [], _, _, _, h => by simp at h
theorem RepG.parts {v : V} {o : Bool} {s : Sh} {ts : List T} (h : RepG K B lim σ H g ((v, .node o s ts) :: Φ)) :
    ∃ a vs, v = .ref a ∧ vs.length = ts.length ∧ (Rd H a (s.mk vs) ∨ Konst K a vs s) ∧ RepG K B lim σ H g (vs.zip (frzL ts) ++ (v, .node false s (frzL ts)) :: Φ) := by
  have h1 := h.freezeT
  rw [show frz (T.node o s ts) = .node false s (frzL ts) by simp [frz]] at h1
  obtain ⟨a, vs, e, hl, hr, r⟩ := h1.kids
  exact ⟨a, vs, e, by rw [hl, frzL_length], hr, r⟩
theorem RepG.pinned {v : V} {o : Bool} {s : Sh} {ts : List T} (h : RepG K B lim σ H g ((v, .node o s ts) :: Φ)) :
    ∃ a vs, v = .ref a ∧ vs.length = ts.length ∧ RepG K B lim σ H g ((v, .pin s vs) :: vs.zip (frzL ts) ++ Φ) := by
  have h1 := h.freezeT
  rw [show frz (T.node o s ts) = .node false s (frzL ts) by simp [frz]] at h1
  obtain ⟨F, zs, fp, en, oz, f, hl⟩ := h1
  obtain ⟨fp', pf, o'⟩ := oz.perm (List.perm_middle (a := (v, T.node false s (frzL ts))))
  obtain ⟨f1, f2, rfl, p1, o2⟩ := OwnZ.uncons (zs := zs ++ Φ) o'
  have f' := f.perm (List.Perm.append_left lim pf)
  have fin : ∀ vs : List V, f1 = [] → OwnP K F H v (.pin s vs) [] → OwnL K F H vs (frzL ts) [] → RepG K B lim σ H g ((v, .pin s vs) :: vs.zip (frzL ts) ++ Φ) := fun vs e pv hk => by
    subst e
    have oz2 : OwnZ K F H ((v, T.pin s vs) :: (vs.zip (frzL ts) ++ (zs ++ Φ))) ([] ++ ([] ++ f2)) := .cons pv (hk.zip.append o2)
    refine rep_items (ds := []) en oz2 f' hl ?_
    rw [List.nil_append, List.cons_append]
    refine List.Perm.trans ?_ List.perm_middle.symm
    refine List.Perm.cons _ ?_
    rw [← List.append_assoc, ← List.append_assoc]
    exact List.Perm.append_right _ List.perm_append_comm
  cases p1 with
  | fz hf hr hk => exact ⟨_, _, rfl, by rw [hk.length, frzL_length], fin _ rfl (.pinF hf (.inl hr)) hk⟩
  | kz hc hk => exact ⟨_, _, rfl, by rw [hk.length, frzL_length], fin _ rfl (.pinK hc) hk⟩
theorem RepG.pinAt {v : V} {s : Sh} {vs : List V} (h : RepG K B lim σ H g ((v, .pin s vs) :: Φ)) : ∃ a, v = .ref a ∧ (Rd H a (s.mk vs) ∨ Konst K a vs s) := by
  obtain ⟨F, zs, fp, en, oz, f, hl⟩ := h
  obtain ⟨fp', pf, o'⟩ := oz.perm (List.perm_middle (a := (v, T.pin s vs)))
  obtain ⟨f1, f2, rfl, p1, o2⟩ := OwnZ.uncons (zs := zs ++ Φ) o'
  cases p1 with
  | pinF hf hr => exact ⟨_, rfl, .inl hr⟩
  | pinK hc => exact ⟨_, rfl, .inr hc⟩
end
abbrev DTG := T → Ev → (Ev → Prop) → Prop
abbrev DTGs := List T → Ev → (Ev → Prop) → Prop
def liftG (K : PySem.W.Frag) (B : Bs) (m : Nat → Bool) (σ0 : St) (gt : DTG) : TG := fun v σ H Q => ∃ (Φ : Its) (lim : List Addr) (g : Ev) (τ : T), RepG K B lim σ H g ((v, τ) :: Φ) ∧ Kept m σ0 σ ∧
  gt τ g (fun g' => ∀ σ' H', RepG K B lim σ' H' g' Φ → Kept m σ0 σ' → Q σ' H')
def liftGs (K : PySem.W.Frag) (B : Bs) (m : Nat → Bool) (σ0 : St) (gt : DTGs) : TGs := fun vs σ H Q => ∃ (Φ : Its) (lim : List Addr) (g : Ev) (τs : List T), vs.length = τs.length ∧ RepG K B lim σ H g (vs.zip τs ++ Φ) ∧ Kept m σ0 σ ∧
  gt τs g (fun g' => ∀ σ' H', RepG K B lim σ' H' g' Φ → Kept m σ0 σ' → Q σ' H')
structure DG (X : Cx) (m : Nat → Bool) (tg : Expr) (gt : DTG) : Prop where
  run : ∀ B σ0, PG X tg (liftG X.K B m σ0 gt)
  mono : ∀ τ g Q Q', (∀ g', Q g' → Q' g') → gt τ g Q → gt τ g Q'
structure DGs (X : Cx) (m : Nat → Bool) (tgs : List Expr) (gt : DTGs) : Prop where
  run : ∀ B σ0, PGs X tgs (liftGs X.K B m σ0 gt)
  mono : ∀ τs g Q Q', (∀ g', Q g' → Q' g') → gt τs g Q → gt τs g Q'
theorem PG.imp {X : Cx} {e : Expr} {t t' : TG} (h : PG X e t) (i : ∀ v σ H Q, t' v σ H Q → t v σ H Q) : PG X e t' := ⟨fun pins s σ H v u Q I r hw => h.run pins s σ H v u Q I r (i v σ H Q hw)⟩
theorem PGs.imp {X : Cx} {e : List Expr} {t t' : TGs} (h : PGs X e t) (i : ∀ v σ H Q, t' v σ H Q → t v σ H Q) : PGs X e t' := ⟨fun pins s σ H v u Q I r hw => h.run pins s σ H v u Q I r (i v σ H Q hw)⟩
section
variable {X : Cx} {W : WX} {m : Nat → Bool} {pos : Pos}
def gNm (own : Bool) (i : Nat) : DTG := fun τ g Q => Q (g.set i (some (if own = true then τ else frz τ)))
theorem dg_name {i : Nat} {x : Str} (own : Bool) (hN : X.N.Nodup) (hi : X.N[i]? = some x) (hx : Loc X.env.scope x) (hm : m i = false) (hf : X.fn x = true ∨ X.env.scope.names.lookup x = some .local := by first | exact .inl rfl | exact .inr rfl | assumption) : DG X m (.Name x pos) (gNm own i) := by
  refine ⟨fun B σ0 => PG.imp (pg_name hN hi hx hf) fun v σ H Q ⟨Φ, lim, g, τ, r, hk, q⟩ => ?_, fun τ g Q Q' h q => h _ q⟩
  refine q (σ.set i (some v)) H ?_ (hk.set hm)
  cases own with
  | true => exact r.put'
  | false => exact r.freezeT.put'
def gNl : DTGs := fun τs g Q => match τs with
  | [] => Q g
  | _ => False
def gCn (t : DTG) (u : DTGs) : DTGs := fun τs g Q => match τs with
  | τ :: r => t τ g fun g' => u r g' Q
  | [] => False
theorem dgs_nil : DGs X m [] gNl := by
  refine ⟨fun B σ0 => PGs.imp pgs_nil fun vs σ H Q ⟨Φ, lim, g, τs, hl, r, hk, q⟩ => ?_, fun τs g Q Q' h q => ?_⟩
  · cases τs with
    | nil =>
      have : vs = [] := List.eq_nil_of_length_eq_zero hl
      subst this
      exact ⟨rfl, q σ H r hk⟩
    | cons => exact q.elim
  · cases τs with
    | nil => exact h _ q
    | cons => exact q.elim
theorem dgs_cons {e : Expr} {es : List Expr} {t : DTG} {u : DTGs} (h1 : DG X m e t) (h2 : DGs X m es u) (hs : (assignEach (e :: es) X.env).map (·.2) = assign e X.env :: (assignEach es X.env).map (·.2) := by rfl) : DGs X m (e :: es) (gCn t u) := by
  refine ⟨fun B σ0 => PGs.imp (pgs_cons (h1.run B σ0) (h2.run B σ0) hs) fun vs σ H Q ⟨Φ, lim, g, τs, hl, r, hk, q⟩ => ?_, fun τs g Q Q' h q => ?_⟩
  · cases τs with
    | nil => exact q.elim
    | cons τ τs =>
      cases vs with
      | nil => cases hl
      | cons v vs =>
        refine ⟨v, vs, rfl, vs.zip τs ++ Φ, lim, g, τ, r, hk, h1.mono _ _ _ _ (fun g' q' σ' H' r' hk' => ?_) q⟩
        exact ⟨Φ, lim, g', τs, by simpa using hl, r', hk', q'⟩
  · cases τs with
    | nil => exact q.elim
    | cons τ τs => exact h1.mono _ _ _ _ (fun g' q' => h2.mono _ _ _ _ h q') q
def gTp (n : Nat) (u : DTGs) : DTG := fun τ g Q => match τ with
  | .node _ .tup ts => ts.length = n ∧ u (frzL ts) g Q
  | _ => False
theorem dg_tup {es : List Expr} {k n : Nat} {u : DTGs} (hc : X.calm = true) (h : DGs X m es u) (hn : (assignEach es X.env).length = n := by rfl) (hst : (assignEach es X.env).findIdx? (·.1) = none := by rfl) : DG X m (.Tuple es k pos) (gTp n u) := by
  refine ⟨fun B σ0 => PG.imp (pg_tup hc (h.run B σ0) hn hst) fun v σ H Q ⟨Φ, lim, g, τ, r, hk, q⟩ => ?_, fun τ g Q Q' hq q => ?_⟩
  · unfold gTp at q
    split at q
    · rename_i o ts
      obtain ⟨a, vs, rfl, hl, hr, r'⟩ := r.parts
      exact ⟨a, vs, rfl, seqT hr, by rw [hl]; exact q.1, _, lim, g, frzL ts, by rw [hl, frzL_length], r', hk, h.mono _ _ _ _ (fun g' q' σ' H' r2 hk' => q' σ' H' r2.dropT hk') q.2⟩
    · exact q.elim
  · unfold gTp at q
    split at q
    · exact ⟨q.1, h.mono _ _ _ _ hq q.2⟩
    · exact q.elim
def sAsg (te : DTE) (gt : DTG) : DTS := fun D g => te g (fun τ g1 => gt τ g1 D.nx) D.ex
theorem ds_asg {tg e : Expr} {te : DTE} {gt : DTG} (he : DE X W e te) (hg : DG X m tg gt) (hs : swapsWithSole [tg] e pos.line X.env = pure false := by rfl) (hw : swappedStores [tg] e X.env = pure none := by rfl)
    (h1 : (assignEach [tg] X.env).map (·.2) = [assign tg X.env] := by rfl) : DS X W m (.Assign [tg] e pos) (sAsg te gt) := by
  refine .mk' (fun B σ0 => ps_asg (he.run B) (hg.run B σ0) hs hw h1) (fun B σ0 D σ H Φ lim g E r hk hX q => ?_) fun D D' g h q => he.mono _ _ _ _ _ (fun τ g1 q1 => hg.mono _ _ _ _ h.nx q1) h.ex q
  refine ⟨Φ, lim, g, E, r, hX σ hk, he.mono _ _ _ _ _ (fun τ g1 q1 v H1 r1 => ?_) (fun _ _ _ z => z) q⟩
  exact ⟨Φ, lim, g1, τ, r1, hk, hg.mono _ _ _ _ (fun g' q' σ' H' r' hk' => q' σ' H' r' hk') q1⟩
def sPar (i j : Nat) (t : DTA) : DTS := fun D g => t g (fun τs g1 => match τs with
  | [x, y] => D.nx ((g1.set i (some (frz x))).set j (some (frz y)))
  | _ => False) D.ex
theorem ds_par {i j : Nat} {x y : Str} {a b : Expr} {t : DTA} {bs : List (Option Nat)} {px py pt : Pos} {kt k2 pt2} (hc : X.calm = true) (hN : X.N.Nodup) (hi : X.N[i]? = some x) (hj : X.N[j]? = some y) (hij : i ≠ j) (hmi : m i = false) (hmj : m j = false)
    (hx : X.env.scope.names.lookup x = some .local) (hy : X.env.scope.names.lookup y = some .local) (ha : DA X W [a, b] bs t)
    (hw : swappedStores [.Tuple [.Name x px, .Name y py] kt pt] (.Tuple [a, b] k2 pt2) X.env = pure (some [x, y]))
    (hs : swapsWithSole [.Tuple [.Name x px, .Name y py] kt pt] (.Tuple [a, b] k2 pt2) pos.line X.env = pure false := by rfl) :
    DS X W m (.Assign [.Tuple [.Name x px, .Name y py] kt pt] (.Tuple [a, b] k2 pt2) pos) (sPar i j t) := by
  refine .mk' (fun B σ0 => ps_par hc hN hi hj hij hx hy (ha.run B) hw hs) (fun B σ0 D σ H Φ lim g E r hk hX q => ?_) fun D D' g h q => ha.mono _ _ _ _ _ (fun τs g1 q1 => ?_) h.ex q
  · refine ⟨Φ, lim, g, E, r, hX σ hk, ha.mono _ _ _ _ _ (fun τs g1 q1 vs H1 hl _ r1 => ?_) (fun _ _ _ z => z) q⟩
    split at q1
    · rename_i x' y'
      obtain ⟨v, w, rfl⟩ : ∃ v w, vs = [v, w] := by
        match vs, hl with
        | [v, w], _ => exact ⟨v, w, rfl⟩
      refine ⟨v, w, rfl, q1 _ _ ?_ ((hk.set hmi).set hmj)⟩
      have r2 : RepG X.K B lim σ H1 g1 ((v, x') :: (w, y') :: Φ) := r1
      have r3 : RepG X.K B lim σ H1 g1 ((w, frz y') :: (v, frz x') :: Φ) := (r2.freezeT.perm (List.Perm.swap _ _ _)).freezeT
      exact (r3.perm (List.Perm.swap _ _ _)).put'.put'
    · exact q1.elim
  · split at q1
    · exact h.nx _ q1
    · exact q1.elim
end
def Walks (K : PySem.W.Frag) (B : Bs) (lim : List Addr) (J : It) (Ψ : Its) (ts : List T) : Prop :=
  ∀ σ H g Φ i, RepG K B lim σ H g (Ψ ++ Φ) → (∀ t, ts[i]? = some t → J.go i H ∧ ∀ x H', J.yld i H x H' → RepG K B lim σ H' g ((x, t) :: (Ψ ++ Φ))) ∧ (ts.length ≤ i → J.stop i H)
abbrev DTI := Ev → (List T → Ev → Prop) → XP → Prop
def liftI (K : PySem.W.Frag) (B : Bs) (W : WX) (t : DTI) : TI := fun σ H R => ∃ (Φ : Its) (lim : List Addr) (g : Ev) (E : XP), RepG K B lim σ H g Φ ∧ liftX K B W σ E ∧
  t g (fun ts g' => ∀ J Ψ H', RepG K B lim σ H' g' (Ψ ++ Φ) → Walks K B lim J Ψ ts → R J H') E
structure DI (X : Cx) (W : WX) (tg iter : Expr) (t : DTI) : Prop where
  run : ∀ B, PI X tg iter (liftI X.K B W t)
  mono : ∀ g Q Q' E E', (∀ ts g', Q ts g' → Q' ts g') → (∀ c fs g', E c fs g' → E' c fs g') → t g Q E → t g Q' E'
theorem PI.imp {X : Cx} {tg e : Expr} {t t' : TI} (h : PI X tg e t) (i : ∀ σ H R, t' σ H R → t σ H R) : PI X tg e t' := ⟨fun pins s σ H R I hw => h.run pins s σ H R I (i σ H R hw)⟩
def iSq (K : PySem.W.Frag) (tl : TE) : TI := fun σ H R => tl σ H fun x H1 => ∃ a, x = .ref a ∧ (((∃ xs, SqL K H1 a xs) ∧ R (Itl K a) H1) ∨ ((∃ xs, SqT K H1 a xs) ∧ R (Itt K a) H1))
theorem pi_sq {X : Cx} {tg l : Expr} {tl : TE} (hl : PE X l tl) : PI X tg l (iSq X.K tl) := by
  refine ⟨fun pins s σ H R I h => ?_⟩
  refine thn (hl.run pins s σ H _ I h) fun v s1 ⟨x, H1, I1, r1, q1⟩ => ?_
  obtain ⟨a, e, q1⟩ := q1
  subst e
  cases r1
  rcases q1 with ⟨⟨xs, hq⟩, q⟩ | ⟨⟨xs, hq⟩, q⟩
  · obtain ⟨its, rv, p, hz⟩ := I1.list hq
    refine wpAny_pyIter_list p.isList ?_
    refine ⟨s1.heap.objs.size, [s1.heap.objs.size], _, _, H1, rfl, I1.kept (t' := s1.toks) fun b o e => Heap.get?_push_of_some _ e, turn_list a _, ⟨_, Heap.get?_push_size _ rfl, rfl, rfl⟩, fun b hb => ?_, q⟩
    have e : b = s1.heap.objs.size := by simpa using hb
    subst e
    exact I1.fpOk (Nat.le_refl _) (I1.hok.fresh (Nat.le_refl _))
  · obtain ⟨its, rv, p, hz⟩ := I1.tuple hq
    refine wpAny_pyIter_tuple (show s1.heap.IsTuple a its.toArray from p) ?_
    refine ⟨s1.heap.objs.size, [s1.heap.objs.size], _, _, H1, rfl, I1.kept (t' := s1.toks) fun b o e => Heap.get?_push_of_some _ e, turn_tuple a _, ⟨_, Heap.get?_push_size _ rfl, rfl, rfl⟩, fun b hb => ?_, q⟩
    have e : b = s1.heap.objs.size := by simpa using hb
    subst e
    exact I1.fpOk (Nat.le_refl _) (I1.hok.fresh (Nat.le_refl _))
theorem walks_list {K : PySem.W.Frag} {B : Bs} {lim : List Addr} {a : Addr} {vs : List V} {ts : List T} (hl : vs.length = ts.length) (hf : ∀ (i : Nat) (t : T), ts[i]? = some t → frz t = t) : Walks K B lim (Itl K a) ((.ref a, .pin .lst vs) :: vs.zip ts) ts := by
  intro σ H g Φ i r
  have sq : SqL K H a vs := by
    obtain ⟨b, e, hr⟩ := RepG.pinAt (Φ := vs.zip ts ++ Φ) r
    cases e
    exact seqL hr
  refine ⟨fun t ht => ?_, fun hi => ⟨vs, sq, by omega⟩⟩
  obtain ⟨v, hv, hz⟩ := zip_get hl ht
  refine ⟨⟨vs, v, sq, hv⟩, fun x H' y => ?_⟩
  obtain ⟨e, y⟩ := y
  subst e
  have hx := y vs sq
  rw [hv] at hx
  cases hx
  exact RepG.dupAt (zs := (.ref a, .pin .lst vs) :: vs.zip ts) (i := i + 1) r (by simpa using hz) (hf i t ht)
theorem walks_tup {K : PySem.W.Frag} {B : Bs} {lim : List Addr} {a : Addr} {vs : List V} {ts : List T} (hl : vs.length = ts.length) (hf : ∀ (i : Nat) (t : T), ts[i]? = some t → frz t = t) : Walks K B lim (Itt K a) ((.ref a, .pin .tup vs) :: vs.zip ts) ts := by
  intro σ H g Φ i r
  have sq : SqT K H a vs := by
    obtain ⟨b, e, hr⟩ := RepG.pinAt (Φ := vs.zip ts ++ Φ) r
    cases e
    exact seqT hr
  refine ⟨fun t ht => ?_, fun hi => ⟨vs, sq, by omega⟩⟩
  obtain ⟨v, hv, hz⟩ := zip_get hl ht
  refine ⟨⟨vs, v, sq, hv⟩, fun x H' y => ?_⟩
  obtain ⟨e, y⟩ := y
  subst e
  have hx := y vs sq
  rw [hv] at hx
  cases hx
  exact RepG.dupAt (zs := (.ref a, .pin .tup vs) :: vs.zip ts) (i := i + 1) r (by simpa using hz) (hf i t ht)
def iSeq (te : DTE) : DTI := fun g Q E => te g (fun τ g1 => match τ with
  | .node _ .lst ts => Q (frzL ts) g1
  | .node _ .tup ts => Q (frzL ts) g1
  | _ => False) E
section
variable {X : Cx} {W : WX} {m : Nat → Bool} {tg e : Expr} {te : DTE} {pos p : Pos}
theorem di_seq (he : DE X W e te) : DI X W tg e (iSeq te) := by
  refine ⟨fun B => PI.imp (pi_sq (he.run B)) fun σ H R ⟨Φ, lim, g, E, r, hx, q⟩ => ?_, fun g Q Q' E E' hq hE q => he.mono _ _ _ _ _ (fun τ g1 q1 => ?_) hE q⟩
  · refine ⟨Φ, lim, g, E, r, hx, he.mono _ _ _ _ _ (fun τ g1 q1 v H1 r1 => ?_) (fun _ _ _ z => z) q⟩
    split at q1
    · rename_i o ts
      obtain ⟨a, vs, rfl, hl, r2⟩ := r1.pinned
      have sq : SqL X.K H1 a vs := by
        obtain ⟨b, e, hr⟩ := RepG.pinAt (Φ := vs.zip (frzL ts) ++ Φ) r2
        cases e
        exact seqL hr
      exact ⟨a, rfl, .inl ⟨⟨vs, sq⟩, q1 _ _ H1 r2 (walks_list (by rw [hl, frzL_length]) fun i t ht => frzL_get ht)⟩⟩
    · rename_i o ts
      obtain ⟨a, vs, rfl, hl, r2⟩ := r1.pinned
      have sq : SqT X.K H1 a vs := by
        obtain ⟨b, e, hr⟩ := RepG.pinAt (Φ := vs.zip (frzL ts) ++ Φ) r2
        cases e
        exact seqT hr
      exact ⟨a, rfl, .inr ⟨⟨vs, sq⟩, q1 _ _ H1 r2 (walks_tup (by rw [hl, frzL_length]) fun i t ht => frzL_get ht)⟩⟩
    · exact q1.elim
  · split at q1
    · exact hq _ _ q1
    · exact hq _ _ q1
    · exact q1.elim
def rangeT (lo : Int) (n : Nat) : List T := (List.range n).map fun k => .leaf (.int (lo + (k : Nat)))
theorem walks_range {K : PySem.W.Frag} {B : Bs} {lim : List Addr} {lo : Int} {n : Nat} : Walks K B lim (Itr lo n) [] (rangeT lo n) := by
  intro σ H g Φ i r
  refine ⟨fun t ht => ?_, fun hi => by
    show n ≤ i
    simpa [rangeT] using hi⟩
  unfold rangeT at ht
  rw [List.getElem?_map] at ht
  by_cases hi : i < n
  · rw [List.getElem?_range hi] at ht
    cases ht
    refine ⟨hi, fun x H' y => ?_⟩
    obtain ⟨e, y⟩ := y
    subst e y
    exact r.addLeaf
  · rw [List.getElem?_eq_none (by simpa using hi)] at ht
    cases ht
def iRange1 (t : DTA) : DTI := fun g Q E => t g (fun τs g1 => match τs with
  | [.leaf (.int j)] => -(2 ^ 62) ≤ j ∧ j < 2 ^ 62 ∧ Q (rangeT 0 j.toNat) g1
  | _ => False) E
def iRange2 (t : DTA) : DTI := fun g Q E => t g (fun τs g1 => match τs with
  | [.leaf (.int i), .leaf (.int j)] => (-(2 ^ 62) ≤ i ∧ i < 2 ^ 62 ∧ -(2 ^ 62) ≤ j ∧ j < 2 ^ 62) ∧ Q (rangeT i (j - i).toNat) g1
  | _ => False) E
theorem di_range1 {a : Expr} {t : DTA} {bs : List (Option Nat)} (hg : Gl X "range") (hm : X.mg "range" = none) (ha : DA X W [a] bs t) (hs : starEach [a] X.env = [(false, eval a X.env)] := by rfl) : DI X W tg (.Call (.Name "range" p) [a] [] pos) (iRange1 t) := by
  refine ⟨fun B => PI.imp (pi_range1 hg hm (ha.run B) hs) fun σ H R ⟨Φ, lim, g, E, r, hx, q⟩ => ?_, fun g Q Q' E E' hq hE q => ha.mono _ _ _ _ _ (fun τs g1 q1 => ?_) hE q⟩
  · refine ⟨Φ, lim, g, E, r, hx, ha.mono _ _ _ _ _ (fun τs g1 q1 vs H1 hl _ r1 => ?_) (fun _ _ _ z => z) q⟩
    split at q1
    · rename_i j
      match vs, hl with
      | [v], _ =>
        have r2 : RepG X.K B lim σ H1 g1 ((v, .leaf (.int j)) :: Φ) := r1
        obtain rfl := r2.leaf
        exact ⟨j, rfl, q1.1, q1.2.1, q1.2.2 _ [] H1 r2.dropT walks_range⟩
    · exact q1.elim
  · split at q1
    · exact ⟨q1.1, q1.2.1, hq _ _ q1.2.2⟩
    · exact q1.elim
theorem di_range2 {a b : Expr} {t : DTA} {bs : List (Option Nat)} (hg : Gl X "range") (hm : X.mg "range" = none) (ha : DA X W [a, b] bs t) (hs : starEach [a, b] X.env = [(false, eval a X.env), (false, eval b X.env)] := by rfl) (hs2 : starEach [b] X.env = [(false, eval b X.env)] := by rfl) :
    DI X W tg (.Call (.Name "range" p) [a, b] [] pos) (iRange2 t) := by
  refine ⟨fun B => PI.imp (pi_range2 hg hm (ha.run B) hs hs2) fun σ H R ⟨Φ, lim, g, E, r, hx, q⟩ => ?_, fun g Q Q' E E' hq hE q => ha.mono _ _ _ _ _ (fun τs g1 q1 => ?_) hE q⟩
  · refine ⟨Φ, lim, g, E, r, hx, ha.mono _ _ _ _ _ (fun τs g1 q1 vs H1 hl _ r1 => ?_) (fun _ _ _ z => z) q⟩
    split at q1
    · rename_i i j
      match vs, hl with
      | [v, w], _ =>
        have r2 : RepG X.K B lim σ H1 g1 ((v, .leaf (.int i)) :: (w, .leaf (.int j)) :: Φ) := r1
        obtain rfl := r2.leaf
        obtain rfl := r2.dropT.leaf
        exact ⟨i, j, rfl, q1.1, q1.2 _ [] H1 r2.dropT.dropT walks_range⟩
    · exact q1.elim
  · split at q1
    · exact ⟨q1.1, hq _ _ q1.2⟩
    · exact q1.elim
abbrev lpE (f : Ev → Prop) (D : DEnds) : DEnds := { nx := f, ct := f, bk := D.nx, rt := D.rt, ex := D.ex }
def loopL (gt : DTG) (body : DTS) (D : DEnds) : List T → Ev → Prop
  | [], g => D.nx g
  | t :: ts, g => gt t g fun g1 => body (lpE (loopL gt body D ts) D) g1
inductive Loop (gt : DTG) (body : DTS) (D : DEnds) (ts : List T) (g : Ev) : Prop where
  | mk (h : loopL gt body D ts g) : Loop gt body D ts g
theorem Loop.out {gt : DTG} {body : DTS} {D : DEnds} {ts : List T} {g : Ev} : Loop gt body D ts g → loopL gt body D ts g
  | ⟨h⟩ => h
def sFor (it : DTI) (gt : DTG) (body : DTS) : DTS := fun D g => it g (fun ts g1 => Loop gt body D ts g1) D.ex
theorem Loop.ind {gt : DTG} {body : DTS} {D : DEnds} {ts : List T} {g : Ev} (I : Nat → Ev → Prop) (h0 : I 0 g)
    (hs : ∀ (i : Nat) (t : T) (g : Ev), ts[i]? = some t → I i g → ∀ R : Ev → Prop, (∀ g', I (i + 1) g' → R g') → gt t g fun g1 => body (lpE R D) g1) (he : ∀ g, I ts.length g → D.nx g) : Loop gt body D ts g := by
  refine ⟨?_⟩
  have key : ∀ (rest : List T) (i : Nat) (g : Ev), ts.drop i = rest → i ≤ ts.length → I i g → loopL gt body D rest g := by
    intro rest
    induction rest with
    | nil =>
      intro i g e hi h
      have : i = ts.length := by
        have := congrArg List.length e
        rw [List.length_drop, List.length_nil] at this
        omega
      subst this
      exact he g h
    | cons t rest ih =>
      intro i g e hi h
      have ht : ts[i]? = some t := by
        have := congrArg (·[0]?) e
        simpa using this
      have hlt : i < ts.length := by
        have := congrArg List.length e
        rw [List.length_drop, List.length_cons] at this
        omega
      refine hs i t g ht h (loopL gt body D rest) fun g' h' => ih (i + 1) g' ?_ hlt h'
      have := congrArg (List.drop 1) e
      rw [List.drop_drop] at this
      simpa [Nat.add_comm] using this
  exact key ts 0 g rfl (Nat.zero_le _) h0
theorem loopL_mono {gt : DTG} {body : DTS} {D D' : DEnds} (hg : ∀ τ g Q Q', (∀ g', Q g' → Q' g') → gt τ g Q → gt τ g Q') (hb : ∀ D D' g, D.Le D' → body D g → body D' g) (h : D.Le D') : ∀ ts g, loopL gt body D ts g → loopL gt body D' ts g
  | [], g, q => h.nx g q
  | t :: ts, g, q => hg _ _ _ _ (fun g1 q1 => hb (lpE (loopL gt body D ts) D) (lpE (loopL gt body D' ts) D') _ ⟨loopL_mono hg hb h ts, h.rt, h.ex, h.nx, loopL_mono hg hb h ts⟩ q1) q
theorem ds_for {iter : Expr} {body : List Stmt} {it : DTI} {gt : DTG} {tb : DTS} (hp : PassesOwn (model X.prog X.w) X.A X.env X.xe) (hc : X.calm = true) (hi : DI X W tg iter it) (hg : DG X m tg gt) (hb : DSs X W m body tb)
    (hs : ∀ x, foldedSetIterable iter X.env x = pure x := by intro _; rfl) : DS X W m (.For tg iter body [] pos) (sFor it gt tb) := by
  refine .mk' (fun B σ0 => ps_for hp hc (hi.run B) (hg.run B σ0) (hb.run B σ0) hs) (fun B σ0 D σ H Φ lim g E r hk hX q => ?_) fun D D' g h q => hi.mono _ _ _ _ _ (fun ts g1 q1 => ⟨loopL_mono hg.mono hb.mono h ts g1 q1.out⟩) h.ex q
  refine ⟨Φ, lim, g, E, r, hX σ hk, hi.mono _ _ _ _ _ (fun ts g1 q1 J Ψ H1 r1 hw => ?_) (fun _ _ _ z => z) q⟩
  refine ⟨fun i n σ H => n = ts.length - i ∧ i ≤ ts.length ∧ ∃ g, RepG X.K B lim σ H g (Ψ ++ Φ) ∧ Kept m σ0 σ ∧ loopL gt tb (low X.K B m σ0 lim Φ D E) (ts.drop i) g, ⟨ts.length, by simp, Nat.zero_le _, g1, r1, hk, q1.out⟩, ?_⟩
  rintro i n σ H ⟨rfl, hi', g2, r2, hk2, q2⟩
  obtain ⟨w1, w2⟩ := hw σ H g2 Φ i r2
  by_cases hlt : i < ts.length
  · have e : ts.drop i = ts[i] :: ts.drop (i + 1) := (List.drop_eq_getElem_cons hlt)
    rw [e] at q2
    obtain ⟨go, yl⟩ := w1 ts[i] (by simp [hlt])
    refine .inr ⟨go, fun σ H => ∃ g, RepG X.K B lim σ H g (Ψ ++ Φ) ∧ Kept m σ0 σ ∧ loopL gt tb (low X.K B m σ0 lim Φ D E) (ts.drop (i + 1)) g, fun σ' H' ⟨g', a1, a2, a3⟩ => ⟨ts.length - (i + 1), by omega, rfl, hlt, g', a1, a2, a3⟩, fun x H' y => ?_⟩
    refine ⟨Ψ ++ Φ, lim, g2, ts[i], yl x H' y, hk2, hg.mono _ _ _ _ (fun g3 q3 σ3 H3 r3 hk3 => ?_) q2⟩
    refine ⟨Ψ ++ Φ, lim, g3, E, r3, hk3, hX, hb.mono (lpE (loopL gt tb (low X.K B m σ0 lim Φ D E) (ts.drop (i + 1))) (low X.K B m σ0 lim Φ D E)) _ _ ⟨fun g' q' σ' H' r' hk' => ⟨g', r', hk', q'⟩, fun _ _ z => z, fun _ _ _ z => z, fun g' q' σ' H' r' hk' => q' σ' H' r'.dropTs hk', fun g' q' σ' H' r' hk' => ⟨g', r', hk', q'⟩⟩ q3⟩
  · have e : ts.drop i = [] := List.drop_eq_nil_of_le (by omega)
    rw [e] at q2
    exact .inl ⟨w2 (by omega), q2 σ H r2.dropTs hk2⟩
def whileN (c : DTT) (body : DTS) (D : DEnds) : Nat → Ev → Prop
  | 0, _ => False
  | n + 1, g => c g (fun b g1 => ifB b (body (lpE (whileN c body D n) D) g1) (D.nx g1)) D.ex
inductive While (c : DTT) (body : DTS) (D : DEnds) (g : Ev) : Prop where
  | mk (h : ∃ n, whileN c body D n g) : While c body D g
theorem While.out {c : DTT} {body : DTS} {D : DEnds} {g : Ev} : While c body D g → ∃ n, whileN c body D n g
  | ⟨h⟩ => h
theorem While.ind {c : DTT} {body : DTS} {D : DEnds} {g : Ev} (I : Nat → Ev → Prop) (n : Nat) (h0 : I n g)
    (hs : ∀ (n : Nat) (g : Ev), I n g → ∀ R : Ev → Prop, (∀ m g', n = m + 1 → I m g' → R g') → c g (fun b g1 => ifB b (body (lpE R D) g1) (D.nx g1)) D.ex) : While c body D g := by
  refine ⟨n + 1, ?_⟩
  induction n generalizing g with
  | zero => exact hs 0 g h0 (whileN c body D 0) fun m g' e _ => by omega
  | succ n ih =>
    refine hs (n + 1) g h0 (whileN c body D (n + 1)) fun m g' e h => ?_
    have : m = n := by omega
    subst this
    exact ih h
def sWhile (c : DTT) (body : DTS) : DTS := fun D g => While c body D g
theorem whileN_mono {c : DTT} {body : DTS} {D D' : DEnds} (hc : ∀ g Q Q' E E', (∀ b g', Q b g' → Q' b g') → (∀ c fs g', E c fs g' → E' c fs g') → c g Q E → c g Q' E') (hb : ∀ D D' g, D.Le D' → body D g → body D' g) (h : D.Le D') : ∀ n g, whileN c body D n g → whileN c body D' n g
  | 0, g, q => q
  | n + 1, g, q => hc _ _ _ _ _ (fun b g1 q1 => by
      cases b with
      | true => exact hb (lpE (whileN c body D n) D) (lpE (whileN c body D' n) D') _ ⟨whileN_mono hc hb h n, h.rt, h.ex, h.nx, whileN_mono hc hb h n⟩ q1
      | false => exact h.nx _ q1) h.ex q
theorem ds_while {c : Expr} {body : List Stmt} {tc : DTT} {tb : DTS} (hp : PassesOwn (model X.prog X.w) X.A X.env X.xe) (hc : DT X W c tc) (hb : DSs X W m body tb) : DS X W m (.While c body [] pos) (sWhile tc tb) := by
  refine .mk' (fun B σ0 => ps_while hp (hc.run B) (hb.run B σ0)) (fun B σ0 D σ H Φ lim g E r hk hX q => ?_) fun D D' g h q => let ⟨n, q⟩ := q.out; ⟨n, whileN_mono hc.mono hb.mono h n g q⟩
  obtain ⟨n, q⟩ := q.out
  refine ⟨fun n σ H => ∃ g, RepG X.K B lim σ H g Φ ∧ Kept m σ0 σ ∧ whileN tc tb (low X.K B m σ0 lim Φ D E) n g, ⟨n, g, r, hk, q⟩, ?_⟩
  rintro n σ H ⟨g, r, hk, q⟩
  cases n with
  | zero => exact q.elim
  | succ n =>
    refine ⟨Φ, lim, g, E, r, hX σ hk, hc.mono _ _ _ _ _ (fun b g1 q1 H1 r1 => ?_) (fun _ _ _ z => z) q⟩
    cases b with
    | true =>
      rw [if_pos rfl]
      refine ⟨fun σ H => ∃ g, RepG X.K B lim σ H g Φ ∧ Kept m σ0 σ ∧ whileN tc tb (low X.K B m σ0 lim Φ D E) n g, fun σ' H' z => ⟨n, Nat.lt_succ_self n, z⟩, ?_⟩
      exact ⟨Φ, lim, g1, E, r1, hk, hX, hb.mono (lpE (whileN tc tb (low X.K B m σ0 lim Φ D E) n) (low X.K B m σ0 lim Φ D E)) _ _ ⟨fun g' q' σ' H' r' hk' => ⟨g', r', hk', q'⟩, fun _ _ z => z, fun _ _ _ z => z, fun _ z => z, fun g' q' σ' H' r' hk' => ⟨g', r', hk', q'⟩⟩ q1⟩
    | false =>
      rw [if_neg Bool.false_ne_true]
      exact q1 σ H1 r1 hk
end
end DL
set_option Elab.async false
set_option linter.all false
set_option maxRecDepth 100000
set_option maxHeartbeats 4000000
namespace DL
open PySem L2
def wipeE (g : Ev) : List Nat → Ev
  | [] => g
  | v :: vs => (wipeE g vs).set v none
theorem RepG.wipe {K : PySem.W.Frag} {B : Bs} {lim : List Addr} {σ : St} {H : Hp} {g : Ev} {Φ : Its} (h : RepG K B lim σ H g Φ) : ∀ vs : List Nat, RepG K B lim (L2.wipe σ vs) H (wipeE g vs) Φ
  | [] => h
  | v :: vs => (h.wipe vs).clear v none
theorem wipe_get (σ : St) : ∀ (vs : List Nat) (i : Nat), (L2.wipe σ vs)[i]? = if i ∈ vs ∧ i < σ.length then some none else σ[i]?
  | [], i => by simp [L2.wipe]
  | v :: vs, i => by
    unfold L2.wipe
    by_cases e : v = i
    · subst e
      by_cases hl : v < σ.length
      · rw [List.getElem?_set_self (by rw [wipe_length]; exact hl), if_pos ⟨List.mem_cons_self, hl⟩]
      · rw [List.getElem?_eq_none (by simpa [wipe_length] using hl), if_neg (fun z => hl z.2)]
        exact (List.getElem?_eq_none (by simpa using hl)).symm
    · rw [List.getElem?_set_ne e, wipe_get σ vs i]
      have : (i ∈ v :: vs ∧ i < σ.length) ↔ (i ∈ vs ∧ i < σ.length) := by
        rw [List.mem_cons]
        exact ⟨fun z => ⟨z.1.resolve_left (Ne.symm e), z.2⟩, fun z => ⟨.inr z.1, z.2⟩⟩
      by_cases h : i ∈ vs ∧ i < σ.length
      · rw [if_pos h, if_pos (this.mpr h)]
      · rw [if_neg h, if_neg (fun z => h (this.mp z))]
def mB (vs : List Nat) : Nat → Bool := fun i => !vs.contains i
theorem wipe_same {σ σ2 : St} {vs : List Nat} (k : Kept (mB vs) (L2.wipe σ vs) σ2) : L2.wipe σ2 vs = L2.wipe σ vs := by
  apply List.ext_getElem?
  intro i
  have hl : σ2.length = σ.length := k.1.trans (wipe_length σ vs)
  rw [wipe_get, wipe_get, hl]
  by_cases h : i ∈ vs ∧ i < σ.length
  · rw [if_pos h, if_pos h]
  · rw [if_neg h, if_neg h]
    by_cases hm : i ∈ vs
    · have hi : ¬ i < σ.length := fun z => h ⟨hm, z⟩
      rw [List.getElem?_eq_none (by omega), List.getElem?_eq_none (by omega)]
    · rw [k.2 i (by unfold mB; simpa using hm), wipe_get, if_neg h]
theorem EnvIs.swapS : ∀ {σ σ' : St} {g : Ev} {zs : Its}, EnvIs σ' g zs → σ.length = σ'.length → (∀ (i : Nat) (t : T), g[i]? = some (some t) → σ[i]? = σ'[i]?) → EnvIs σ g zs
  | [], _, _, _, .nil, _, _ => .nil
  | [], _, _, _, .skip _, e, _ => by cases e
  | [], _, _, _, .have _, e, _ => by cases e
  | x :: σ, _, _, _, .nil, e, _ => by cases e
  | x :: σ, _, _, _, .skip h, e, k => .skip (EnvIs.swapS h (by simpa using e) fun i t q => by simpa using k (i + 1) t (by simpa using q))
  | x :: σ, _, _, _, .have (v := v) (t := t) h, e, k => by
    have e0 : some x = some (some v) := by simpa using k 0 t rfl
    cases e0
    exact .have (EnvIs.swapS h (by simpa using e) fun i t q => by simpa using k (i + 1) t (by simpa using q))
def NoOwn (g : Ev) (vs : List Nat) : Prop := ∀ i ∈ vs, ∀ t : T, g[i]? ≠ some (some t)
theorem wipeE_length (g : Ev) : ∀ vs : List Nat, (wipeE g vs).length = g.length
  | [] => rfl
  | v :: vs => by unfold wipeE; rw [List.length_set, wipeE_length g vs]
theorem noOwn_wipe (g : Ev) : ∀ vs : List Nat, NoOwn (wipeE g vs) vs
  | [] => fun _ z => nomatch z
  | v :: vs => fun i hi t e => by
    unfold wipeE at e
    by_cases hv : v = i
    · subst hv
      by_cases hl : v < (wipeE g vs).length
      · rw [List.getElem?_set_self hl] at e; cases e
      · rw [List.getElem?_eq_none (by simpa using hl)] at e; cases e
    · rw [List.getElem?_set_ne hv] at e
      exact noOwn_wipe g vs i ((List.mem_cons.mp hi).resolve_left (Ne.symm hv)) t e
theorem RepG.unwipe {K : PySem.W.Frag} {B : Bs} {lim : List Addr} {σ : St} {H : Hp} {g : Ev} {Φ : Its} {vs : List Nat} (h : RepG K B lim (L2.wipe σ vs) H g Φ) (no : NoOwn g vs) : RepG K B lim σ H g Φ := by
  obtain ⟨F, zs, fp, en, o, f, hl⟩ := h
  refine ⟨F, zs, fp, en.swapS (wipe_length σ vs).symm fun i t q => ?_, o, f, hl⟩
  rw [wipe_get, if_neg fun z => no i z.1 t q]
abbrev W0 : WX := fun _ _ _ _ => False
abbrev noX : XP := fun _ _ _ => False
theorem liftX0 {K : PySem.W.Frag} {B : Bs} {W : WX} {σ : St} : liftX K B W σ noX := fun _ _ _ _ _ _ _ z => z.elim
structure DTs (X : Cx) (W : WX) (ifs : List Expr) (t : DTT) : Prop where
  run : ∀ B, PTs X ifs (liftT X.K B W t)
  mono : ∀ g Q Q' E E', (∀ b g', Q b g' → Q' b g') → (∀ c fs g', E c fs g' → E' c fs g') → t g Q E → t g Q' E'
def xYes : DTT := fun g Q _ => Q true g
theorem dts_nil {X : Cx} {W : WX} : DTs X W [] xYes := ⟨fun B => ⟨fun pins s σ H Q I ⟨Φ, lim, g, E, r, hx, q⟩ => pts_nil.run pins s σ H Q I (q H r)⟩, fun _ _ _ _ _ hq _ q => hq _ _ q⟩
theorem dts_one {X : Cx} {W : WX} {c : Expr} {t : DTT} (h : DT X W c t) : DTs X W [c] t := ⟨fun B => pts_one (h.run B), h.mono⟩
def lcL (gt : DTG) (tt : DTT) (te : DTE) (vs : List Nat) : List T → Ev → List T → (List T → Ev → Prop) → Prop
  | [], g, acc, R => R acc g
  | t :: ts, g, acc, R => gt t g fun g1 => tt g1 (fun b g2 => ifB b (te g2 (fun τ g3 => acc.length < sizeLine ∧ lcL gt tt te vs ts (wipeE g3 vs) (acc ++ [τ]) R) noX) (lcL gt tt te vs ts (wipeE g2 vs) acc R)) noX
inductive Lc (gt : DTG) (tt : DTT) (te : DTE) (vs : List Nat) (ts : List T) (g : Ev) (acc : List T) (R : List T → Ev → Prop) : Prop where
  | mk (h : lcL gt tt te vs ts g acc R) : Lc gt tt te vs ts g acc R
theorem Lc.out {gt : DTG} {tt : DTT} {te : DTE} {vs : List Nat} {ts : List T} {g : Ev} {acc : List T} {R : List T → Ev → Prop} : Lc gt tt te vs ts g acc R → lcL gt tt te vs ts g acc R
  | ⟨h⟩ => h
theorem Lc.ind {gt : DTG} {tt : DTT} {te : DTE} {vs : List Nat} {ts : List T} {g : Ev} {acc : List T} {R : List T → Ev → Prop} (I : Nat → Ev → List T → Prop) (h0 : I 0 g acc)
    (hs : ∀ (i : Nat) (t : T) (g : Ev) (acc : List T), ts[i]? = some t → I i g acc → ∀ R' : Ev → List T → Prop, (∀ g' acc', I (i + 1) g' acc' → R' g' acc') →
      gt t g fun g1 => tt g1 (fun b g2 => ifB b (te g2 (fun τ g3 => acc.length < sizeLine ∧ R' (wipeE g3 vs) (acc ++ [τ])) noX) (R' (wipeE g2 vs) acc)) noX)
    (he : ∀ g acc, I ts.length g acc → R acc g) : Lc gt tt te vs ts g acc R := by
  refine ⟨?_⟩
  have key : ∀ (rest : List T) (i : Nat) (g : Ev) (acc : List T), ts.drop i = rest → i ≤ ts.length → I i g acc → lcL gt tt te vs rest g acc R := by
    intro rest
    induction rest with
    | nil =>
      intro i g acc e hi h
      have : i = ts.length := by
        have := congrArg List.length e
        rw [List.length_drop, List.length_nil] at this
        omega
      subst this
      exact he g acc h
    | cons t rest ih =>
      intro i g acc e hi h
      have ht : ts[i]? = some t := by
        have := congrArg (·[0]?) e
        simpa using this
      have hlt : i < ts.length := by
        have := congrArg List.length e
        rw [List.length_drop, List.length_cons] at this
        omega
      refine hs i t g acc ht h (fun g' acc' => lcL gt tt te vs rest g' acc' R) fun g' acc' h' => ih (i + 1) g' acc' ?_ hlt h'
      have := congrArg (List.drop 1) e
      rw [List.drop_drop] at this
      simpa [Nat.add_comm] using this
  exact key ts 0 g acc rfl (Nat.zero_le _) h0
theorem Lc.fm {gt : DTG} {tt : DTT} {te : DTE} {vs : List Nat} {ts : List T} {g : Ev} {R : List T → Ev → Prop} (F : T → Option T) (hl : ts.length ≤ sizeLine)
    (hs : ∀ t ∈ ts, ∀ (acc : List T) (R' : Ev → List T → Prop), acc.length < sizeLine → (∀ τ, F t = some τ → R' g (acc ++ [τ])) → (F t = none → R' g acc) →
      gt t g fun g1 => tt g1 (fun b g2 => ifB b (te g2 (fun τ g3 => acc.length < sizeLine ∧ R' (wipeE g3 vs) (acc ++ [τ])) noX) (R' (wipeE g2 vs) acc)) noX)
    (he : R (ts.filterMap F) g) : Lc gt tt te vs ts g [] R := by
  refine Lc.ind (fun i g' acc => g' = g ∧ acc = (ts.take i).filterMap F ∧ i ≤ ts.length) ⟨rfl, by simp, Nat.zero_le _⟩ (fun i t g' acc ht h R' hR => ?_) fun g' acc h => ?_
  · obtain ⟨rfl, rfl, hi⟩ := h
    have hlt : i < ts.length := by
      rw [List.getElem?_eq_some_iff] at ht
      exact ht.1
    have e1 : ts.take (i + 1) = ts.take i ++ [t] := by
      rw [List.take_add_one, ht]
      rfl
    refine hs t (List.mem_of_getElem? ht) _ R' ?_ (fun τ hτ => hR _ _ ⟨rfl, ?_, hlt⟩) (fun hn => hR _ _ ⟨rfl, ?_, hlt⟩)
    · have h1 := List.length_filterMap_le F (ts.take i)
      rw [List.length_take] at h1
      omega
    · rw [e1, List.filterMap_append]
      simp [hτ]
    · rw [e1, List.filterMap_append]
      simp [hn]
  · obtain ⟨rfl, rfl, _⟩ := h
    rw [List.take_length]
    exact he
def xLc (it : DTI) (gt : DTG) (tt : DTT) (te : DTE) (vs : List Nat) : DTE := fun g Q E => it g (fun ts g1 => Lc gt tt te vs ts (wipeE g1 vs) [] (fun acc g2 => Q (.node true .lst acc) g2)) E
theorem lcL_mono {gt : DTG} {tt : DTT} {te : DTE} {vs : List Nat} (hg : ∀ τ g Q Q', (∀ g', Q g' → Q' g') → gt τ g Q → gt τ g Q') (ht : ∀ g Q Q' E E', (∀ b g', Q b g' → Q' b g') → (∀ c fs g', E c fs g' → E' c fs g') → tt g Q E → tt g Q' E')
    (he : ∀ g Q Q' E E', (∀ b g', Q b g' → Q' b g') → (∀ c fs g', E c fs g' → E' c fs g') → te g Q E → te g Q' E') : ∀ ts g acc R R', (∀ acc g, R acc g → R' acc g) → lcL gt tt te vs ts g acc R → lcL gt tt te vs ts g acc R'
  | [], g, acc, R, R', h, q => h _ _ q
  | t :: ts, g, acc, R, R', h, q => hg _ _ _ _ (fun g1 q1 => ht _ _ _ _ _ (fun b g2 q2 => by
      cases b with
      | true => exact he _ _ _ _ _ (fun τ g3 q3 => ⟨q3.1, lcL_mono hg ht he ts _ _ R R' h q3.2⟩) (fun _ _ _ z => z) q2
      | false => exact lcL_mono hg ht he ts _ _ R R' h q2) (fun _ _ _ z => z) q1) q
section
variable {X : Cx} {W : WX} {m : Nat → Bool} {tg iter elt e : Expr} {te : DTE} {pos p : Pos}
theorem lc_reads {it : DTI} {gt : DTG} {tt : DTT} {vs : List Nat} {B : Bs} {σ : St} {H : Hp} {Q : VK} (mi : ∀ g Q Q' E E', (∀ ts g', Q ts g' → Q' ts g') → (∀ c fs g', E c fs g' → E' c fs g') → it g Q E → it g Q' E')
    (mg : ∀ τ g Q Q', (∀ g', Q g' → Q' g') → gt τ g Q → gt τ g Q') (mt : ∀ g Q Q' E E', (∀ b g', Q b g' → Q' b g') → (∀ c fs g', E c fs g' → E' c fs g') → tt g Q E → tt g Q' E')
    (me : ∀ g Q Q' E E', (∀ b g', Q b g' → Q' b g') → (∀ c fs g', E c fs g' → E' c fs g') → te g Q E → te g Q' E') (h : liftE X.K B W (xLc it gt tt te vs) σ H Q) :
    tLc (liftI X.K B W it) (liftG X.K B (mB vs) (L2.wipe σ vs) gt) (liftT X.K B W0 tt) (liftE X.K B W0 te) vs σ H Q := by
  obtain ⟨Φ, lim, g, E, r, hx, q⟩ := h
  refine ⟨Φ, lim, g, E, r, hx, mi _ _ _ _ _ (fun ts g1 q1 J Ψ H1 r1 hw D hD => ?_) (fun _ _ _ z => z) q⟩
  have r2 : RepG X.K B lim σ (upd H1 D (.lst [])) g1 (Ψ ++ ((.ref D, .node true .lst []) :: Φ)) := (RepG.make (s := .lst) (zs := []) r1 hD).perm List.perm_middle.symm
  refine ⟨fun i n H => n = ts.length - i ∧ i ≤ ts.length ∧ ∃ g acc, NoOwn g vs ∧ RepG X.K B lim (L2.wipe σ vs) H g (Ψ ++ ((.ref D, .node true .lst acc) :: Φ)) ∧
    lcL gt tt te vs (ts.drop i) g acc (fun acc g2 => ∀ v H', RepG X.K B lim σ H' g2 ((v, .node true .lst acc) :: Φ) → Q v H'), ⟨ts.length, by simp, Nat.zero_le _, _, [], noOwn_wipe g1 vs, r2.wipe vs, q1.out⟩, ?_⟩
  rintro i n H ⟨rfl, hi, g2, acc, no, r3, q3⟩
  obtain ⟨w1, w2⟩ := hw _ H g2 _ i r3
  by_cases hlt : i < ts.length
  · have e : ts.drop i = ts[i] :: ts.drop (i + 1) := (List.drop_eq_getElem_cons hlt)
    rw [e] at q3
    obtain ⟨go, yl⟩ := w1 ts[i] (by simp [hlt])
    refine .inr ⟨go, fun H => ∃ g acc, NoOwn g vs ∧ RepG X.K B lim (L2.wipe σ vs) H g (Ψ ++ ((.ref D, .node true .lst acc) :: Φ)) ∧
      lcL gt tt te vs (ts.drop (i + 1)) g acc (fun acc g2 => ∀ v H', RepG X.K B lim σ H' g2 ((v, .node true .lst acc) :: Φ) → Q v H'), fun H' z => ⟨ts.length - (i + 1), by omega, rfl, hlt, z⟩, fun x H' y => ?_⟩
    refine ⟨_, lim, g2, ts[i], yl x H' y, kept_refl, mg _ _ _ _ (fun g4 q4 σ4 H4 r4 hk4 => ?_) q3⟩
    have ws := wipe_same hk4
    refine ⟨ws, _, lim, g4, noX, r4, liftX0, mt _ _ _ _ _ (fun b g5 q5 H5 r5 => ?_) (fun _ _ _ z => z) q4⟩
    cases b with
    | false =>
      rw [if_neg Bool.false_ne_true]
      refine ⟨_, acc, noOwn_wipe g5 vs, ?_, q5⟩
      have := r5.wipe vs
      rwa [ws] at this
    | true =>
      rw [if_pos rfl]
      refine ⟨_, lim, g5, noX, r5, liftX0, me _ _ _ _ _ (fun τ g6 q6 z H6 r6 => ?_) (fun _ _ _ z => z) q5⟩
      have p1 : ((z, τ) :: (Ψ ++ ((V.ref D, T.node true .lst acc) :: Φ))).Perm ((V.ref D, T.node true .lst acc) :: ((z, τ) :: (Ψ ++ Φ))) :=
        (List.Perm.cons _ List.perm_middle).trans (List.Perm.swap _ _ _)
      obtain ⟨a, us, ea, hl, ha, r7⟩ := (r6.perm p1).open_
      cases ea
      refine ⟨us, ha, by rw [hl]; exact q6.1, _, acc ++ [τ], noOwn_wipe g6 vs, ?_, q6.2⟩
      have r8 : RepG X.K B (D :: lim) σ4 H6 g6 ((us.zip acc ++ [(z, τ)]) ++ (Ψ ++ Φ)) := by
        rw [List.append_assoc]
        exact r7
      have r9 := r8.close (s := .lst)
      have e1 : ((us.zip acc ++ [(z, τ)]).map (·.1)) = us ++ [z] := by
        rw [List.map_append, List.map_fst_zip (by omega)]
        rfl
      have e2 : ((us.zip acc ++ [(z, τ)]).map (·.2)) = acc ++ [τ] := by
        rw [List.map_append, List.map_snd_zip (by omega)]
        rfl
      rw [e1, e2] at r9
      have r10 := (r9.perm List.perm_middle.symm).wipe vs
      rwa [ws] at r10
  · have e : ts.drop i = [] := List.drop_eq_nil_of_le (by omega)
    rw [e] at q3
    exact .inl ⟨w2 (by omega), q3 _ H (r3.unwipe no |>.dropTs)⟩
theorem xLc_mono {it : DTI} {gt : DTG} {tt : DTT} {vs : List Nat} (mi : ∀ g Q Q' E E', (∀ ts g', Q ts g' → Q' ts g') → (∀ c fs g', E c fs g' → E' c fs g') → it g Q E → it g Q' E')
    (mg : ∀ τ g Q Q', (∀ g', Q g' → Q' g') → gt τ g Q → gt τ g Q') (mt : ∀ g Q Q' E E', (∀ b g', Q b g' → Q' b g') → (∀ c fs g', E c fs g' → E' c fs g') → tt g Q E → tt g Q' E')
    (me : ∀ g Q Q' E E', (∀ b g', Q b g' → Q' b g') → (∀ c fs g', E c fs g' → E' c fs g') → te g Q E → te g Q' E') :
    ∀ g Q Q' E E', (∀ τ g', Q τ g' → Q' τ g') → (∀ c fs g', E c fs g' → E' c fs g') → xLc it gt tt te vs g Q E → xLc it gt tt te vs g Q' E' := fun g Q Q' E E' hq hE q =>
  mi _ _ _ _ _ (fun ts g1 q1 => ⟨lcL_mono mg mt me ts _ _ _ _ (fun _ _ z => hq _ _ z) q1.out⟩) hE q
theorem d_lc {ifs : List Expr} {scope : Scope} {own : List (Str × Nat)} {it : DTI} {gt : DTG} {tt : DTT} (hc : X.calm = true) (hN : X.N.Nodup) (hi : DI X W tg iter it) (ok : BlkOk X.N X.env.scope scope own)
    (hg : ∀ (s : Shared) (H : Hp) (C : Addr) (cl : List (Str × Addr)) (fp : List Addr), DG (X.blk s H scope (compEnvC scope cl C X.env) fp) (mB (own.map (·.2))) tg gt)
    (ht : ∀ (s : Shared) (H : Hp) (C : Addr) (cl : List (Str × Addr)) (fp : List Addr), DTs (X.blk s H scope (compEnvC scope cl C X.env) fp) W0 ifs tt)
    (he : ∀ (s : Shared) (H : Hp) (C : Addr) (cl : List (Str × Addr)) (fp : List Addr), DE (X.blk s H scope (compEnvC scope cl C X.env) fp) W0 elt te) (hs : ∀ x, foldedSetIterable iter X.env x = pure x := by intro _; rfl) :
    DE X W (.ListComp elt [⟨tg, iter, ifs, 0⟩] scope pos) (xLc it gt tt te (own.map (·.2))) :=
  have mg := fun (s : Shared) (H : Hp) => (hg s H 0 [] []).mono
  have mt := fun (s : Shared) (H : Hp) => (ht s H 0 [] []).mono
  have me := fun (s : Shared) (H : Hp) => (he s H 0 [] []).mono
  ⟨fun B => ⟨fun pins s σ H Q I h => (pe_lc (g := liftG X.K B (mB (own.map (·.2))) (L2.wipe σ (own.map (·.2))) gt) hc hN (hi.run B) ok (fun s H C cl fp => (hg s H C cl fp).run B _) (fun s H C cl fp => (ht s H C cl fp).run B) (fun s H C cl fp => (he s H C cl fp).run B) hs).run pins s σ H Q I
    (lc_reads hi.mono (mg s H) (mt s H) (me s H) h)⟩, xLc_mono hi.mono (mg X.s_0 X.H_0) (mt X.s_0 X.H_0) (me X.s_0 X.H_0)⟩
theorem ds_setLc {i : Nat} {y : Str} {py spos : Pos} {ifs : List Expr} {scope : Scope} {own : List (Str × Nat)} {it : DTI} {gt : DTG} {tt : DTT} (ow : Bool) (hc : X.calm = true) (hN : X.N.Nodup) (hy : X.N[i]? = some y) (hyl : X.env.scope.names.lookup y = some .local) (hmi : m i = false)
    (hsw : swapsWith (.ListComp elt [⟨tg, iter, ifs, 0⟩] scope pos) (some (.Name y py)) spos.line X.env = pure true) (hi : DI X W tg iter it) (ok : BlkOk X.N X.env.scope scope own)
    (hg : ∀ (s : Shared) (H : Hp) (C : Addr) (cl : List (Str × Addr)) (fp : List Addr), DG (X.blk s H scope (compEnvC scope cl C X.env) fp) (mB (own.map (·.2))) tg gt)
    (ht : ∀ (s : Shared) (H : Hp) (C : Addr) (cl : List (Str × Addr)) (fp : List Addr), DTs (X.blk s H scope (compEnvC scope cl C X.env) fp) W0 ifs tt)
    (he : ∀ (s : Shared) (H : Hp) (C : Addr) (cl : List (Str × Addr)) (fp : List Addr), DE (X.blk s H scope (compEnvC scope cl C X.env) fp) W0 elt te) (hs : ∀ x, foldedSetIterable iter X.env x = pure x := by intro _; rfl) :
    DS X W m (.Assign [.Name y py] (.ListComp elt [⟨tg, iter, ifs, 0⟩] scope pos) spos) (sSet ow i (xLc it gt tt te (own.map (·.2)))) := by
  have mg := fun (s : Shared) (H : Hp) => (hg s H 0 [] []).mono
  have mt := fun (s : Shared) (H : Hp) => (ht s H 0 [] []).mono
  have me := fun (s : Shared) (H : Hp) => (he s H 0 [] []).mono
  refine ⟨fun B σ0 => ⟨fun pins s σ H D I ⟨Φ, lim, g, E, r, hk, hX, q⟩ => ?_⟩, fun D D' g h q => xLc_mono hi.mono (mg X.s_0 X.H_0) (mt X.s_0 X.H_0) (me X.s_0 X.H_0) _ _ _ _ _ (fun τ g1 q1 => h.nx _ q1) h.ex q⟩
  refine (ps_setLc (g := liftG X.K B (mB (own.map (·.2))) (L2.wipe σ (own.map (·.2))) gt) (tt := liftT X.K B W0 tt) (te := liftE X.K B W0 te) (wi := liftI X.K B W it) hc hN hy hyl hsw (hi.run B) ok (fun s H C cl fp => (hg s H C cl fp).run B _) (fun s H C cl fp => (ht s H C cl fp).run B) (fun s H C cl fp => (he s H C cl fp).run B) hs).run pins s σ H D I ?_
  refine lc_reads hi.mono (mg s H) (mt s H) (me s H) ⟨Φ, lim, g, E, r, hX σ hk, xLc_mono hi.mono (mg s H) (mt s H) (me s H) _ _ _ _ _ (fun τ g1 q1 v H1 r1 => ?_) (fun _ _ _ z => z) q⟩
  refine q1 (σ.set i (some v)) H1 ?_ (hk.set hmi)
  cases ow with
  | true => exact r1.put'
  | false => exact r1.freezeT.put'
def rtIx : R2T := fun τ1 τ2 Q => match τ1, τ2 with
  | .node _ .lst ts, .leaf (.int i) => ∃ t, atI ts i = some t ∧ Q (frz t)
  | .node _ .tup ts, .leaf (.int i) => ∃ t, atI ts i = some t ∧ Q (frz t)
  | .leaf (.str z), .leaf (.int i) => z.length ≤ sizeLine ∧ ∃ c, atI z.cps.toList i = some c ∧ Q (.leaf (.str ⟨#[c]⟩))
  | _, _ => False
theorem atI_len {α β : Type} {xs : List α} {ys : List β} {i : Int} {y : β} (hl : xs.length = ys.length) (h : atI ys i = some y) : ∃ (j : Nat) (x : α), atI xs i = some x ∧ xs[j]? = some x ∧ ys[j]? = some y := by
  unfold atI at h ⊢
  rw [hl]
  cases e : ixN ys.length i with
  | none => rw [e] at h; cases h
  | some j =>
    rw [e] at h
    have h' : ys[j]? = some y := h
    have hj : j < xs.length := by
      rw [hl]
      rw [List.getElem?_eq_some_iff] at h'
      exact h'.1
    exact ⟨j, xs[j], by show xs[j]? = _; simp [hj], by simp [hj], h'⟩
theorem frzL_at : ∀ {ts : List T} {j : Nat} {t : T}, ts[j]? = some t → (frzL ts)[j]? = some (frz t)
  | [], _, _, h => by simp at h
  | a :: ts, 0, t, h => by
    simp at h
    subst h
    rfl
  | a :: ts, j + 1, t, h => by
    have := frzL_at (ts := ts) (j := j) (t := t) (by simpa using h)
    simpa [frzL] using this
theorem RepG.part {K : PySem.W.Frag} {B : Bs} {lim : List Addr} {σ : St} {H : Hp} {g : Ev} {Φ : Its} {v : V} {o : Bool} {s : Sh} {ts : List T} (h : RepG K B lim σ H g ((v, .node o s ts) :: Φ)) :
    ∃ a vs, v = .ref a ∧ vs.length = ts.length ∧ (Rd H a (s.mk vs) ∨ Konst K a vs s) ∧ ∀ (j : Nat) (t : T) (x : V), ts[j]? = some t → vs[j]? = some x → RepG K B lim σ H g ((x, frz t) :: Φ) := by
  obtain ⟨a, vs, e, hl, hr, r⟩ := h.parts
  refine ⟨a, vs, e, hl, hr, fun j t x ht hx => ?_⟩
  obtain ⟨y, hy, hz⟩ := zip_get (l := vs) (r := frzL ts) (by rw [hl, frzL_length]) (frzL_at ht)
  rw [hx] at hy
  cases hy
  exact (r.one hz).perm (List.Perm.swap _ _ _) |>.dropT
theorem op2_ix {K : PySem.W.Frag} : Op2 K (rIx K) rtIx := by
  refine ⟨fun B lim σ H g Φ v1 v2 τ1 τ2 Q r q => ?_, fun τ1 τ2 Q Q' hq q => ?_⟩
  · unfold rtIx at q
    split at q
    · rename_i o ts i
      obtain rfl := r.leaf
      obtain ⟨t, ht, q⟩ := q
      obtain ⟨a, vs, rfl, hl, hr, hp⟩ := r.dropT.part
      obtain ⟨j, x, e1, e2, e3⟩ := atI_len hl ht
      exact .inl ⟨a, vs, i, x, rfl, rfl, seqL hr, e1, q x H (hp j t x e3 e2)⟩
    · rename_i o ts i
      obtain rfl := r.leaf
      obtain ⟨t, ht, q⟩ := q
      obtain ⟨a, vs, rfl, hl, hr, hp⟩ := r.dropT.part
      obtain ⟨j, x, e1, e2, e3⟩ := atI_len hl ht
      exact .inr (.inl ⟨a, vs, i, x, rfl, rfl, seqT hr, e1, q x H (hp j t x e3 e2)⟩)
    · rename_i z i
      obtain rfl := r.leaf
      obtain rfl := r.dropT.leaf
      obtain ⟨hz, c, hc, q⟩ := q
      exact .inr (.inr ⟨z, i, c, rfl, rfl, hz, hc, q _ H r.dropT.dropT.addLeaf⟩)
    · exact q.elim
  · unfold rtIx at q
    split at q
    · obtain ⟨t, ht, q⟩ := q
      exact ⟨t, ht, hq _ q⟩
    · obtain ⟨t, ht, q⟩ := q
      exact ⟨t, ht, hq _ q⟩
    · obtain ⟨hz, c, hc, q⟩ := q
      exact ⟨hz, c, hc, hq _ q⟩
    · exact q.elim
theorem d_ix {a b : Expr} {ta tb : DTE} (ha : DE X W a ta) (hb : DE X W b tb) (hs : PlainIx b := by intro _ _; rfl) : DE X W (.Subscript a b pos) (xOp rtIx ta tb) := by
  refine ⟨fun B => PE.imp (pe_ix ix_seq (ha.run B) (hb.run B) hs) fun σ H Q ⟨Φ, lim, g, E, r, hx, q⟩ => ?_, fun g Q Q' E E' hq he q => ?_⟩
  · exact lift2 r hx hb.mono ha.mono q fun v1 v2 τ1 τ2 g2 H2 r2 q2 => op2_ix.1 B lim σ H2 g2 Φ v1 v2 τ1 τ2 Q r2 q2
  · exact ha.mono _ _ _ _ _ (fun τ1 g1 q1 => hb.mono _ _ _ _ _ (fun τ2 g2 q2 => (op2_ix (K := X.K)).2 _ _ _ _ (fun τ z => hq _ _ z) q2) he q1) he q
end
end DL
set_option Elab.async false
set_option linter.all false
set_option maxRecDepth 100000
set_option maxHeartbeats 4000000
namespace DL
open PySem L2
abbrev RNT := List T → (T → Prop) → Prop
def CallN (X : Cx) (f : Value) (r : List V → Hp → VK → Prop) (rt : RNT) : Prop :=
  CallR X f r ∧ (∀ (B : Bs) (lim : List Addr) (σ : St) (H : Hp) (g : Ev) (Φ : Its) (vs : List V) (τs : List T) (Q : VK), vs.length = τs.length → RepG X.K B lim σ H g (vs.zip τs ++ Φ) →
    rt τs (fun τ => ∀ v H', RepG X.K B lim σ H' g ((v, τ) :: Φ) → Q v H') → r vs H Q) ∧ ∀ τs Q Q', (∀ τ, Q τ → Q' τ) → rt τs Q → rt τs Q'
def xCB (rt : RNT) (t : DTA) : DTE := fun g Q E => t g (fun τs g1 => rt τs fun τ => Q τ g1) E
section
variable {X : Cx} {W : WX} {m : Nat → Bool} {a b c e : Expr} {es : List Expr} {ta tb tc te : DTE} {t : DTA} {bs : List (Option Nat)} {pos p : Pos} {x : Str}
theorem xCB_mono {rt : RNT} (hm : ∀ τs Q Q', (∀ τ, Q τ → Q' τ) → rt τs Q → rt τs Q') (ht : ∀ g Q Q' E E', (∀ τs g', Q τs g' → Q' τs g') → (∀ c fs g', E c fs g' → E' c fs g') → t g Q E → t g Q' E') :
    ∀ g Q Q' E E', (∀ τ g', Q τ g' → Q' τ g') → (∀ c fs g', E c fs g' → E' c fs g') → xCB rt t g Q E → xCB rt t g Q' E' := fun g Q Q' E E' hq he q =>
  ht _ _ _ _ _ (fun τs g1 q1 => hm _ _ _ (fun τ z => hq _ _ z) q1) he q
theorem d_callB {id : String} {r : List V → Hp → VK → Prop} {rt : RNT} (hc : CallN X (.builtin id) r rt) (hg : Gl X x) (hm : X.mg x = none) (hv : bootBuiltins x = some (.builtin id)) (ha : DA X W (e :: es) bs t) (hn : x ≠ "__name__" := by decide) (hdb : (x == ("__debug__" : Str)) = false := by decide)
    (he : starEach (e :: es) X.env = (false, eval e X.env) :: starEach es X.env := by rfl) (hpl : (backTo pos (starEach es X.env)).any (·.1) = false := by rfl) : DE X W (.Call (.Name x p) (e :: es) [] pos) (xCB rt t) := by
  refine ⟨fun B => PE.imp (pe_callB hc.1 hg hm hv (ha.run B) hn hdb he hpl) fun σ H Q ⟨Φ, lim, g, E, r, hx, q⟩ => ?_, xCB_mono hc.2.2 ha.mono⟩
  exact ⟨Φ, lim, g, E, r, hx, ha.mono _ _ _ _ _ (fun τs g1 q1 vs H1 hl _ r1 => hc.2.1 B lim σ H1 g1 Φ vs τs Q hl r1 (hc.2.2 _ _ _ (fun τ z v H' r' => z v H' r') q1)) (fun _ _ _ z => z) q⟩
theorem d_callTy {id : String} {r : List V → Hp → VK → Prop} {rt : RNT} (hc : CallN X (.type id) r rt) (hg : Gl X x) (hm : X.mg x = none) (hv : bootBuiltins x = some (.type id)) (ha : DA X W (e :: es) bs t) (hn : x ≠ "__name__" := by decide) (hdb : (x == ("__debug__" : Str)) = false := by decide)
    (he : starEach (e :: es) X.env = (false, eval e X.env) :: starEach es X.env := by rfl) (hpl : (backTo pos (starEach es X.env)).any (·.1) = false := by rfl) : DE X W (.Call (.Name x p) (e :: es) [] pos) (xCB rt t) := by
  refine ⟨fun B => PE.imp (pe_callTy hc.1 hg hm hv (ha.run B) hn hdb he hpl) fun σ H Q ⟨Φ, lim, g, E, r, hx, q⟩ => ?_, xCB_mono hc.2.2 ha.mono⟩
  exact ⟨Φ, lim, g, E, r, hx, ha.mono _ _ _ _ _ (fun τs g1 q1 vs H1 hl _ r1 => hc.2.1 B lim σ H1 g1 Φ vs τs Q hl r1 (hc.2.2 _ _ _ (fun τ z v H' r' => z v H' r') q1)) (fun _ _ _ z => z) q⟩
theorem one_leaf {K : PySem.W.Frag} {B : Bs} {lim : List Addr} {σ : St} {H : Hp} {g : Ev} {Φ : Its} {vs : List V} {w : V} (hl : vs.length = [T.leaf w].length) (r : RepG K B lim σ H g (vs.zip [T.leaf w] ++ Φ)) : vs = [w] ∧ RepG K B lim σ H g Φ := by
  match vs, hl with
  | [v], _ =>
    have r2 : RepG K B lim σ H g ((v, .leaf w) :: Φ) := r
    obtain rfl := r2.leaf
    exact ⟨rfl, r2.dropT⟩
theorem two_leaf {K : PySem.W.Frag} {B : Bs} {lim : List Addr} {σ : St} {H : Hp} {g : Ev} {Φ : Its} {vs : List V} {w w' : V} (hl : vs.length = [T.leaf w, T.leaf w'].length) (r : RepG K B lim σ H g (vs.zip [T.leaf w, T.leaf w'] ++ Φ)) : vs = [w, w'] ∧ RepG K B lim σ H g Φ := by
  match vs, hl with
  | [v, v'], _ =>
    have r2 : RepG K B lim σ H g ((v, .leaf w) :: (v', .leaf w') :: Φ) := r
    obtain rfl := r2.leaf
    obtain rfl := r2.dropT.leaf
    exact ⟨rfl, r2.dropT.dropT⟩
def rnAbs : RNT := fun τs Q => match τs with
  | [.leaf (.int i)] => Q (.leaf (.int (if i < 0 then -i else i)))
  | _ => False
theorem n_abs : CallN X (.builtin "abs") (fun xs H Q => ∃ i, xs = [.int i] ∧ Q (.int (if i < 0 then -i else i)) H) rnAbs := by
  refine ⟨call_abs, fun B lim σ H g Φ vs τs Q hl r q => ?_, fun τs Q Q' h q => ?_⟩
  · unfold rnAbs at q
    split at q
    · obtain ⟨rfl, r'⟩ := one_leaf hl r
      exact ⟨_, rfl, q _ _ r'.addLeaf⟩
    · exact q.elim
  · unfold rnAbs at q
    split at q
    · exact h _ q
    · exact q.elim
def rnInt : RNT := fun τs Q => match τs with
  | [.leaf (.int i)] => Q (.leaf (.int i))
  | [.leaf (.bl k)] => Q (.leaf (.int (if k then 1 else 0)))
  | _ => False
theorem n_int : CallN X (.type "int") (fun xs H Q => (∃ i, xs = [.int i] ∧ Q (.int i) H) ∨ ∃ k, xs = [.bl k] ∧ Q (.int (if k then 1 else 0)) H) rnInt := by
  refine ⟨call_int1, fun B lim σ H g Φ vs τs Q hl r q => ?_, fun τs Q Q' h q => ?_⟩
  · unfold rnInt at q
    split at q
    · obtain ⟨rfl, r'⟩ := one_leaf hl r
      exact .inl ⟨_, rfl, q _ _ r'.addLeaf⟩
    · obtain ⟨rfl, r'⟩ := one_leaf hl r
      exact .inr ⟨_, rfl, q _ _ r'.addLeaf⟩
    · exact q.elim
  · unfold rnInt at q
    split at q
    · exact h _ q
    · exact h _ q
    · exact q.elim
def rnLen : RNT := fun τs Q => match τs with
  | [.node _ .lst ts] => Q (.leaf (.int ts.length))
  | [.node _ .tup ts] => Q (.leaf (.int ts.length))
  | [.leaf (.str z)] => z.length ≤ sizeLine ∧ Q (.leaf (.int z.length))
  | _ => False
def rLenA (K : PySem.W.Frag) : List V → Hp → VK → Prop := fun xs H Q => (∃ p ys, xs = [.ref p] ∧ (SqL K H p ys ∨ SqT K H p ys) ∧ Q (.int ys.length) H) ∨ ∃ z, xs = [.str z] ∧ z.length ≤ sizeLine ∧ Q (.int z.length) H
theorem n_len : CallN X (.builtin "len") (rLenA X.K) rnLen := by
  refine ⟨call_len_seq.or call_len_str, fun B lim σ H g Φ vs τs Q hl r q => ?_, fun τs Q Q' h q => ?_⟩
  · unfold rnLen at q
    split at q
    · rename_i o ts
      match vs, hl with
      | [v], _ =>
        have r2 : RepG X.K B lim σ H g ((v, .node o .lst ts) :: Φ) := r
        obtain ⟨a, us, rfl, hl', hr⟩ := r2.node
        exact .inl ⟨a, us, rfl, .inl (seqL hr), by rw [hl']; exact q _ _ r2.dropT.addLeaf⟩
    · rename_i o ts
      match vs, hl with
      | [v], _ =>
        have r2 : RepG X.K B lim σ H g ((v, .node o .tup ts) :: Φ) := r
        obtain ⟨a, us, rfl, hl', hr⟩ := r2.node
        exact .inl ⟨a, us, rfl, .inr (seqT hr), by rw [hl']; exact q _ _ r2.dropT.addLeaf⟩
    · obtain ⟨rfl, r'⟩ := one_leaf hl r
      exact .inr ⟨_, rfl, q.1, q.2 _ _ r'.addLeaf⟩
    · exact q.elim
  · unfold rnLen at q
    split at q
    · exact h _ q
    · exact h _ q
    · exact ⟨q.1, h _ q.2⟩
    · exact q.elim
def rnMax2 : RNT := fun τs Q => match τs with
  | [.leaf (.int i), .leaf (.int j)] => Q (.leaf (.int (if j > i then j else i)))
  | _ => False
theorem n_max2 (hc : X.calm = true) : CallN X (.builtin "max") (fun xs H Q => ∃ i j, xs = [.int i, .int j] ∧ Q (.int (if j > i then j else i)) H) rnMax2 := by
  refine ⟨call_max2 hc, fun B lim σ H g Φ vs τs Q hl r q => ?_, fun τs Q Q' h q => ?_⟩
  · unfold rnMax2 at q
    split at q
    · obtain ⟨rfl, r'⟩ := two_leaf hl r
      exact ⟨_, _, rfl, q _ _ r'.addLeaf⟩
    · exact q.elim
  · unfold rnMax2 at q
    split at q
    · exact h _ q
    · exact q.elim
def rnMin2 : RNT := fun τs Q => match τs with
  | [.leaf (.int i), .leaf (.int j)] => Q (.leaf (.int (if j < i then j else i)))
  | _ => False
theorem n_min2 (hc : X.calm = true) : CallN X (.builtin "min") (fun xs H Q => ∃ i j, xs = [.int i, .int j] ∧ Q (.int (if j < i then j else i)) H) rnMin2 := by
  refine ⟨call_min2 hc, fun B lim σ H g Φ vs τs Q hl r q => ?_, fun τs Q Q' h q => ?_⟩
  · unfold rnMin2 at q
    split at q
    · obtain ⟨rfl, r'⟩ := two_leaf hl r
      exact ⟨_, _, rfl, q _ _ r'.addLeaf⟩
    · exact q.elim
  · unfold rnMin2 at q
    split at q
    · exact h _ q
    · exact q.elim
mutual
def toP : T → Option PyData
  | .leaf .non => some .none
  | .leaf (.bl b) => some (.bool b)
  | .leaf (.int i) => some (.int i)
  | .leaf (.str x) => some (.str x)
  | .leaf _ => none
  | .node _ .lst ts => (toPL ts).map .list
  | .node _ .tup ts => (toPL ts).map .tuple
  | .node _ _ _ => none
  | .pin _ _ => none
def toPL : List T → Option (List PyData)
  | [] => some []
  | t :: ts => match toP t with
    | none => none
    | some d => (toPL ts).map (d :: ·)
end
mutual
theorem OwnP.dp {K : PySem.W.Frag} {F : Addr → Prop} {H : Hp} : ∀ (t : T) {v : V} {fp : List Addr} {d : PyData}, OwnP K F H v t fp → toP t = some d → Dp K H v d
  | .leaf w, _, _, d, h, e => by
    cases h
    cases w <;> simp only [toP, Option.some.injEq, reduceCtorEq] at e
    · subst e; exact .non
    · subst e; exact .bl _
    · subst e; exact .int _
    · subst e; exact .str _
  | .pin _ _, _, _, _, _, e => by simp [toP] at e
  | .node o s ts, _, _, d, h, e => by
    cases s with
    | lst =>
      simp only [toP] at e
      cases q : toPL ts with
      | none => rw [q] at e; cases e
      | some ds =>
        rw [q] at e
        cases e
        cases h with
        | fz hf hr hk => exact .lst (SqL.of hr) (OwnL.dp ts hk q)
        | own ha hk => exact .lst (SqL.of ha) (OwnL.dp ts hk q)
    | tup =>
      simp only [toP] at e
      cases q : toPL ts with
      | none => rw [q] at e; cases e
      | some ds =>
        rw [q] at e
        cases e
        cases h with
        | fz hf hr hk => exact .tup (SqT.of hr) (OwnL.dp ts hk q)
        | kz hc hk => exact .tup (seqT (.inr hc)) (OwnL.dp ts hk q)
        | own ha hk => exact .tup (SqT.of ha) (OwnL.dp ts hk q)
    | dK _ => simp [toP] at e
    | dT _ => simp [toP] at e
    | ins _ _ _ => simp [toP] at e
theorem OwnL.dp {K : PySem.W.Frag} {F : Addr → Prop} {H : Hp} : ∀ (ts : List T) {vs : List V} {fp : List Addr} {ds : List PyData}, OwnL K F H vs ts fp → toPL ts = some ds → DpAll K H vs ds
  | [], _, _, _, h, e => by
    cases h
    simp only [toPL, Option.some.injEq] at e
    subst e
    exact .nil
  | t :: ts, _, _, ds, h, e => by
    cases h with
    | cons h1 h2 =>
      simp only [toPL] at e
      cases q1 : toP t with
      | none => rw [q1] at e; cases e
      | some d =>
        rw [q1] at e
        cases q2 : toPL ts with
        | none => simp [q2] at e
        | some ds' =>
          simp only [q2, Option.map_some, Option.some.injEq] at e
          subst e
          exact .cons (OwnP.dp t h1 q1) (OwnL.dp ts h2 q2)
end
theorem RepG.dp {K : PySem.W.Frag} {B : Bs} {lim : List Addr} {σ : St} {H : Hp} {g : Ev} {Φ : Its} {v : V} {τ : T} {d : PyData} (h : RepG K B lim σ H g ((v, τ) :: Φ)) (e : toP τ = some d) : Dp K H v d := by
  obtain ⟨F, zs, fp, en, oz, f, hl⟩ := h
  obtain ⟨fp', pf, o'⟩ := oz.perm (List.perm_middle (a := (v, τ)))
  obtain ⟨f1, f2, rfl, p1, o2⟩ := OwnZ.uncons (zs := zs ++ Φ) o'
  exact p1.dp τ e
def rtEq (neg : Bool) : R2T := fun τ1 τ2 Q => match τ1, τ2 with
  | .leaf (.int i), .leaf (.int j) => Q (.leaf (.bl (if neg then !decide (i = j) else decide (i = j))))
  | .leaf (.str i), .leaf (.str j) => Q (.leaf (.bl (if neg then !decide (i = j) else decide (i = j))))
  | .leaf (.bl i), .leaf (.bl j) => Q (.leaf (.bl (if neg then !decide (i = j) else decide (i = j))))
  | τ1, τ2 => ∃ d e, toP τ1 = some d ∧ toP τ2 = some e ∧ SeqAt.shaped d = true ∧ SeqAt.shaped e = true ∧ Q (.leaf (.bl (if neg then !PyData.eqv d e else PyData.eqv d e)))
theorem rtEq_mono {neg : Bool} : ∀ τ1 τ2 Q Q', (∀ τ, Q τ → Q' τ) → rtEq neg τ1 τ2 Q → rtEq neg τ1 τ2 Q' := by
  intro τ1 τ2 Q Q' hq q
  unfold rtEq at q ⊢
  split at q
  · exact hq _ q
  · exact hq _ q
  · exact hq _ q
  · obtain ⟨d, e, h1, h2, h3, h4, q⟩ := q
    exact ⟨d, e, h1, h2, h3, h4, hq _ q⟩
def rEqA (K : PySem.W.Frag) : R2 := fun x y H Q => rEq x y H Q ∨ rEqD K x y H Q
def rNeA (K : PySem.W.Frag) : R2 := fun x y H Q => rNe x y H Q ∨ rNeD K x y H Q
theorem op_eqA (hu : X.A.units + 64 < cLine) : OpR X (compareOp .Eq) (rEqA X.K) := fun pins s σ H x y v u Q I rx ry h => h.elim (op_eq pins s σ H x y v u Q I rx ry) (op_eqD hu pins s σ H x y v u Q I rx ry)
theorem op_neA (hu : X.A.units + 64 < cLine) : OpR X (compareOp .NotEq) (rNeA X.K) := fun pins s σ H x y v u Q I rx ry h => h.elim (op_ne pins s σ H x y v u Q I rx ry) (op_neD hu pins s σ H x y v u Q I rx ry)
theorem dec_vint (i j : Int) : decide (V.int i = V.int j) = decide (i = j) := by simp
theorem dec_vstr (i j : Str) : decide (V.str i = V.str j) = decide (i = j) := by simp
theorem dec_vbl (i j : Bool) : decide (V.bl i = V.bl j) = decide (i = j) := by simp
theorem op2_eq {K : PySem.W.Frag} : Op2 K (rEqA K) (rtEq false) := by
  refine ⟨fun B lim σ H g Φ v1 v2 τ1 τ2 Q r q => ?_, rtEq_mono⟩
  unfold rtEq at q
  split at q
  · obtain rfl := r.leaf
    obtain rfl := r.dropT.leaf
    refine .inl ⟨rfl, ?_⟩
    rw [dec_vint]
    exact q _ _ r.dropT.dropT.addLeaf
  · obtain rfl := r.leaf
    obtain rfl := r.dropT.leaf
    refine .inl ⟨rfl, ?_⟩
    rw [dec_vstr]
    exact q _ _ r.dropT.dropT.addLeaf
  · obtain rfl := r.leaf
    obtain rfl := r.dropT.leaf
    refine .inl ⟨rfl, ?_⟩
    rw [dec_vbl]
    exact q _ _ r.dropT.dropT.addLeaf
  · obtain ⟨d, e, h1, h2, h3, h4, q⟩ := q
    exact .inr ⟨d, e, r.dropT.dp h1, r.dp h2, h3, h4, q _ _ r.dropT.dropT.addLeaf⟩
theorem op2_ne {K : PySem.W.Frag} : Op2 K (rNeA K) (rtEq true) := by
  refine ⟨fun B lim σ H g Φ v1 v2 τ1 τ2 Q r q => ?_, rtEq_mono⟩
  unfold rtEq at q
  split at q
  · obtain rfl := r.leaf
    obtain rfl := r.dropT.leaf
    refine .inl ⟨rfl, ?_⟩
    rw [dec_vint]
    exact q _ _ r.dropT.dropT.addLeaf
  · obtain rfl := r.leaf
    obtain rfl := r.dropT.leaf
    refine .inl ⟨rfl, ?_⟩
    rw [dec_vstr]
    exact q _ _ r.dropT.dropT.addLeaf
  · obtain rfl := r.leaf
    obtain rfl := r.dropT.leaf
    refine .inl ⟨rfl, ?_⟩
    rw [dec_vbl]
    exact q _ _ r.dropT.dropT.addLeaf
  · obtain ⟨d, e, h1, h2, h3, h4, q⟩ := q
    exact .inr ⟨d, e, r.dropT.dp h1, r.dp h2, h3, h4, q _ _ r.dropT.dropT.addLeaf⟩
def rRepr (K : PySem.W.Frag) : List V → Hp → VK → Prop := fun xs H Q => ∃ v d, xs = [v] ∧ Dp K H v d ∧ d.showable = true ∧ d.hasDict = false ∧ d.depth ≤ 60 ∧ d.shown.length ≤ sizeLine ∧ Q (.str d.shown) H
theorem reads_leafy {h : Heap} {u : Value} {d : PyData} {as : List Addr} (r : Reads h u d as) : (∃ a, u = .ref a) ∨ (u = .none ∧ d = .none) ∨ (∃ b, u = .bool b ∧ d = .bool b) ∨ (∃ i t, u = .int i t ∧ d = .int i) ∨ ∃ x t, u = .str x t ∧ d = .str x := by
  cases r with
  | none => exact .inr (.inl ⟨rfl, rfl⟩)
  | bool b => exact .inr (.inr (.inl ⟨b, rfl, rfl⟩))
  | int i t => exact .inr (.inr (.inr (.inl ⟨i, t, rfl, rfl⟩)))
  | str x t => exact .inr (.inr (.inr (.inr ⟨x, t, rfl, rfl⟩)))
  | list h1 h2 h3 h4 => exact .inl ⟨_, rfl⟩
  | tuple h1 h2 h3 h4 => exact .inl ⟨_, rfl⟩
  | dict h1 h2 h3 h4 h5 => exact .inl ⟨_, rfl⟩
theorem call_reprD (hgd : X.A.guards = some []) (hu : X.A.units + 64 < cLine) : CallR X (.builtin "repr") (rRepr X.K) := by
  intro pins s σ H xs us Q I r h
  obtain ⟨v, d, rfl, hd, hs, hnd, hdep, hsz, q⟩ := h
  obtain ⟨u, rfl, ru⟩ := Vals.one r
  obtain ⟨as, rd⟩ := Dp.reads I d v u hd ru
  have fin : ∀ (h' : Heap) (t tk : Nat), (∀ b o, s.heap.get? b = some o → h'.get? b = some o) → EP X pins σ Q (.str d.shown t) { s with heap := h', toks := tk } := fun h' t tk k => ⟨.str d.shown, H, I.kept k, ⟨t, rfl⟩, q⟩
  rcases reads_leafy rd with ⟨a, rfl⟩ | ⟨rfl, rfl⟩ | ⟨b, rfl, rfl⟩ | ⟨i, t, rfl, rfl⟩ | ⟨x, t, rfl, rfl⟩
  · exact repr_of_reads' rd hs (fun z => by rw [hnd] at z; cases z) hgd (by omega) (fun _ _ z => z) (fun h' u tk k => fin h' u tk k) hsz
  · have := fin s.heap s.toks (s.toks + 1) fun _ _ z => z
    simp only [PyData.shown] at this
    exact PySem.P.repr_of_none this
  · have := fin s.heap s.toks (s.toks + 1) fun _ _ z => z
    simp only [PyData.shown] at this
    exact PySem.P.repr_of_bool this
  · have := fin s.heap s.toks (s.toks + 1) fun _ _ z => z
    simp only [PyData.shown] at this
    exact PySem.P.repr_of_int (by simpa [PyData.showable] using hs) this
  · have := fin s.heap s.toks (s.toks + 1) fun _ _ z => z
    simp only [PyData.shown] at this hsz
    exact PySem.P.repr_of_str this hsz
def rnRepr : RNT := fun τs Q => match τs with
  | [τ] => ∃ d, toP τ = some d ∧ d.showable = true ∧ d.hasDict = false ∧ d.depth ≤ 60 ∧ d.shown.length ≤ sizeLine ∧ Q (.leaf (.str d.shown))
  | _ => False
theorem n_repr (hgd : X.A.guards = some []) (hu : X.A.units + 64 < cLine) : CallN X (.builtin "repr") (rRepr X.K) rnRepr := by
  refine ⟨call_reprD hgd hu, fun B lim σ H g Φ vs τs Q hl r q => ?_, fun τs Q Q' h q => ?_⟩
  · unfold rnRepr at q
    split at q
    · rename_i τ
      match vs, hl with
      | [v], _ =>
        have r2 : RepG X.K B lim σ H g ((v, τ) :: Φ) := r
        obtain ⟨d, h1, h2, h3, h4, h5, q⟩ := q
        exact ⟨v, d, rfl, r2.dp h1, h2, h3, h4, h5, q _ _ r2.dropT.addLeaf⟩
    · exact q.elim
  · unfold rnRepr at q
    split at q
    · obtain ⟨d, h1, h2, h3, h4, h5, q⟩ := q
      exact ⟨d, h1, h2, h3, h4, h5, h _ q⟩
    · exact q.elim
end
end DL
set_option Elab.async false
set_option linter.all false
set_option maxRecDepth 100000
set_option maxHeartbeats 4000000
namespace DL
open PySem L2
theorem upd_self {H : Hp} {a : Addr} {o : HO} (h : H a = some o) : upd H a o = H := by
  funext b
  unfold upd
  split
  · rename_i e
    rw [e, h]
  · rfl
section
variable {K : PySem.W.Frag} {B : Bs} {lim : List Addr} {σ : St} {H H' : Hp} {g : Ev} {Φ Ψ : Its}
theorem set_perm {α : Type} : ∀ {l : List α} {i : Nat} {x : α} (y : α), l[i]? = some x → ∃ r, l.Perm (x :: r) ∧ (l.set i y).Perm (y :: r)
  | [], _, _, _, h => by simp at h
  | a :: l, 0, x, y, h => by
    simp at h
    subst h
    exact ⟨l, .refl _, .refl _⟩
  | a :: l, i + 1, x, y, h => by
    obtain ⟨r, p1, p2⟩ := set_perm (l := l) (i := i) (x := x) y (by simpa using h)
    exact ⟨a :: r, (List.Perm.cons _ p1).trans (List.Perm.swap _ _ _), (List.Perm.cons _ p2).trans (List.Perm.swap _ _ _)⟩
theorem zip_set {α β : Type} : ∀ {l : List α} {r : List β} {i : Nat} {a : α} {b : β}, (l.zip r).set i (a, b) = (l.set i a).zip (r.set i b)
  | [], _, _, _, _ => by simp
  | _ :: _, [], _, _, _ => by simp
  | x :: l, y :: r, 0, a, b => rfl
  | x :: l, y :: r, i + 1, a, b => by
    simp only [List.zip_cons_cons, List.set_cons_succ, List.cons.injEq, true_and]
    exact zip_set
theorem RepG.partO {i : Nat} {s : Sh} {ts : List T} {j : Nat} {t : T} (h : RepG K B lim σ H g Φ) (e : g[i]? = some (some (.node true s ts))) (ht : ts[j]? = some t) :
    ∃ a us x, σ[i]? = some (some (.ref a)) ∧ us.length = ts.length ∧ H a = some (s.mk us) ∧ us[j]? = some x ∧ RepG K B lim σ H (g.set i (some (.node true s (ts.set j (frz t))))) ((x, frz t) :: Φ) := by
  obtain ⟨v, hv, r1⟩ := h.move e
  obtain ⟨a, us, rfl, hl, ha, r2⟩ := r1.open_
  obtain ⟨x, hx, hz⟩ := zip_get (l := us) (r := ts) hl ht
  obtain ⟨r, p1, p2⟩ := set_perm (x, frz t) hz
  have r3 : RepG K B (a :: lim) σ H (g.set i none) ((x, t) :: (r ++ Φ)) := r2.perm (List.Perm.append_right Φ p1)
  have r4 := r3.freezeT.dup (frz_frz t)
  have r5 : RepG K B (a :: lim) σ H (g.set i none) (us.zip (ts.set j (frz t)) ++ ((x, frz t) :: Φ)) := by
    refine r4.perm ?_
    have e1 : us.zip (ts.set j (frz t)) = (us.zip ts).set j (x, frz t) := by
      rw [zip_set, set_at hx]
    rw [e1]
    refine (List.Perm.cons _ (List.Perm.append_right Φ p2.symm)).trans ?_
    exact List.perm_middle.symm
  have hl2 : us.length = (ts.set j (frz t)).length := by rw [List.length_set]; exact hl
  have r6 := r5.close (s := s)
  rw [List.map_fst_zip (by omega), List.map_snd_zip (by omega), upd_self ha] at r6
  have r7 := r6.back hv
  rw [List.set_set] at r7
  exact ⟨a, us, x, hv, hl, ha, hx, r7⟩
theorem RepG.setO {i : Nat} {s : Sh} {ts : List T} {j : Nat} {w : V} {τ : T} (h : RepG K B lim σ H g ((w, τ) :: Φ)) (e : g[i]? = some (some (.node true s ts))) (hj : j < ts.length) :
    ∃ a us, σ[i]? = some (some (.ref a)) ∧ us.length = ts.length ∧ H a = some (s.mk us) ∧ RepG K B lim σ (upd H a (s.mk (us.set j w))) (g.set i (some (.node true s (ts.set j τ)))) Φ := by
  obtain ⟨v, hv, r1⟩ := h.move e
  obtain ⟨a, us, rfl, hl, ha, r2⟩ := r1.open_
  have ht : ts[j]? = some ts[j] := by simp [hj]
  obtain ⟨x, hx, hz⟩ := zip_get (l := us) (r := ts) hl ht
  obtain ⟨r, p1, p2⟩ := set_perm (w, τ) hz
  have r3 : RepG K B (a :: lim) σ H (g.set i none) ((x, ts[j]) :: (r ++ ((w, τ) :: Φ))) := r2.perm (List.Perm.append_right _ p1)
  have r5 : RepG K B (a :: lim) σ H (g.set i none) ((us.set j w).zip (ts.set j τ) ++ Φ) := by
    refine r3.dropT.perm ?_
    rw [← zip_set]
    exact List.perm_middle.trans (List.Perm.append_right Φ p2.symm)
  have hl2 : (us.set j w).length = (ts.set j τ).length := by rw [List.length_set, List.length_set]; exact hl
  have r6 := r5.close (s := s)
  rw [List.map_fst_zip (by omega), List.map_snd_zip (by omega)] at r6
  have r7 := r6.back hv
  rw [List.set_set] at r7
  exact ⟨a, us, hv, hl, ha, r7⟩
theorem RepG.renew {i : Nat} {s s' : Sh} {ts : List T} (h : RepG K B lim σ H g Φ) (e : g[i]? = some (some (.node true s ts))) :
    ∃ a us, σ[i]? = some (some (.ref a)) ∧ us.length = ts.length ∧ H a = some (s.mk us) ∧ ∀ (zs Ψ : Its), (zs ++ Ψ).Perm (us.zip ts ++ Φ) →
      RepG K B lim σ (upd H a (s'.mk (zs.map (·.1)))) (g.set i (some (.node true s' (zs.map (·.2))))) Ψ := by
  obtain ⟨v, hv, r1⟩ := h.move e
  obtain ⟨a, us, rfl, hl, ha, r2⟩ := r1.open_
  refine ⟨a, us, hv, hl, ha, fun zs Ψ p => ?_⟩
  have r6 := (r2.perm p.symm).close (s := s')
  have r7 := r6.back hv
  rwa [List.set_set] at r7
theorem RepG.slot {i : Nat} {t : T} (h : RepG K B lim σ H g Φ) (e : g[i]? = some (some t)) : ∃ v, σ[i]? = some (some v) := by
  obtain ⟨v, hv, _⟩ := h.move e
  exact ⟨v, hv⟩
end
section
variable {X : Cx} {W : WX} {m : Nat → Bool} {a b c e : Expr} {es : List Expr} {ta tb tc te : DTE} {t : DTA} {bs : List (Option Nat)} {pos p : Pos} {x : Str}
def atSlot (i : Nat) (g : Ev) (P : T → Prop) : Prop := match g[i]? with
  | some (some t) => P t
  | _ => False
theorem atSlot_mono {i : Nat} {g : Ev} {P P' : T → Prop} (h : ∀ t, P t → P' t) (q : atSlot i g P) : atSlot i g P' := by
  unfold atSlot at q ⊢
  split at q
  · exact h _ q
  · exact q.elim
theorem atSlot_of {i : Nat} {g : Ev} {P : T → Prop} (q : atSlot i g P) : ∃ t, g[i]? = some (some t) ∧ P t := by
  unfold atSlot at q
  split at q
  · rename_i t h
    exact ⟨t, h, q⟩
  · exact q.elim
def ownL : T → (List T → Prop) → Prop
  | .node true .lst ts, P => P ts
  | _, _ => False
theorem ownL_mono {t : T} {P P' : List T → Prop} (h : ∀ ts, P ts → P' ts) (q : ownL t P) : ownL t P' := by
  unfold ownL at q
  split at q
  · exact h _ q
  · exact q.elim
theorem ownL_of {t : T} {P : List T → Prop} (q : ownL t P) : ∃ ts, t = .node true .lst ts ∧ P ts := by
  unfold ownL at q
  split at q
  · exact ⟨_, rfl, q⟩
  · exact q.elim
def isI : T → (Int → Prop) → Prop
  | .leaf (.int i), P => P i
  | _, _ => False
theorem isI_mono {t : T} {P P' : Int → Prop} (h : ∀ i, P i → P' i) (q : isI t P) : isI t P' := by
  unfold isI at q
  split at q
  · exact h _ q
  · exact q.elim
theorem isI_of {t : T} {P : Int → Prop} (q : isI t P) : ∃ i, t = .leaf (.int i) ∧ P i := by
  unfold isI at q
  split at q
  · exact ⟨_, rfl, q⟩
  · exact q.elim
theorem ixN_lt {n : Nat} {k : Int} {j : Nat} (h : ixN n k = some j) : j < n := (ixN_seq h).2.1
def xIxO (i : Nat) (tb : DTE) : DTE := fun g Q E => atSlot i g fun _ => tb g (fun τ2 g1 => isI τ2 fun k => atSlot i g1 fun t0 => ownL t0 fun ts => ∃ j t, ixN ts.length k = some j ∧ ts[j]? = some t ∧ Q (frz t) (g1.set i (some (.node true .lst (ts.set j (frz t)))))) E
theorem d_ixO (i : Nat) (ha : PE X a (tVar i)) (hb : DE X W b tb) (hs : PlainIx b := by intro _ _; rfl) : DE X W (.Subscript a b pos) (xIxO i tb) := by
  refine ⟨fun B => PE.imp (pe_ix ix_list ha (hb.run B) hs) fun σ H Q ⟨Φ, lim, g, E, r, hx, q⟩ => ?_, fun g Q Q' E E' hq he q => atSlot_mono (fun _ q => hb.mono _ _ _ _ _ (fun τ g1 q1 => isI_mono (fun k q2 => atSlot_mono (fun t0 q3 => ownL_mono (fun ts ⟨j, t, h1, h2, q4⟩ => ⟨j, t, h1, h2, hq _ _ q4⟩) q3) q2) q1) he q) q⟩
  obtain ⟨t0, h0, q⟩ := atSlot_of q
  obtain ⟨v, hv⟩ := r.slot h0
  refine ⟨v, hv, Φ, lim, g, E, r, hx, hb.mono _ _ _ _ _ (fun τ2 g1 q1 v2 H2 r2 => ?_) (fun _ _ _ z => z) q⟩
  obtain ⟨k, rfl, q1⟩ := isI_of q1
  obtain ⟨t1, h1, q1⟩ := atSlot_of q1
  obtain ⟨ts, rfl, j, t, hj, ht, q1⟩ := ownL_of q1
  obtain rfl := r2.leaf
  obtain ⟨ad, us, y, hv2, hl, hH, hy, r3⟩ := r2.dropT.partO h1 ht
  rw [hv] at hv2
  cases hv2
  refine ⟨ad, us, k, y, rfl, rfl, SqL.of hH, ?_, q1 _ _ r3⟩
  unfold atI
  rw [hl, hj]
  exact hy
def gSetI (i : Nat) (ti : DTE) : DTG := fun τ g Q => atSlot i g fun _ => ti g (fun τ2 g1 => isI τ2 fun k => atSlot i g1 fun t0 => ownL t0 fun ts => ∃ j, ixN ts.length k = some j ∧ Q (g1.set i (some (.node true .lst (ts.set j τ))))) noX
theorem dg_setI {o ix : Expr} {ti : DTE} (i : Nat) (ho : PE X o (tVar i)) (hi : DE X W0 ix ti) (ha : ∀ v, assign (.Subscript o ix pos) X.env v = (do
      let ov ← holding [v] (eval o X.env)
      let iv ← holding [v, ov] (eval ix X.env)
      standAt pos
      holding [v, ov, iv] (setItem ov iv v)
      release [v, ov, iv] []) := by intro _; rfl) : DG X m (.Subscript o ix pos) (gSetI i ti) := by
  refine ⟨fun B σ0 => PG.imp (pg_sub ho (hi.run B) set_list ha) fun v σ H Q ⟨Φ, lim, g, τ, r, hk, q⟩ => ?_, fun τ g Q Q' h q => atSlot_mono (fun _ q => hi.mono _ _ _ _ _ (fun τ g1 q1 => isI_mono (fun k q2 => atSlot_mono (fun t0 q3 => ownL_mono (fun ts ⟨j, h1, q4⟩ => ⟨j, h1, h _ q4⟩) q3) q2) q1) (fun _ _ _ z => z) q) q⟩
  obtain ⟨t0, h0, q⟩ := atSlot_of q
  obtain ⟨v0, hv⟩ := r.slot h0
  refine ⟨v0, hv, (v, τ) :: Φ, lim, g, noX, r, liftX0, hi.mono _ _ _ _ _ (fun τ2 g1 q1 v2 H2 r2 => ?_) (fun _ _ _ z => z) q⟩
  obtain ⟨k, rfl, q1⟩ := isI_of q1
  obtain ⟨t1, h1, q1⟩ := atSlot_of q1
  obtain ⟨ts, rfl, j, hj, q1⟩ := ownL_of q1
  obtain rfl := r2.leaf
  obtain ⟨ad, us, hv2, hl, hH, r3⟩ := r2.dropT.setO h1 (ixN_lt hj)
  rw [hv] at hv2
  cases hv2
  exact ⟨ad, us, k, j, rfl, rfl, hH, by rw [hl]; exact hj, q1 _ _ r3 hk⟩
theorem get_list : PGet X (fun o i H Q => ∃ (p : Addr) (xs : List V) (k : Int) (v : V), o = .ref p ∧ i = .int k ∧ 0 ≤ k ∧ SqL X.K H p xs ∧ xs[k.toNat]? = some v ∧ Q v H) := by
  intro pins s σ H o i ov iv Q I ro ri h
  obtain ⟨pa, xs, k, v, rfl, rfl, h0, hs, hv, q⟩ := h
  cases ro
  obtain ⟨t, rfl⟩ := ri
  obtain ⟨its, r, pl, hz⟩ := I.list hs
  obtain ⟨w, ew, rw'⟩ := r.get hv
  have hl := r.length
  have hn := line63
  have hk : k.toNat < xs.length := by
    rw [List.getElem?_eq_some_iff] at hv
    exact hv.1
  exact wpAny_getItem_list pl.isList h0 (by omega) (by simpa using ew) ⟨v, H, I, rw', q⟩
def isLf : T → (V → Prop) → Prop
  | .leaf w, P => P w
  | _, _ => False
theorem isLf_mono {t : T} {P P' : V → Prop} (h : ∀ i, P i → P' i) (q : isLf t P) : isLf t P' := by
  unfold isLf at q
  split at q
  · exact h _ q
  · exact q.elim
theorem isLf_of {t : T} {P : V → Prop} (q : isLf t P) : ∃ i, t = .leaf i ∧ P i := by
  unfold isLf at q
  split at q
  · exact ⟨_, rfl, q⟩
  · exact q.elim
def sAugI (i : Nat) (ti : DTE) (rt : R2T) (te : DTE) : DTS := fun D g => atSlot i g fun _ => ti g (fun τ2 g1 => isI τ2 fun k => 0 ≤ k ∧ atSlot i g1 fun t0 => ownL t0 fun ts => ∃ t, ts[k.toNat]? = some t ∧ isLf t fun w => te g1 (fun τe g2 => rt (.leaf w) τe fun τ =>
  atSlot i g2 fun t2 => ownL t2 fun ts2 => k.toNat < ts2.length ∧ D.nx (g2.set i (some (.node true .lst (ts2.set k.toNat τ))))) D.ex) D.ex
theorem ds_augI {o ix : Expr} {ti : DTE} {op : Operator} {rr : R2} {rt : R2T} {tpos : Pos} (i : Nat) (ho : PE X o (tVar i)) (hi : DE X W ix ti) (he : DE X W e te) (hp : OpR X (inplaceOp op) rr) (hr : Op2 X.K rr rt)
    (ha : ∀ ov iv new, augStore ix ov iv new = (do holding [new, ov, iv] (setItem ov iv new); release [new, ov, iv] []; pure .next) := by intros; rfl) : DS X W m (.AugAssign (.Subscript o ix tpos) op e pos) (sAugI i ti rt te) := by
  refine .mk' (fun B σ0 => ps_augS ho (hi.run B) get_list (he.run B) hp set_list ha) (fun B σ0 D σ H Φ lim g E r hk hX q => ?_) fun D D' g h q => ?_
  · obtain ⟨t0, h0, q⟩ := atSlot_of q
    obtain ⟨v0, hv⟩ := r.slot h0
    refine ⟨v0, hv, Φ, lim, g, E, r, hX σ hk, hi.mono _ _ _ _ _ (fun τ2 g1 q1 v2 H2 r2 => ?_) (fun _ _ _ z => z) q⟩
    obtain ⟨k, rfl, hk0, q1⟩ := isI_of q1
    obtain ⟨t1, h1, q1⟩ := atSlot_of q1
    obtain ⟨ts, rfl, t, ht, q1⟩ := ownL_of q1
    obtain ⟨w, rfl, q1⟩ := isLf_of q1
    obtain rfl := r2.leaf
    obtain ⟨ad, us, y, hv2, hl, hH, hy, r3⟩ := r2.dropT.partO h1 ht
    rw [hv] at hv2
    cases hv2
    obtain rfl := r3.leaf
    have r4 : RepG X.K B lim σ H2 g1 ((y, .leaf y) :: Φ) := by
      have e1 : ts.set k.toNat (frz (.leaf y)) = ts := by
        show ts.set k.toNat (.leaf y) = ts
        exact set_at ht
      rw [e1, set_at h1] at r3
      exact r3
    refine ⟨ad, us, k, y, rfl, rfl, hk0, SqL.of hH, hy, (y, .leaf y) :: Φ, lim, g1, E, r4, hX σ hk, he.mono _ _ _ _ _ (fun τe g2 q2 v3 H3 r5 => ?_) (fun _ _ _ z => z) q1⟩
    refine hr.1 B lim σ H3 g2 Φ y v3 _ τe _ r5 (hr.2 _ _ _ _ (fun τ q3 v4 H4 r6 => ?_) q2)
    obtain ⟨t2, h2, q3⟩ := atSlot_of q3
    obtain ⟨ts2, rfl, hlt, q3⟩ := ownL_of q3
    obtain ⟨ad2, us2, hv3, hl2, hH2, r7⟩ := r6.setO h2 hlt
    rw [hv] at hv3
    cases hv3
    refine ⟨ad, us2, k, k.toNat, rfl, rfl, hH2, ?_, q3 _ _ r7 hk⟩
    unfold ixN
    rw [if_pos hk0, hl2, if_pos (by omega)]
  · refine atSlot_mono (fun _ q => hi.mono _ _ _ _ _ (fun τ g1 q1 => isI_mono (fun k q2 => ⟨q2.1, atSlot_mono (fun t0 q3 => ownL_mono (fun ts ⟨t, h1, q4⟩ => ⟨t, h1, isLf_mono (fun w q5 => ?_) q4⟩) q3) q2.2⟩) q1) h.ex q) q
    exact he.mono _ _ _ _ _ (fun τe g2 q6 => hr.2 _ _ _ _ (fun τ q7 => atSlot_mono (fun t2 q8 => ownL_mono (fun ts2 q9 => ⟨q9.1, h.nx _ q9.2⟩) q8) q7) q6) h.ex q5
def sAug (i : Nat) (rt : R2T) (te : DTE) : DTS := fun D g => atSlot i g fun t0 => isLf t0 fun w => te g (fun τe g1 => rt (.leaf w) τe fun τ => D.nx (g1.set i (some (frz τ)))) D.ex
theorem ds_aug {i : Nat} {op : Operator} {rr : R2} {rt : R2T} {pos' : Pos} (hN : X.N.Nodup) (hi : X.N[i]? = some x) (hx : Loc X.env.scope x) (he : DE X W e te) (hp : OpR X (inplaceOp op) rr) (hr : Op2 X.K rr rt) (hm : m i = false)
    (hf : X.fn x = true ∨ X.env.scope.names.lookup x = some .local := by first | exact .inl rfl | exact .inr rfl | assumption) : DS X W m (.AugAssign (.Name x pos') op e pos) (sAug i rt te) := by
  refine .mk' (fun B σ0 => ps_aug hN hi hx (he.run B) hp hf) (fun B σ0 D σ H Φ lim g E r hk hX q => ?_) fun D D' g h q => ?_
  · obtain ⟨t0, h0, q⟩ := atSlot_of q
    obtain ⟨w, rfl, q⟩ := isLf_of q
    obtain ⟨v0, hv, r1⟩ := r.look h0 rfl
    obtain rfl := r1.leaf
    refine ⟨v0, hv, (v0, .leaf v0) :: Φ, lim, g, E, r1, hX σ hk, he.mono _ _ _ _ _ (fun τe g1 q1 v1 H1 r2 => ?_) (fun _ _ _ z => z) q⟩
    exact hr.1 B lim σ H1 g1 Φ v0 v1 _ τe _ r2 (hr.2 _ _ _ _ (fun τ q2 v2 H2 r3 => q2 _ _ r3.freezeT.put' (hk.set hm)) q1)
  · exact atSlot_mono (fun t0 q => isLf_mono (fun w q => he.mono _ _ _ _ _ (fun τe g1 q1 => hr.2 _ _ _ _ (fun τ q2 => h.nx _ q2) q1) h.ex q) q) q
def xApp (i : Nat) (te : DTE) : DTE := fun g Q E => atSlot i g fun t0 => ownL t0 fun _ => te g (fun τ g1 => atSlot i g1 fun t1 => ownL t1 fun ts => ts.length < sizeLine ∧ Q (.leaf .non) (g1.set i (some (.node true .lst (ts ++ [τ]))))) E
theorem d_app {o : Expr} {apos cpos : Pos} (i : Nat) (ho : PE X o (tVar i)) (he : DE X W e te) (hbase : attributeBase o "append" X.env (eval o X.env) = eval o X.env := by rfl)
    (hfew : ((backTo cpos (starEach [e] X.env)).all (fun x => !x.1) && (backToKw cpos (keywordEach [] X.env)).all (fun x => x.1.isSome) && decide ([e].length + ([] : List Keyword).length + (if ([] : List Keyword).isEmpty then 0 else 1) < 30)) = true := by rfl)
    (hline : (apos.endLine == cpos.line) = true := by rfl) (hs : starEach [e] X.env = (false, eval e X.env) :: starEach [] X.env := by rfl) (hplain : (backTo cpos (starEach [] X.env)).any (·.1) = false := by rfl) : DE X W (.Call (.Attribute o "append" apos) [e] [] cpos) (xApp i te) := by
  refine ⟨fun B => PE.imp (pe_bm PySem.F.plainAttrs_list PySem.F.slot_list_append PySem.F.type_list_append mt_append ho (pa_cons (he.run B) pa_nil hs) hbase hfew hline hs hplain) fun σ H Q ⟨Φ, lim, g, E, r, hx, q⟩ => ?_, fun g Q Q' E E' hq hE q => ?_⟩
  · obtain ⟨t0, h0, q⟩ := atSlot_of q
    obtain ⟨ts0, rfl, q⟩ := ownL_of q
    obtain ⟨ad, us, hv, hl, hH, _⟩ := r.renew (s' := .lst) h0
    refine ⟨.ref ad, hv, .inl ⟨rfl, us, SqL.of hH⟩, Φ, lim, g, E, r, hx, he.mono _ _ _ _ _ (fun τ g1 q1 w H1 r1 => ?_) (fun _ _ _ z => z) q⟩
    obtain ⟨t1, h1, q1⟩ := atSlot_of q1
    obtain ⟨ts, rfl, hlt, q1⟩ := ownL_of q1
    obtain ⟨ad2, us2, hv2, hl2, hH2, k⟩ := r1.renew (s' := .lst) h1
    rw [hv] at hv2
    cases hv2
    refine ⟨ad, us2, w, rfl, rfl, hH2, by omega, ?_⟩
    have r2 := k (us2.zip ts ++ [(w, τ)]) Φ (by rw [List.append_assoc]; exact .refl _)
    have e1 : ((us2.zip ts ++ [(w, τ)]).map (·.1)) = us2 ++ [w] := by
      rw [List.map_append, List.map_fst_zip (by omega)]
      rfl
    have e2 : ((us2.zip ts ++ [(w, τ)]).map (·.2)) = ts ++ [τ] := by
      rw [List.map_append, List.map_snd_zip (by omega)]
      rfl
    rw [e1, e2] at r2
    exact q1 _ _ r2.addLeaf
  · exact atSlot_mono (fun t0 q => ownL_mono (fun _ q => he.mono _ _ _ _ _ (fun τ g1 q1 => atSlot_mono (fun t1 q2 => ownL_mono (fun ts q3 => ⟨q3.1, hq _ _ q3.2⟩) q2) q1) hE q) q) q
end
end DL
set_option Elab.async false
set_option linter.all false
set_option maxRecDepth 100000
set_option maxHeartbeats 4000000
namespace DL
open PySem L2
section
variable {K : PySem.W.Frag} {B : Bs} {lim : List Addr} {σ : St} {H H' : Hp} {g : Ev} {Φ Ψ : Its}
theorem RepG.leaves : ∀ {ws vs : List V}, vs.length = (ws.map T.leaf).length → RepG K B lim σ H g (vs.zip (ws.map T.leaf) ++ Φ) → vs = ws
  | [], [], _, _ => rfl
  | [], _ :: _, h, _ => by cases h
  | _ :: _, [], h, _ => by cases h
  | w :: ws, v :: vs, h, r => by
    have r1 : RepG K B lim σ H g ((v, .leaf w) :: (vs.zip (ws.map T.leaf) ++ Φ)) := r
    obtain rfl := r1.leaf
    rw [RepG.leaves (ws := ws) (vs := vs) (by simpa using h) r1.dropT]
theorem frzL_leaves (ws : List V) : frzL (ws.map T.leaf) = ws.map T.leaf := by
  rw [frzL_map, List.map_map]
  rfl
theorem RepG.flats {v : V} {o : Bool} {s : Sh} {ws : List V} (h : RepG K B lim σ H g ((v, .node o s (ws.map T.leaf)) :: Φ)) :
    ∃ a, v = .ref a ∧ (Rd H a (s.mk ws) ∨ Konst K a ws s) := by
  obtain ⟨a, vs, e, hl, hr, r⟩ := h.parts
  rw [frzL_leaves] at r
  rw [RepG.leaves hl r] at hr
  exact ⟨a, e, hr⟩
theorem RepG.kidsH {v : V} {s : Sh} {ts : List T} (hs : s ≠ .tup) (h : RepG K B lim σ H g ((v, .node false s ts) :: Φ)) :
    ∃ a vs, v = .ref a ∧ vs.length = ts.length ∧ H a = some (s.mk vs) ∧ RepG K B lim σ H g (vs.zip ts ++ (v, .node false s ts) :: Φ) := by
  obtain ⟨F, zs, fp, en, oz, f, hl⟩ := h
  obtain ⟨fp', pf, o'⟩ := oz.perm (List.perm_middle (a := (v, T.node false s ts)))
  obtain ⟨f1, f2, rfl, p1, o2⟩ := OwnZ.uncons (zs := zs ++ Φ) o'
  have f' := f.perm (List.Perm.append_left lim pf)
  have p1' := p1
  have fin : ∀ vs : List V, OwnL K F H vs ts [] → f1 = [] → RepG K B lim σ H g (vs.zip ts ++ (v, .node false s ts) :: Φ) := fun vs hk e => by
    subst e
    have oz2 : OwnZ K F H (vs.zip ts ++ ((v, T.node false s ts) :: (zs ++ Φ))) ([] ++ ([] ++ f2)) := hk.zip.append (.cons p1' o2)
    refine rep_items (ds := []) en oz2 f' hl ?_
    rw [List.nil_append]
    have e1 : (vs.zip ts ++ (v, T.node false s ts) :: (zs ++ Φ)).Perm ((zs ++ ((v, T.node false s ts) :: Φ)) ++ vs.zip ts) :=
      List.perm_append_comm.trans (List.Perm.append_right _ List.perm_middle.symm)
    refine e1.trans ?_
    rw [List.append_assoc]
    exact List.Perm.append_left _ List.perm_append_comm
  cases p1 with
  | fz hf hr hk => exact ⟨_, _, rfl, hk.length, hr, fin _ hk rfl⟩
  | kz hc hk => exact absurd rfl hs
theorem RepG.subs {zs ys : Its} (e : ys.Sublist zs) (h : RepG K B lim σ H g (zs ++ Φ)) : RepG K B lim σ H g (ys ++ Φ) := by
  induction e generalizing Φ with
  | slnil => exact h
  | cons x _ ih => exact ih (RepG.dropT h)
  | cons_cons x _ ih =>
    rename_i l1 l2 _
    have h1 : RepG K B lim σ H g (l2 ++ x :: Φ) := h.perm List.perm_middle.symm
    exact (ih h1).perm List.perm_middle
end
def cutA {α : Type} (xs : List α) (lo hi : Option Int) : List α := (xs.drop (HT.sIx xs.length 0 lo)).take (HT.sIx xs.length xs.length hi - HT.sIx xs.length 0 lo)
theorem cutV_eq (xs : List V) (lo hi : Option Int) : cutV xs lo hi = cutA xs lo hi := rfl
theorem cutA_zip {α β : Type} {xs : List α} {ys : List β} (h : xs.length = ys.length) (lo hi : Option Int) : (cutA xs lo hi).zip (cutA ys lo hi) = cutA (xs.zip ys) lo hi := by
  unfold cutA
  have e : (xs.zip ys).length = xs.length := by rw [List.length_zip]; omega
  rw [e, ← h, List.zip_eq_zipWith, List.zip_eq_zipWith, List.drop_zipWith, List.take_zipWith]
theorem cutA_sub {α : Type} (xs : List α) (lo hi : Option Int) : (cutA xs lo hi).Sublist xs := (List.take_sublist _ _).trans (List.drop_sublist _ _)
theorem cutA_len {α β : Type} {xs : List α} {ys : List β} (h : xs.length = ys.length) (lo hi : Option Int) : (cutA xs lo hi).length = (cutA ys lo hi).length := by
  unfold cutA
  rw [List.length_take, List.length_take, List.length_drop, List.length_drop, h]
abbrev DTO := Ev → (Option Int → Ev → Prop) → XP → Prop
def liftO (K : PySem.W.Frag) (B : Bs) (W : WX) (t : DTO) : TO := fun σ H Q => ∃ (Φ : Its) (lim : List Addr) (g : Ev) (E : XP), RepG K B lim σ H g Φ ∧ liftX K B W σ E ∧ t g (fun o g' => ∀ H', RepG K B lim σ H' g' Φ → Q o H') E
structure DO (X : Cx) (W : WX) (e : Option Expr) (t : DTO) : Prop where
  run : ∀ B, PO X e (liftO X.K B W t)
  mono : ∀ g Q Q' E E', (∀ b g', Q b g' → Q' b g') → (∀ c fs g', E c fs g' → E' c fs g') → t g Q E → t g Q' E'
def xNoP : DTO := fun g Q _ => Q none g
def xPart (te : DTE) : DTO := fun g Q E => te g (fun τ g1 => isI τ fun i => Q (some i) g1) E
theorem PO.imp {X : Cx} {e : Option Expr} {t t' : TO} (h : PO X e t) (i : ∀ σ H Q, t' σ H Q → t σ H Q) : PO X e t' := ⟨fun pins s σ H Q I hw => h.run pins s σ H Q I (i σ H Q hw)⟩
section
variable {X : Cx} {W : WX} {m : Nat → Bool} {a b c e : Expr} {es : List Expr} {ta tb tc te : DTE} {t : DTA} {bs : List (Option Nat)} {pos p p2 : Pos} {x : Str} {lo hi : Option Expr} {tl th : DTO}
theorem do_none : DO X W none xNoP := ⟨fun B => PO.imp po_none fun σ H Q ⟨Φ, lim, g, E, r, hx, q⟩ => q H r, fun g Q Q' E E' hq _ q => hq _ _ q⟩
theorem do_some (h : DE X W e te) : DO X W (some e) (xPart te) := by
  refine ⟨fun B => PO.imp (po_some (h.run B)) fun σ H Q ⟨Φ, lim, g, E, r, hx, q⟩ => ?_, fun g Q Q' E E' hq he q => h.mono _ _ _ _ _ (fun τ g1 q1 => isI_mono (fun i z => hq _ _ z) q1) he q⟩
  refine ⟨Φ, lim, g, E, r, hx, h.mono _ _ _ _ _ (fun τ g1 q1 v H1 r1 => ?_) (fun _ _ _ z => z) q⟩
  obtain ⟨i, rfl, q1⟩ := isI_of q1
  obtain rfl := r1.leaf
  exact ⟨i, rfl, q1 _ r1.dropT⟩
def rtSl : T → Option Int → Option Int → (T → Prop) → Prop := fun τ lo hi Q => match τ with
  | .node _ .lst ts => Q (.node true .lst (cutA (frzL ts) lo hi))
  | .node _ .tup ts => ¬ (HT.sIx ts.length 0 lo = 0 ∧ HT.sIx ts.length ts.length hi = ts.length) ∧ Q (.node true .tup (cutA (frzL ts) lo hi))
  | .pin .lst vs => Q (.node true .lst ((cutA vs lo hi).map .leaf))
  | .leaf (.str z) => z.length ≤ sizeLine ∧ Q (.leaf (.str (cutS z lo hi)))
  | _ => False
theorem rtSl_mono {τ : T} {l u : Option Int} {Q Q' : T → Prop} (h : ∀ τ, Q τ → Q' τ) (q : rtSl τ l u Q) : rtSl τ l u Q' := by
  unfold rtSl at q ⊢
  split at q
  · exact h _ q
  · exact ⟨q.1, h _ q.2⟩
  · exact h _ q
  · exact ⟨q.1, h _ q.2⟩
  · exact q.elim
def xSl (te : DTE) (tl th : DTO) : DTE := fun g Q E => te g (fun τ g1 => tl g1 (fun l g2 => th g2 (fun u g3 => rtSl τ l u fun τ' => Q τ' g3) E) E) E
def rSlA (K : PySem.W.Frag) : V → Option Int → Option Int → Hp → VK → Prop := fun x lo hi H Q => (rSlL K x lo hi H Q ∨ rSlT K x lo hi H Q) ∨ rSlS x lo hi H Q
theorem make_cut {B : Bs} {K : PySem.W.Frag} {lim : List Addr} {σ : St} {H : Hp} {g : Ev} {Φ : Its} {us : List V} {ts : List T} {lo hi : Option Int} (s : Sh) (hl : us.length = ts.length) (r : RepG K B lim σ H g (us.zip ts ++ Φ)) {q : Addr} (hq : H q = none) :
    RepG K B lim σ (upd H q (s.mk (cutV us lo hi))) g ((.ref q, .node true s (cutA ts lo hi)) :: Φ) := by
  have r1 : RepG K B lim σ H g ((cutA us lo hi).zip (cutA ts lo hi) ++ Φ) := by
    rw [cutA_zip hl]
    exact r.subs (cutA_sub _ _ _)
  exact make_of s (cutA_len hl lo hi) r1 hq
theorem leavesR {B : Bs} {K : PySem.W.Frag} {lim : List Addr} {σ : St} {H : Hp} {g : Ev} {Φ : Its} (r : RepG K B lim σ H g Φ) : ∀ vs : List V, RepG K B lim σ H g (vs.zip (vs.map T.leaf) ++ Φ)
  | [] => r
  | v :: vs => (leavesR r vs).addLeaf
theorem d_slice (he : DE X W e te) (hl : DO X W lo tl) (hu : DO X W hi th) : DE X W (.Subscript e (.Slice lo hi none p2) pos) (xSl te tl th) := by
  refine ⟨fun B => PE.imp (pe_slice ((SlR.or (sl_list (X := X)) (sl_tup (X := X))).or sl_str) (he.run B) (hl.run B) (hu.run B)) fun σ H Q ⟨Φ, lim, g, E, r, hx, q⟩ => ?_, fun g Q Q' E E' hq hE q => he.mono _ _ _ _ _ (fun τ g1 q1 => hl.mono _ _ _ _ _ (fun l g2 q2 => hu.mono _ _ _ _ _ (fun u g3 q3 => rtSl_mono (fun τ z => hq _ _ z) q3) hE q2) hE q1) hE q⟩
  refine ⟨Φ, lim, g, E, r, hx, he.mono _ _ _ _ _ (fun τ g1 q1 v H1 r1 => ?_) (fun _ _ _ z => z) q⟩
  refine ⟨(v, τ) :: Φ, lim, g1, E, r1, hx, hl.mono _ _ _ _ _ (fun l g2 q2 H2 r2 => ?_) (fun _ _ _ z => z) q1⟩
  refine ⟨(v, τ) :: Φ, lim, g2, E, r2, hx, hu.mono _ _ _ _ _ (fun u g3 q3 H3 r3 => ?_) (fun _ _ _ z => z) q2⟩
  unfold rtSl at q3
  split at q3
  · rename_i o ts
    obtain ⟨ad, us, rfl, hlen, hr, r4⟩ := r3.parts
    refine .inl (.inl ⟨ad, us, rfl, seqL hr, fun q hq => q3 _ _ ?_⟩)
    exact make_cut .lst (ts := frzL ts) (by rw [hlen, frzL_length]) ((r4.perm (List.perm_append_comm (l₁ := us.zip (frzL ts)) (l₂ := (V.ref ad, T.node false .lst (frzL ts)) :: Φ))).dropT.perm List.perm_append_comm) hq
  · rename_i o ts
    obtain ⟨ad, us, rfl, hlen, hr, r4⟩ := r3.parts
    refine .inl (.inr ⟨ad, us, rfl, seqT hr, by rw [hlen]; exact q3.1, fun q hq => q3.2 _ _ ?_⟩)
    exact make_cut .tup (ts := frzL ts) (by rw [hlen, frzL_length]) ((r4.perm (List.perm_append_comm (l₁ := us.zip (frzL ts)) (l₂ := (V.ref ad, T.node false .tup (frzL ts)) :: Φ))).dropT.perm List.perm_append_comm) hq
  · rename_i vs
    obtain ⟨ad, rfl, hr⟩ := r3.pinAt
    refine .inl (.inl ⟨ad, vs, rfl, seqL hr, fun q hq => q3 _ _ ?_⟩)
    exact make_of .lst (by simp) (leavesR r3.dropT (cutV vs l u)) hq
  · rename_i z
    obtain rfl := r3.leaf
    exact .inr ⟨z, rfl, q3.1, q3.2 _ _ r3.dropT.addLeaf⟩
  · exact q3.elim
def rtCat : R2T := fun τ1 τ2 Q => match τ1, τ2 with
  | .node _ .lst ts, .node _ .lst us => ts.length + us.length ≤ sizeLine ∧ Q (.node true .lst (frzL ts ++ frzL us))
  | .leaf (.int i), .leaf (.int j) => Q (.leaf (.int (i + j)))
  | _, _ => False
theorem rtCat_mono : ∀ τ1 τ2 Q Q', (∀ τ, Q τ → Q' τ) → rtCat τ1 τ2 Q → rtCat τ1 τ2 Q' := by
  intro τ1 τ2 Q Q' hq q
  unfold rtCat at q
  split at q
  · exact ⟨q.1, hq _ q.2⟩
  · exact hq _ q
  · exact q.elim
def rAdd : R2 := fun x y H Q => rCat x y H Q ∨ rI0 (fun i j => .int (i + j)) x y H Q
theorem op_addL : OpR X (binaryOp .Add) rAdd := fun pins s σ H x y v u Q I rx ry h => h.elim (op_cat pins s σ H x y v u Q I rx ry) (op_add pins s σ H x y v u Q I rx ry)
theorem frz_node (o : Bool) (s : Sh) (ts : List T) : frz (T.node o s ts) = .node false s (frzL ts) := by simp [frz]
theorem zip_app {α β : Type} {l l' : List α} {r r' : List β} (h : l.length = r.length) : (l ++ l').zip (r ++ r') = l.zip r ++ l'.zip r' := List.zip_append h
theorem op2_cat {K : PySem.W.Frag} : Op2 K rAdd rtCat := by
  refine ⟨fun B lim σ H g Φ v1 v2 τ1 τ2 Q r q => ?_, rtCat_mono⟩
  unfold rtCat at q
  split at q
  · rename_i o ts o' us
    have r0 := r.freezeT
    rw [frz_node] at r0
    have r1 := (r0.perm (List.Perm.swap _ _ _)).freezeT
    rw [frz_node] at r1
    obtain ⟨a1, vs1, rfl, hl1, hr1, r2⟩ := r1.kidsH (by nofun)
    have r3 := r2.perm (Ψ := (v2, .node false .lst (frzL us)) :: (vs1.zip (frzL ts) ++ (V.ref a1, T.node false .lst (frzL ts)) :: Φ)) (by
      have e := List.perm_middle (a := (v2, T.node false .lst (frzL us))) (l₁ := vs1.zip (frzL ts) ++ [(V.ref a1, T.node false .lst (frzL ts))]) (l₂ := Φ)
      simpa using e)
    obtain ⟨a2, vs2, rfl, hl2, hr2, r4⟩ := r3.kidsH (by nofun)
    refine .inl ⟨a1, a2, vs1, vs2, rfl, rfl, hr1, hr2, by rw [hl1, hl2, frzL_length, frzL_length]; exact q.1, fun p hp => q.2 _ _ ?_⟩
    have r5 : RepG K B lim σ H g ((vs1 ++ vs2).zip (frzL ts ++ frzL us) ++ Φ) := by
      rw [zip_app hl1]
      have r6 := r4.perm (Ψ := (V.ref a2, T.node false .lst (frzL us)) :: (V.ref a1, T.node false .lst (frzL ts)) :: (vs1.zip (frzL ts) ++ vs2.zip (frzL us) ++ Φ)) (by
        refine (List.perm_middle).trans (List.Perm.cons _ ?_)
        have e1 : (vs2.zip (frzL us) ++ (vs1.zip (frzL ts) ++ (V.ref a1, T.node false .lst (frzL ts)) :: Φ)).Perm ((V.ref a1, T.node false .lst (frzL ts)) :: (vs2.zip (frzL us) ++ (vs1.zip (frzL ts) ++ Φ))) := by
          rw [← List.append_assoc, ← List.append_assoc]
          exact List.perm_middle
        refine e1.trans (List.Perm.cons _ ?_)
        rw [← List.append_assoc]
        exact List.Perm.append_right _ List.perm_append_comm)
      exact r6.dropT.dropT
    have hl : (vs1 ++ vs2).length = (frzL ts ++ frzL us).length := by rw [List.length_append, List.length_append, hl1, hl2]
    exact make_of .lst hl r5 hp
  · obtain rfl := r.leaf
    obtain rfl := r.dropT.leaf
    exact .inr ⟨_, _, rfl, rfl, q _ _ r.dropT.dropT.addLeaf⟩
  · exact q.elim
def rtIn (neg : Bool) : R2T := fun τ1 τ2 Q => match τ2 with
  | .node _ .lst ts => ∃ w ws, τ1 = .leaf w ∧ ts = ws.map .leaf ∧ flatV w = true ∧ ws.all flatV = true ∧ Q (.leaf (.bl (if neg then !inV w ws else inV w ws)))
  | .node _ .tup ts => ∃ w ws, τ1 = .leaf w ∧ ts = ws.map .leaf ∧ flatV w = true ∧ ws.all flatV = true ∧ Q (.leaf (.bl (if neg then !inV w ws else inV w ws)))
  | _ => False
theorem op2_in {K : PySem.W.Frag} {neg : Bool} : Op2 K (rIn K neg) (rtIn neg) := by
  refine ⟨fun B lim σ H g Φ v1 v2 τ1 τ2 Q r q => ?_, fun τ1 τ2 Q Q' hq q => ?_⟩
  · unfold rtIn at q
    split at q
    · obtain ⟨w, ws, rfl, rfl, h1, h2, q⟩ := q
      obtain rfl := r.dropT.leaf
      obtain ⟨a, rfl, hr⟩ := r.flats
      exact ⟨a, ws, rfl, .inl (seqL hr), h1, h2, q _ _ r.dropT.dropT.addLeaf⟩
    · obtain ⟨w, ws, rfl, rfl, h1, h2, q⟩ := q
      obtain rfl := r.dropT.leaf
      obtain ⟨a, rfl, hr⟩ := r.flats
      exact ⟨a, ws, rfl, .inr (seqT hr), h1, h2, q _ _ r.dropT.dropT.addLeaf⟩
    · exact q.elim
  · unfold rtIn at q ⊢
    split at q
    · obtain ⟨w, ws, e, e', h1, h2, q⟩ := q
      exact ⟨w, ws, e, e', h1, h2, hq _ q⟩
    · obtain ⟨w, ws, e, e', h1, h2, q⟩ := q
      exact ⟨w, ws, e, e', h1, h2, hq _ q⟩
    · exact q.elim
abbrev intsT (ns : List Int) : List T := ns.map fun i => .leaf (.int i)
theorem intsT_eq (ns : List Int) : intsT ns = (ns.map V.int).map T.leaf := by rw [List.map_map]; rfl
def rnSum : RNT := fun τs Q => match τs with
  | [.node _ .lst ts] => ∃ ns : List Int, ts = intsT ns ∧ Q (.leaf (.int ns.sum))
  | _ => False
theorem n_sum (hc : X.calm = true) : CallN X (.builtin "sum") (rSum X.K) rnSum := by
  refine ⟨cr_sum hc, fun B lim σ H g Φ vs τs Q hl r q => ?_, fun τs Q Q' h q => ?_⟩
  · unfold rnSum at q
    split at q
    · obtain ⟨ns, rfl, q⟩ := q
      match vs, hl with
      | [v], _ =>
        rename_i o _
        have r2 : RepG X.K B lim σ H g ((v, .node o .lst ((ns.map V.int).map T.leaf)) :: Φ) := by
          rw [← intsT_eq]
          exact r
        obtain ⟨a, rfl, hr⟩ := r2.flats
        exact ⟨a, ns, rfl, seqL hr, q _ _ r2.dropT.addLeaf⟩
    · exact q.elim
  · unfold rnSum at q
    split at q
    · obtain ⟨ns, e, q⟩ := q
      exact ⟨ns, e, h _ q⟩
    · exact q.elim
def rnSortedI : RNT := fun τs Q => match τs with
  | [.node _ .lst ts] => ∃ ns : List Int, ts = intsT ns ∧ ∀ ns' : List Int, ns'.Perm ns → ns'.Pairwise (· ≤ ·) → Q (.node true .lst (intsT ns'))
  | _ => False
theorem n_sortedI : CallN X (.builtin "sorted") (rSortedI X.K) rnSortedI := by
  refine ⟨cr_sortedI, fun B lim σ H g Φ vs τs Q hl r q => ?_, fun τs Q Q' h q => ?_⟩
  · unfold rnSortedI at q
    split at q
    · obtain ⟨ns, rfl, q⟩ := q
      match vs, hl with
      | [v], _ =>
        rename_i o _
        have r2 : RepG X.K B lim σ H g ((v, .node o .lst ((ns.map V.int).map T.leaf)) :: Φ) := by
          rw [← intsT_eq]
          exact r
        obtain ⟨a, rfl, hr⟩ := r2.flats
        refine ⟨a, ns, rfl, seqL hr, fun ns' p hp1 hp2 hp => q ns' hp1 hp2 _ _ ?_⟩
        rw [intsT_eq]
        exact make_of .lst (by simp) (leavesR r2.dropT (ns'.map V.int)) hp
    · exact q.elim
  · unfold rnSortedI at q
    split at q
    · obtain ⟨ns, e, q⟩ := q
      exact ⟨ns, e, fun ns' h1 h2 => h _ (q ns' h1 h2)⟩
    · exact q.elim
abbrev DTR := Ev → (Int → Int → Ev → Prop) → XP → Prop
abbrev TRg := St → Hp → (Int → Int → Hp → Prop) → Prop
def liftR (K : PySem.W.Frag) (B : Bs) (W : WX) (t : DTR) : TRg := fun σ H Q => ∃ (Φ : Its) (lim : List Addr) (g : Ev) (E : XP), RepG K B lim σ H g Φ ∧ liftX K B W σ E ∧ t g (fun i j g' => ∀ H', RepG K B lim σ H' g' Φ → Q i j H') E
structure DR (X : Cx) (W : WX) (e : Expr) (t : DTR) : Prop where
  run : ∀ B, PRg X e (liftR X.K B W t)
  mono : ∀ g Q Q' E E', (∀ i j g', Q i j g' → Q' i j g') → (∀ c fs g', E c fs g' → E' c fs g') → t g Q E → t g Q' E'
def xRg1 (ta : DTE) : DTR := fun g Q E => ta g (fun τ g1 => isI τ fun n => Q 0 n g1) E
def xRg2 (ta tb : DTE) : DTR := fun g Q E => ta g (fun τ g1 => isI τ fun i => tb g1 (fun τ' g2 => isI τ' fun j => Q i j g2) E) E
theorem PRg.imp {X : Cx} {e : Expr} {t t' : TRg} (h : PRg X e t) (i : ∀ σ H Q, t' σ H Q → t σ H Q) : PRg X e t' := fun pins s σ H Q I hw => h pins s σ H Q I (i σ H Q hw)
theorem dr_1 (hg : Gl X "range") (hm : X.mg "range" = none) (ha : DE X W a ta) (na : starEach [a] X.env = (false, eval a X.env) :: starEach [] X.env := by rfl) : DR X W (.Call (.Name "range" p) [a] [] pos) (xRg1 ta) := by
  refine ⟨fun B => PRg.imp (prg_1 hg hm (ha.run B) na) fun σ H Q ⟨Φ, lim, g, E, r, hx, q⟩ => ?_, fun g Q Q' E E' hq he q => ha.mono _ _ _ _ _ (fun τ g1 q1 => isI_mono (fun n z => hq _ _ _ z) q1) he q⟩
  refine ⟨Φ, lim, g, E, r, hx, ha.mono _ _ _ _ _ (fun τ g1 q1 v H1 r1 => ?_) (fun _ _ _ z => z) q⟩
  obtain ⟨i, rfl, q1⟩ := isI_of q1
  obtain rfl := r1.leaf
  exact ⟨i, rfl, q1 _ r1.dropT⟩
theorem dr_2 (hg : Gl X "range") (hm : X.mg "range" = none) (ha : DE X W a ta) (hb : DE X W b tb) (na : starEach [a, b] X.env = (false, eval a X.env) :: starEach [b] X.env := by rfl)
    (nb : starEach [b] X.env = (false, eval b X.env) :: starEach [] X.env := by rfl) (hp : (backTo pos (starEach [b] X.env)).any (·.1) = false := by rfl) : DR X W (.Call (.Name "range" p) [a, b] [] pos) (xRg2 ta tb) := by
  refine ⟨fun B => PRg.imp (prg_2 hg hm (ha.run B) (hb.run B) na nb hp) fun σ H Q ⟨Φ, lim, g, E, r, hx, q⟩ => ?_, fun g Q Q' E E' hq he q => ha.mono _ _ _ _ _ (fun τ g1 q1 => isI_mono (fun n z => hb.mono _ _ _ _ _ (fun τ' g2 q2 => isI_mono (fun j z => hq _ _ _ z) q2) he z) q1) he q⟩
  refine ⟨Φ, lim, g, E, r, hx, ha.mono _ _ _ _ _ (fun τ g1 q1 v H1 r1 => ?_) (fun _ _ _ z => z) q⟩
  obtain ⟨i, rfl, q1⟩ := isI_of q1
  obtain rfl := r1.leaf
  refine ⟨Φ, lim, g1, E, r1.dropT, hx, hb.mono _ _ _ _ _ (fun τ g1 q1 v H1 r1 => ?_) (fun _ _ _ z => z) q1⟩
  obtain ⟨j, rfl, q1⟩ := isI_of q1
  obtain rfl := r1.leaf
  exact ⟨i, j, rfl, rfl, q1 _ r1.dropT⟩
def xLstRg (t : DTR) : DTE := fun g Q E => t g (fun a b g1 => RgOk a b ∧ Q (.node true .lst ((rgV a b).map .leaf)) g1) E
theorem d_listRg {t : DTR} (hc : X.calm = true) (hg : Gl X "list") (hm : X.mg "list" = none) (he : DR X W e t) (na : starEach [e] X.env = (false, eval e X.env) :: starEach [] X.env := by rfl) : DE X W (.Call (.Name "list" p) [e] [] pos) (xLstRg t) := by
  refine ⟨fun B => PE.imp (pe_listRg hc hg hm (he.run B) na) fun σ H Q ⟨Φ, lim, g, E, r, hx, q⟩ => ?_, fun g Q Q' E E' hq hE q => he.mono _ _ _ _ _ (fun i j g1 q1 => ⟨q1.1, hq _ _ q1.2⟩) hE q⟩
  refine ⟨Φ, lim, g, E, r, hx, he.mono _ _ _ _ _ (fun i j g1 q1 H1 r1 => ⟨q1.1, fun q hq => q1.2 _ _ ?_⟩) (fun _ _ _ z => z) q⟩
  exact make_of .lst (by simp) (leavesR r1 (rgV i j)) hq
end
end DL
set_option Elab.async false
set_option linter.all false
set_option maxRecDepth 100000
set_option maxHeartbeats 4000000
namespace DL
open PySem L2 PySem.Spec PyProof.Rows
theorem spD_law {K : PySem.W.Frag} {H : Hp} {a : Addr} {ns : List Int} {m : DSp} (hm : MonoD m) (hS : SqL K H a (ns.map V.int)) (h : m [.pin .lst (ns.map V.int)] (fun t _ => t = .leaf (.bl true)) fun _ _ _ => False) :
    spD K [false] m [.ref a] H (fun v _ => v = .bl true) fun _ _ _ => False := by
  have fin : ∀ F : Addr → Prop, OwnP K F H (.ref a) (.pin .lst (ns.map V.int)) [] → (∀ b, F b → H b ≠ none) → spD K [false] m [.ref a] H (fun v _ => v = .bl true) fun _ _ _ => False := fun F o ht => by
    refine ⟨[.pin .lst (ns.map V.int)], F, [], .cons (fp := []) (fp' := []) o .nil, .nil, (fun _ z => nomatch z), ht, rfl, hm _ (fun t _ => t = .leaf (.bl true)) _ (fun _ _ _ => False) _ (fun t us e v H' aft => ?_) (fun _ _ _ z => z.elim) h⟩
    subst e
    obtain ⟨F', f', hl, o2, _⟩ := aft
    have o3 : OwnZ K F' H' [(v, .leaf (.bl true))] f' := by
      have : (pick [false] [V.ref a]).zip us = [] := by
        show ([] : List V).zip us = []
        rfl
      rw [this] at o2
      exact o2
    obtain ⟨f1, f2, _, p, _⟩ := o3.uncons
    cases p
    rfl
  rcases hS with hr | ⟨o, its, n, h1, h2, h3, h4, h5, h6⟩
  · refine fin (fun b => b = a) (.pinF rfl hr) fun b e => ?_
    subst e
    rcases hr with hr | ⟨o, hr⟩
    · rw [hr]; exact nofun
    · rw [hr]; exact nofun
  · exact fin (fun _ => False) (.pinK ⟨o, its, n, h1, h2, h3, h4, h5, h6⟩) fun _ z => z.elim
theorem law_callG {P : Program} {w : World} {K : PySem.W.Frag} {mg mb : Str → Option Value} {k : Nat} {fa a : Addr} {fd : FuncData} {x : Str} {sp : Sp} {s₁ : Shared} {vs : List Value} {ns : List Int}
    (KX : K.In s₁.heap) (hns : s₁.heap.Ns mainGlobals mg) (hb : s₁.heap.Ns builtinsNs mb) (hbb : ∀ x : Str, x ≠ "__name__" → mb x = bootBuiltins x) (hlim : s₁.heap.NoLimit) (hg : s₁.gens = #[])
    (ha : s₁.heap.get? a = some { cls := .type "list", data := .seq vs.toArray }) (hi : IntsAre vs ns) (hl : ns.length ≤ sizeLine) (hr : Room k callerA)
    (F : ∀ base : Heap, K.In base → base.Ns mainGlobals mg → FnG P w K mg base k fa fd [x] sp) (hbind : ∀ (s : Shared) (u : Value), BindsTo s fd ⟨[u], []⟩ [(x, u)])
    (hsp : ∀ H : Hp, SqL K H a (ns.map V.int) → sp [.ref a] H (fun v _ => v = .bl true) fun _ _ _ => False) :
    codeAny (model P w) callerA (.call (.ref fa) ⟨[.ref a], []⟩) (fun r s' => r = .ok (.ret (.bool true)) ∧ OldK s₁.heap s'.heap ∧ s'.os = s₁.os ∧ AllBare s'.gens) s₁ := by
  have rv := vals_ints hi
  have lenV := hi.length
  have core : ∀ H : Hp, (∀ b, H b = none ∨ ∃ ob xs, H b = some (.frz ob xs)) → SqL K H a (ns.map V.int) → HOk P w H s₁.heap → (∀ b, H b ≠ none → b = a) → (H a ≠ none → K.lookup a = none) →
      codeAny (model P w) callerA (.call (.ref fa) ⟨[.ref a], []⟩) (fun r s' => r = .ok (.ret (.bool true)) ∧ OldK s₁.heap s'.heap ∧ s'.os = s₁.os ∧ AllBare s'.gens) s₁ := by
    intro H hO hS hok hA hK
    have base_of : ∀ {b : Addr} {o : Obj}, s₁.heap.get? b = some o → H b = none → (hidT s₁.heap H).get? b = some o := fun e n => hidT_get e n
    have noA : ∀ {b : Addr} {o : Obj} {es : Array DictEntry} {ep : Nat}, s₁.heap.get? b = some o → o.data = .dict es ep → H b = none := fun {b o es ep} e d => by
      cases q : H b with
      | none => rfl
      | some u =>
        have e' : b = a := hA b (by rw [q]; simp)
        subst e'
        rw [ha] at e; cases e
        have d' : Data.seq vs.toArray _ = Data.dict es ep := d
        cases d'
    have nsK : ∀ {b : Addr} {m : Str → Option Value}, s₁.heap.Ns b m → (hidT s₁.heap H).Ns b m := fun {b m} ⟨o, es, ep, e, d, r⟩ => ⟨o, es, ep, base_of e (noA e d), d, r⟩
    have hKb : K.In (hidT s₁.heap H) := fun b o e => base_of (KX b o e) (by
      cases q : H b with
      | none => rfl
      | some u =>
        have e' : b = a := hA b (by rw [q]; simp)
        subst e'
        rw [hK (by rw [q]; simp)] at e; cases e)
    have hM : Mod K mg (hidT s₁.heap H) := ⟨hKb, nsK hns, ⟨mb, nsK hb, hbb⟩, let ⟨mc, h1, h2⟩ := hlim; ⟨mc, nsK h1, h2⟩⟩
    have e0 : Env0 P w K mg (hidT s₁.heap H) callerA [] s₁ H := ⟨rfl, hM, fun b o e => of_hidT e, Nat.le_of_eq (hidT_size _ _), trivial, fun b hb => absurd (show b ∈ ([] : List Addr) from hb) (by simp), hok, .of_eq hg⟩
    refine codeAny_mono ((F _ hKb (nsK hns)).run callerA [] s₁ H ⟨[.ref a], []⟩ [.ref a] [.ref a] _ _ hr rfl e0 (hbind s₁ (.ref a)) (.cons rfl .nil) (hsp H hS)) fun r s' h => ?_
    cases r with
    | error e =>
      obtain ⟨_, _, _, _, _, _, _, _, _, _, _, _, z⟩ := h
      exact z.elim
    | ok fl =>
      cases fl with
      | next => exact False.elim h
      | brk => exact False.elim h
      | cont => exact False.elim h
      | ret u =>
        obtain ⟨v, H', os, bare, un, hok', r', q⟩ := h
        have q' : v = .bl true := q
        subst q'
        obtain rfl : u = Value.bool true := r'
        refine ⟨rfl, OldK.of_keep fun b o e => ?_, os, bare⟩
        cases q : H b with
        | none => exact un.keep b o e q (by intro z; exact absurd (show b ∈ ([] : List Addr) from z) (by simp)) (by simp)
        | some u =>
          rcases hO b with z | ⟨ob, xs, z⟩
          · rw [q] at z; cases z
          · have z2 := un.frzs b ob _ z
            obtain ⟨e1, _⟩ := hok b _ z
            obtain ⟨e2, _⟩ := hok' b _ z2
            rw [e] at e1; cases e1
            exact e2
  cases hk : K.lookup a with
  | some o =>
    have e := KX a o hk
    rw [ha] at e
    cases e
    refine core (fun _ => none) (fun _ => .inl rfl) (.inr ⟨_, vs.toArray, _, hk, rfl, rfl, rfl, by rw [List.size_toArray, lenV]; exact hl, by simpa using rv⟩) (fun b u z => by have z' : (none : Option HO) = some u := z; cases z') (fun b z => absurd rfl z) fun z => absurd rfl z
  | none =>
    refine core (fun b => if b = a then some (.frz { cls := .type "list", data := .seq vs.toArray } (.lst (ns.map V.int))) else none) (fun b => ?_) (.inl (.inr ⟨{ cls := .type "list", data := .seq vs.toArray }, if_pos rfl⟩)) (fun b u z => ?_) (fun b z => ?_) fun _ => hk
    · by_cases hb : b = a
      · exact .inr ⟨_, _, if_pos hb⟩
      · exact .inl (if_neg hb)
    · by_cases hb : b = a
      · have z' := (if_pos hb).symm.trans z
        cases z'
        subst hb
        exact ⟨ha, by rw [List.length_map]; exact hl, vs, _, rv, ha⟩
      · have z' := (if_neg hb).symm.trans z
        cases z'
    · by_cases hb : b = a
      · exact hb
      · exact absurd (if_neg hb) z
theorem walk_ofG {l : PySem.W.OpenLaw} {n k : Nat} {q : Program} {loose : List Str} {XP : (Str → Option Value) → Heap → Prop} {YP : World → Heap → Prop} {d : DefRec} {K : Params → PySem.W.Frag} {sp : DSp} {x : Str}
    (hn : l.most = some n) (hn2 : n ≤ sizeLine) (hdf : d.params.defaults = []) (hr : Room k callerA)
    (hY : ∀ (w : World) (h : Heap), YP w h → (K w.params).In h) (hm : MonoD sp)
    (F : ∀ (w : World) (mg : Str → Option Value) (fa : Addr) (h : Heap), (K w.params).In h → h.Ns mainGlobals mg → mg d.name = some (.ref fa) →
      ∃ fd : FuncData, (∀ (s : Shared) (u : Value), BindsTo s fd ⟨[u], []⟩ [(x, u)]) ∧
        ∀ base : Heap, (K w.params).In base → base.Ns mainGlobals mg → FnG l.prog w (K w.params) mg base k fa fd [x] (spD (K w.params) [false] sp))
    (hsp : ∀ (ns : List Int), ns.length ≤ n → sp [.pin .lst (ns.map V.int)] (fun t _ => t = .leaf (.bl true)) fun _ _ _ => False) :
    PySem.W.WalkO q loose XP YP l.row.toRowW d [] (fun f vs => PySem.call f vs) := by
  refine Att.attach_call hn hdf fun w s₀ s₁ mg mb fa o pm cd doc a vs ns G Y ho hd hcd hmg hobj hints hlen hg => ?_
  have KX := hY w _ Y
  obtain ⟨fd, hb, hF⟩ := F w mg fa _ KX G.T.g hmg
  exact law_callG KX G.T.g G.T.b G.T.builtins G.T.nolimit hg hobj hints (Nat.le_trans hlen hn2) hr hF hb fun H hS => spD_law hm hS (hsp ns hlen)
def spLaw : DSp := fun ts Q _ => ∃ ns : List Int, ts = [.pin .lst (ns.map V.int)] ∧ ns.length ≤ 63 ∧ Q (.leaf (.bl true)) []
theorem spLaw_mono : MonoD spLaw := fun ts Q Q' E E' hq he ⟨ns, e, h, q⟩ => ⟨ns, e, h, hq _ _ q⟩
end DL
set_option Elab.async false
set_option linter.all false
set_option maxRecDepth 100000
set_option maxHeartbeats 4000000
namespace DL
open PySem L2
mutual
def pureT : T → Bool
  | .leaf _ => true
  | .pin _ _ => false
  | .node o _ k => o && pureL k
def pureL : List T → Bool
  | [] => true
  | t :: ts => pureT t && pureL ts
end
section
variable {K : PySem.W.Frag} {F F' : Addr → Prop} {H H' : Hp}
mutual
theorem OwnP.anyF : ∀ (t : T) {v : V} {fp : List Addr}, OwnP K F H v t fp → pureT t = true → OwnP K F' H v t fp
  | .leaf _, _, _, h, _ => by
    cases h
    exact .leaf _
  | .pin _ _, _, _, _, e => by simp [pureT] at e
  | .node o s ts, _, _, h, e => by
    simp only [pureT, Bool.and_eq_true] at e
    obtain ⟨rfl, e⟩ := e
    cases h with
    | own ha hk => exact .own ha (OwnL.anyF ts hk e)
theorem OwnL.anyF : ∀ (ts : List T) {vs : List V} {fp : List Addr}, OwnL K F H vs ts fp → pureL ts = true → OwnL K F' H vs ts fp
  | [], _, _, h, _ => by
    cases h
    exact .nil
  | t :: ts, _, _, h, e => by
    simp only [pureL, Bool.and_eq_true] at e
    cases h with
    | cons h1 h2 => exact .cons (OwnP.anyF t h1 e.1) (OwnL.anyF ts h2 e.2)
end
def frzE (g : Ev) : Ev := g.map (Option.map frz)
theorem EnvIs.frzE : ∀ {σ : St} {g : Ev} {zs : Its}, EnvIs σ g zs → EnvIs σ (frzE g) (zs.map fun z => (z.1, frz z.2))
  | _, _, _, .nil => .nil
  | _, _, _, .skip h => .skip (EnvIs.frzE h)
  | _, _, _, .have h => .have (EnvIs.frzE h)
theorem OwnZ.frzZ {zs : Its} {fp : List Addr} (hF : ∀ a, F a → F' a) (h : OwnZ K F H zs fp) (hp : ∀ a ∈ fp, F' a) : OwnZ K F' H (zs.map fun z => (z.1, frz z.2)) [] := by
  have := OwnL.freeze hF _ h hp
  rw [frzL_map] at this
  unfold OwnZ
  rw [List.map_map, List.map_map]
  rw [List.map_map] at this
  exact this
end
section
variable {X : Cx} {W : WX} {m : Nat → Bool} {a b c e : Expr} {es : List Expr} {ta tb tc te : DTE} {tA : DTT} {t : DTA} {bs : List (Option Nat)} {pos p : Pos} {x : Str}
def baseB (H : Hp) (F : Addr → Prop) (fp : List Addr) : Bs := ⟨H, fun a => F a ∨ a ∈ fp, []⟩
theorem bor_in {K : PySem.W.Frag} {B : Bs} {lim : List Addr} {σ : St} {H : Hp} {g : Ev} {Φ : Its} (r : RepG K B lim σ H g Φ) : ∃ B', RepG K B' [] σ H (frzE g) [] ∧
    (∀ H1, (∃ g', RepG K B' [] σ H1 g' []) → RepG K B lim σ H1 g Φ) ∧ ∀ v τ H1 g', pureT τ = true → RepG K B' [] σ H1 g' [(v, τ)] → RepG K B lim σ H1 g ((v, τ) :: Φ) := by
  obtain ⟨F, zs, fp, en, o, f, hl⟩ := r
  obtain ⟨f1, f2, rfl, o1, o2⟩ := o.split
  have trk : ∀ a, a ∈ lim ++ (f1 ++ f2) → H a ≠ none := fun a ha => by
    rcases List.mem_append.mp ha with z | z
    · exact hl a z
    · exact o.tracked a z
  have back : ∀ H1 (F1 : Addr → Prop) (fv : List Addr) (Ψ : Its), Fine (baseB H F (lim ++ (f1 ++ f2))) F1 H1 fv → OwnZ K F H1 Ψ fv → RepG K B lim σ H1 g (Ψ ++ Φ) := fun H1 F1 fv Ψ fn oz => by
    have st : ∀ b o, H b = some o → H1 b = some o := fun b o e => fn.keep b o e (fun z => nomatch z)
    have stn : ∀ b, H b ≠ none → H1 b ≠ none := fun b hb => by
      cases q : H b with
      | none => exact absurd q hb
      | some o => rw [st b o q]; exact nofun
    have new : ∀ b ∈ fv, H b = none := fun b hb => by
      rcases fn.newO b hb with z | z
      · cases z
      · exact z
    have oo : OwnZ K F H1 (zs ++ Φ) (f1 ++ f2) := o.mono (fun _ z => z) fun b _ u e => st b u e
    have o3 : OwnZ K F H1 (Ψ ++ (zs ++ Φ)) (fv ++ (f1 ++ f2)) := oz.append oo
    have ff : Fine B F H1 (lim ++ (fv ++ (f1 ++ f2))) := by
      refine ⟨?_, fun b z => ?_, fun b z => stn b (f.trk b z), f.inc, fun b o e n => st b o (f.keep b o e n), f.newF, fun b z => ?_⟩
      · refine List.nodup_append.mpr ⟨(List.nodup_append.mp f.nd).1, List.nodup_append.mpr ⟨fn.nd, (List.nodup_append.mp f.nd).2.1, fun x hx y hy e => ?_⟩, fun x hx y hy e => ?_⟩
        · subst e
          exact trk x (List.mem_append_right _ hy) (new x hx)
        · subst e
          rcases List.mem_append.mp hy with q | q
          · exact hl x hx (new x q)
          · exact (List.nodup_append.mp f.nd).2.2 x hx x q rfl
      · rcases List.mem_append.mp z with q | q
        · exact f.off b (List.mem_append_left _ q)
        · rcases List.mem_append.mp q with q | q
          · intro zz
            exact f.trk b zz (new b q)
          · exact f.off b (List.mem_append_right _ q)
      · rcases List.mem_append.mp z with q | q
        · exact f.newO b (List.mem_append_left _ q)
        · rcases List.mem_append.mp q with q | q
          · by_cases hb : b ∈ B.fp0
            · exact .inl hb
            · refine .inr ?_
              cases z : B.H0 b with
              | none => rfl
              | some u =>
                have := f.keep b u z hb
                rw [new b q] at this; cases this
          · exact f.newO b (List.mem_append_right _ q)
    refine rep_items (ds := []) en o3 ff (fun b z => stn b (hl b z)) ?_
    rw [List.nil_append, ← List.append_assoc, ← List.append_assoc]
    exact List.Perm.append_right _ List.perm_append_comm
  refine ⟨baseB H F (lim ++ (f1 ++ f2)), ?_, fun H1 ⟨g', r1⟩ => ?_, fun v τ H1 g' hp r1 => ?_⟩
  · refine ⟨fun a => F a ∨ a ∈ lim ++ (f1 ++ f2), zs.map fun z => (z.1, frz z.2), [], en.frzE, ?_, ?_, fun _ z => nomatch z⟩
    · rw [List.append_nil]
      exact o1.frzZ (fun _ z => .inl z) fun a z => .inr (List.mem_append_right _ (List.mem_append_left _ z))
    · exact ⟨.nil, (fun _ z => nomatch z), fun b z => z.elim (f.trk b) (trk b), fun _ z => z, fun _ _ z _ => z, fun _ z => .inl z, (fun _ z => nomatch z)⟩
  · obtain ⟨F1, zs1, fp1, en1, oz1, fn, _⟩ := r1
    exact back H1 F1 [] [] (fn.sub (List.nil_sublist _)) .nil
  · obtain ⟨F1, zs1, fp1, en1, oz1, fn, _⟩ := r1
    obtain ⟨g1, g2, rfl, oa, ob⟩ := oz1.split
    obtain ⟨h1, h2, e, pv, pn⟩ := ob.uncons
    have e2 : h2 = [] := by cases pn; rfl
    subst e e2
    exact back H1 F1 (h1 ++ []) [(v, τ)] (fn.sub (by rw [List.nil_append]; exact List.sublist_append_right _ _)) (.cons (pv.anyF τ hp) .nil)
def xBor (te : DTE) : DTE := fun g Q _ => te (frzE g) (fun τ _ => pureT τ = true ∧ Q τ g) noX
def xBorT (tA : DTT) : DTT := fun g Q _ => tA (frzE g) (fun b _ => Q b g) noX
theorem d_bor (h : DE X W e te) : DE X W e (xBor te) := by
  refine ⟨fun B => ⟨fun pins s σ H Q I ⟨Φ, lim, g, E, r, hx, q⟩ => ?_⟩, fun g Q Q' E E' hq _ q => h.mono _ _ _ _ _ (fun τ g1 q1 => ⟨q1.1, hq _ _ q1.2⟩) (fun _ _ _ z => z) q⟩
  obtain ⟨B', r1, _, k⟩ := bor_in r
  refine (h.run B').run pins s σ H Q I ⟨[], [], _, noX, r1, liftX0, h.mono _ _ _ _ _ (fun τ g1 q1 v H1 r2 => ?_) (fun _ _ _ z => z) q⟩
  exact q1.2 v H1 (k v τ H1 g1 q1.1 r2)
theorem dt_bor (h : DT X W e tA) : DT X W e (xBorT tA) := by
  refine ⟨fun B => ⟨fun pins s σ H Q I ⟨Φ, lim, g, E, r, hx, q⟩ => ?_⟩, fun g Q Q' E E' hq _ q => h.mono _ _ _ _ _ (fun τ g1 q1 => hq _ _ q1) (fun _ _ _ z => z) q⟩
  obtain ⟨B', r1, k, _⟩ := bor_in r
  refine (h.run B').run pins s σ H Q I ⟨[], [], _, noX, r1, liftX0, h.mono _ _ _ _ _ (fun b g1 q1 H1 r2 => ?_) (fun _ _ _ z => z) q⟩
  exact q1 H1 (k H1 ⟨g1, r2⟩)
def xUn (f : Int → V) (ta : DTE) : DTE := fun g Q E => ta g (fun τ g1 => isI τ fun i => Q (.leaf (f i)) g1) E
theorem d_un {op : UnaryOp} {f : Int → V} (ho : UnR X (unaryOp op) (rU f)) (ha : DE X W a ta) : DE X W (.UnaryOp op a pos) (xUn f ta) := by
  refine ⟨fun B => PE.imp (pe_un ho (ha.run B)) fun σ H Q ⟨Φ, lim, g, E, r, hx, q⟩ => ?_, fun g Q Q' E E' hq he q => ha.mono _ _ _ _ _ (fun τ g1 q1 => isI_mono (fun i z => hq _ _ z) q1) he q⟩
  refine ⟨Φ, lim, g, E, r, hx, ha.mono _ _ _ _ _ (fun τ g1 q1 v H1 r1 => ?_) (fun _ _ _ z => z) q⟩
  obtain ⟨i, rfl, q1⟩ := isI_of q1
  obtain rfl := r1.leaf
  exact ⟨i, rfl, q1 _ _ r1.dropT.addLeaf⟩
end
end DL
set_option Elab.async false
set_option linter.all false
set_option maxRecDepth 100000
set_option maxHeartbeats 4000000
namespace DL
open PySem L2 PySem.Spec PyProof.Rows
def frzP : List Bool → List T → List T
  | true :: bs, t :: ts => t :: frzP bs ts
  | false :: bs, t :: ts => frz t :: frzP bs ts
  | _, ts => ts
theorem frzP_length : ∀ (fl : List Bool) (ts : List T), (frzP fl ts).length = ts.length
  | true :: bs, t :: ts => by simp [frzP, frzP_length bs ts]
  | false :: bs, t :: ts => by simp [frzP, frzP_length bs ts]
  | [], ts => by simp [frzP]
  | _ :: _, [] => by simp [frzP]
section
variable {K : PySem.W.Frag} {B : Bs} {lim : List Addr} {σ : L2.St} {H : Hp} {Φ : Its}
theorem RepG.frzP : ∀ {fl : List Bool} {ts : List T} {pre rest : Ev}, RepG K B lim σ H (pre ++ (ts.map some ++ rest)) Φ → RepG K B lim σ H (pre ++ ((frzP fl ts).map some ++ rest)) Φ
  | true :: bs, t :: ts, pre, rest, h => by
    have h1 : RepG K B lim σ H ((pre ++ [some t]) ++ (ts.map some ++ rest)) Φ := by
      rw [List.append_assoc]
      exact h
    have h2 := RepG.frzP (fl := bs) h1
    rw [List.append_assoc] at h2
    exact h2
  | false :: bs, t :: ts, pre, rest, h => by
    have e : (pre ++ ((t :: ts).map some ++ rest))[pre.length]? = some (some t) := by simp
    have h0 := h.freeze e
    have e2 : (pre ++ ((t :: ts).map some ++ rest)).set pre.length (some (frz t)) = (pre ++ [some (frz t)]) ++ (ts.map some ++ rest) := by simp
    rw [e2] at h0
    have h2 := RepG.frzP (fl := bs) h0
    rw [List.append_assoc] at h2
    exact h2
  | [], ts, pre, rest, h => h
  | true :: _, [], pre, rest, h => h
  | false :: _, [], pre, rest, h => h
end
section
variable {P : Program} {w : World} {K : PySem.W.Frag} {mg : Str → Option Value} {base : Heap}
theorem fnD_of2 {x qual : Str} {st : Stmt} {f : Addr} {fd : FuncData} {N ps : List Str} {k : Nat} {sp : DSp} {fl : List Bool} (F : Fun K x qual st f fd) (S : FnScope N ps (defScope st)) (hfl : fl.length = ps.length)
    (hbody : ∀ (cdv : Value) (A : Around) (outer : List Env) (s : Shared) (H : Hp) (E : XK), Room k (A.deeper (PyProof.Rows.envOfC qual (defScope st) s.heap.objs.size f cdv)) → (A.deeper (PyProof.Rows.envOfC qual (defScope st) s.heap.objs.size f cdv)).guards = some [] →
      ∃ t, DSs (cxOf (L2.CX P w) P w K mg base N qual (defScope st) f cdv A outer s H E) (fun cls d _ H => E cls d H) (mutOf fl) (defBody st) t ∧
        ∀ ts Q' E', ts.length = ps.length → sp ts Q' E' → t (bodyEnds fl Q' E') (startE N.length (frzP fl ts))) :
    FnG P w K mg base (k + 1) f fd ps (spD K fl sp) := by
  refine fnD_of F S hfl fun cdv A outer s H E hr hgd => ?_
  obtain ⟨t, ht, hb⟩ := hbody cdv A outer s H E hr hgd
  refine ⟨fun D g => ∃ ts, g = startE N.length ts ∧ t D (startE N.length (frzP fl ts)), ⟨fun B σ0 => ⟨fun pins s σ H D I ⟨Φ, lim, g, E, r, hk, hx, ts, e, q⟩ => ?_⟩, fun D D' g h ⟨ts, e, q⟩ => ⟨ts, e, ht.mono _ _ _ h q⟩⟩, fun ts Q' E' hl h => ⟨ts, rfl, hb ts Q' E' hl h⟩⟩
  refine (ht.run B σ0).run pins s σ H D I ⟨Φ, lim, _, E, ?_, hk, hx, q⟩
  subst e
  have := RepG.frzP (fl := fl) (pre := []) r
  unfold startE
  rw [frzP_length]
  exact this
end
def aLend (j : Nat) (t : DTA) : DTA := fun g Q E => atSlot j g fun _ => t g (fun τs g2 => atSlot j g2 fun τ => Q (τ :: τs) (g2.set j none)) E
theorem da_late {X : Cx} {W : WX} {e : Expr} {es : List Expr} (j : Nat) {bs : List (Option Nat)} {t : DTA} (h : PE X e (tVar j)) (hr : DA X W es bs t) (hs : starEach (e :: es) X.env = (false, eval e X.env) :: starEach es X.env := by rfl) : DA X W (e :: es) (some j :: bs) (aLend j t) := by
  refine ⟨fun B => PA.imp (pa_cons h (hr.run B) hs) fun σ H Q ⟨Φ, lim, g, E, r, hx, q⟩ => ?_, fun g Q Q' E E' hq he q => atSlot_mono (fun τ z => hr.mono _ _ _ _ _ (fun τs g2 q2 => atSlot_mono (fun τ z => hq _ _ z) q2) he z) q⟩
  obtain ⟨τ0, h0, q⟩ := atSlot_of q
  obtain ⟨v, hv⟩ := r.slot h0
  refine ⟨v, hv, Φ, lim, g, E, r, hx, hr.mono _ _ _ _ _ (fun τs g2 q2 vs H2 hl hb r2 => ?_) (fun _ _ _ z => z) q⟩
  obtain ⟨τ, h2, q2⟩ := atSlot_of q2
  obtain ⟨v', hv', r'⟩ := r2.move h2
  rw [hv] at hv'
  cases hv'
  exact q2 (v :: vs) H2 (by simp [hl]) ⟨hv, hb⟩ r'
abbrev oSub : R2T := rtI0 fun i j => .int (i - j)
def CMulA (i j : Int) : Prop := CMul i j ∨ CMulW i j
abbrev oMul : R2T := rtI CMulA fun i j => .int (i * j)
abbrev oDiv : R2T := rtI CDivW fun i j => .int (i / j)
abbrev oMod : R2T := rtI (fun _ j => 0 < j) fun i j => .int (i % j)
abbrev oPow : R2T := rtI CPow fun i j => .int (i ^ j.toNat)
abbrev oShl : R2T := rtI CPow fun i j => .int (i * 2 ^ j.toNat)
abbrev oShr : R2T := rtI (fun _ j => 0 ≤ j) fun i j => .int (i / 2 ^ j.toNat)
abbrev oAnd : R2T := rtI0 fun i j => .int (Builtin.bitAnd i j)
abbrev oOr : R2T := rtI0 fun i j => .int (Builtin.bitOr i j)
abbrev oXor : R2T := rtI0 fun i j => .int (Builtin.bitXor i j)
abbrev oLt : R2T := rtI0 fun i j => .bl (decide (i < j))
abbrev oLe : R2T := rtI0 fun i j => .bl (decide (i ≤ j))
abbrev oGt : R2T := rtI0 fun i j => .bl (decide (j < i))
abbrev oGe : R2T := rtI0 fun i j => .bl (decide (j ≤ i))
section
variable {X : Cx} {W : WX} {m : Nat → Bool} {a b c e : Expr} {es : List Expr} {ta tb tc te : DTE} {tA : DTT} {t : DTA} {bs : List (Option Nat)} {pos p : Pos} {x : Str}
theorem op_mulA : OpR X (binaryOp .Mult) (rI CMulA fun i j => .int (i * j)) := opI fun _ _ _ _ _ _ _ hc q => mul_int q (hc.elim CMul.ok CMulW.ok)
theorem d_add (ha : DE X W a ta) (hb : DE X W b tb) : DE X W (.BinOp a .Add b pos) (xOp rtCat ta tb) := d_op2 op_addL op2_cat ha hb
theorem d_sub (ha : DE X W a ta) (hb : DE X W b tb) : DE X W (.BinOp a .Sub b pos) (xOp oSub ta tb) := d_op2 op_sub op2_I0 ha hb
theorem d_mul (ha : DE X W a ta) (hb : DE X W b tb) : DE X W (.BinOp a .Mult b pos) (xOp oMul ta tb) := d_op2 op_mulA (op2_I fun _ _ z => z) ha hb
theorem d_div (ha : DE X W a ta) (hb : DE X W b tb) : DE X W (.BinOp a .FloorDiv b pos) (xOp oDiv ta tb) := d_op2 op_fdivW (op2_I fun _ _ z => z) ha hb
theorem d_mod (ha : DE X W a ta) (hb : DE X W b tb) : DE X W (.BinOp a .Mod b pos) (xOp oMod ta tb) := d_op2 op_mod (op2_I fun _ _ z => z) ha hb
theorem d_pow (ha : DE X W a ta) (hb : DE X W b tb) : DE X W (.BinOp a .Pow b pos) (xOp oPow ta tb) := d_op2 op_pow (op2_I fun _ _ z => z) ha hb
theorem d_shl (ha : DE X W a ta) (hb : DE X W b tb) : DE X W (.BinOp a .LShift b pos) (xOp oShl ta tb) := d_op2 op_shl (op2_I fun _ _ z => z) ha hb
theorem d_shr (ha : DE X W a ta) (hb : DE X W b tb) : DE X W (.BinOp a .RShift b pos) (xOp oShr ta tb) := d_op2 op_shr (op2_I fun _ _ z => z) ha hb
theorem d_bitand (ha : DE X W a ta) (hb : DE X W b tb) : DE X W (.BinOp a .BitAnd b pos) (xOp oAnd ta tb) := d_op2 op_and op2_I0 ha hb
theorem d_bitor (ha : DE X W a ta) (hb : DE X W b tb) : DE X W (.BinOp a .BitOr b pos) (xOp oOr ta tb) := d_op2 op_or op2_I0 ha hb
theorem d_bitxor (ha : DE X W a ta) (hb : DE X W b tb) : DE X W (.BinOp a .BitXor b pos) (xOp oXor ta tb) := d_op2 op_xor op2_I0 ha hb
theorem d_lt (ha : DE X W a ta) (hb : DE X W b tb) : DE X W (.Compare a [.Lt] [b] pos) (xOp oLt ta tb) := d_cmp op_lt op2_I0 ha hb (nomark _)
theorem d_le (ha : DE X W a ta) (hb : DE X W b tb) : DE X W (.Compare a [.LtE] [b] pos) (xOp oLe ta tb) := d_cmp op_le op2_I0 ha hb (nomark _)
theorem d_gt (ha : DE X W a ta) (hb : DE X W b tb) : DE X W (.Compare a [.Gt] [b] pos) (xOp oGt ta tb) := d_cmp op_gt op2_I0 ha hb (nomark _)
theorem d_ge (ha : DE X W a ta) (hb : DE X W b tb) : DE X W (.Compare a [.GtE] [b] pos) (xOp oGe ta tb) := d_cmp op_ge op2_I0 ha hb (nomark _)
theorem d_eq (hu : X.A.units + 64 < cLine) (ha : DE X W a ta) (hb : DE X W b tb) : DE X W (.Compare a [.Eq] [b] pos) (xOp (rtEq false) ta tb) := d_cmp (op_eqA hu) op2_eq ha hb (nomark _)
theorem d_ne (hu : X.A.units + 64 < cLine) (ha : DE X W a ta) (hb : DE X W b tb) : DE X W (.Compare a [.NotEq] [b] pos) (xOp (rtEq true) ta tb) := d_cmp (op_neA hu) op2_ne ha hb (nomark _)
theorem d_in (hm : behindInMarks .In b = false) (ha : DE X W a ta) (hb : DE X W b tb) : DE X W (.Compare a [.In] [b] pos) (xOp (rtIn false) ta tb) := d_cmp op_in_seq op2_in ha hb hm
theorem d_notin (hm : behindInMarks .NotIn b = false) (ha : DE X W a ta) (hb : DE X W b tb) : DE X W (.Compare a [.NotIn] [b] pos) (xOp (rtIn true) ta tb) := d_cmp op_notIn_seq op2_in ha hb hm
theorem dt_lt (ha : DE X W a ta) (hb : DE X W b tb) : DT X W (.Compare a [.Lt] [b] pos) (xB (xOp oLt ta tb)) := dt_cmp op_lt op2_I0 ha hb (nomark _)
theorem dt_le (ha : DE X W a ta) (hb : DE X W b tb) : DT X W (.Compare a [.LtE] [b] pos) (xB (xOp oLe ta tb)) := dt_cmp op_le op2_I0 ha hb (nomark _)
theorem dt_gt (ha : DE X W a ta) (hb : DE X W b tb) : DT X W (.Compare a [.Gt] [b] pos) (xB (xOp oGt ta tb)) := dt_cmp op_gt op2_I0 ha hb (nomark _)
theorem dt_ge (ha : DE X W a ta) (hb : DE X W b tb) : DT X W (.Compare a [.GtE] [b] pos) (xB (xOp oGe ta tb)) := dt_cmp op_ge op2_I0 ha hb (nomark _)
theorem dt_eq (hu : X.A.units + 64 < cLine) (ha : DE X W a ta) (hb : DE X W b tb) : DT X W (.Compare a [.Eq] [b] pos) (xB (xOp (rtEq false) ta tb)) := dt_cmp (op_eqA hu) op2_eq ha hb (nomark _)
theorem dt_ne (hu : X.A.units + 64 < cLine) (ha : DE X W a ta) (hb : DE X W b tb) : DT X W (.Compare a [.NotEq] [b] pos) (xB (xOp (rtEq true) ta tb)) := dt_cmp (op_neA hu) op2_ne ha hb (nomark _)
theorem dt_in (hm : behindInMarks .In b = false) (ha : DE X W a ta) (hb : DE X W b tb) : DT X W (.Compare a [.In] [b] pos) (xB (xOp (rtIn false) ta tb)) := dt_cmp op_in_seq op2_in ha hb hm
theorem dt_notin (hm : behindInMarks .NotIn b = false) (ha : DE X W a ta) (hb : DE X W b tb) : DT X W (.Compare a [.NotIn] [b] pos) (xB (xOp (rtIn true) ta tb)) := dt_cmp op_notIn_seq op2_in ha hb hm
theorem d_neg (ha : DE X W a ta) : DE X W (.UnaryOp .USub a pos) (xUn (fun i => .int (-i)) ta) := d_un un_neg ha
end
theorem takes0 {X : Cx} : Takes X W0 := by
  intro u s' x
  obtain ⟨_, _, _, _, _, _, _, _, _, _, _, _, _, _, _, _, z⟩ := x
  exact z.elim
mutual
def smallD : PyData → Prop
  | .none => True
  | .bool _ => True
  | .int i => i.natAbs < 2 ^ 1800
  | .str x => PyData.canLay0 (.str x) = true ∧ (∀ c ∈ x.cps.toList, c < 16 ^ 8)
  | .list xs => smallL xs
  | .tuple xs => smallL xs
  | .dict _ => False
def smallL : List PyData → Prop
  | [] => True
  | x :: xs => smallD x ∧ smallL xs
end
mutual
def szD : PyData → Nat
  | .none => 1
  | .bool _ => 1
  | .int _ => 1
  | .str x => x.length + 1
  | .list xs => szL xs + 1
  | .tuple xs => szL xs + 1
  | .dict _ => 1
def szL : List PyData → Nat
  | [] => 0
  | x :: xs => szD x + szL xs
end
mutual
theorem small_canLay : ∀ d : PyData, smallD d → d.canLay0 = true
  | .none, _ => by simp [PyData.canLay0]
  | .bool _, _ => by simp [PyData.canLay0]
  | .int _, _ => by simp [PyData.canLay0]
  | .str x, h => by
    simp only [smallD] at h
    exact h.1
  | .list xs, h => by
    simp only [smallD] at h
    simp only [PyData.canLay0]
    exact small_canLayL xs h
  | .tuple xs, h => by
    simp only [smallD] at h
    simp only [PyData.canLay0]
    exact small_canLayL xs h
  | .dict _, h => by simp only [smallD] at h
theorem small_canLayL : ∀ xs : List PyData, smallL xs → PyData.canLayAll0 xs = true
  | [], _ => by simp [PyData.canLayAll0]
  | x :: xs, h => by
    simp only [smallL] at h
    simp only [PyData.canLayAll0, Bool.and_eq_true]
    exact ⟨small_canLay x h.1, small_canLayL xs h.2⟩
end
theorem log2_small {n : Nat} (h : n < 2 ^ 1800) : n.log2 < 1800 := PySem.Flt.log2_lt_of (by decide) h
mutual
theorem small_show : ∀ d : PyData, smallD d → d.showable = true
  | .none, _ => by simp [PyData.showable]
  | .bool _, _ => by simp [PyData.showable]
  | .int i, h => by
    simp only [smallD] at h
    simp only [PyData.showable, decide_eq_true_eq]
    exact Nat.lt_trans (log2_small h) (by decide)
  | .str x, h => by simp [PyData.showable]
  | .list xs, h => by
    simp only [smallD] at h
    simp only [PyData.showable]
    exact small_showL xs h
  | .tuple xs, h => by
    simp only [smallD] at h
    simp only [PyData.showable]
    exact small_showL xs h
  | .dict _, h => by simp only [smallD] at h
theorem small_showL : ∀ xs : List PyData, smallL xs → PyData.showableAll xs = true
  | [], _ => by simp [PyData.showableAll]
  | x :: xs, h => by
    simp only [smallL] at h
    simp only [PyData.showableAll, Bool.and_eq_true]
    exact ⟨small_show x h.1, small_showL xs h.2⟩
end
theorem szL_len : ∀ xs : List PyData, (PyData.shownAll xs).length = xs.length
  | [] => by simp [PyData.shownAll]
  | x :: xs => by simp [PyData.shownAll, szL_len xs]
mutual
theorem small_len : ∀ d : PyData, smallD d → d.shown.length + 2 ≤ 2000 * szD d
  | .none, _ => by
    have e : (PyData.shown .none).length = 4 := by simp only [PyData.shown]; rfl
    simp only [szD]
    omega
  | .bool b, _ => by
    have e : (PyData.shown (.bool b)).length ≤ 5 := by
      simp only [PyData.shown]
      cases b <;> decide
    simp only [szD]
    omega
  | .int i, h => by
    simp only [smallD] at h
    have e : (PyData.shown (.int i)).length ≤ 1801 := by
      simp only [PyData.shown]
      have := int_text_length_le (a := i) (k := 1800) (by decide) (log2_small h)
      exact Nat.le_trans (Nat.le_of_eq (PySem.ofString_length _)) this
    simp only [szD]
    omega
  | .str x, h => by
    simp only [smallD] at h
    have e := StrLaws.reprText_len x h.2
    simp only [PyData.shown, szD]
    omega
  | .list xs, h => by
    simp only [smallD] at h
    have h1 := small_lenL xs h
    have h2 := listText_len_le (PyData.shownAll xs)
    have h3 := szL_len xs
    simp only [PyData.shown, szD]
    omega
  | .tuple xs, h => by
    simp only [smallD] at h
    have h1 := small_lenL xs h
    have h2 := tupleText_len_le (PyData.shownAll xs)
    have h3 := szL_len xs
    simp only [PyData.shown, szD]
    omega
  | .dict _, h => by simp only [smallD] at h
theorem small_lenL : ∀ xs : List PyData, smallL xs → ((PyData.shownAll xs).map (·.length)).sum + 2 * xs.length ≤ 2000 * szL xs
  | [], _ => by simp [PyData.shownAll, szL]
  | x :: xs, h => by
    simp only [smallL] at h
    have h1 := small_len x h.1
    have h2 := small_lenL xs h.2
    simp only [PyData.shownAll, List.map_cons, List.sum_cons, List.length_cons, szL]
    omega
end
structure GoodD (d : PyData) : Prop where
  sm : smallD d
  dp : d.depth ≤ 60
  sz : szD d ≤ 8000
theorem GoodD.shaped {d : PyData} (h : GoodD d) : SeqAt.shaped d = true := by
  unfold SeqAt.shaped
  rw [Bool.and_eq_true, decide_eq_true_eq]
  exact ⟨small_canLay d h.sm, Nat.le_trans h.dp (by decide)⟩
theorem GoodD.show {d : PyData} (h : GoodD d) : d.showable = true := small_show d h.sm
theorem GoodD.nodict {d : PyData} (h : GoodD d) : d.hasDict = false := PyData.hasDict_of_canLay d (small_canLay d h.sm)
theorem GoodD.len {d : PyData} (h : GoodD d) : d.shown.length ≤ sizeLine := by
  have h1 := small_len d h.sm
  have h2 := h.sz
  show _ ≤ 2 ^ 24
  omega
theorem GoodD.refl {d : PyData} (h : GoodD d) : PyData.eqv d d = true := SeqAt.eqv_refl d (small_canLay d h.sm)
end DL
set_option Elab.async false
set_option linter.all false
set_option maxRecDepth 100000
set_option maxHeartbeats 4000000
namespace DL
open PySem L2
theorem sz_eq : sizeLine = 16777216 := rfl
theorem rtEq_int {i j : Int} {Q : T → Prop} : rtEq false (.leaf (.int i)) (.leaf (.int j)) Q = Q (.leaf (.bl (decide (i = j)))) := rfl
theorem rtEq_int' {i j : Int} {Q : T → Prop} : rtEq true (.leaf (.int i)) (.leaf (.int j)) Q = Q (.leaf (.bl (!decide (i = j)))) := rfl
theorem intsT_frz (ns : List Int) : frzL (intsT ns) = intsT ns := by
  rw [frzL_map, List.map_map]
  rfl
theorem frz_ints (s : Sh) (ns : List Int) : frz (.node false s (intsT ns)) = .node false s (intsT ns) := by
  rw [frz_node, intsT_frz]
theorem rtEq_same {a b : T} {d : PyData} {Q : T → Prop} (ha : toP a = some d) (hb : toP b = some d) (h : GoodD d) (q : Q (.leaf (.bl true))) : rtEq false a b Q := by
  unfold rtEq
  split
  · rename_i i j
    simp only [toP, Option.some.injEq] at ha hb
    have : i = j := by
      rw [← ha] at hb
      cases hb
      rfl
    simpa [this] using q
  · rename_i i j
    simp only [toP, Option.some.injEq] at ha hb
    have : i = j := by
      rw [← ha] at hb
      cases hb
      rfl
    simpa [this] using q
  · rename_i i j
    simp only [toP, Option.some.injEq] at ha hb
    have : i = j := by
      rw [← ha] at hb
      cases hb
      rfl
    simpa [this] using q
  · exact ⟨d, d, ha, hb, h.shaped, h.shaped, by simpa [h.refl] using q⟩
theorem rtNe_same {a b : T} {d : PyData} {Q : T → Prop} (ha : toP a = some d) (hb : toP b = some d) (h : GoodD d) (q : Q (.leaf (.bl false))) : rtEq true a b Q := by
  unfold rtEq
  split
  · rename_i i j
    simp only [toP, Option.some.injEq] at ha hb
    have : i = j := by
      rw [← ha] at hb
      cases hb
      rfl
    simpa [this] using q
  · rename_i i j
    simp only [toP, Option.some.injEq] at ha hb
    have : i = j := by
      rw [← ha] at hb
      cases hb
      rfl
    simpa [this] using q
  · rename_i i j
    simp only [toP, Option.some.injEq] at ha hb
    have : i = j := by
      rw [← ha] at hb
      cases hb
      rfl
    simpa [this] using q
  · exact ⟨d, d, ha, hb, h.shaped, h.shaped, by simpa [h.refl] using q⟩
mutual
theorem toP_frz : ∀ t : T, toP (frz t) = toP t
  | .leaf _ => by simp [frz]
  | .pin _ _ => by simp [frz]
  | .node o s k => by
    cases s <;> simp [frz, toP, toPL_frz k]
theorem toPL_frz : ∀ ts : List T, toPL (frzL ts) = toPL ts
  | [] => by simp [frzL]
  | t :: ts => by simp [frzL, toPL, toP_frz t, toPL_frz ts]
end
theorem toPL_ints : ∀ ns : List Int, toPL (intsT ns) = some (ns.map PyData.int)
  | [] => by simp [toPL]
  | n :: ns => by
    have := toPL_ints ns
    simp only [intsT, List.map_cons, toPL, toP] at this ⊢
    rw [this]
    rfl
theorem smallL_ints : ∀ {ns : List Int}, (∀ n ∈ ns, n.natAbs < 2 ^ 1800) → smallL (ns.map PyData.int)
  | [], _ => by simp [smallL]
  | n :: ns, h => by
    simp only [List.map_cons, smallL, smallD]
    exact ⟨h n List.mem_cons_self, smallL_ints fun m hm => h m (List.mem_cons_of_mem _ hm)⟩
theorem szL_ints : ∀ ns : List Int, szL (ns.map PyData.int) = ns.length
  | [] => by simp [szL]
  | n :: ns => by
    simp only [List.map_cons, szL, szD, List.length_cons, szL_ints ns]
    omega
theorem depthAll_ints : ∀ ns : List Int, PyData.depthAll (ns.map PyData.int) = 0
  | [] => by simp [PyData.depthAll]
  | n :: ns => by simp [PyData.depthAll, PyData.depth, depthAll_ints ns]
theorem small_of_abs {i : Int} (h : i.natAbs < 2 ^ 200) : i.natAbs < 2 ^ 1800 := Nat.lt_of_lt_of_le h (Nat.pow_le_pow_right (by decide) (by decide))
theorem good_int {i : Int} (h : i.natAbs < 2 ^ 1800) : GoodD (.int i) := ⟨by simpa [smallD] using h, by simp [PyData.depth], by simp [szD]⟩
theorem good_ints {ns : List Int} (h : ∀ n ∈ ns, n.natAbs < 2 ^ 1800) (hl : ns.length ≤ 7000) : GoodD (.list (ns.map .int)) := ⟨by simpa [smallD] using smallL_ints h, by simp [PyData.depth, depthAll_ints], by simp [szD, szL_ints]; omega⟩
theorem ixN_nat (n k : Nat) : ixN n (k : Int) = if k < n then some k else none := by
  unfold ixN
  rw [if_pos (by omega), Int.toNat_natCast]
  by_cases h : k < n
  · rw [if_pos h, if_pos (by omega)]
  · rw [if_neg h, if_neg (by omega)]
theorem ixN_0 {n : Nat} : ixN n 0 = if 0 < n then some 0 else none := ixN_nat n 0
theorem ixN_1 {n : Nat} : ixN n 1 = if 1 < n then some 1 else none := ixN_nat n 1
theorem ixN_2 {n : Nat} : ixN n 2 = if 2 < n then some 2 else none := ixN_nat n 2
theorem ixN_3 {n : Nat} : ixN n 3 = if 3 < n then some 3 else none := ixN_nat n 3
theorem ixN_4 {n : Nat} : ixN n 4 = if 4 < n then some 4 else none := ixN_nat n 4
theorem ixN_5 {n : Nat} : ixN n 5 = if 5 < n then some 5 else none := ixN_nat n 5
theorem ixN_6 {n : Nat} : ixN n 6 = if 6 < n then some 6 else none := ixN_nat n 6
theorem ixN_7 {n : Nat} : ixN n 7 = if 7 < n then some 7 else none := ixN_nat n 7
theorem ixN_8 {n : Nat} : ixN n 8 = if 8 < n then some 8 else none := ixN_nat n 8
theorem ixN_9 {n : Nat} : ixN n 9 = if 9 < n then some 9 else none := ixN_nat n 9
theorem ixN_10 {n : Nat} : ixN n 10 = if 10 < n then some 10 else none := ixN_nat n 10
theorem ixN_11 {n : Nat} : ixN n 11 = if 11 < n then some 11 else none := ixN_nat n 11
theorem ixN_12 {n : Nat} : ixN n 12 = if 12 < n then some 12 else none := ixN_nat n 12
theorem at_first (ns : List Int) (k : Option Int) : ∃ x : Int, atI (cutA (intsT ns) k none ++ [.leaf (.int 0)]) 0 = some (.leaf (.int x)) ∧ (x = 0 ∨ x ∈ ns) := by
  have sub : ∀ t ∈ cutA (intsT ns) k none, ∃ x ∈ ns, t = .leaf (.int x) := fun t ht => by
    have := (cutA_sub _ _ _).subset ht
    obtain ⟨x, hx, e⟩ := List.mem_map.mp this
    exact ⟨x, hx, e.symm⟩
  cases h : cutA (intsT ns) k none with
  | nil => exact ⟨0, rfl, .inl rfl⟩
  | cons t r =>
    obtain ⟨x, hx, e⟩ := sub t (by rw [h]; exact List.mem_cons_self)
    subst e
    refine ⟨x, ?_, .inr hx⟩
    rw [List.cons_append]
    unfold atI
    have : ixN (T.leaf (V.int x) :: (r ++ [T.leaf (V.int 0)])).length 0 = some 0 := by
      unfold ixN
      simp
      omega
    rw [this]
    rfl
theorem cutA_ints (ns : List Int) (lo hi : Option Int) : cutA (intsT ns) lo hi = intsT (cutA ns lo hi) := by
  unfold cutA
  simp only [intsT, List.length_map, List.map_take, List.map_drop]
theorem at_first' (ns : List Int) (k : Option Int) : ∃ x : Int, atI (frzL (cutA (frzL (frzL (intsT ns))) k none) ++ frzL [.leaf (.int 0)]) 0 = some (.leaf (.int x)) ∧ (x = 0 ∨ x ∈ ns) := by
  rw [intsT_frz, intsT_frz, cutA_ints, intsT_frz]
  have := at_first ns k
  rw [cutA_ints] at this
  exact this
theorem cutA_length_le {α : Type} (xs : List α) (lo hi : Option Int) : (cutA xs lo hi).length ≤ xs.length := (cutA_sub xs lo hi).length_le
end DL
set_option Elab.async false
set_option linter.all false
set_option maxRecDepth 100000
set_option maxHeartbeats 4000000
namespace L17
open PySem L2 DL
def top (i : Nat) : Stmt := PySem.Challenge.pw_wholepoll_k17_sets.main.body.getD i (.Pass ⟨0, 0, 0, 0⟩)
abbrev s_all_of : Stmt := top 1
def N_all_of : List Str := ["hands"]
theorem sc_all_of : FnScope N_all_of ["hands"] (defScope s_all_of) := ⟨rfl, rfl, rfl, by decide +kernel, rfl, by decide +kernel, by decide +kernel⟩
abbrev s_holds : Stmt := top 2
def N_holds : List Str := ["mask", "hand"]
theorem sc_holds : FnScope N_holds ["mask", "hand"] (defScope s_holds) := ⟨rfl, rfl, rfl, by decide +kernel, rfl, by decide +kernel, by decide +kernel⟩
abbrev s_with_one : Stmt := top 3
def N_with_one : List Str := ["mask", "hand"]
theorem sc_with_one : FnScope N_with_one ["mask", "hand"] (defScope s_with_one) := ⟨rfl, rfl, rfl, by decide +kernel, rfl, by decide +kernel, by decide +kernel⟩
abbrev s_without : Stmt := top 4
def N_without : List Str := ["mask", "hand"]
theorem sc_without : FnScope N_without ["mask", "hand"] (defScope s_without) := ⟨rfl, rfl, rfl, by decide +kernel, rfl, by decide +kernel, by decide +kernel⟩
abbrev s_members : Stmt := top 5
def N_members : List Str := ["mask", "found", "hand"]
theorem sc_members : FnScope N_members ["mask"] (defScope s_members) := ⟨rfl, rfl, rfl, by decide +kernel, rfl, by decide +kernel, by decide +kernel⟩
abbrev s_size : Stmt := top 6
def N_size : List Str := ["mask"]
theorem sc_size : FnScope N_size ["mask"] (defScope s_size) := ⟨rfl, rfl, rfl, by decide +kernel, rfl, by decide +kernel, by decide +kernel⟩
abbrev s__law_bag : Stmt := top 8
def N__law_bag : List Str := ["_law_script", "_law_cell"]
theorem sc__law_bag : FnScope N__law_bag ["_law_script"] (defScope s__law_bag) := ⟨rfl, rfl, rfl, by decide +kernel, rfl, by decide +kernel, by decide +kernel⟩
abbrev s__law_take : Stmt := top 9
def N__law_take : List Str := ["_law_bag_here", "_law_many", "_law_early", "_law_second", "_law_cell", "_law_mixed", "_law_drawn"]
theorem sc__law_take : FnScope N__law_take ["_law_bag_here", "_law_many"] (defScope s__law_take) := ⟨rfl, rfl, rfl, by decide +kernel, rfl, by decide +kernel, by decide +kernel⟩
abbrev s__law_alike : Stmt := top 10
def N__law_alike : List Str := ["_law_found", "_law_due"]
theorem sc__law_alike : FnScope N__law_alike ["_law_found", "_law_due"] (defScope s__law_alike) := ⟨rfl, rfl, rfl, by decide +kernel, rfl, by decide +kernel, by decide +kernel⟩
abbrev s__law_one : Stmt := top 11
def N__law_one : List Str := ["_law_bag_here", "_law_some"]
theorem sc__law_one : FnScope N__law_one ["_law_bag_here", "_law_some"] (defScope s__law_one) := ⟨rfl, rfl, rfl, by decide +kernel, rfl, by decide +kernel, by decide +kernel⟩
abbrev s__law_bit : Stmt := top 12
def N__law_bit : List Str := ["_law_hand"]
theorem sc__law_bit : FnScope N__law_bit ["_law_hand"] (defScope s__law_bit) := ⟨rfl, rfl, rfl, by decide +kernel, rfl, by decide +kernel, by decide +kernel⟩
abbrev s__law_in : Stmt := top 13
def N__law_in : List Str := ["_law_mask", "_law_hand"]
theorem sc__law_in : FnScope N__law_in ["_law_mask", "_law_hand"] (defScope s__law_in) := ⟨rfl, rfl, rfl, by decide +kernel, rfl, by decide +kernel, by decide +kernel⟩
abbrev s_law : Stmt := top 14
def N_law : List Str := ["_law_script", "_law_bag_here", "_law_turn", "_law_mask", "_law_inside", "_law_again", "_law_hand", "_law_hands", "_law_due", "_law_found", "_law_more", "_law_less"]
theorem sc_law : FnScope N_law ["_law_script"] (defScope s_law) := ⟨rfl, rfl, rfl, by decide +kernel, rfl, by decide +kernel, by decide +kernel⟩
theorem bo_abs : bootBuiltins "abs" = some (.builtin "abs") := by decide +kernel
theorem bo_int : bootBuiltins "int" = some (.type "int") := by decide +kernel
theorem bo_len : bootBuiltins "len" = some (.builtin "len") := by decide +kernel
theorem bo_list : bootBuiltins "list" = some (.type "list") := by decide +kernel
theorem bo_range : bootBuiltins "range" = some (.type "range") := by decide +kernel
theorem bo_repr : bootBuiltins "repr" = some (.builtin "repr") := by decide +kernel
theorem bo_sum : bootBuiltins "sum" = some (.builtin "sum") := by decide +kernel
structure Txt (K : PySem.W.Frag) (mg : Str → Option Value) where
  a_all_of : Addr
  d_all_of : FuncData
  F_all_of : Fun K "all_of" "all_of" s_all_of a_all_of d_all_of
  b_all_of : Binds K d_all_of ["hands"] []
  g_all_of : mg "all_of" = some (.ref a_all_of)
  a_holds : Addr
  d_holds : FuncData
  F_holds : Fun K "holds" "holds" s_holds a_holds d_holds
  b_holds : Binds K d_holds ["mask", "hand"] []
  g_holds : mg "holds" = some (.ref a_holds)
  a_with_one : Addr
  d_with_one : FuncData
  F_with_one : Fun K "with_one" "with_one" s_with_one a_with_one d_with_one
  b_with_one : Binds K d_with_one ["mask", "hand"] []
  g_with_one : mg "with_one" = some (.ref a_with_one)
  a_without : Addr
  d_without : FuncData
  F_without : Fun K "without" "without" s_without a_without d_without
  b_without : Binds K d_without ["mask", "hand"] []
  g_without : mg "without" = some (.ref a_without)
  a_members : Addr
  d_members : FuncData
  F_members : Fun K "members" "members" s_members a_members d_members
  b_members : Binds K d_members ["mask"] []
  g_members : mg "members" = some (.ref a_members)
  a_size : Addr
  d_size : FuncData
  F_size : Fun K "size" "size" s_size a_size d_size
  b_size : Binds K d_size ["mask"] []
  g_size : mg "size" = some (.ref a_size)
  a__law_bag : Addr
  d__law_bag : FuncData
  F__law_bag : Fun K "_law_bag" "_law_bag" s__law_bag a__law_bag d__law_bag
  b__law_bag : Binds K d__law_bag ["_law_script"] []
  g__law_bag : mg "_law_bag" = some (.ref a__law_bag)
  a__law_take : Addr
  d__law_take : FuncData
  F__law_take : Fun K "_law_take" "_law_take" s__law_take a__law_take d__law_take
  b__law_take : Binds K d__law_take ["_law_bag_here", "_law_many"] []
  g__law_take : mg "_law_take" = some (.ref a__law_take)
  a__law_alike : Addr
  d__law_alike : FuncData
  F__law_alike : Fun K "_law_alike" "_law_alike" s__law_alike a__law_alike d__law_alike
  b__law_alike : Binds K d__law_alike ["_law_found", "_law_due"] []
  g__law_alike : mg "_law_alike" = some (.ref a__law_alike)
  a__law_one : Addr
  d__law_one : FuncData
  F__law_one : Fun K "_law_one" "_law_one" s__law_one a__law_one d__law_one
  b__law_one : Binds K d__law_one ["_law_bag_here", "_law_some"] []
  g__law_one : mg "_law_one" = some (.ref a__law_one)
  a__law_bit : Addr
  d__law_bit : FuncData
  F__law_bit : Fun K "_law_bit" "_law_bit" s__law_bit a__law_bit d__law_bit
  b__law_bit : Binds K d__law_bit ["_law_hand"] []
  g__law_bit : mg "_law_bit" = some (.ref a__law_bit)
  a__law_in : Addr
  d__law_in : FuncData
  F__law_in : Fun K "_law_in" "_law_in" s__law_in a__law_in d__law_in
  b__law_in : Binds K d__law_in ["_law_mask", "_law_hand"] []
  g__law_in : mg "_law_in" = some (.ref a__law_in)
  a_law : Addr
  d_law : FuncData
  F_law : Fun K "law" "law" s_law a_law d_law
  b_law : Binds K d_law ["_law_script"] []
  g_law : mg "law" = some (.ref a_law)
  n_abs : mg "abs" = none
  n_int : mg "int" = none
  n_len : mg "len" = none
  n_list : mg "list" = none
  n_range : mg "range" = none
  n_repr : mg "repr" = none
  n_sum : mg "sum" = none
def bit (m : Int) (k : Nat) : Prop := m / 2 ^ k % 2 = 1
instance (m : Int) (k : Nat) : Decidable (bit m k) := inferInstanceAs (Decidable (_ = _))
def bitsOf (m : Int) : List Int := ((List.range 12).filter fun k => decide (bit m k)).map fun (k : Nat) => (k : Int)
def IsBag (t : T) : Prop := ∃ (a b c : Int) (o : Bool) (cells : List Int), t = .node true .lst [.leaf (.int a), .leaf (.int b), .leaf (.int c), .node o .lst (intsT cells)] ∧ 0 ≤ a ∧ 0 ≤ b ∧ b < 2147483647 ∧ 0 ≤ c ∧ cells.length ≤ 63 ∧ ∀ x ∈ cells, 0 ≤ x
def sp__law_bag : DSp := fun ts Q _ => ∃ ns : List Int, ts = [.pin .lst (ns.map V.int)] ∧ ns.length ≤ 63 ∧ ∀ bag, IsBag bag → Q bag []
def sp__law_take : DSp := fun ts Q _ => ∃ (bag : T) (many : Int), ts = [bag, .leaf (.int many)] ∧ IsBag bag ∧ 0 < many ∧ many < 2 ^ 62 ∧ ∀ (r : Int) (bag' : T), 0 ≤ r → r < many → IsBag bag' → Q (.leaf (.int r)) [bag']
def sp__law_alike : DSp := fun ts Q _ => ∃ (a b : T) (d : PyData), ts = [a, b] ∧ toP a = some d ∧ toP b = some d ∧ GoodD d ∧ Q (.leaf (.bl true)) []
def sp__law_one : DSp := fun ts Q _ => ∃ (bag : T) (o : Bool) (its : List T), ts = [bag, .node o .lst its] ∧ IsBag bag ∧ its ≠ [] ∧ its.length < 1000000 ∧ ∀ (t : T) (bag' : T), t ∈ its → IsBag bag' → Q (frz t) [bag']
def sp_all_of : DSp := fun ts Q _ => ∃ n : Int, ts = [.leaf (.int n)] ∧ 0 ≤ n ∧ n ≤ 64 ∧ Q (.leaf (.int (2 ^ n.toNat - 1))) []
def sp_holds : DSp := fun ts Q _ => ∃ (m : Int) (k : Nat), ts = [.leaf (.int m), .leaf (.int k)] ∧ 0 ≤ m ∧ k ≤ 64 ∧ Q (.leaf (.bl (decide (bit m k)))) []
def sp_with_one : DSp := fun ts Q _ => ∃ (m : Int) (k : Nat), ts = [.leaf (.int m), .leaf (.int k)] ∧ 0 ≤ m ∧ k ≤ 64 ∧ Q (.leaf (.int (if bit m k then m else m + 2 ^ k))) []
def sp_without : DSp := fun ts Q _ => ∃ (m : Int) (k : Nat), ts = [.leaf (.int m), .leaf (.int k)] ∧ 0 ≤ m ∧ k ≤ 64 ∧ Q (.leaf (.int (if bit m k then m - 2 ^ k else m))) []
def sp_members : DSp := fun ts Q _ => ∃ m : Int, ts = [.leaf (.int m)] ∧ 0 ≤ m ∧ m < 4096 ∧ Q (.node true .lst (intsT (bitsOf m))) []
def sp_size : DSp := fun ts Q _ => ∃ m : Int, ts = [.leaf (.int m)] ∧ 0 ≤ m ∧ m < 4096 ∧ Q (.leaf (.int (bitsOf m).length)) []
def sp__law_bit : DSp := fun ts Q _ => ∃ k : Nat, ts = [.leaf (.int k)] ∧ k < 12 ∧ Q (.leaf (.int (2 ^ k))) []
def sp__law_in : DSp := fun ts Q _ => ∃ (m : Int) (k : Nat), ts = [.leaf (.int m), .leaf (.int k)] ∧ 0 ≤ m ∧ k < 12 ∧ Q (.leaf (.bl (decide (bit m k)))) []
def sp_law : DSp := spLaw
theorem mono_law : MonoD sp_law := spLaw_mono
theorem law_sp (ns : List Int) (h : ns.length ≤ 63) : sp_law [.pin .lst (ns.map V.int)] (fun t _ => t = .leaf (.bl true)) fun _ _ _ => False := ⟨ns, rfl, h, rfl⟩
theorem mono__law_bag : MonoD sp__law_bag := fun ts Q Q' E E' hq he ⟨ns, e, h, q⟩ => ⟨ns, e, h, fun b hb => hq _ _ (q b hb)⟩
theorem mono__law_take : MonoD sp__law_take := fun ts Q Q' E E' hq he ⟨b, n, e, h1, h2, h3, q⟩ => ⟨b, n, e, h1, h2, h3, fun r b' a1 a2 a3 => hq _ _ (q r b' a1 a2 a3)⟩
theorem mono__law_alike : MonoD sp__law_alike := fun ts Q Q' E E' hq he ⟨a, b, d, e, h1, h2, h3, q⟩ => ⟨a, b, d, e, h1, h2, h3, hq _ _ q⟩
theorem mono__law_one : MonoD sp__law_one := fun ts Q Q' E E' hq he ⟨b, o, its, e, h1, h2, h3, q⟩ => ⟨b, o, its, e, h1, h2, h3, fun t b' a1 a2 => hq _ _ (q t b' a1 a2)⟩
theorem mono_all_of : MonoD sp_all_of := fun ts Q Q' E E' hq he ⟨n, e, h1, h2, q⟩ => ⟨n, e, h1, h2, hq _ _ q⟩
theorem mono_holds : MonoD sp_holds := fun ts Q Q' E E' hq he ⟨m, k, e, h1, h2, q⟩ => ⟨m, k, e, h1, h2, hq _ _ q⟩
theorem mono_with_one : MonoD sp_with_one := fun ts Q Q' E E' hq he ⟨m, k, e, h1, h2, q⟩ => ⟨m, k, e, h1, h2, hq _ _ q⟩
theorem mono_without : MonoD sp_without := fun ts Q Q' E E' hq he ⟨m, k, e, h1, h2, q⟩ => ⟨m, k, e, h1, h2, hq _ _ q⟩
theorem mono_members : MonoD sp_members := fun ts Q Q' E E' hq he ⟨m, e, h1, h2, q⟩ => ⟨m, e, h1, h2, hq _ _ q⟩
theorem mono_size : MonoD sp_size := fun ts Q Q' E E' hq he ⟨m, e, h1, h2, q⟩ => ⟨m, e, h1, h2, hq _ _ q⟩
theorem mono__law_bit : MonoD sp__law_bit := fun ts Q Q' E E' hq he ⟨k, e, h1, q⟩ => ⟨k, e, h1, hq _ _ q⟩
theorem mono__law_in : MonoD sp__law_in := fun ts Q Q' E E' hq he ⟨m, k, e, h1, h2, q⟩ => ⟨m, k, e, h1, h2, hq _ _ q⟩
def t_all_of : DTS := (sRet (xOp oSub (xOp oShl (xC (.int 1)) (xVar 0)) (xC (.int 1))))
def t_holds : DTS := (sRet (xOp (rtEq false) (xOp oAnd (xOp oShr (xVar 0) (xVar 1)) (xC (.int 1))) (xC (.int 1))))
def t_with_one : DTS := (sRet (xOp oOr (xVar 0) (xOp oShl (xC (.int 1)) (xVar 1))))
def t_without_1 : DTS := (sIf (xB (xCall sp_holds [none, none] (aCons (xVar 0) (aCons (xVar 1) aNil))))
 (sRet (xOp oXor (xVar 0) (xOp oShl (xC (.int 1)) (xVar 1))))
 sNext)
def t_without_2 : DTS := (sRet (xVar 0))
def t_without : DTS := (sSeq t_without_1
t_without_2)
def t_members_1 : DTS := (sAug 2 (rtI0 fun i j => .int (i + j)) (xC (.int 1)))
def t_members_2 : DTS := (sIf (xB (xOp (rtEq false) (xOp oAnd (xVar 0) (xC (.int 1))) (xC (.int 1))))
 (sDrop (xApp 1 (xVar 2)))
 sNext)
def t_members_3 : DTS := (sSeq (sSet false 0 (xOp oShr (xVar 0) (xC (.int 1))))
t_members_1)
def t_members_4 : DTS := (sSeq t_members_2
t_members_3)
def t_members_5 : DTS := (sWhile (xB (xOp oGt (xVar 0) (xC (.int 0))))
 t_members_4)
def t_members_6 : DTS := (sRet (xMov 1))
def t_members_7 : DTS := (sSeq t_members_5
t_members_6)
def t_members_8 : DTS := (sSeq (sSet false 2 (xC (.int 0)))
t_members_7)
def t_members : DTS := (sSeq (sSet true 1 (xLst aNil))
t_members_8)
def t_size : DTS := (sRet (xCB rnLen (aCons (xCall sp_members [none] (aCons (xVar 0) aNil)) aNil)))
def t__law_bag : DTS := (sRet (xLst (aCons (xC (.int 0)) (aCons (xC (.int 1234567891)) (aCons (xC (.int 0)) (aCons (xLc (iSeq (xSl (xVar 0) xNoP (xPart (xC (.int 63))))) (gNm false 1) xYes (xCB rnAbs (aCons (xVar 1) aNil)) [1]) aNil))))))
def t__law_take_1 : DTS := (sRet (xOp oMod (xCB rnInt (aCons (xOp oDiv (xVar 3) (xC (.int 7))) aNil)) (xVar 1)))
def t__law_take_2 : DTS := (sSeq (sSet false 3 (xOp oMod (xCB rnInt (aCons (xOp oMul (xOp oMod (xCB rnInt (aCons (xOp oMul (xVar 2) (xVar 2)) aNil)) (xC (.int 998244353))) (xC (.int 30011))) aNil)) (xC (.int 998244353))))
t__law_take_1)
def t__law_take_3 : DTS := (sRet (xVar 6))
def t__law_take_4 : DTS := (sIf (xB (xOp oGt (xIxO 0 (xC (.int 0))) (xC (.int 0))))
 (sSeq (sAsg (xTup (aCons (xOp oMod (xCB rnInt (aCons (xIxO 0 (xC (.int 0))) aNil)) (xVar 1)) (aCons (xOp oDiv (xCB rnInt (aCons (xIxO 0 (xC (.int 0))) aNil)) (xVar 1)) aNil))) (gTp 2 (gCn (gNm false 6) (gCn (gSetI 0 (xC (.int 0))) gNl))))
t__law_take_3)
 sNext)
def t__law_take_5 : DTS := (sSeq (sSet false 2 (xOp oMod (xCB rnInt (aCons (xOp oMul (xOp rtCat (xIxO 0 (xC (.int 1))) (xC (.int 1))) (xC (.int 39373))) aNil)) (xC (.int 1000000007))))
t__law_take_2)
def t__law_take_6 : DTS := (sAsg (xOp oMod (xCB rnInt (aCons (xVar 5) aNil)) (xC (.int 2147483647))) (gSetI 0 (xC (.int 1))))
def t__law_take_7 : DTS := (sSeq (sSet false 5 (xOp rtCat (xOp rtCat (xOp oMul (xIxO 0 (xC (.int 1))) (xC (.int 48271))) (xOp oMod (xCB rnInt (aCons (xVar 4) aNil)) (xC (.int 2147483647)))) (xOp oMul (xC (.int 7919)) (xIxO 0 (xC (.int 2))))))
t__law_take_6)
def t__law_take_8 : DTS := (sSeq (sAsg (xOp oMul (xVar 4) (xCB rnInt (aCons (xOp oGe (xVar 4) (xOp oPow (xC (.int 10)) (xC (.int 18)))) aNil))) (gSetI 0 (xC (.int 0))))
t__law_take_7)
def t__law_take_9 : DTS := (sSeq (sAugI 0 (xC (.int 2)) (rtI0 fun i j => .int (i + j)) (xC (.int 1)))
t__law_take_8)
def t__law_take_10 : DTS := (sIf (xB (xOp (rtEq false) (xIxO 0 (xC (.int 0))) (xC (.int 0))))
 (sSeq (sSet false 4 (xOp rtIx (xOp rtCat (xSl (xIxO 0 (xC (.int 3))) (xPart (xIxO 0 (xC (.int 2)))) xNoP) (xLst (aCons (xC (.int 0)) aNil))) (xC (.int 0))))
t__law_take_9)
 sNext)
def t__law_take_11 : DTS := (sSeq t__law_take_4
t__law_take_5)
def t__law_take : DTS := (sSeq t__law_take_10
t__law_take_11)
def t__law_alike : DTS := (sRet (xAndV (xOp (rtEq false) (xVar 0) (xVar 1)) (xOp (rtEq false) (xCB rnRepr (aCons (xVar 0) aNil)) (xCB rnRepr (aCons (xVar 1) aNil)))))
def t__law_one : DTS := (sRet (xOp rtIx (xVar 1) (xCall sp__law_take [some 0, none] (aLend 0 (aCons (xCB rnLen (aCons (xVar 1) aNil)) aNil)))))
def t__law_bit : DTS := (sRet (xOp rtIx (xLst (aCons (xC (.int 1)) (aCons (xC (.int 2)) (aCons (xC (.int 4)) (aCons (xC (.int 8)) (aCons (xC (.int 16)) (aCons (xC (.int 32)) (aCons (xC (.int 64)) (aCons (xC (.int 128)) (aCons (xC (.int 256)) (aCons (xC (.int 512)) (aCons (xC (.int 1024)) (aCons (xC (.int 2048)) aNil))))))))))))) (xVar 0)))
def t__law_in : DTS := (sRet (xOp (rtEq false) (xOp oMod (xCB rnInt (aCons (xOp oDiv (xVar 0) (xCall sp__law_bit [none] (aCons (xVar 1) aNil))) aNil)) (xC (.int 2))) (xC (.int 1))))
def t_law_1 : DTS := (sIf (xNot (xB (xCall sp__law_alike [none, none] (aCons (xLst (aCons (xCall sp_all_of [none] (aCons (xVar 7) aNil)) (aCons (xCall sp_members [none] (aCons (xCall sp_all_of [none] (aCons (xVar 7) aNil)) aNil)) aNil))) (aCons (xVar 8) aNil)))))
 (sRet (xC (.bl false)))
 sNext)
def t_law_2 : DTS := t_law_1
def t_law_3 : DTS := (sSeq (sSet false 8 (xLst (aCons (xCB rnSum (aCons (xLc (iRange1 (aCons (xVar 7) aNil)) (gNm false 6) xYes (xCall sp__law_bit [none] (aCons (xVar 6) aNil)) [6]) aNil)) (aCons (xLstRg (xRg1 (xVar 7))) aNil))))
t_law_2)
def t_law_4 : DTS := (sIf (xOr (xB (xOp (rtEq true) (xCall sp_with_one [none, none] (aCons (xVar 11) (aCons (xVar 6) aNil))) (xVar 10))) (xB (xOp (rtEq true) (xCall sp_without [none, none] (aCons (xVar 10) (aCons (xVar 6) aNil))) (xVar 11))))
 (sRet (xC (.bl false)))
 sNext)
def t_law_5 : DTS := (sIf (xBorT (xNot (xB (xCall sp__law_alike [none, none] (aCons (xVar 9) (aCons (xLst (aCons (xOp (rtIn false) (xVar 6) (xVar 4)) (aCons (xVar 10) (aCons (xVar 11) aNil)))) aNil))))))
 (sRet (xC (.bl false)))
 sNext)
def t_law_6 : DTS := t_law_4
def t_law_7 : DTS := (sSeq t_law_5
t_law_6)
def t_law_8 : DTS := (sSeq (sSet true 9 (xLst (aCons (xCall sp_holds [none, none] (aCons (xVar 3) (aCons (xVar 6) aNil))) (aCons (xCall sp_with_one [none, none] (aCons (xVar 3) (aCons (xVar 6) aNil))) (aCons (xCall sp_without [none, none] (aCons (xVar 3) (aCons (xVar 6) aNil))) aNil)))))
t_law_7)
def t_law_9 : DTS := (sSeq (sSet false 11 (xOp oSub (xVar 3) (xOp oMul (xCall sp__law_bit [none] (aCons (xVar 6) aNil)) (xCB rnInt (aCons (xOp (rtIn false) (xVar 6) (xVar 4)) aNil)))))
t_law_8)
def t_law_10 : DTS := (sSeq (sSet false 10 (xOp rtCat (xVar 3) (xOp oMul (xCall sp__law_bit [none] (aCons (xVar 6) aNil)) (xCB rnInt (aCons (xOp (rtIn true) (xVar 6) (xVar 4)) aNil)))))
t_law_9)
def t_law_11 : DTS := (sFor (iRange1 (aCons (xC (.int 12)) aNil)) (gNm false 6)
 t_law_10)
def t_law_12 : DTS := (sSeq (sSet false 7 (xCall sp__law_take [some 1, none] (aLend 1 (aCons (xC (.int 13)) aNil))))
t_law_3)
def t_law_13 : DTS := (sIf (xBorT (xOr (xNot (xB (xCall sp__law_alike [none, none] (aCons (xVar 9) (aCons (xVar 4) aNil))))) (xNot (xB (xCall sp__law_alike [none, none] (aCons (xCall sp_size [none] (aCons (xVar 3) aNil)) (aCons (xCB rnLen (aCons (xVar 4) aNil)) aNil)))))))
 (sRet (xC (.bl false)))
 sNext)
def t_law_14 : DTS := (sDrop (xApp 9 (xC (.int 99))))
def t_law_15 : DTS := (sSeq t_law_13
t_law_14)
def t_law_16 : DTS := (sSeq (sSet true 9 (xCall sp_members [none] (aCons (xVar 3) aNil)))
t_law_15)
def t_law_17 : DTS := (sFor (iRange1 (aCons (xC (.int 2)) aNil)) (gNm false 5)
 t_law_16)
def t_law_18 : DTS := (sSeq t_law_11
t_law_12)
def t_law_19 : DTS := (sSeq t_law_17
t_law_18)
def t_law_20 : DTS := (sSeq (sSet false 4 (xLc (iRange1 (aCons (xC (.int 12)) aNil)) (gNm false 6) (xB (xCall sp__law_in [none, none] (aCons (xVar 3) (aCons (xVar 6) aNil)))) (xVar 6) [6]))
t_law_19)
def t_law_21 : DTS := (sSeq (sSet false 3 (xCall sp__law_one [some 1, none] (aLend 1 (aCons (xLst (aCons (xCall sp__law_take [some 1, none] (aLend 1 (aCons (xC (.int 4096)) aNil))) (aCons (xCall sp__law_take [some 1, none] (aLend 1 (aCons (xC (.int 16)) aNil))) (aCons (xC (.int 0)) (aCons (xC (.int 4095)) aNil))))) aNil))))
t_law_20)
def t_law_22 : DTS := (sFor (iRange1 (aCons (xC (.int 6)) aNil)) (gNm false 2)
 t_law_21)
def t_law_23 : DTS := (sRet (xOp (rtEq false) (xLst (aCons (xCall sp_all_of [none] (aCons (xC (.int 0)) aNil)) (aCons (xCall sp_all_of [none] (aCons (xC (.int 3)) aNil)) (aCons (xCall sp_all_of [none] (aCons (xC (.int 12)) aNil)) aNil)))) (xLst (aCons (xC (.int 0)) (aCons (xC (.int 7)) (aCons (xC (.int 4095)) aNil))))))
def t_law_24 : DTS := (sSeq t_law_22
t_law_23)
def t_law : DTS := (sSeq (sSet true 1 (xCall sp__law_bag [none] (aCons (xVar 0) aNil)))
t_law_24)
theorem nat_and_pow (n k : Nat) : n &&& 2 ^ k = n / 2 ^ k % 2 * 2 ^ k := by
  apply Nat.eq_of_testBit_eq
  intro i
  rw [Nat.testBit_and, Nat.testBit_two_pow]
  have h2 : n / 2 ^ k % 2 = 0 ∨ n / 2 ^ k % 2 = 1 := by omega
  have ht : n.testBit k = decide (n / 2 ^ k % 2 = 1) := Nat.testBit_eq_decide_div_mod_eq
  rcases h2 with h2 | h2
  · rw [h2, Nat.zero_mul, Nat.zero_testBit]
    by_cases e : k = i
    · subst e
      rw [ht, h2]
      simp
    · simp [e]
  · rw [h2, Nat.one_mul, Nat.testBit_two_pow]
    by_cases e : k = i
    · subst e
      rw [ht, h2]
      simp
    · simp [e]
theorem bitAnd_pow {m : Int} (hm : 0 ≤ m) (k : Nat) : Builtin.bitAnd m (2 ^ k) = m / 2 ^ k % 2 * 2 ^ k := by
  obtain ⟨n, rfl⟩ := Int.eq_ofNat_of_zero_le hm
  rw [PyProof.Rows.two_pow_cast, PyProof.Rows.bitAnd_pp (Int.natCast_nonneg _) (Int.natCast_nonneg _), Int.toNat_natCast, Int.toNat_natCast, nat_and_pow]
  simp
theorem rd_all_of {ts : List T} {Q : T → List T → Prop} {E : Value → List (Str × V) → List T → Prop} (h : sp_all_of ts Q E) : t_all_of (bodyEnds [false] Q E) (startE 1 (frzP [false] ts)) := by
  obtain ⟨n, rfl, h1, h2, q⟩ := h
  (repeat (first | refine And.intro rfl ?_ | refine And.intro (frz_frz _) ?_ | refine And.intro (frz_ints _ _) ?_ | refine And.intro (Nat.le_of_ble_eq_true rfl) ?_ | refine Exists.intro _ (Exists.intro _ (And.intro rfl (And.intro rfl ?_))) | refine Exists.intro _ (And.intro rfl ?_) | refine And.intro (show (0 : Int) < _ by decide) ?_ | refine And.intro (show (0 : Int) ≤ _ by decide) ?_ | refine And.intro ⟨show (0 : Int) < _ by decide, show Nat.log2 _ < _ by decide⟩ ?_ | refine And.intro (Or.inl (Or.inr ⟨show (_ : Int) < _ by decide, show (_ : Int) < _ by decide⟩)) ?_ | refine And.intro (Or.inl (Or.inl ⟨show (_ : Int) < _ by decide, show (_ : Int) < _ by decide⟩)) ?_ | refine And.intro ⟨show (0 : Int) ≤ _ by decide, show (_ : Int) ≤ _ by decide, show Int.natAbs _ < _ by decide⟩ ?_))
  refine And.intro ⟨h1, by omega, by decide⟩ ?_
  have e : (1 * 2 ^ n.toNat - 1 : Int) = 2 ^ n.toNat - 1 := by rw [Int.one_mul]
  show Q (.leaf (.int (1 * 2 ^ n.toNat - 1))) []
  rw [e]
  exact q
theorem rd_holds {ts : List T} {Q : T → List T → Prop} {E : Value → List (Str × V) → List T → Prop} (h : sp_holds ts Q E) : t_holds (bodyEnds [false, false] Q E) (startE 2 (frzP [false, false] ts)) := by
  obtain ⟨m, k, rfl, h1, h2, q⟩ := h
  (repeat (first | refine And.intro rfl ?_ | refine And.intro (frz_frz _) ?_ | refine And.intro (frz_ints _ _) ?_ | refine And.intro (Nat.le_of_ble_eq_true rfl) ?_ | refine Exists.intro _ (Exists.intro _ (And.intro rfl (And.intro rfl ?_))) | refine Exists.intro _ (And.intro rfl ?_) | refine And.intro (show (0 : Int) < _ by decide) ?_ | refine And.intro (show (0 : Int) ≤ _ by decide) ?_ | refine And.intro ⟨show (0 : Int) < _ by decide, show Nat.log2 _ < _ by decide⟩ ?_ | refine And.intro (Or.inl (Or.inr ⟨show (_ : Int) < _ by decide, show (_ : Int) < _ by decide⟩)) ?_ | refine And.intro (Or.inl (Or.inl ⟨show (_ : Int) < _ by decide, show (_ : Int) < _ by decide⟩)) ?_ | refine And.intro ⟨show (0 : Int) ≤ _ by decide, show (_ : Int) ≤ _ by decide, show Int.natAbs _ < _ by decide⟩ ?_))
  refine And.intro (Int.natCast_nonneg k) ?_
  (repeat (first | refine And.intro rfl ?_ | refine And.intro (frz_frz _) ?_ | refine And.intro (frz_ints _ _) ?_ | refine And.intro (Nat.le_of_ble_eq_true rfl) ?_ | refine Exists.intro _ (Exists.intro _ (And.intro rfl (And.intro rfl ?_))) | refine Exists.intro _ (And.intro rfl ?_) | refine And.intro (show (0 : Int) < _ by decide) ?_ | refine And.intro (show (0 : Int) ≤ _ by decide) ?_ | refine And.intro ⟨show (0 : Int) < _ by decide, show Nat.log2 _ < _ by decide⟩ ?_ | refine And.intro (Or.inl (Or.inr ⟨show (_ : Int) < _ by decide, show (_ : Int) < _ by decide⟩)) ?_ | refine And.intro (Or.inl (Or.inl ⟨show (_ : Int) < _ by decide, show (_ : Int) < _ by decide⟩)) ?_ | refine And.intro ⟨show (0 : Int) ≤ _ by decide, show (_ : Int) ≤ _ by decide, show Int.natAbs _ < _ by decide⟩ ?_))
  show Q (.leaf (.bl (decide (Builtin.bitAnd (m / 2 ^ (k : Int).toNat) 1 = 1)))) []
  rw [Int.toNat_natCast, PyProof.Rows.bitAnd_m1]
  exact q
theorem rd_with_one {ts : List T} {Q : T → List T → Prop} {E : Value → List (Str × V) → List T → Prop} (h : sp_with_one ts Q E) : t_with_one (bodyEnds [false, false] Q E) (startE 2 (frzP [false, false] ts)) := by
  obtain ⟨m, k, rfl, h1, h2, q⟩ := h
  (repeat (first | refine And.intro rfl ?_ | refine And.intro (frz_frz _) ?_ | refine And.intro (frz_ints _ _) ?_ | refine And.intro (Nat.le_of_ble_eq_true rfl) ?_ | refine Exists.intro _ (Exists.intro _ (And.intro rfl (And.intro rfl ?_))) | refine Exists.intro _ (And.intro rfl ?_) | refine And.intro (show (0 : Int) < _ by decide) ?_ | refine And.intro (show (0 : Int) ≤ _ by decide) ?_ | refine And.intro ⟨show (0 : Int) < _ by decide, show Nat.log2 _ < _ by decide⟩ ?_ | refine And.intro (Or.inl (Or.inr ⟨show (_ : Int) < _ by decide, show (_ : Int) < _ by decide⟩)) ?_ | refine And.intro (Or.inl (Or.inl ⟨show (_ : Int) < _ by decide, show (_ : Int) < _ by decide⟩)) ?_ | refine And.intro ⟨show (0 : Int) ≤ _ by decide, show (_ : Int) ≤ _ by decide, show Int.natAbs _ < _ by decide⟩ ?_))
  refine And.intro ⟨Int.natCast_nonneg k, by omega, by decide⟩ ?_
  show Q (.leaf (.int (Builtin.bitOr m (1 * 2 ^ (k : Int).toNat)))) []
  have e : Builtin.bitOr m (1 * 2 ^ (k : Int).toNat) = if bit m k then m else m + 2 ^ k := by
    rw [Int.toNat_natCast, Int.one_mul, PyProof.Rows.bitOr_and, bitAnd_pow h1]
    by_cases z : m / 2 ^ k % 2 = 1
    · rw [if_pos (show bit m k from z), z]
      omega
    · rw [if_neg (show ¬ bit m k from z)]
      have : m / 2 ^ k % 2 = 0 := by omega
      rw [this]
      omega
  rw [e]
  exact q
theorem rd_without {ts : List T} {Q : T → List T → Prop} {E : Value → List (Str × V) → List T → Prop} (h : sp_without ts Q E) : t_without (bodyEnds [false, false] Q E) (startE 2 (frzP [false, false] ts)) := by
  obtain ⟨m, k, rfl, h1, h2, q⟩ := h
  (repeat (first | refine And.intro rfl ?_ | refine And.intro (frz_frz _) ?_ | refine And.intro (frz_ints _ _) ?_ | refine And.intro (Nat.le_of_ble_eq_true rfl) ?_ | refine Exists.intro _ (Exists.intro _ (And.intro rfl (And.intro rfl ?_))) | refine Exists.intro _ (And.intro rfl ?_) | refine And.intro (show (0 : Int) < _ by decide) ?_ | refine And.intro (show (0 : Int) ≤ _ by decide) ?_ | refine And.intro ⟨show (0 : Int) < _ by decide, show Nat.log2 _ < _ by decide⟩ ?_ | refine And.intro (Or.inl (Or.inr ⟨show (_ : Int) < _ by decide, show (_ : Int) < _ by decide⟩)) ?_ | refine And.intro (Or.inl (Or.inl ⟨show (_ : Int) < _ by decide, show (_ : Int) < _ by decide⟩)) ?_ | refine And.intro ⟨show (0 : Int) ≤ _ by decide, show (_ : Int) ≤ _ by decide, show Int.natAbs _ < _ by decide⟩ ?_))
  refine ⟨m, k, rfl, h1, h2, ?_⟩
  refine ifB_dec (fun hb => ?_) (fun hb => ?_)
  · (repeat (first | refine And.intro rfl ?_ | refine And.intro (frz_frz _) ?_ | refine And.intro (frz_ints _ _) ?_ | refine And.intro (Nat.le_of_ble_eq_true rfl) ?_ | refine Exists.intro _ (Exists.intro _ (And.intro rfl (And.intro rfl ?_))) | refine Exists.intro _ (And.intro rfl ?_) | refine And.intro (show (0 : Int) < _ by decide) ?_ | refine And.intro (show (0 : Int) ≤ _ by decide) ?_ | refine And.intro ⟨show (0 : Int) < _ by decide, show Nat.log2 _ < _ by decide⟩ ?_ | refine And.intro (Or.inl (Or.inr ⟨show (_ : Int) < _ by decide, show (_ : Int) < _ by decide⟩)) ?_ | refine And.intro (Or.inl (Or.inl ⟨show (_ : Int) < _ by decide, show (_ : Int) < _ by decide⟩)) ?_ | refine And.intro ⟨show (0 : Int) ≤ _ by decide, show (_ : Int) ≤ _ by decide, show Int.natAbs _ < _ by decide⟩ ?_))
    refine And.intro ⟨Int.natCast_nonneg k, by omega, by decide⟩ ?_
    show Q (.leaf (.int (Builtin.bitXor m (1 * 2 ^ (k : Int).toNat)))) []
    have e : Builtin.bitXor m (1 * 2 ^ (k : Int).toNat) = m - 2 ^ k := by
      rw [Int.toNat_natCast, Int.one_mul, PyProof.Rows.bitXor_and, bitAnd_pow h1]
      have z : m / 2 ^ k % 2 = 1 := hb
      rw [z]
      omega
    rw [e]
    rw [if_pos hb] at q
    exact q
  · (repeat (first | refine And.intro rfl ?_ | refine And.intro (frz_frz _) ?_ | refine And.intro (frz_ints _ _) ?_ | refine And.intro (Nat.le_of_ble_eq_true rfl) ?_ | refine Exists.intro _ (Exists.intro _ (And.intro rfl (And.intro rfl ?_))) | refine Exists.intro _ (And.intro rfl ?_) | refine And.intro (show (0 : Int) < _ by decide) ?_ | refine And.intro (show (0 : Int) ≤ _ by decide) ?_ | refine And.intro ⟨show (0 : Int) < _ by decide, show Nat.log2 _ < _ by decide⟩ ?_ | refine And.intro (Or.inl (Or.inr ⟨show (_ : Int) < _ by decide, show (_ : Int) < _ by decide⟩)) ?_ | refine And.intro (Or.inl (Or.inl ⟨show (_ : Int) < _ by decide, show (_ : Int) < _ by decide⟩)) ?_ | refine And.intro ⟨show (0 : Int) ≤ _ by decide, show (_ : Int) ≤ _ by decide, show Int.natAbs _ < _ by decide⟩ ?_))
    rw [if_neg hb] at q
    exact q
def bitsTo (m : Int) (k : Nat) : List Int := ((List.range k).filter fun j => decide (bit m j)).map fun (j : Nat) => (j : Int)
theorem bitsTo_succ (m : Int) (k : Nat) : bitsTo m (k + 1) = bitsTo m k ++ if bit m k then [(k : Int)] else [] := by
  unfold bitsTo
  rw [List.range_succ, List.filter_append, List.map_append]
  congr 1
  by_cases h : bit m k
  · simp [h]
  · simp [h]
theorem bitsTo_len (m : Int) (k : Nat) : (bitsTo m k).length ≤ k := by
  unfold bitsTo
  rw [List.length_map]
  exact Nat.le_trans (List.length_filter_le _ _) (by simp)
theorem bitsOf_eq (m : Int) : bitsOf m = bitsTo m 12 := rfl
theorem bit_none {m : Int} {k : Nat} (h : m / 2 ^ k = 0) (h0 : 0 ≤ m) : ∀ d, ¬ bit m (k + d) := by
  intro d hb
  have e : m / 2 ^ (k + d) = 0 := by
    rw [Int.pow_add, ← Int.ediv_ediv_of_nonneg (by
      rw [PyProof.Rows.two_pow_cast]
      exact Int.natCast_nonneg _), h]
    simp
  unfold bit at hb
  rw [e] at hb
  simp at hb
theorem bitsTo_end {m : Int} {k : Nat} (h : m / 2 ^ k = 0) (h0 : 0 ≤ m) : ∀ d, bitsTo m (k + d) = bitsTo m k
  | 0 => rfl
  | d + 1 => by
    rw [← Nat.add_assoc, bitsTo_succ, if_neg (bit_none h h0 d), List.append_nil, bitsTo_end h h0 d]
theorem members_while {m : Int} (h0 : 0 ≤ m) (h1 : m < 4096) {D : DEnds} (hD : ∀ a b, D.nx [a, some (.node true .lst (intsT (bitsOf m))), b]) :
    t_members_5 D [some (.leaf (.int m)), some (.node true .lst []), some (.leaf (.int 0))] := by
  refine While.ind (fun n g => ∃ k : Nat, k + n = 12 ∧ g = [some (.leaf (.int (m / 2 ^ k))), some (.node true .lst (intsT (bitsTo m k))), some (.leaf (.int k))]) 12 ⟨0, rfl, by simp [bitsTo]⟩ (fun n g hI R hR => ?_)
  obtain ⟨k, hk, rfl⟩ := hI
  (repeat (first | refine And.intro rfl ?_ | refine And.intro (frz_frz _) ?_ | refine And.intro (frz_ints _ _) ?_ | refine And.intro (Nat.le_of_ble_eq_true rfl) ?_ | refine Exists.intro _ (Exists.intro _ (And.intro rfl (And.intro rfl ?_))) | refine Exists.intro _ (And.intro rfl ?_) | refine And.intro (show (0 : Int) < _ by decide) ?_ | refine And.intro (show (0 : Int) ≤ _ by decide) ?_ | refine And.intro ⟨show (0 : Int) < _ by decide, show Nat.log2 _ < _ by decide⟩ ?_ | refine And.intro (Or.inl (Or.inr ⟨show (_ : Int) < _ by decide, show (_ : Int) < _ by decide⟩)) ?_ | refine And.intro (Or.inl (Or.inl ⟨show (_ : Int) < _ by decide, show (_ : Int) < _ by decide⟩)) ?_ | refine And.intro ⟨show (0 : Int) ≤ _ by decide, show (_ : Int) ≤ _ by decide, show Int.natAbs _ < _ by decide⟩ ?_))
  refine ifB_dec (fun hb => ?_) (fun hb => ?_)
  · have hk2 : k < 12 := by
      rcases Nat.lt_or_ge k 12 with z | z
      · exact z
      · have e : k = 12 := by omega
        subst e
        have : m / 2 ^ 12 = 0 := Int.ediv_eq_zero_of_lt h0 (by omega)
        omega
    have ih' := hR (n - 1) _ (by omega) ⟨k + 1, by omega, rfl⟩
    have e1 : m / 2 ^ k / 2 ^ (1 : Int).toNat = m / 2 ^ (k + 1) := by
      show m / 2 ^ k / 2 ^ 1 = _
      rw [Int.pow_add, ← Int.ediv_ediv_of_nonneg (by
        rw [PyProof.Rows.two_pow_cast]
        exact Int.natCast_nonneg _)]
    have hand : Builtin.bitAnd (m / 2 ^ k) 1 = m / 2 ^ k % 2 := PyProof.Rows.bitAnd_m1 _
    rw [← e1, bitsTo_succ] at ih'
    (repeat (first | refine And.intro rfl ?_ | refine And.intro (frz_frz _) ?_ | refine And.intro (frz_ints _ _) ?_ | refine And.intro (Nat.le_of_ble_eq_true rfl) ?_ | refine Exists.intro _ (Exists.intro _ (And.intro rfl (And.intro rfl ?_))) | refine Exists.intro _ (And.intro rfl ?_) | refine And.intro (show (0 : Int) < _ by decide) ?_ | refine And.intro (show (0 : Int) ≤ _ by decide) ?_ | refine And.intro ⟨show (0 : Int) < _ by decide, show Nat.log2 _ < _ by decide⟩ ?_ | refine And.intro (Or.inl (Or.inr ⟨show (_ : Int) < _ by decide, show (_ : Int) < _ by decide⟩)) ?_ | refine And.intro (Or.inl (Or.inl ⟨show (_ : Int) < _ by decide, show (_ : Int) < _ by decide⟩)) ?_ | refine And.intro ⟨show (0 : Int) ≤ _ by decide, show (_ : Int) ≤ _ by decide, show Int.natAbs _ < _ by decide⟩ ?_))
    refine ifB_dec (fun hc => ?_) (fun hc => ?_)
    · have hb2 : bit m k := hand.symm.trans hc
      rw [if_pos hb2] at ih'
      (repeat (first | refine And.intro rfl ?_ | refine And.intro (frz_frz _) ?_ | refine And.intro (frz_ints _ _) ?_ | refine And.intro (Nat.le_of_ble_eq_true rfl) ?_ | refine Exists.intro _ (Exists.intro _ (And.intro rfl (And.intro rfl ?_))) | refine Exists.intro _ (And.intro rfl ?_) | refine And.intro (show (0 : Int) < _ by decide) ?_ | refine And.intro (show (0 : Int) ≤ _ by decide) ?_ | refine And.intro ⟨show (0 : Int) < _ by decide, show Nat.log2 _ < _ by decide⟩ ?_ | refine And.intro (Or.inl (Or.inr ⟨show (_ : Int) < _ by decide, show (_ : Int) < _ by decide⟩)) ?_ | refine And.intro (Or.inl (Or.inl ⟨show (_ : Int) < _ by decide, show (_ : Int) < _ by decide⟩)) ?_ | refine And.intro ⟨show (0 : Int) ≤ _ by decide, show (_ : Int) ≤ _ by decide, show Int.natAbs _ < _ by decide⟩ ?_))
      refine And.intro ?_ ?_
      · have := bitsTo_len m k
        have e : (intsT (bitsTo m k)).length = (bitsTo m k).length := by simp [intsT]
        rw [e]
        show _ < 16777216
        omega
      (repeat (first | refine And.intro rfl ?_ | refine And.intro (frz_frz _) ?_ | refine And.intro (frz_ints _ _) ?_ | refine And.intro (Nat.le_of_ble_eq_true rfl) ?_ | refine Exists.intro _ (Exists.intro _ (And.intro rfl (And.intro rfl ?_))) | refine Exists.intro _ (And.intro rfl ?_) | refine And.intro (show (0 : Int) < _ by decide) ?_ | refine And.intro (show (0 : Int) ≤ _ by decide) ?_ | refine And.intro ⟨show (0 : Int) < _ by decide, show Nat.log2 _ < _ by decide⟩ ?_ | refine And.intro (Or.inl (Or.inr ⟨show (_ : Int) < _ by decide, show (_ : Int) < _ by decide⟩)) ?_ | refine And.intro (Or.inl (Or.inl ⟨show (_ : Int) < _ by decide, show (_ : Int) < _ by decide⟩)) ?_ | refine And.intro ⟨show (0 : Int) ≤ _ by decide, show (_ : Int) ≤ _ by decide, show Int.natAbs _ < _ by decide⟩ ?_))
      have e2 : intsT (bitsTo m k ++ [(k : Int)]) = intsT (bitsTo m k) ++ [.leaf (.int k)] := by simp [intsT]
      rw [e2] at ih'
      exact ih'
    · have hb2 : ¬ bit m k := fun z => hc (hand.trans z)
      rw [if_neg hb2, List.append_nil] at ih'
      (repeat (first | refine And.intro rfl ?_ | refine And.intro (frz_frz _) ?_ | refine And.intro (frz_ints _ _) ?_ | refine And.intro (Nat.le_of_ble_eq_true rfl) ?_ | refine Exists.intro _ (Exists.intro _ (And.intro rfl (And.intro rfl ?_))) | refine Exists.intro _ (And.intro rfl ?_) | refine And.intro (show (0 : Int) < _ by decide) ?_ | refine And.intro (show (0 : Int) ≤ _ by decide) ?_ | refine And.intro ⟨show (0 : Int) < _ by decide, show Nat.log2 _ < _ by decide⟩ ?_ | refine And.intro (Or.inl (Or.inr ⟨show (_ : Int) < _ by decide, show (_ : Int) < _ by decide⟩)) ?_ | refine And.intro (Or.inl (Or.inl ⟨show (_ : Int) < _ by decide, show (_ : Int) < _ by decide⟩)) ?_ | refine And.intro ⟨show (0 : Int) ≤ _ by decide, show (_ : Int) ≤ _ by decide, show Int.natAbs _ < _ by decide⟩ ?_))
      exact ih'
  · have hz : m / 2 ^ k = 0 := by
      have : 0 ≤ m / 2 ^ k := Int.ediv_nonneg h0 (by
        rw [PyProof.Rows.two_pow_cast]
        exact Int.natCast_nonneg _)
      omega
    have e : bitsOf m = bitsTo m k := by
      rw [bitsOf_eq]
      have := bitsTo_end hz h0 (12 - k)
      rwa [show k + (12 - k) = 12 by omega] at this
    rw [← e]
    exact hD _ _
theorem rd_members {ts : List T} {Q : T → List T → Prop} {E : Value → List (Str × V) → List T → Prop} (h : sp_members ts Q E) : t_members (bodyEnds [false] Q E) (startE 3 (frzP [false] ts)) := by
  obtain ⟨m, rfl, h1, h2, q⟩ := h
  exact And.intro (by decide) (members_while h1 h2 (D := seqE t_members_6 (bodyEnds [false] Q E)) (fun a b => by
    (repeat (first | refine And.intro rfl ?_ | refine And.intro (frz_frz _) ?_ | refine And.intro (frz_ints _ _) ?_ | refine And.intro (Nat.le_of_ble_eq_true rfl) ?_ | refine Exists.intro _ (Exists.intro _ (And.intro rfl (And.intro rfl ?_))) | refine Exists.intro _ (And.intro rfl ?_) | refine And.intro (show (0 : Int) < _ by decide) ?_ | refine And.intro (show (0 : Int) ≤ _ by decide) ?_ | refine And.intro ⟨show (0 : Int) < _ by decide, show Nat.log2 _ < _ by decide⟩ ?_ | refine And.intro (Or.inl (Or.inr ⟨show (_ : Int) < _ by decide, show (_ : Int) < _ by decide⟩)) ?_ | refine And.intro (Or.inl (Or.inl ⟨show (_ : Int) < _ by decide, show (_ : Int) < _ by decide⟩)) ?_ | refine And.intro ⟨show (0 : Int) ≤ _ by decide, show (_ : Int) ≤ _ by decide, show Int.natAbs _ < _ by decide⟩ ?_))
    exact q))
theorem rd_size {ts : List T} {Q : T → List T → Prop} {E : Value → List (Str × V) → List T → Prop} (h : sp_size ts Q E) : t_size (bodyEnds [false] Q E) (startE 1 (frzP [false] ts)) := by
  obtain ⟨m, rfl, h1, h2, q⟩ := h
  (repeat (first | refine And.intro rfl ?_ | refine And.intro (frz_frz _) ?_ | refine And.intro (frz_ints _ _) ?_ | refine And.intro (Nat.le_of_ble_eq_true rfl) ?_ | refine Exists.intro _ (Exists.intro _ (And.intro rfl (And.intro rfl ?_))) | refine Exists.intro _ (And.intro rfl ?_) | refine And.intro (show (0 : Int) < _ by decide) ?_ | refine And.intro (show (0 : Int) ≤ _ by decide) ?_ | refine And.intro ⟨show (0 : Int) < _ by decide, show Nat.log2 _ < _ by decide⟩ ?_ | refine And.intro (Or.inl (Or.inr ⟨show (_ : Int) < _ by decide, show (_ : Int) < _ by decide⟩)) ?_ | refine And.intro (Or.inl (Or.inl ⟨show (_ : Int) < _ by decide, show (_ : Int) < _ by decide⟩)) ?_ | refine And.intro ⟨show (0 : Int) ≤ _ by decide, show (_ : Int) ≤ _ by decide, show Int.natAbs _ < _ by decide⟩ ?_))
  refine ⟨h1, h2, ?_⟩
  show Q (.leaf (.int (intsT (bitsOf m)).length)) []
  have e : (intsT (bitsOf m)).length = (bitsOf m).length := by simp [intsT]
  rw [e]
  exact q
theorem rd__law_bag {ts : List T} {Q : T → List T → Prop} {E : Value → List (Str × V) → List T → Prop} (h : sp__law_bag ts Q E) : t__law_bag (bodyEnds [false] Q E) (startE 2 (frzP [false] ts)) := by
  obtain ⟨ns, rfl, h1, q⟩ := h
  (repeat (first | refine And.intro rfl ?_ | refine And.intro (frz_frz _) ?_ | refine And.intro (frz_ints _ _) ?_ | refine And.intro (Nat.le_of_ble_eq_true rfl) ?_ | refine Exists.intro _ (Exists.intro _ (And.intro rfl (And.intro rfl ?_))) | refine Exists.intro _ (And.intro rfl ?_) | refine And.intro (show (0 : Int) < _ by decide) ?_ | refine And.intro (show (0 : Int) ≤ _ by decide) ?_ | refine And.intro ⟨show (0 : Int) < _ by decide, show Nat.log2 _ < _ by decide⟩ ?_ | refine And.intro (Or.inl (Or.inr ⟨show (_ : Int) < _ by decide, show (_ : Int) < _ by decide⟩)) ?_ | refine And.intro (Or.inl (Or.inl ⟨show (_ : Int) < _ by decide, show (_ : Int) < _ by decide⟩)) ?_ | refine And.intro ⟨show (0 : Int) ≤ _ by decide, show (_ : Int) ≤ _ by decide, show Int.natAbs _ < _ by decide⟩ ?_))
  have e0 : (cutA (ns.map V.int) none (some 63)).map T.leaf = intsT (cutA ns none (some 63)) := by
    unfold cutA
    simp only [intsT, List.length_map, List.map_take, List.map_drop, List.map_map]
    rfl
  have hl : (intsT (cutA ns none (some 63))).length ≤ 63 := by
    have := cutA_length_le ns none (some 63)
    simp only [intsT, List.length_map]
    omega
  refine Lc.fm (fun t => match t with | .leaf (.int i) => some (.leaf (.int (if i < 0 then -i else i))) | _ => none) ?_ (fun t ht acc R' ha h1 h0 => ?_) ?_
  · rw [e0, intsT_frz]
    exact Nat.le_trans hl (by decide)
  · rw [e0, intsT_frz] at ht
    obtain ⟨i, _, rfl⟩ := List.mem_map.mp ht
    (repeat (first | refine And.intro rfl ?_ | refine And.intro (frz_frz _) ?_ | refine And.intro (frz_ints _ _) ?_ | refine And.intro (Nat.le_of_ble_eq_true rfl) ?_ | refine Exists.intro _ (Exists.intro _ (And.intro rfl (And.intro rfl ?_))) | refine Exists.intro _ (And.intro rfl ?_) | refine And.intro (show (0 : Int) < _ by decide) ?_ | refine And.intro (show (0 : Int) ≤ _ by decide) ?_ | refine And.intro ⟨show (0 : Int) < _ by decide, show Nat.log2 _ < _ by decide⟩ ?_ | refine And.intro (Or.inl (Or.inr ⟨show (_ : Int) < _ by decide, show (_ : Int) < _ by decide⟩)) ?_ | refine And.intro (Or.inl (Or.inl ⟨show (_ : Int) < _ by decide, show (_ : Int) < _ by decide⟩)) ?_ | refine And.intro ⟨show (0 : Int) ≤ _ by decide, show (_ : Int) ≤ _ by decide, show Int.natAbs _ < _ by decide⟩ ?_))
    exact And.intro ha (h1 _ rfl)
  · rw [e0, intsT_frz]
    have e1 : (intsT (cutA ns none (some 63))).filterMap (fun t => match t with | .leaf (.int i) => some (.leaf (.int (if i < 0 then -i else i))) | _ => none) = intsT ((cutA ns none (some 63)).map fun i => if i < 0 then -i else i) := by
      generalize cutA ns none (some 63) = l
      induction l with
      | nil => rfl
      | cons x l ih =>
        simp only [intsT, List.map_cons] at ih ⊢
        rw [List.filterMap_cons]
        simp only [ih]
    rw [e1]
    (repeat (first | refine And.intro rfl ?_ | refine And.intro (frz_frz _) ?_ | refine And.intro (frz_ints _ _) ?_ | refine And.intro (Nat.le_of_ble_eq_true rfl) ?_ | refine Exists.intro _ (Exists.intro _ (And.intro rfl (And.intro rfl ?_))) | refine Exists.intro _ (And.intro rfl ?_) | refine And.intro (show (0 : Int) < _ by decide) ?_ | refine And.intro (show (0 : Int) ≤ _ by decide) ?_ | refine And.intro ⟨show (0 : Int) < _ by decide, show Nat.log2 _ < _ by decide⟩ ?_ | refine And.intro (Or.inl (Or.inr ⟨show (_ : Int) < _ by decide, show (_ : Int) < _ by decide⟩)) ?_ | refine And.intro (Or.inl (Or.inl ⟨show (_ : Int) < _ by decide, show (_ : Int) < _ by decide⟩)) ?_ | refine And.intro ⟨show (0 : Int) ≤ _ by decide, show (_ : Int) ≤ _ by decide, show Int.natAbs _ < _ by decide⟩ ?_))
    refine q _ ⟨0, 1234567891, 0, true, _, rfl, by decide, by decide, by decide, by decide, ?_, ?_⟩
    · rw [List.length_map]
      simp only [intsT, List.length_map] at hl
      exact hl
    · intro x hx
      obtain ⟨i, _, rfl⟩ := List.mem_map.mp hx
      split <;> omega
theorem take_low {n : Int} {bag : T} {g4 g5 g6 : Option T} {Q : T → List T → Prop} {E : Value → List (Str × V) → List T → Prop} (hb : IsBag bag) (h2 : 0 < n) (h3 : n < 2 ^ 62)
    (q : ∀ (r : Int) (bag' : T), 0 ≤ r → r < n → IsBag bag' → Q (.leaf (.int r)) [bag']) : t__law_take_11 (bodyEnds [true, false] Q E) [some bag, some (.leaf (.int n)), none, none, g4, g5, g6] := by
  obtain ⟨a, c, d, o, cells, rfl, k1, k2, k3, k4, k5, k6⟩ := hb
  (repeat (first | refine And.intro rfl ?_ | refine And.intro (frz_frz _) ?_ | refine And.intro (frz_ints _ _) ?_ | refine And.intro (Nat.le_of_ble_eq_true rfl) ?_ | refine Exists.intro _ (Exists.intro _ (And.intro rfl (And.intro rfl ?_))) | refine Exists.intro _ (And.intro rfl ?_) | refine And.intro (show (0 : Int) < _ by decide) ?_ | refine And.intro (show (0 : Int) ≤ _ by decide) ?_ | refine And.intro ⟨show (0 : Int) < _ by decide, show Nat.log2 _ < _ by decide⟩ ?_ | refine And.intro (Or.inl (Or.inr ⟨show (_ : Int) < _ by decide, show (_ : Int) < _ by decide⟩)) ?_ | refine And.intro (Or.inl (Or.inl ⟨show (_ : Int) < _ by decide, show (_ : Int) < _ by decide⟩)) ?_ | refine And.intro ⟨show (0 : Int) ≤ _ by decide, show (_ : Int) ≤ _ by decide, show Int.natAbs _ < _ by decide⟩ ?_))
  refine ifB_dec (fun hb => ?_) (fun hb => ?_)
  · (repeat (first | refine And.intro rfl ?_ | refine And.intro (frz_frz _) ?_ | refine And.intro (frz_ints _ _) ?_ | refine And.intro (Nat.le_of_ble_eq_true rfl) ?_ | refine Exists.intro _ (Exists.intro _ (And.intro rfl (And.intro rfl ?_))) | refine Exists.intro _ (And.intro rfl ?_) | refine And.intro (show (0 : Int) < _ by decide) ?_ | refine And.intro (show (0 : Int) ≤ _ by decide) ?_ | refine And.intro ⟨show (0 : Int) < _ by decide, show Nat.log2 _ < _ by decide⟩ ?_ | refine And.intro (Or.inl (Or.inr ⟨show (_ : Int) < _ by decide, show (_ : Int) < _ by decide⟩)) ?_ | refine And.intro (Or.inl (Or.inl ⟨show (_ : Int) < _ by decide, show (_ : Int) < _ by decide⟩)) ?_ | refine And.intro ⟨show (0 : Int) ≤ _ by decide, show (_ : Int) ≤ _ by decide, show Int.natAbs _ < _ by decide⟩ ?_))
    refine And.intro h2 ?_
    (repeat (first | refine And.intro rfl ?_ | refine And.intro (frz_frz _) ?_ | refine And.intro (frz_ints _ _) ?_ | refine And.intro (Nat.le_of_ble_eq_true rfl) ?_ | refine Exists.intro _ (Exists.intro _ (And.intro rfl (And.intro rfl ?_))) | refine Exists.intro _ (And.intro rfl ?_) | refine And.intro (show (0 : Int) < _ by decide) ?_ | refine And.intro (show (0 : Int) ≤ _ by decide) ?_ | refine And.intro ⟨show (0 : Int) < _ by decide, show Nat.log2 _ < _ by decide⟩ ?_ | refine And.intro (Or.inl (Or.inr ⟨show (_ : Int) < _ by decide, show (_ : Int) < _ by decide⟩)) ?_ | refine And.intro (Or.inl (Or.inl ⟨show (_ : Int) < _ by decide, show (_ : Int) < _ by decide⟩)) ?_ | refine And.intro ⟨show (0 : Int) ≤ _ by decide, show (_ : Int) ≤ _ by decide, show Int.natAbs _ < _ by decide⟩ ?_))
    refine And.intro ⟨h2, Nat.lt_of_lt_of_le (PySem.Flt.log2_lt_of (k := 62) (by decide) (by omega)) (by decide)⟩ ?_
    (repeat (first | refine And.intro rfl ?_ | refine And.intro (frz_frz _) ?_ | refine And.intro (frz_ints _ _) ?_ | refine And.intro (Nat.le_of_ble_eq_true rfl) ?_ | refine Exists.intro _ (Exists.intro _ (And.intro rfl (And.intro rfl ?_))) | refine Exists.intro _ (And.intro rfl ?_) | refine And.intro (show (0 : Int) < _ by decide) ?_ | refine And.intro (show (0 : Int) ≤ _ by decide) ?_ | refine And.intro ⟨show (0 : Int) < _ by decide, show Nat.log2 _ < _ by decide⟩ ?_ | refine And.intro (Or.inl (Or.inr ⟨show (_ : Int) < _ by decide, show (_ : Int) < _ by decide⟩)) ?_ | refine And.intro (Or.inl (Or.inl ⟨show (_ : Int) < _ by decide, show (_ : Int) < _ by decide⟩)) ?_ | refine And.intro ⟨show (0 : Int) ≤ _ by decide, show (_ : Int) ≤ _ by decide, show Int.natAbs _ < _ by decide⟩ ?_))
    exact q _ _ (Int.emod_nonneg _ (by omega)) (Int.emod_lt_of_pos _ h2) ⟨_, _, _, _, cells, rfl, Int.ediv_nonneg k1 (by omega), k2, k3, k4, k5, k6⟩
  · (repeat (first | refine And.intro rfl ?_ | refine And.intro (frz_frz _) ?_ | refine And.intro (frz_ints _ _) ?_ | refine And.intro (Nat.le_of_ble_eq_true rfl) ?_ | refine Exists.intro _ (Exists.intro _ (And.intro rfl (And.intro rfl ?_))) | refine Exists.intro _ (And.intro rfl ?_) | refine And.intro (show (0 : Int) < _ by decide) ?_ | refine And.intro (show (0 : Int) ≤ _ by decide) ?_ | refine And.intro ⟨show (0 : Int) < _ by decide, show Nat.log2 _ < _ by decide⟩ ?_ | refine And.intro (Or.inl (Or.inr ⟨show (_ : Int) < _ by decide, show (_ : Int) < _ by decide⟩)) ?_ | refine And.intro (Or.inl (Or.inl ⟨show (_ : Int) < _ by decide, show (_ : Int) < _ by decide⟩)) ?_ | refine And.intro ⟨show (0 : Int) ≤ _ by decide, show (_ : Int) ≤ _ by decide, show Int.natAbs _ < _ by decide⟩ ?_))
    refine And.intro (.inl (.inl ⟨?_, ?_⟩)) ?_
    · exact Int.lt_of_lt_of_le (by decide) (Int.emod_nonneg _ (by decide))
    · exact Int.lt_trans (Int.emod_lt_of_pos _ (by decide)) (by decide)
    (repeat (first | refine And.intro rfl ?_ | refine And.intro (frz_frz _) ?_ | refine And.intro (frz_ints _ _) ?_ | refine And.intro (Nat.le_of_ble_eq_true rfl) ?_ | refine Exists.intro _ (Exists.intro _ (And.intro rfl (And.intro rfl ?_))) | refine Exists.intro _ (And.intro rfl ?_) | refine And.intro (show (0 : Int) < _ by decide) ?_ | refine And.intro (show (0 : Int) ≤ _ by decide) ?_ | refine And.intro ⟨show (0 : Int) < _ by decide, show Nat.log2 _ < _ by decide⟩ ?_ | refine And.intro (Or.inl (Or.inr ⟨show (_ : Int) < _ by decide, show (_ : Int) < _ by decide⟩)) ?_ | refine And.intro (Or.inl (Or.inl ⟨show (_ : Int) < _ by decide, show (_ : Int) < _ by decide⟩)) ?_ | refine And.intro ⟨show (0 : Int) ≤ _ by decide, show (_ : Int) ≤ _ by decide, show Int.natAbs _ < _ by decide⟩ ?_))
    refine And.intro h2 ?_
    (repeat (first | refine And.intro rfl ?_ | refine And.intro (frz_frz _) ?_ | refine And.intro (frz_ints _ _) ?_ | refine And.intro (Nat.le_of_ble_eq_true rfl) ?_ | refine Exists.intro _ (Exists.intro _ (And.intro rfl (And.intro rfl ?_))) | refine Exists.intro _ (And.intro rfl ?_) | refine And.intro (show (0 : Int) < _ by decide) ?_ | refine And.intro (show (0 : Int) ≤ _ by decide) ?_ | refine And.intro ⟨show (0 : Int) < _ by decide, show Nat.log2 _ < _ by decide⟩ ?_ | refine And.intro (Or.inl (Or.inr ⟨show (_ : Int) < _ by decide, show (_ : Int) < _ by decide⟩)) ?_ | refine And.intro (Or.inl (Or.inl ⟨show (_ : Int) < _ by decide, show (_ : Int) < _ by decide⟩)) ?_ | refine And.intro ⟨show (0 : Int) ≤ _ by decide, show (_ : Int) ≤ _ by decide, show Int.natAbs _ < _ by decide⟩ ?_))
    refine q _ _ (Int.emod_nonneg _ (by omega)) (Int.emod_lt_of_pos _ h2) ⟨a, c, d, o, cells, rfl, k1, k2, k3, k4, k5, k6⟩
theorem take_high {n : Int} {bag : T} {D : DEnds} (hb : IsBag bag) (hD : ∀ bag' g4 g5, IsBag bag' → D.nx [some bag', some (.leaf (.int n)), none, none, g4, g5, none]) : t__law_take_10 D [some bag, some (.leaf (.int n)), none, none, none, none, none] := by
  obtain ⟨a, c, d, o, cells, rfl, k1, k2, k3, k4, k5, k6⟩ := hb
  (repeat (first | refine And.intro rfl ?_ | refine And.intro (frz_frz _) ?_ | refine And.intro (frz_ints _ _) ?_ | refine And.intro (Nat.le_of_ble_eq_true rfl) ?_ | refine Exists.intro _ (Exists.intro _ (And.intro rfl (And.intro rfl ?_))) | refine Exists.intro _ (And.intro rfl ?_) | refine And.intro (show (0 : Int) < _ by decide) ?_ | refine And.intro (show (0 : Int) ≤ _ by decide) ?_ | refine And.intro ⟨show (0 : Int) < _ by decide, show Nat.log2 _ < _ by decide⟩ ?_ | refine And.intro (Or.inl (Or.inr ⟨show (_ : Int) < _ by decide, show (_ : Int) < _ by decide⟩)) ?_ | refine And.intro (Or.inl (Or.inl ⟨show (_ : Int) < _ by decide, show (_ : Int) < _ by decide⟩)) ?_ | refine And.intro ⟨show (0 : Int) ≤ _ by decide, show (_ : Int) ≤ _ by decide, show Int.natAbs _ < _ by decide⟩ ?_))
  refine ifB_dec (fun hb => ?_) (fun hb => ?_)
  · (repeat (first | refine And.intro rfl ?_ | refine And.intro (frz_frz _) ?_ | refine And.intro (frz_ints _ _) ?_ | refine And.intro (Nat.le_of_ble_eq_true rfl) ?_ | refine Exists.intro _ (Exists.intro _ (And.intro rfl (And.intro rfl ?_))) | refine Exists.intro _ (And.intro rfl ?_) | refine And.intro (show (0 : Int) < _ by decide) ?_ | refine And.intro (show (0 : Int) ≤ _ by decide) ?_ | refine And.intro ⟨show (0 : Int) < _ by decide, show Nat.log2 _ < _ by decide⟩ ?_ | refine And.intro (Or.inl (Or.inr ⟨show (_ : Int) < _ by decide, show (_ : Int) < _ by decide⟩)) ?_ | refine And.intro (Or.inl (Or.inl ⟨show (_ : Int) < _ by decide, show (_ : Int) < _ by decide⟩)) ?_ | refine And.intro ⟨show (0 : Int) ≤ _ by decide, show (_ : Int) ≤ _ by decide, show Int.natAbs _ < _ by decide⟩ ?_))
    refine And.intro ?_ ?_
    · have := cutA_length_le (frzL (frzL (intsT cells))) (some d) none
      rw [intsT_frz, intsT_frz] at this ⊢
      have e : (intsT cells).length = cells.length := by simp [intsT]
      show _ + 1 ≤ 16777216
      omega
    obtain ⟨x, hx, hm⟩ := at_first' cells (some d)
    have x0 : 0 ≤ x := hm.elim (fun z => by omega) fun z => k6 x z
    refine Exists.intro _ (And.intro hx ?_)
    (repeat (first | refine And.intro rfl ?_ | refine And.intro (frz_frz _) ?_ | refine And.intro (frz_ints _ _) ?_ | refine And.intro (Nat.le_of_ble_eq_true rfl) ?_ | refine Exists.intro _ (Exists.intro _ (And.intro rfl (And.intro rfl ?_))) | refine Exists.intro _ (And.intro rfl ?_) | refine And.intro (show (0 : Int) < _ by decide) ?_ | refine And.intro (show (0 : Int) ≤ _ by decide) ?_ | refine And.intro ⟨show (0 : Int) < _ by decide, show Nat.log2 _ < _ by decide⟩ ?_ | refine And.intro (Or.inl (Or.inr ⟨show (_ : Int) < _ by decide, show (_ : Int) < _ by decide⟩)) ?_ | refine And.intro (Or.inl (Or.inl ⟨show (_ : Int) < _ by decide, show (_ : Int) < _ by decide⟩)) ?_ | refine And.intro ⟨show (0 : Int) ≤ _ by decide, show (_ : Int) ≤ _ by decide, show Int.natAbs _ < _ by decide⟩ ?_))
    refine And.intro (.inl (.inr ?_)) ?_
    · split <;> exact ⟨by decide, by decide⟩
    (repeat (first | refine And.intro rfl ?_ | refine And.intro (frz_frz _) ?_ | refine And.intro (frz_ints _ _) ?_ | refine And.intro (Nat.le_of_ble_eq_true rfl) ?_ | refine Exists.intro _ (Exists.intro _ (And.intro rfl (And.intro rfl ?_))) | refine Exists.intro _ (And.intro rfl ?_) | refine And.intro (show (0 : Int) < _ by decide) ?_ | refine And.intro (show (0 : Int) ≤ _ by decide) ?_ | refine And.intro ⟨show (0 : Int) < _ by decide, show Nat.log2 _ < _ by decide⟩ ?_ | refine And.intro (Or.inl (Or.inr ⟨show (_ : Int) < _ by decide, show (_ : Int) < _ by decide⟩)) ?_ | refine And.intro (Or.inl (Or.inl ⟨show (_ : Int) < _ by decide, show (_ : Int) < _ by decide⟩)) ?_ | refine And.intro ⟨show (0 : Int) ≤ _ by decide, show (_ : Int) ≤ _ by decide, show Int.natAbs _ < _ by decide⟩ ?_))
    refine hD (.node true .lst [.leaf (.int (x * (if decide ((1000000000000000000 : Int) ≤ x) = true then 1 else 0))), .leaf (.int _), .leaf (.int (d + 1)), .node false .lst (frzL (intsT cells))]) _ _ ⟨_, _, _, _, cells, by rw [intsT_frz], ?_, Int.emod_nonneg _ (by decide), Int.emod_lt_of_pos _ (by decide), ?_, k5, k6⟩
    · split
      · exact Int.mul_nonneg x0 (by decide)
      · exact Int.mul_nonneg x0 (by decide)
    · omega
  · (repeat (first | refine And.intro rfl ?_ | refine And.intro (frz_frz _) ?_ | refine And.intro (frz_ints _ _) ?_ | refine And.intro (Nat.le_of_ble_eq_true rfl) ?_ | refine Exists.intro _ (Exists.intro _ (And.intro rfl (And.intro rfl ?_))) | refine Exists.intro _ (And.intro rfl ?_) | refine And.intro (show (0 : Int) < _ by decide) ?_ | refine And.intro (show (0 : Int) ≤ _ by decide) ?_ | refine And.intro ⟨show (0 : Int) < _ by decide, show Nat.log2 _ < _ by decide⟩ ?_ | refine And.intro (Or.inl (Or.inr ⟨show (_ : Int) < _ by decide, show (_ : Int) < _ by decide⟩)) ?_ | refine And.intro (Or.inl (Or.inl ⟨show (_ : Int) < _ by decide, show (_ : Int) < _ by decide⟩)) ?_ | refine And.intro ⟨show (0 : Int) ≤ _ by decide, show (_ : Int) ≤ _ by decide, show Int.natAbs _ < _ by decide⟩ ?_))
    exact hD _ none none ⟨a, c, d, o, cells, rfl, k1, k2, k3, k4, k5, k6⟩
theorem rd__law_take {ts : List T} {Q : T → List T → Prop} {E : Value → List (Str × V) → List T → Prop} (h : sp__law_take ts Q E) : t__law_take (bodyEnds [true, false] Q E) (startE 7 (frzP [true, false] ts)) := by
  obtain ⟨b, n, rfl, hb, h2, h3, q⟩ := h
  exact take_high (D := seqE t__law_take_11 (bodyEnds [true, false] Q E)) hb fun bag' g4 g5 hb' => take_low hb' h2 h3 q
theorem rd__law_alike {ts : List T} {Q : T → List T → Prop} {E : Value → List (Str × V) → List T → Prop} (h : sp__law_alike ts Q E) : t__law_alike (bodyEnds [false, false] Q E) (startE 2 (frzP [false, false] ts)) := by
  obtain ⟨a, b, d, rfl, ha, hb, hd, q⟩ := h
  (repeat (first | refine And.intro rfl ?_ | refine And.intro (frz_frz _) ?_ | refine And.intro (frz_ints _ _) ?_ | refine And.intro (Nat.le_of_ble_eq_true rfl) ?_ | refine Exists.intro _ (Exists.intro _ (And.intro rfl (And.intro rfl ?_))) | refine Exists.intro _ (And.intro rfl ?_) | refine And.intro (show (0 : Int) < _ by decide) ?_ | refine And.intro (show (0 : Int) ≤ _ by decide) ?_ | refine And.intro ⟨show (0 : Int) < _ by decide, show Nat.log2 _ < _ by decide⟩ ?_ | refine And.intro (Or.inl (Or.inr ⟨show (_ : Int) < _ by decide, show (_ : Int) < _ by decide⟩)) ?_ | refine And.intro (Or.inl (Or.inl ⟨show (_ : Int) < _ by decide, show (_ : Int) < _ by decide⟩)) ?_ | refine And.intro ⟨show (0 : Int) ≤ _ by decide, show (_ : Int) ≤ _ by decide, show Int.natAbs _ < _ by decide⟩ ?_))
  refine rtEq_same (d := d) (by rw [toP_frz]; exact ha) (by rw [toP_frz]; exact hb) hd ?_
  (repeat (first | refine And.intro rfl ?_ | refine And.intro (frz_frz _) ?_ | refine And.intro (frz_ints _ _) ?_ | refine And.intro (Nat.le_of_ble_eq_true rfl) ?_ | refine Exists.intro _ (Exists.intro _ (And.intro rfl (And.intro rfl ?_))) | refine Exists.intro _ (And.intro rfl ?_) | refine And.intro (show (0 : Int) < _ by decide) ?_ | refine And.intro (show (0 : Int) ≤ _ by decide) ?_ | refine And.intro ⟨show (0 : Int) < _ by decide, show Nat.log2 _ < _ by decide⟩ ?_ | refine And.intro (Or.inl (Or.inr ⟨show (_ : Int) < _ by decide, show (_ : Int) < _ by decide⟩)) ?_ | refine And.intro (Or.inl (Or.inl ⟨show (_ : Int) < _ by decide, show (_ : Int) < _ by decide⟩)) ?_ | refine And.intro ⟨show (0 : Int) ≤ _ by decide, show (_ : Int) ≤ _ by decide, show Int.natAbs _ < _ by decide⟩ ?_))
  refine ⟨d, by rw [toP_frz]; exact ha, hd.show, hd.nodict, hd.dp, hd.len, ?_⟩
  (repeat (first | refine And.intro rfl ?_ | refine And.intro (frz_frz _) ?_ | refine And.intro (frz_ints _ _) ?_ | refine And.intro (Nat.le_of_ble_eq_true rfl) ?_ | refine Exists.intro _ (Exists.intro _ (And.intro rfl (And.intro rfl ?_))) | refine Exists.intro _ (And.intro rfl ?_) | refine And.intro (show (0 : Int) < _ by decide) ?_ | refine And.intro (show (0 : Int) ≤ _ by decide) ?_ | refine And.intro ⟨show (0 : Int) < _ by decide, show Nat.log2 _ < _ by decide⟩ ?_ | refine And.intro (Or.inl (Or.inr ⟨show (_ : Int) < _ by decide, show (_ : Int) < _ by decide⟩)) ?_ | refine And.intro (Or.inl (Or.inl ⟨show (_ : Int) < _ by decide, show (_ : Int) < _ by decide⟩)) ?_ | refine And.intro ⟨show (0 : Int) ≤ _ by decide, show (_ : Int) ≤ _ by decide, show Int.natAbs _ < _ by decide⟩ ?_))
  refine ⟨d, by rw [toP_frz]; exact hb, hd.show, hd.nodict, hd.dp, hd.len, ?_⟩
  show Q (.leaf (.bl (decide (d.shown = d.shown)))) []
  rw [decide_eq_true rfl]
  exact q
theorem rd__law_one {ts : List T} {Q : T → List T → Prop} {E : Value → List (Str × V) → List T → Prop} (h : sp__law_one ts Q E) : t__law_one (bodyEnds [true, false] Q E) (startE 2 (frzP [true, false] ts)) := by
  obtain ⟨b, o, its, rfl, hb, h2, h3, q⟩ := h
  have hpos : 0 < its.length := by
    cases its with
    | nil => exact absurd rfl h2
    | cons => simp
  (repeat (first | refine And.intro rfl ?_ | refine And.intro (frz_frz _) ?_ | refine And.intro (frz_ints _ _) ?_ | refine And.intro (Nat.le_of_ble_eq_true rfl) ?_ | refine Exists.intro _ (Exists.intro _ (And.intro rfl (And.intro rfl ?_))) | refine Exists.intro _ (And.intro rfl ?_) | refine And.intro (show (0 : Int) < _ by decide) ?_ | refine And.intro (show (0 : Int) ≤ _ by decide) ?_ | refine And.intro ⟨show (0 : Int) < _ by decide, show Nat.log2 _ < _ by decide⟩ ?_ | refine And.intro (Or.inl (Or.inr ⟨show (_ : Int) < _ by decide, show (_ : Int) < _ by decide⟩)) ?_ | refine And.intro (Or.inl (Or.inl ⟨show (_ : Int) < _ by decide, show (_ : Int) < _ by decide⟩)) ?_ | refine And.intro ⟨show (0 : Int) ≤ _ by decide, show (_ : Int) ≤ _ by decide, show Int.natAbs _ < _ by decide⟩ ?_))
  have e : (frzL its).length = its.length := by rw [frzL_map, List.length_map]
  refine ⟨b, ((frzL its).length : Int), rfl, hb, by omega, by omega, fun r bag' r0 r1 hb' => ?_⟩
  (repeat (first | refine And.intro rfl ?_ | refine And.intro (frz_frz _) ?_ | refine And.intro (frz_ints _ _) ?_ | refine And.intro (Nat.le_of_ble_eq_true rfl) ?_ | refine Exists.intro _ (Exists.intro _ (And.intro rfl (And.intro rfl ?_))) | refine Exists.intro _ (And.intro rfl ?_) | refine And.intro (show (0 : Int) < _ by decide) ?_ | refine And.intro (show (0 : Int) ≤ _ by decide) ?_ | refine And.intro ⟨show (0 : Int) < _ by decide, show Nat.log2 _ < _ by decide⟩ ?_ | refine And.intro (Or.inl (Or.inr ⟨show (_ : Int) < _ by decide, show (_ : Int) < _ by decide⟩)) ?_ | refine And.intro (Or.inl (Or.inl ⟨show (_ : Int) < _ by decide, show (_ : Int) < _ by decide⟩)) ?_ | refine And.intro ⟨show (0 : Int) ≤ _ by decide, show (_ : Int) ≤ _ by decide, show Int.natAbs _ < _ by decide⟩ ?_))
  obtain ⟨k, rfl⟩ := Int.eq_ofNat_of_zero_le r0
  have hk : k < (frzL its).length := by omega
  have hk2 : k < its.length := by omega
  have ha : atI (frzL its) (k : Int) = some (frz its[k]) := by
    unfold atI
    rw [ixN_nat, if_pos hk]
    show (frzL its)[k]? = _
    simp only [frzL_map, List.getElem?_map, List.getElem?_eq_getElem hk2]
    rfl
  refine Exists.intro _ (And.intro ha ?_)
  have := q its[k] bag' (List.getElem_mem hk2) hb'
  rw [← frz_frz] at this
  exact this
theorem rd__law_bit {ts : List T} {Q : T → List T → Prop} {E : Value → List (Str × V) → List T → Prop} (h : sp__law_bit ts Q E) : t__law_bit (bodyEnds [false] Q E) (startE 1 (frzP [false] ts)) := by
  obtain ⟨k, rfl, h1, q⟩ := h
  (repeat (first | refine And.intro rfl ?_ | refine And.intro (frz_frz _) ?_ | refine And.intro (frz_ints _ _) ?_ | refine And.intro (Nat.le_of_ble_eq_true rfl) ?_ | refine Exists.intro _ (Exists.intro _ (And.intro rfl (And.intro rfl ?_))) | refine Exists.intro _ (And.intro rfl ?_) | refine And.intro (show (0 : Int) < _ by decide) ?_ | refine And.intro (show (0 : Int) ≤ _ by decide) ?_ | refine And.intro ⟨show (0 : Int) < _ by decide, show Nat.log2 _ < _ by decide⟩ ?_ | refine And.intro (Or.inl (Or.inr ⟨show (_ : Int) < _ by decide, show (_ : Int) < _ by decide⟩)) ?_ | refine And.intro (Or.inl (Or.inl ⟨show (_ : Int) < _ by decide, show (_ : Int) < _ by decide⟩)) ?_ | refine And.intro ⟨show (0 : Int) ≤ _ by decide, show (_ : Int) ≤ _ by decide, show Int.natAbs _ < _ by decide⟩ ?_))
  have : k = 0 ∨ k = 1 ∨ k = 2 ∨ k = 3 ∨ k = 4 ∨ k = 5 ∨ k = 6 ∨ k = 7 ∨ k = 8 ∨ k = 9 ∨ k = 10 ∨ k = 11 := by omega
  rcases this with rfl | rfl | rfl | rfl | rfl | rfl | rfl | rfl | rfl | rfl | rfl | rfl <;> exact Exists.intro _ (And.intro rfl q)
theorem rd__law_in {ts : List T} {Q : T → List T → Prop} {E : Value → List (Str × V) → List T → Prop} (h : sp__law_in ts Q E) : t__law_in (bodyEnds [false, false] Q E) (startE 2 (frzP [false, false] ts)) := by
  obtain ⟨m, k, rfl, h1, h2, q⟩ := h
  (repeat (first | refine And.intro rfl ?_ | refine And.intro (frz_frz _) ?_ | refine And.intro (frz_ints _ _) ?_ | refine And.intro (Nat.le_of_ble_eq_true rfl) ?_ | refine Exists.intro _ (Exists.intro _ (And.intro rfl (And.intro rfl ?_))) | refine Exists.intro _ (And.intro rfl ?_) | refine And.intro (show (0 : Int) < _ by decide) ?_ | refine And.intro (show (0 : Int) ≤ _ by decide) ?_ | refine And.intro ⟨show (0 : Int) < _ by decide, show Nat.log2 _ < _ by decide⟩ ?_ | refine And.intro (Or.inl (Or.inr ⟨show (_ : Int) < _ by decide, show (_ : Int) < _ by decide⟩)) ?_ | refine And.intro (Or.inl (Or.inl ⟨show (_ : Int) < _ by decide, show (_ : Int) < _ by decide⟩)) ?_ | refine And.intro ⟨show (0 : Int) ≤ _ by decide, show (_ : Int) ≤ _ by decide, show Int.natAbs _ < _ by decide⟩ ?_))
  refine ⟨h2, ?_⟩
  have hp : (0 : Int) < 2 ^ k := by
    have := Nat.two_pow_pos k
    rw [PyProof.Rows.two_pow_cast]
    omega
  have hp2 : (2 : Int) ^ k < 2 ^ 12 := by
    have := Nat.pow_lt_pow_right (a := 2) (by decide) h2
    rw [PyProof.Rows.two_pow_cast]
    have e : ((2 : Int) ^ 12) = ((2 ^ 12 : Nat) : Int) := by decide
    rw [e]
    omega
  refine And.intro ⟨hp, Nat.lt_of_lt_of_le (PySem.Flt.log2_lt_of (k := 12) (by decide) (by omega)) (by decide)⟩ ?_
  (repeat (first | refine And.intro rfl ?_ | refine And.intro (frz_frz _) ?_ | refine And.intro (frz_ints _ _) ?_ | refine And.intro (Nat.le_of_ble_eq_true rfl) ?_ | refine Exists.intro _ (Exists.intro _ (And.intro rfl (And.intro rfl ?_))) | refine Exists.intro _ (And.intro rfl ?_) | refine And.intro (show (0 : Int) < _ by decide) ?_ | refine And.intro (show (0 : Int) ≤ _ by decide) ?_ | refine And.intro ⟨show (0 : Int) < _ by decide, show Nat.log2 _ < _ by decide⟩ ?_ | refine And.intro (Or.inl (Or.inr ⟨show (_ : Int) < _ by decide, show (_ : Int) < _ by decide⟩)) ?_ | refine And.intro (Or.inl (Or.inl ⟨show (_ : Int) < _ by decide, show (_ : Int) < _ by decide⟩)) ?_ | refine And.intro ⟨show (0 : Int) ≤ _ by decide, show (_ : Int) ≤ _ by decide, show Int.natAbs _ < _ by decide⟩ ?_))
  exact q
theorem toP_ints (o : Bool) (ns : List Int) : toP (.node o .lst (intsT ns)) = some (.list (ns.map .int)) := by
  simp only [toP, toPL_ints]
  rfl
theorem bits_small (m : Int) : ∀ n ∈ bitsOf m, n.natAbs < 2 ^ 1800 := by
  intro n hn
  obtain ⟨k, hk, rfl⟩ := List.mem_map.mp hn
  have := (List.mem_filter.mp hk).1
  rw [List.mem_range] at this
  exact small_of_abs (Nat.lt_of_lt_of_le (by omega : (k : Int).natAbs < 12) (by decide))
theorem bits_len (m : Int) : (bitsOf m).length ≤ 12 := bitsTo_len m 12
theorem bits_in (m : Int) {k : Nat} (hk : k < 12) : inV (.int k) ((bitsOf m).map V.int) = decide (bit m k) := by
  unfold inV
  rw [Bool.eq_iff_iff, List.any_eq_true, decide_eq_true_eq]
  constructor
  · rintro ⟨v, hv, e⟩
    obtain ⟨n, hn, rfl⟩ := List.mem_map.mp hv
    obtain ⟨j, hj, rfl⟩ := List.mem_map.mp hn
    have e2 : (j : Int) = k := by simpa [eqV] using e
    have e3 : j = k := by omega
    subst e3
    exact of_decide_eq_true (List.mem_filter.mp hj).2
  · intro hb
    refine ⟨.int k, List.mem_map.mpr ⟨k, List.mem_map.mpr ⟨k, List.mem_filter.mpr ⟨List.mem_range.mpr hk, decide_eq_true hb⟩, rfl⟩, rfl⟩, by simp [eqV]⟩
theorem bits_flat (m : Int) : ((bitsOf m).map V.int).all flatV = true := by
  rw [List.all_map]
  exact List.all_eq_true.mpr fun _ _ => rfl
theorem rangeT_get {lo : Int} {n i : Nat} {t : T} (h : (rangeT lo n)[i]? = some t) : i < n ∧ t = .leaf (.int (lo + i)) := by
  unfold rangeT at h
  rw [List.getElem?_map] at h
  by_cases hi : i < n
  · rw [List.getElem?_range hi] at h
    cases h
    exact ⟨hi, rfl⟩
  · rw [List.getElem?_eq_none (by simpa using hi)] at h
    cases h
theorem loop_two {D : DEnds} {s0 g1 g2 g5 g6 g7 g8 g9 g10 g11 : Option T} {m : Int} (h0 : 0 ≤ m) (h1 : m < 4096) (hD : ∀ g5 g9, D.nx [s0, g1, g2, some (.leaf (.int m)), some (.node false .lst (intsT (bitsOf m))), g5, g6, g7, g8, g9, g10, g11])
    (hR : True) : t_law_17 D [s0, g1, g2, some (.leaf (.int m)), some (.node false .lst (intsT (bitsOf m))), g5, g6, g7, g8, g9, g10, g11] := by
  (repeat (first | refine And.intro rfl ?_ | refine And.intro (frz_frz _) ?_ | refine And.intro (frz_ints _ _) ?_ | refine And.intro (Nat.le_of_ble_eq_true rfl) ?_ | refine Exists.intro _ (Exists.intro _ (And.intro rfl (And.intro rfl ?_))) | refine Exists.intro _ (And.intro rfl ?_) | refine And.intro (show (0 : Int) < _ by decide) ?_ | refine And.intro (show (0 : Int) ≤ _ by decide) ?_ | refine And.intro ⟨show (0 : Int) < _ by decide, show Nat.log2 _ < _ by decide⟩ ?_ | refine And.intro (Or.inl (Or.inr ⟨show (_ : Int) < _ by decide, show (_ : Int) < _ by decide⟩)) ?_ | refine And.intro (Or.inl (Or.inl ⟨show (_ : Int) < _ by decide, show (_ : Int) < _ by decide⟩)) ?_ | refine And.intro ⟨show (0 : Int) ≤ _ by decide, show (_ : Int) ≤ _ by decide, show Int.natAbs _ < _ by decide⟩ ?_))
  refine And.intro (by decide) (And.intro (by decide) ?_)
  refine Loop.ind (fun _ g => ∃ g5 g9, g = [s0, g1, g2, some (.leaf (.int m)), some (.node false .lst (intsT (bitsOf m))), g5, g6, g7, g8, g9, g10, g11]) ⟨_, _, rfl⟩ (fun i t g ht hI R hR => ?_) (fun g hI => ?_)
  · obtain ⟨g5, g9, rfl⟩ := hI
    (repeat (first | refine And.intro rfl ?_ | refine And.intro (frz_frz _) ?_ | refine And.intro (frz_ints _ _) ?_ | refine And.intro (Nat.le_of_ble_eq_true rfl) ?_ | refine Exists.intro _ (Exists.intro _ (And.intro rfl (And.intro rfl ?_))) | refine Exists.intro _ (And.intro rfl ?_) | refine And.intro (show (0 : Int) < _ by decide) ?_ | refine And.intro (show (0 : Int) ≤ _ by decide) ?_ | refine And.intro ⟨show (0 : Int) < _ by decide, show Nat.log2 _ < _ by decide⟩ ?_ | refine And.intro (Or.inl (Or.inr ⟨show (_ : Int) < _ by decide, show (_ : Int) < _ by decide⟩)) ?_ | refine And.intro (Or.inl (Or.inl ⟨show (_ : Int) < _ by decide, show (_ : Int) < _ by decide⟩)) ?_ | refine And.intro ⟨show (0 : Int) ≤ _ by decide, show (_ : Int) ≤ _ by decide, show Int.natAbs _ < _ by decide⟩ ?_))
    refine And.intro h0 (And.intro h1 ?_)
    (repeat (first | refine And.intro rfl ?_ | refine And.intro (frz_frz _) ?_ | refine And.intro (frz_ints _ _) ?_ | refine And.intro (Nat.le_of_ble_eq_true rfl) ?_ | refine Exists.intro _ (Exists.intro _ (And.intro rfl (And.intro rfl ?_))) | refine Exists.intro _ (And.intro rfl ?_) | refine And.intro (show (0 : Int) < _ by decide) ?_ | refine And.intro (show (0 : Int) ≤ _ by decide) ?_ | refine And.intro ⟨show (0 : Int) < _ by decide, show Nat.log2 _ < _ by decide⟩ ?_ | refine And.intro (Or.inl (Or.inr ⟨show (_ : Int) < _ by decide, show (_ : Int) < _ by decide⟩)) ?_ | refine And.intro (Or.inl (Or.inl ⟨show (_ : Int) < _ by decide, show (_ : Int) < _ by decide⟩)) ?_ | refine And.intro ⟨show (0 : Int) ≤ _ by decide, show (_ : Int) ≤ _ by decide, show Int.natAbs _ < _ by decide⟩ ?_))
    refine ⟨_, _, .list ((bitsOf m).map .int), rfl, ?_, ?_, good_ints (bits_small m) (Nat.le_trans (bits_len m) (by decide)), ?_⟩
    · rw [toP_frz]
      exact toP_ints true _
    · rw [toP_frz]
      exact toP_ints _ _
    (repeat (first | refine And.intro rfl ?_ | refine And.intro (frz_frz _) ?_ | refine And.intro (frz_ints _ _) ?_ | refine And.intro (Nat.le_of_ble_eq_true rfl) ?_ | refine Exists.intro _ (Exists.intro _ (And.intro rfl (And.intro rfl ?_))) | refine Exists.intro _ (And.intro rfl ?_) | refine And.intro (show (0 : Int) < _ by decide) ?_ | refine And.intro (show (0 : Int) ≤ _ by decide) ?_ | refine And.intro ⟨show (0 : Int) < _ by decide, show Nat.log2 _ < _ by decide⟩ ?_ | refine And.intro (Or.inl (Or.inr ⟨show (_ : Int) < _ by decide, show (_ : Int) < _ by decide⟩)) ?_ | refine And.intro (Or.inl (Or.inl ⟨show (_ : Int) < _ by decide, show (_ : Int) < _ by decide⟩)) ?_ | refine And.intro ⟨show (0 : Int) ≤ _ by decide, show (_ : Int) ≤ _ by decide, show Int.natAbs _ < _ by decide⟩ ?_))
    refine And.intro h0 (And.intro h1 ?_)
    (repeat (first | refine And.intro rfl ?_ | refine And.intro (frz_frz _) ?_ | refine And.intro (frz_ints _ _) ?_ | refine And.intro (Nat.le_of_ble_eq_true rfl) ?_ | refine Exists.intro _ (Exists.intro _ (And.intro rfl (And.intro rfl ?_))) | refine Exists.intro _ (And.intro rfl ?_) | refine And.intro (show (0 : Int) < _ by decide) ?_ | refine And.intro (show (0 : Int) ≤ _ by decide) ?_ | refine And.intro ⟨show (0 : Int) < _ by decide, show Nat.log2 _ < _ by decide⟩ ?_ | refine And.intro (Or.inl (Or.inr ⟨show (_ : Int) < _ by decide, show (_ : Int) < _ by decide⟩)) ?_ | refine And.intro (Or.inl (Or.inl ⟨show (_ : Int) < _ by decide, show (_ : Int) < _ by decide⟩)) ?_ | refine And.intro ⟨show (0 : Int) ≤ _ by decide, show (_ : Int) ≤ _ by decide, show Int.natAbs _ < _ by decide⟩ ?_))
    refine ⟨_, _, .int (bitsOf m).length, rfl, rfl, ?_, good_int ?_, ?_⟩
    · have e : (intsT (bitsOf m)).length = (bitsOf m).length := by simp [intsT]
      show some (PyData.int ((frzL (intsT (bitsOf m))).length)) = _
      rw [intsT_frz, e]
    · exact small_of_abs (Nat.lt_of_le_of_lt (by have := bits_len m; omega : ((bitsOf m).length : Int).natAbs ≤ 12) (by decide))
    (repeat (first | refine And.intro rfl ?_ | refine And.intro (frz_frz _) ?_ | refine And.intro (frz_ints _ _) ?_ | refine And.intro (Nat.le_of_ble_eq_true rfl) ?_ | refine Exists.intro _ (Exists.intro _ (And.intro rfl (And.intro rfl ?_))) | refine Exists.intro _ (And.intro rfl ?_) | refine And.intro (show (0 : Int) < _ by decide) ?_ | refine And.intro (show (0 : Int) ≤ _ by decide) ?_ | refine And.intro ⟨show (0 : Int) < _ by decide, show Nat.log2 _ < _ by decide⟩ ?_ | refine And.intro (Or.inl (Or.inr ⟨show (_ : Int) < _ by decide, show (_ : Int) < _ by decide⟩)) ?_ | refine And.intro (Or.inl (Or.inl ⟨show (_ : Int) < _ by decide, show (_ : Int) < _ by decide⟩)) ?_ | refine And.intro ⟨show (0 : Int) ≤ _ by decide, show (_ : Int) ≤ _ by decide, show Int.natAbs _ < _ by decide⟩ ?_))
    refine And.intro ?_ ?_
    · have e : (intsT (bitsOf m)).length = (bitsOf m).length := by simp [intsT]
      have := bits_len m
      show (intsT (bitsOf m)).length < 16777216
      omega
    (repeat (first | refine And.intro rfl ?_ | refine And.intro (frz_frz _) ?_ | refine And.intro (frz_ints _ _) ?_ | refine And.intro (Nat.le_of_ble_eq_true rfl) ?_ | refine Exists.intro _ (Exists.intro _ (And.intro rfl (And.intro rfl ?_))) | refine Exists.intro _ (And.intro rfl ?_) | refine And.intro (show (0 : Int) < _ by decide) ?_ | refine And.intro (show (0 : Int) ≤ _ by decide) ?_ | refine And.intro ⟨show (0 : Int) < _ by decide, show Nat.log2 _ < _ by decide⟩ ?_ | refine And.intro (Or.inl (Or.inr ⟨show (_ : Int) < _ by decide, show (_ : Int) < _ by decide⟩)) ?_ | refine And.intro (Or.inl (Or.inl ⟨show (_ : Int) < _ by decide, show (_ : Int) < _ by decide⟩)) ?_ | refine And.intro ⟨show (0 : Int) ≤ _ by decide, show (_ : Int) ≤ _ by decide, show Int.natAbs _ < _ by decide⟩ ?_))
    exact hR _ ⟨_, _, rfl⟩
  · obtain ⟨g5, g9, rfl⟩ := hI
    exact hD _ _
theorem pow_nn (k : Nat) : (0 : Int) ≤ 2 ^ k := by
  rw [PyProof.Rows.two_pow_cast]
  exact Int.natCast_nonneg _
theorem pow_pos' (k : Nat) : (0 : Int) < 2 ^ k := by
  rw [PyProof.Rows.two_pow_cast]
  have := Nat.two_pow_pos k
  omega
theorem bit_le {m : Int} {k : Nat} (h0 : 0 ≤ m) (hb : bit m k) : 2 ^ k ≤ m := by
  have hp := pow_pos' k
  rcases Int.lt_or_le m (2 ^ k) with z | z
  · have : m / 2 ^ k = 0 := Int.ediv_eq_zero_of_lt h0 z
    unfold bit at hb
    rw [this] at hb
    simp at hb
  · exact z
theorem div_add (m : Int) (k : Nat) : (m + 2 ^ k) / 2 ^ k = m / 2 ^ k + 1 := by
  have hp := pow_pos' k
  have := Int.add_mul_ediv_right m 1 (Int.ne_of_gt hp)
  rwa [Int.one_mul] at this
theorem div_sub (m : Int) (k : Nat) : (m - 2 ^ k) / 2 ^ k = m / 2 ^ k - 1 := by
  have hp := pow_pos' k
  have := Int.add_mul_ediv_right m (-1) (Int.ne_of_gt hp)
  rw [show m + -1 * 2 ^ k = m - 2 ^ k by omega] at this
  omega
theorem bit_off {m : Int} {k : Nat} (hb : bit m k) : ¬ bit (m - 2 ^ k) k := by
  unfold bit at hb ⊢
  rw [div_sub]
  omega
theorem bit_on {m : Int} {k : Nat} (hb : ¬ bit m k) : bit (m + 2 ^ k) k := by
  unfold bit at hb ⊢
  rw [div_add]
  omega
theorem pow_lt12 {k : Nat} (h : k < 12) : (2 : Int) ^ k < 4096 := by
  have := Nat.pow_lt_pow_right (a := 2) (by decide) h
  rw [PyProof.Rows.two_pow_cast]
  have e : (2 : Nat) ^ 12 = 4096 := by decide
  omega
theorem small_lit {i : Int} (h : i.natAbs < 100000) : i.natAbs < 2 ^ 1800 := small_of_abs (Nat.lt_of_lt_of_le h (by decide))
theorem loop_hands {D : DEnds} {s0 g1 g2 g5 g6 g7 g8 g9 g10 g11 : Option T} {m : Int} (h0 : 0 ≤ m) (h1 : m < 4096)
    (hD : ∀ g6 g9 g10 g11, D.nx [s0, g1, g2, some (.leaf (.int m)), some (.node false .lst (intsT (bitsOf m))), g5, g6, g7, g8, g9, g10, g11]) :
    t_law_11 D [s0, g1, g2, some (.leaf (.int m)), some (.node false .lst (intsT (bitsOf m))), g5, g6, g7, g8, g9, g10, g11] := by
  (repeat (first | refine And.intro rfl ?_ | refine And.intro (frz_frz _) ?_ | refine And.intro (frz_ints _ _) ?_ | refine And.intro (Nat.le_of_ble_eq_true rfl) ?_ | refine Exists.intro _ (Exists.intro _ (And.intro rfl (And.intro rfl ?_))) | refine Exists.intro _ (And.intro rfl ?_) | refine And.intro (show (0 : Int) < _ by decide) ?_ | refine And.intro (show (0 : Int) ≤ _ by decide) ?_ | refine And.intro ⟨show (0 : Int) < _ by decide, show Nat.log2 _ < _ by decide⟩ ?_ | refine And.intro (Or.inl (Or.inr ⟨show (_ : Int) < _ by decide, show (_ : Int) < _ by decide⟩)) ?_ | refine And.intro (Or.inl (Or.inl ⟨show (_ : Int) < _ by decide, show (_ : Int) < _ by decide⟩)) ?_ | refine And.intro ⟨show (0 : Int) ≤ _ by decide, show (_ : Int) ≤ _ by decide, show Int.natAbs _ < _ by decide⟩ ?_))
  refine And.intro (by decide) (And.intro (by decide) ?_)
  refine Loop.ind (fun _ g => ∃ g6 g9 g10 g11, g = [s0, g1, g2, some (.leaf (.int m)), some (.node false .lst (intsT (bitsOf m))), g5, g6, g7, g8, g9, g10, g11]) ⟨_, _, _, _, rfl⟩ (fun i t g ht hI R hR => ?_) (fun g hI => ?_)
  · obtain ⟨g6, g9, g10, g11, rfl⟩ := hI
    obtain ⟨hi, rfl⟩ := rangeT_get ht
    rw [Int.zero_add]
    have hi : i < 12 := hi
    have hp := pow_lt12 hi
    have hp0 := pow_pos' i
    have hin := bits_in m hi
    have cl : ∀ (b : Bool), CMulA (2 ^ i) (if b then 1 else 0) := fun b => .inl (.inr (by cases b <;> exact ⟨by decide, by decide⟩))
    (repeat (first | refine And.intro rfl ?_ | refine And.intro (frz_frz _) ?_ | refine And.intro (frz_ints _ _) ?_ | refine And.intro (Nat.le_of_ble_eq_true rfl) ?_ | refine Exists.intro _ (Exists.intro _ (And.intro rfl (And.intro rfl ?_))) | refine Exists.intro _ (And.intro rfl ?_) | refine And.intro (show (0 : Int) < _ by decide) ?_ | refine And.intro (show (0 : Int) ≤ _ by decide) ?_ | refine And.intro ⟨show (0 : Int) < _ by decide, show Nat.log2 _ < _ by decide⟩ ?_ | refine And.intro (Or.inl (Or.inr ⟨show (_ : Int) < _ by decide, show (_ : Int) < _ by decide⟩)) ?_ | refine And.intro (Or.inl (Or.inl ⟨show (_ : Int) < _ by decide, show (_ : Int) < _ by decide⟩)) ?_ | refine And.intro ⟨show (0 : Int) ≤ _ by decide, show (_ : Int) ≤ _ by decide, show Int.natAbs _ < _ by decide⟩ ?_))
    refine And.intro hi ?_
    (repeat (first | refine And.intro rfl ?_ | refine And.intro (frz_frz _) ?_ | refine And.intro (frz_ints _ _) ?_ | refine And.intro (Nat.le_of_ble_eq_true rfl) ?_ | refine Exists.intro _ (Exists.intro _ (And.intro rfl (And.intro rfl ?_))) | refine Exists.intro _ (And.intro rfl ?_) | refine And.intro (show (0 : Int) < _ by decide) ?_ | refine And.intro (show (0 : Int) ≤ _ by decide) ?_ | refine And.intro ⟨show (0 : Int) < _ by decide, show Nat.log2 _ < _ by decide⟩ ?_ | refine And.intro (Or.inl (Or.inr ⟨show (_ : Int) < _ by decide, show (_ : Int) < _ by decide⟩)) ?_ | refine And.intro (Or.inl (Or.inl ⟨show (_ : Int) < _ by decide, show (_ : Int) < _ by decide⟩)) ?_ | refine And.intro ⟨show (0 : Int) ≤ _ by decide, show (_ : Int) ≤ _ by decide, show Int.natAbs _ < _ by decide⟩ ?_))
    refine ⟨.int i, (bitsOf m).map V.int, rfl, intsT_eq _, rfl, bits_flat m, ?_⟩
    rw [hin]
    refine And.intro (cl _) ?_
    (repeat (first | refine And.intro rfl ?_ | refine And.intro (frz_frz _) ?_ | refine And.intro (frz_ints _ _) ?_ | refine And.intro (Nat.le_of_ble_eq_true rfl) ?_ | refine Exists.intro _ (Exists.intro _ (And.intro rfl (And.intro rfl ?_))) | refine Exists.intro _ (And.intro rfl ?_) | refine And.intro (show (0 : Int) < _ by decide) ?_ | refine And.intro (show (0 : Int) ≤ _ by decide) ?_ | refine And.intro ⟨show (0 : Int) < _ by decide, show Nat.log2 _ < _ by decide⟩ ?_ | refine And.intro (Or.inl (Or.inr ⟨show (_ : Int) < _ by decide, show (_ : Int) < _ by decide⟩)) ?_ | refine And.intro (Or.inl (Or.inl ⟨show (_ : Int) < _ by decide, show (_ : Int) < _ by decide⟩)) ?_ | refine And.intro ⟨show (0 : Int) ≤ _ by decide, show (_ : Int) ≤ _ by decide, show Int.natAbs _ < _ by decide⟩ ?_))
    refine And.intro hi ?_
    (repeat (first | refine And.intro rfl ?_ | refine And.intro (frz_frz _) ?_ | refine And.intro (frz_ints _ _) ?_ | refine And.intro (Nat.le_of_ble_eq_true rfl) ?_ | refine Exists.intro _ (Exists.intro _ (And.intro rfl (And.intro rfl ?_))) | refine Exists.intro _ (And.intro rfl ?_) | refine And.intro (show (0 : Int) < _ by decide) ?_ | refine And.intro (show (0 : Int) ≤ _ by decide) ?_ | refine And.intro ⟨show (0 : Int) < _ by decide, show Nat.log2 _ < _ by decide⟩ ?_ | refine And.intro (Or.inl (Or.inr ⟨show (_ : Int) < _ by decide, show (_ : Int) < _ by decide⟩)) ?_ | refine And.intro (Or.inl (Or.inl ⟨show (_ : Int) < _ by decide, show (_ : Int) < _ by decide⟩)) ?_ | refine And.intro ⟨show (0 : Int) ≤ _ by decide, show (_ : Int) ≤ _ by decide, show Int.natAbs _ < _ by decide⟩ ?_))
    refine ⟨.int i, (bitsOf m).map V.int, rfl, intsT_eq _, rfl, bits_flat m, ?_⟩
    rw [hin]
    refine And.intro (cl _) ?_
    (repeat (first | refine And.intro rfl ?_ | refine And.intro (frz_frz _) ?_ | refine And.intro (frz_ints _ _) ?_ | refine And.intro (Nat.le_of_ble_eq_true rfl) ?_ | refine Exists.intro _ (Exists.intro _ (And.intro rfl (And.intro rfl ?_))) | refine Exists.intro _ (And.intro rfl ?_) | refine And.intro (show (0 : Int) < _ by decide) ?_ | refine And.intro (show (0 : Int) ≤ _ by decide) ?_ | refine And.intro ⟨show (0 : Int) < _ by decide, show Nat.log2 _ < _ by decide⟩ ?_ | refine And.intro (Or.inl (Or.inr ⟨show (_ : Int) < _ by decide, show (_ : Int) < _ by decide⟩)) ?_ | refine And.intro (Or.inl (Or.inl ⟨show (_ : Int) < _ by decide, show (_ : Int) < _ by decide⟩)) ?_ | refine And.intro ⟨show (0 : Int) ≤ _ by decide, show (_ : Int) ≤ _ by decide, show Int.natAbs _ < _ by decide⟩ ?_))
    refine ⟨m, i, rfl, h0, by omega, ?_⟩
    (repeat (first | refine And.intro rfl ?_ | refine And.intro (frz_frz _) ?_ | refine And.intro (frz_ints _ _) ?_ | refine And.intro (Nat.le_of_ble_eq_true rfl) ?_ | refine Exists.intro _ (Exists.intro _ (And.intro rfl (And.intro rfl ?_))) | refine Exists.intro _ (And.intro rfl ?_) | refine And.intro (show (0 : Int) < _ by decide) ?_ | refine And.intro (show (0 : Int) ≤ _ by decide) ?_ | refine And.intro ⟨show (0 : Int) < _ by decide, show Nat.log2 _ < _ by decide⟩ ?_ | refine And.intro (Or.inl (Or.inr ⟨show (_ : Int) < _ by decide, show (_ : Int) < _ by decide⟩)) ?_ | refine And.intro (Or.inl (Or.inl ⟨show (_ : Int) < _ by decide, show (_ : Int) < _ by decide⟩)) ?_ | refine And.intro ⟨show (0 : Int) ≤ _ by decide, show (_ : Int) ≤ _ by decide, show Int.natAbs _ < _ by decide⟩ ?_))
    refine ⟨m, i, rfl, h0, by omega, ?_⟩
    (repeat (first | refine And.intro rfl ?_ | refine And.intro (frz_frz _) ?_ | refine And.intro (frz_ints _ _) ?_ | refine And.intro (Nat.le_of_ble_eq_true rfl) ?_ | refine Exists.intro _ (Exists.intro _ (And.intro rfl (And.intro rfl ?_))) | refine Exists.intro _ (And.intro rfl ?_) | refine And.intro (show (0 : Int) < _ by decide) ?_ | refine And.intro (show (0 : Int) ≤ _ by decide) ?_ | refine And.intro ⟨show (0 : Int) < _ by decide, show Nat.log2 _ < _ by decide⟩ ?_ | refine And.intro (Or.inl (Or.inr ⟨show (_ : Int) < _ by decide, show (_ : Int) < _ by decide⟩)) ?_ | refine And.intro (Or.inl (Or.inl ⟨show (_ : Int) < _ by decide, show (_ : Int) < _ by decide⟩)) ?_ | refine And.intro ⟨show (0 : Int) ≤ _ by decide, show (_ : Int) ≤ _ by decide, show Int.natAbs _ < _ by decide⟩ ?_))
    refine ⟨m, i, rfl, h0, by omega, ?_⟩
    (repeat (first | refine And.intro rfl ?_ | refine And.intro (frz_frz _) ?_ | refine And.intro (frz_ints _ _) ?_ | refine And.intro (Nat.le_of_ble_eq_true rfl) ?_ | refine Exists.intro _ (Exists.intro _ (And.intro rfl (And.intro rfl ?_))) | refine Exists.intro _ (And.intro rfl ?_) | refine And.intro (show (0 : Int) < _ by decide) ?_ | refine And.intro (show (0 : Int) ≤ _ by decide) ?_ | refine And.intro ⟨show (0 : Int) < _ by decide, show Nat.log2 _ < _ by decide⟩ ?_ | refine And.intro (Or.inl (Or.inr ⟨show (_ : Int) < _ by decide, show (_ : Int) < _ by decide⟩)) ?_ | refine And.intro (Or.inl (Or.inl ⟨show (_ : Int) < _ by decide, show (_ : Int) < _ by decide⟩)) ?_ | refine And.intro ⟨show (0 : Int) ≤ _ by decide, show (_ : Int) ≤ _ by decide, show Int.natAbs _ < _ by decide⟩ ?_))
    by_cases hb : bit m i
    · have hle := bit_le h0 hb
      rw [decide_eq_true hb, if_pos hb, if_pos hb]
      have e1 : m + 2 ^ i * (if (!true) = true then 1 else 0) = m := by simp
      have e2 : m - 2 ^ i * (if true = true then 1 else 0) = m - 2 ^ i := by simp
      refine ⟨.int i, (bitsOf m).map V.int, rfl, (by rw [intsT_frz, intsT_eq]), rfl, bits_flat m, ?_⟩
      rw [hin, decide_eq_true hb]
      (repeat (first | refine And.intro rfl ?_ | refine And.intro (frz_frz _) ?_ | refine And.intro (frz_ints _ _) ?_ | refine And.intro (Nat.le_of_ble_eq_true rfl) ?_ | refine Exists.intro _ (Exists.intro _ (And.intro rfl (And.intro rfl ?_))) | refine Exists.intro _ (And.intro rfl ?_) | refine And.intro (show (0 : Int) < _ by decide) ?_ | refine And.intro (show (0 : Int) ≤ _ by decide) ?_ | refine And.intro ⟨show (0 : Int) < _ by decide, show Nat.log2 _ < _ by decide⟩ ?_ | refine And.intro (Or.inl (Or.inr ⟨show (_ : Int) < _ by decide, show (_ : Int) < _ by decide⟩)) ?_ | refine And.intro (Or.inl (Or.inl ⟨show (_ : Int) < _ by decide, show (_ : Int) < _ by decide⟩)) ?_ | refine And.intro ⟨show (0 : Int) ≤ _ by decide, show (_ : Int) ≤ _ by decide, show Int.natAbs _ < _ by decide⟩ ?_))
      refine ⟨_, _, .list [.bool true, .int m, .int (m - 2 ^ i)], rfl, rfl, ?_, ⟨⟨trivial, small_lit (by omega), small_lit (by omega), trivial⟩, Nat.le_of_ble_eq_true rfl, Nat.le_of_ble_eq_true rfl⟩, ?_⟩
      · show some (PyData.list [.bool true, .int (m + 2 ^ i * (if (!true) = true then 1 else 0)), .int (m - 2 ^ i * (if true = true then 1 else 0))]) = _
        rw [e1, e2]
      (repeat (first | refine And.intro rfl ?_ | refine And.intro (frz_frz _) ?_ | refine And.intro (frz_ints _ _) ?_ | refine And.intro (Nat.le_of_ble_eq_true rfl) ?_ | refine Exists.intro _ (Exists.intro _ (And.intro rfl (And.intro rfl ?_))) | refine Exists.intro _ (And.intro rfl ?_) | refine And.intro (show (0 : Int) < _ by decide) ?_ | refine And.intro (show (0 : Int) ≤ _ by decide) ?_ | refine And.intro ⟨show (0 : Int) < _ by decide, show Nat.log2 _ < _ by decide⟩ ?_ | refine And.intro (Or.inl (Or.inr ⟨show (_ : Int) < _ by decide, show (_ : Int) < _ by decide⟩)) ?_ | refine And.intro (Or.inl (Or.inl ⟨show (_ : Int) < _ by decide, show (_ : Int) < _ by decide⟩)) ?_ | refine And.intro ⟨show (0 : Int) ≤ _ by decide, show (_ : Int) ≤ _ by decide, show Int.natAbs _ < _ by decide⟩ ?_))
      refine ⟨m - 2 ^ i, i, congrArg (fun z => [T.leaf (V.int z), T.leaf (V.int i)]) e2, by omega, by omega, ?_⟩
      rw [if_neg (bit_off hb)]
      (repeat (first | refine And.intro rfl ?_ | refine And.intro (frz_frz _) ?_ | refine And.intro (frz_ints _ _) ?_ | refine And.intro (Nat.le_of_ble_eq_true rfl) ?_ | refine Exists.intro _ (Exists.intro _ (And.intro rfl (And.intro rfl ?_))) | refine Exists.intro _ (And.intro rfl ?_) | refine And.intro (show (0 : Int) < _ by decide) ?_ | refine And.intro (show (0 : Int) ≤ _ by decide) ?_ | refine And.intro ⟨show (0 : Int) < _ by decide, show Nat.log2 _ < _ by decide⟩ ?_ | refine And.intro (Or.inl (Or.inr ⟨show (_ : Int) < _ by decide, show (_ : Int) < _ by decide⟩)) ?_ | refine And.intro (Or.inl (Or.inl ⟨show (_ : Int) < _ by decide, show (_ : Int) < _ by decide⟩)) ?_ | refine And.intro ⟨show (0 : Int) ≤ _ by decide, show (_ : Int) ≤ _ by decide, show Int.natAbs _ < _ by decide⟩ ?_))
      refine rtNe_same (d := .int m) ?_ ?_ (good_int (small_lit (by omega))) ?_
      · show some (PyData.int (m - 2 ^ i + 2 ^ i)) = _
        rw [show m - 2 ^ i + 2 ^ i = m by omega]
      · show some (PyData.int (m + 2 ^ i * (if (!true) = true then 1 else 0))) = _
        rw [e1]
      (repeat (first | refine And.intro rfl ?_ | refine And.intro (frz_frz _) ?_ | refine And.intro (frz_ints _ _) ?_ | refine And.intro (Nat.le_of_ble_eq_true rfl) ?_ | refine Exists.intro _ (Exists.intro _ (And.intro rfl (And.intro rfl ?_))) | refine Exists.intro _ (And.intro rfl ?_) | refine And.intro (show (0 : Int) < _ by decide) ?_ | refine And.intro (show (0 : Int) ≤ _ by decide) ?_ | refine And.intro ⟨show (0 : Int) < _ by decide, show Nat.log2 _ < _ by decide⟩ ?_ | refine And.intro (Or.inl (Or.inr ⟨show (_ : Int) < _ by decide, show (_ : Int) < _ by decide⟩)) ?_ | refine And.intro (Or.inl (Or.inl ⟨show (_ : Int) < _ by decide, show (_ : Int) < _ by decide⟩)) ?_ | refine And.intro ⟨show (0 : Int) ≤ _ by decide, show (_ : Int) ≤ _ by decide, show Int.natAbs _ < _ by decide⟩ ?_))
      refine ⟨m, i, congrArg (fun z => [T.leaf (V.int z), T.leaf (V.int i)]) e1, by omega, by omega, ?_⟩
      rw [if_pos hb]
      (repeat (first | refine And.intro rfl ?_ | refine And.intro (frz_frz _) ?_ | refine And.intro (frz_ints _ _) ?_ | refine And.intro (Nat.le_of_ble_eq_true rfl) ?_ | refine Exists.intro _ (Exists.intro _ (And.intro rfl (And.intro rfl ?_))) | refine Exists.intro _ (And.intro rfl ?_) | refine And.intro (show (0 : Int) < _ by decide) ?_ | refine And.intro (show (0 : Int) ≤ _ by decide) ?_ | refine And.intro ⟨show (0 : Int) < _ by decide, show Nat.log2 _ < _ by decide⟩ ?_ | refine And.intro (Or.inl (Or.inr ⟨show (_ : Int) < _ by decide, show (_ : Int) < _ by decide⟩)) ?_ | refine And.intro (Or.inl (Or.inl ⟨show (_ : Int) < _ by decide, show (_ : Int) < _ by decide⟩)) ?_ | refine And.intro ⟨show (0 : Int) ≤ _ by decide, show (_ : Int) ≤ _ by decide, show Int.natAbs _ < _ by decide⟩ ?_))
      refine rtNe_same (d := .int (m - 2 ^ i)) rfl ?_ (good_int (small_lit (by omega))) ?_
      · show some (PyData.int (m - 2 ^ i * (if true = true then 1 else 0))) = _
        rw [e2]
      (repeat (first | refine And.intro rfl ?_ | refine And.intro (frz_frz _) ?_ | refine And.intro (frz_ints _ _) ?_ | refine And.intro (Nat.le_of_ble_eq_true rfl) ?_ | refine Exists.intro _ (Exists.intro _ (And.intro rfl (And.intro rfl ?_))) | refine Exists.intro _ (And.intro rfl ?_) | refine And.intro (show (0 : Int) < _ by decide) ?_ | refine And.intro (show (0 : Int) ≤ _ by decide) ?_ | refine And.intro ⟨show (0 : Int) < _ by decide, show Nat.log2 _ < _ by decide⟩ ?_ | refine And.intro (Or.inl (Or.inr ⟨show (_ : Int) < _ by decide, show (_ : Int) < _ by decide⟩)) ?_ | refine And.intro (Or.inl (Or.inl ⟨show (_ : Int) < _ by decide, show (_ : Int) < _ by decide⟩)) ?_ | refine And.intro ⟨show (0 : Int) ≤ _ by decide, show (_ : Int) ≤ _ by decide, show Int.natAbs _ < _ by decide⟩ ?_))
      exact hR _ ⟨_, _, _, _, rfl⟩
    · have hon := bit_on hb
      rw [decide_eq_false hb, if_neg hb, if_neg hb]
      have e1 : m + 2 ^ i * (if (!false) = true then 1 else 0) = m + 2 ^ i := by simp
      have e2 : m - 2 ^ i * (if false = true then 1 else 0) = m := by simp
      refine ⟨.int i, (bitsOf m).map V.int, rfl, (by rw [intsT_frz, intsT_eq]), rfl, bits_flat m, ?_⟩
      rw [hin, decide_eq_false hb]
      (repeat (first | refine And.intro rfl ?_ | refine And.intro (frz_frz _) ?_ | refine And.intro (frz_ints _ _) ?_ | refine And.intro (Nat.le_of_ble_eq_true rfl) ?_ | refine Exists.intro _ (Exists.intro _ (And.intro rfl (And.intro rfl ?_))) | refine Exists.intro _ (And.intro rfl ?_) | refine And.intro (show (0 : Int) < _ by decide) ?_ | refine And.intro (show (0 : Int) ≤ _ by decide) ?_ | refine And.intro ⟨show (0 : Int) < _ by decide, show Nat.log2 _ < _ by decide⟩ ?_ | refine And.intro (Or.inl (Or.inr ⟨show (_ : Int) < _ by decide, show (_ : Int) < _ by decide⟩)) ?_ | refine And.intro (Or.inl (Or.inl ⟨show (_ : Int) < _ by decide, show (_ : Int) < _ by decide⟩)) ?_ | refine And.intro ⟨show (0 : Int) ≤ _ by decide, show (_ : Int) ≤ _ by decide, show Int.natAbs _ < _ by decide⟩ ?_))
      refine ⟨_, _, .list [.bool false, .int (m + 2 ^ i), .int m], rfl, rfl, ?_, ⟨⟨trivial, small_lit (by omega), small_lit (by omega), trivial⟩, Nat.le_of_ble_eq_true rfl, Nat.le_of_ble_eq_true rfl⟩, ?_⟩
      · show some (PyData.list [.bool false, .int (m + 2 ^ i * (if (!false) = true then 1 else 0)), .int (m - 2 ^ i * (if false = true then 1 else 0))]) = _
        rw [e1, e2]
      (repeat (first | refine And.intro rfl ?_ | refine And.intro (frz_frz _) ?_ | refine And.intro (frz_ints _ _) ?_ | refine And.intro (Nat.le_of_ble_eq_true rfl) ?_ | refine Exists.intro _ (Exists.intro _ (And.intro rfl (And.intro rfl ?_))) | refine Exists.intro _ (And.intro rfl ?_) | refine And.intro (show (0 : Int) < _ by decide) ?_ | refine And.intro (show (0 : Int) ≤ _ by decide) ?_ | refine And.intro ⟨show (0 : Int) < _ by decide, show Nat.log2 _ < _ by decide⟩ ?_ | refine And.intro (Or.inl (Or.inr ⟨show (_ : Int) < _ by decide, show (_ : Int) < _ by decide⟩)) ?_ | refine And.intro (Or.inl (Or.inl ⟨show (_ : Int) < _ by decide, show (_ : Int) < _ by decide⟩)) ?_ | refine And.intro ⟨show (0 : Int) ≤ _ by decide, show (_ : Int) ≤ _ by decide, show Int.natAbs _ < _ by decide⟩ ?_))
      refine ⟨m, i, congrArg (fun z => [T.leaf (V.int z), T.leaf (V.int i)]) e2, by omega, by omega, ?_⟩
      rw [if_neg hb]
      (repeat (first | refine And.intro rfl ?_ | refine And.intro (frz_frz _) ?_ | refine And.intro (frz_ints _ _) ?_ | refine And.intro (Nat.le_of_ble_eq_true rfl) ?_ | refine Exists.intro _ (Exists.intro _ (And.intro rfl (And.intro rfl ?_))) | refine Exists.intro _ (And.intro rfl ?_) | refine And.intro (show (0 : Int) < _ by decide) ?_ | refine And.intro (show (0 : Int) ≤ _ by decide) ?_ | refine And.intro ⟨show (0 : Int) < _ by decide, show Nat.log2 _ < _ by decide⟩ ?_ | refine And.intro (Or.inl (Or.inr ⟨show (_ : Int) < _ by decide, show (_ : Int) < _ by decide⟩)) ?_ | refine And.intro (Or.inl (Or.inl ⟨show (_ : Int) < _ by decide, show (_ : Int) < _ by decide⟩)) ?_ | refine And.intro ⟨show (0 : Int) ≤ _ by decide, show (_ : Int) ≤ _ by decide, show Int.natAbs _ < _ by decide⟩ ?_))
      refine rtNe_same (d := .int (m + 2 ^ i)) rfl ?_ (good_int (small_lit (by omega))) ?_
      · show some (PyData.int (m + 2 ^ i * (if (!false) = true then 1 else 0))) = _
        rw [e1]
      (repeat (first | refine And.intro rfl ?_ | refine And.intro (frz_frz _) ?_ | refine And.intro (frz_ints _ _) ?_ | refine And.intro (Nat.le_of_ble_eq_true rfl) ?_ | refine Exists.intro _ (Exists.intro _ (And.intro rfl (And.intro rfl ?_))) | refine Exists.intro _ (And.intro rfl ?_) | refine And.intro (show (0 : Int) < _ by decide) ?_ | refine And.intro (show (0 : Int) ≤ _ by decide) ?_ | refine And.intro ⟨show (0 : Int) < _ by decide, show Nat.log2 _ < _ by decide⟩ ?_ | refine And.intro (Or.inl (Or.inr ⟨show (_ : Int) < _ by decide, show (_ : Int) < _ by decide⟩)) ?_ | refine And.intro (Or.inl (Or.inl ⟨show (_ : Int) < _ by decide, show (_ : Int) < _ by decide⟩)) ?_ | refine And.intro ⟨show (0 : Int) ≤ _ by decide, show (_ : Int) ≤ _ by decide, show Int.natAbs _ < _ by decide⟩ ?_))
      refine ⟨m + 2 ^ i, i, congrArg (fun z => [T.leaf (V.int z), T.leaf (V.int i)]) e1, by omega, by omega, ?_⟩
      rw [if_pos hon]
      (repeat (first | refine And.intro rfl ?_ | refine And.intro (frz_frz _) ?_ | refine And.intro (frz_ints _ _) ?_ | refine And.intro (Nat.le_of_ble_eq_true rfl) ?_ | refine Exists.intro _ (Exists.intro _ (And.intro rfl (And.intro rfl ?_))) | refine Exists.intro _ (And.intro rfl ?_) | refine And.intro (show (0 : Int) < _ by decide) ?_ | refine And.intro (show (0 : Int) ≤ _ by decide) ?_ | refine And.intro ⟨show (0 : Int) < _ by decide, show Nat.log2 _ < _ by decide⟩ ?_ | refine And.intro (Or.inl (Or.inr ⟨show (_ : Int) < _ by decide, show (_ : Int) < _ by decide⟩)) ?_ | refine And.intro (Or.inl (Or.inl ⟨show (_ : Int) < _ by decide, show (_ : Int) < _ by decide⟩)) ?_ | refine And.intro ⟨show (0 : Int) ≤ _ by decide, show (_ : Int) ≤ _ by decide, show Int.natAbs _ < _ by decide⟩ ?_))
      refine rtNe_same (d := .int m) ?_ ?_ (good_int (small_lit (by omega))) ?_
      · show some (PyData.int (m + 2 ^ i - 2 ^ i)) = _
        rw [show m + 2 ^ i - 2 ^ i = m by omega]
      · show some (PyData.int (m - 2 ^ i * (if false = true then 1 else 0))) = _
        rw [e2]
      (repeat (first | refine And.intro rfl ?_ | refine And.intro (frz_frz _) ?_ | refine And.intro (frz_ints _ _) ?_ | refine And.intro (Nat.le_of_ble_eq_true rfl) ?_ | refine Exists.intro _ (Exists.intro _ (And.intro rfl (And.intro rfl ?_))) | refine Exists.intro _ (And.intro rfl ?_) | refine And.intro (show (0 : Int) < _ by decide) ?_ | refine And.intro (show (0 : Int) ≤ _ by decide) ?_ | refine And.intro ⟨show (0 : Int) < _ by decide, show Nat.log2 _ < _ by decide⟩ ?_ | refine And.intro (Or.inl (Or.inr ⟨show (_ : Int) < _ by decide, show (_ : Int) < _ by decide⟩)) ?_ | refine And.intro (Or.inl (Or.inl ⟨show (_ : Int) < _ by decide, show (_ : Int) < _ by decide⟩)) ?_ | refine And.intro ⟨show (0 : Int) ≤ _ by decide, show (_ : Int) ≤ _ by decide, show Int.natAbs _ < _ by decide⟩ ?_))
      exact hR _ ⟨_, _, _, _, rfl⟩
  · obtain ⟨g6, g9, g10, g11, rfl⟩ := hI
    exact hD _ _ _ _
theorem rangeT_mem {n : Nat} {t : T} (h : t ∈ rangeT 0 n) : ∃ k : Nat, k < n ∧ t = .leaf (.int (k : Int)) := by
  obtain ⟨k, hk, rfl⟩ := List.mem_map.mp h
  exact ⟨k, List.mem_range.mp hk, by rw [Int.zero_add]⟩
theorem rangeT_len (lo : Int) (n : Nat) : (rangeT lo n).length = n := by simp [rangeT]
def F_pow : T → Option T := fun t => match t with | .leaf (.int k) => some (.leaf (.int (2 ^ k.toNat))) | _ => none
theorem fm_pow (n : Nat) : (rangeT 0 n).filterMap F_pow = intsT ((List.range n).map fun k => (2 : Int) ^ k) := by
  unfold rangeT
  generalize List.range n = l
  induction l with
  | nil => rfl
  | cons x l ih =>
    simp only [List.map_cons, intsT] at ih ⊢
    rw [List.filterMap_cons]
    simp only [F_pow, Int.zero_add, Int.toNat_natCast] at ih ⊢
    rw [ih]
def F_bit (m : Int) : T → Option T := fun t => match t with | .leaf (.int k) => if bit m k.toNat then some (.leaf (.int k)) else none | _ => none
theorem fm_bit (m : Int) : (rangeT 0 12).filterMap (F_bit m) = intsT (bitsOf m) := by
  unfold rangeT bitsOf
  generalize List.range 12 = l
  induction l with
  | nil => rfl
  | cons x l ih =>
    rw [List.map_cons, List.filterMap_cons, List.filter_cons]
    simp only [F_bit, Int.zero_add, Int.toNat_natCast] at ih ⊢
    by_cases h : bit m x
    · rw [if_pos h, decide_eq_true h]
      simp only [intsT] at ih
      simp [ih, intsT]
    · rw [if_neg h, decide_eq_false h]
      simp only [intsT] at ih
      simp [ih, intsT]
theorem sums_ok : ∀ n : Nat, n < 13 → ((List.range n).map fun k => (2 : Int) ^ k).sum = 2 ^ n - 1 ∧ bitsOf (2 ^ n - 1) = (List.range n).map (fun (k : Nat) => (k : Int)) ∧ (2 : Int) ^ n - 1 < 4096 ∧ (0 : Int) ≤ 2 ^ n - 1 := by
  decide +kernel
theorem rg_ints (n : Nat) : (rgV 0 (n : Int)).map T.leaf = intsT ((List.range n).map (fun (k : Nat) => (k : Int))) := by
  unfold rgV
  simp only [intsT, List.map_map, Int.sub_zero, Int.toNat_natCast]
  congr 1
  funext k
  simp
theorem hands_drawn {D : DEnds} {s0 g2 g3 g4 g5 g6 g7 g8 g9 g10 g11 : Option T} {bag : T} (hb : IsBag bag) (hD : ∀ bag' g6 g7 g8, IsBag bag' → D.nx [s0, some bag', g2, g3, g4, g5, g6, g7, g8, g9, g10, g11]) :
    t_law_12 D [s0, some bag, g2, g3, g4, g5, g6, g7, g8, g9, g10, g11] := by
  (repeat (first | refine And.intro rfl ?_ | refine And.intro (frz_frz _) ?_ | refine And.intro (frz_ints _ _) ?_ | refine And.intro (Nat.le_of_ble_eq_true rfl) ?_ | refine Exists.intro _ (Exists.intro _ (And.intro rfl (And.intro rfl ?_))) | refine Exists.intro _ (And.intro rfl ?_) | refine And.intro (show (0 : Int) < _ by decide) ?_ | refine And.intro (show (0 : Int) ≤ _ by decide) ?_ | refine And.intro ⟨show (0 : Int) < _ by decide, show Nat.log2 _ < _ by decide⟩ ?_ | refine And.intro (Or.inl (Or.inr ⟨show (_ : Int) < _ by decide, show (_ : Int) < _ by decide⟩)) ?_ | refine And.intro (Or.inl (Or.inl ⟨show (_ : Int) < _ by decide, show (_ : Int) < _ by decide⟩)) ?_ | refine And.intro ⟨show (0 : Int) ≤ _ by decide, show (_ : Int) ≤ _ by decide, show Int.natAbs _ < _ by decide⟩ ?_))
  refine ⟨bag, 13, rfl, hb, by decide, by decide, fun r bag' r0 r1 hb' => ?_⟩
  obtain ⟨n, rfl⟩ := Int.eq_ofNat_of_zero_le r0
  have hn : n < 13 := by omega
  obtain ⟨s1, s2, s3, s4⟩ := sums_ok n hn
  (repeat (first | refine And.intro rfl ?_ | refine And.intro (frz_frz _) ?_ | refine And.intro (frz_ints _ _) ?_ | refine And.intro (Nat.le_of_ble_eq_true rfl) ?_ | refine Exists.intro _ (Exists.intro _ (And.intro rfl (And.intro rfl ?_))) | refine Exists.intro _ (And.intro rfl ?_) | refine And.intro (show (0 : Int) < _ by decide) ?_ | refine And.intro (show (0 : Int) ≤ _ by decide) ?_ | refine And.intro ⟨show (0 : Int) < _ by decide, show Nat.log2 _ < _ by decide⟩ ?_ | refine And.intro (Or.inl (Or.inr ⟨show (_ : Int) < _ by decide, show (_ : Int) < _ by decide⟩)) ?_ | refine And.intro (Or.inl (Or.inl ⟨show (_ : Int) < _ by decide, show (_ : Int) < _ by decide⟩)) ?_ | refine And.intro ⟨show (0 : Int) ≤ _ by decide, show (_ : Int) ≤ _ by decide, show Int.natAbs _ < _ by decide⟩ ?_))
  refine And.intro (by omega) (And.intro (by omega) ?_)
  refine Lc.fm F_pow (by rw [rangeT_len]; show _ ≤ 16777216; omega) (fun t ht acc R' ha h1 h0 => ?_) ?_
  · obtain ⟨k, hk, rfl⟩ := rangeT_mem ht
    (repeat (first | refine And.intro rfl ?_ | refine And.intro (frz_frz _) ?_ | refine And.intro (frz_ints _ _) ?_ | refine And.intro (Nat.le_of_ble_eq_true rfl) ?_ | refine Exists.intro _ (Exists.intro _ (And.intro rfl (And.intro rfl ?_))) | refine Exists.intro _ (And.intro rfl ?_) | refine And.intro (show (0 : Int) < _ by decide) ?_ | refine And.intro (show (0 : Int) ≤ _ by decide) ?_ | refine And.intro ⟨show (0 : Int) < _ by decide, show Nat.log2 _ < _ by decide⟩ ?_ | refine And.intro (Or.inl (Or.inr ⟨show (_ : Int) < _ by decide, show (_ : Int) < _ by decide⟩)) ?_ | refine And.intro (Or.inl (Or.inl ⟨show (_ : Int) < _ by decide, show (_ : Int) < _ by decide⟩)) ?_ | refine And.intro ⟨show (0 : Int) ≤ _ by decide, show (_ : Int) ≤ _ by decide, show Int.natAbs _ < _ by decide⟩ ?_))
    refine And.intro (by omega) ?_
    (repeat (first | refine And.intro rfl ?_ | refine And.intro (frz_frz _) ?_ | refine And.intro (frz_ints _ _) ?_ | refine And.intro (Nat.le_of_ble_eq_true rfl) ?_ | refine Exists.intro _ (Exists.intro _ (And.intro rfl (And.intro rfl ?_))) | refine Exists.intro _ (And.intro rfl ?_) | refine And.intro (show (0 : Int) < _ by decide) ?_ | refine And.intro (show (0 : Int) ≤ _ by decide) ?_ | refine And.intro ⟨show (0 : Int) < _ by decide, show Nat.log2 _ < _ by decide⟩ ?_ | refine And.intro (Or.inl (Or.inr ⟨show (_ : Int) < _ by decide, show (_ : Int) < _ by decide⟩)) ?_ | refine And.intro (Or.inl (Or.inl ⟨show (_ : Int) < _ by decide, show (_ : Int) < _ by decide⟩)) ?_ | refine And.intro ⟨show (0 : Int) ≤ _ by decide, show (_ : Int) ≤ _ by decide, show Int.natAbs _ < _ by decide⟩ ?_))
    exact And.intro ha (h1 _ rfl)
  · rw [fm_pow]
    (repeat (first | refine And.intro rfl ?_ | refine And.intro (frz_frz _) ?_ | refine And.intro (frz_ints _ _) ?_ | refine And.intro (Nat.le_of_ble_eq_true rfl) ?_ | refine Exists.intro _ (Exists.intro _ (And.intro rfl (And.intro rfl ?_))) | refine Exists.intro _ (And.intro rfl ?_) | refine And.intro (show (0 : Int) < _ by decide) ?_ | refine And.intro (show (0 : Int) ≤ _ by decide) ?_ | refine And.intro ⟨show (0 : Int) < _ by decide, show Nat.log2 _ < _ by decide⟩ ?_ | refine And.intro (Or.inl (Or.inr ⟨show (_ : Int) < _ by decide, show (_ : Int) < _ by decide⟩)) ?_ | refine And.intro (Or.inl (Or.inl ⟨show (_ : Int) < _ by decide, show (_ : Int) < _ by decide⟩)) ?_ | refine And.intro ⟨show (0 : Int) ≤ _ by decide, show (_ : Int) ≤ _ by decide, show Int.natAbs _ < _ by decide⟩ ?_))
    refine And.intro ⟨by decide, by decide, by omega, by omega, by omega⟩ ?_
    (repeat (first | refine And.intro rfl ?_ | refine And.intro (frz_frz _) ?_ | refine And.intro (frz_ints _ _) ?_ | refine And.intro (Nat.le_of_ble_eq_true rfl) ?_ | refine Exists.intro _ (Exists.intro _ (And.intro rfl (And.intro rfl ?_))) | refine Exists.intro _ (And.intro rfl ?_) | refine And.intro (show (0 : Int) < _ by decide) ?_ | refine And.intro (show (0 : Int) ≤ _ by decide) ?_ | refine And.intro ⟨show (0 : Int) < _ by decide, show Nat.log2 _ < _ by decide⟩ ?_ | refine And.intro (Or.inl (Or.inr ⟨show (_ : Int) < _ by decide, show (_ : Int) < _ by decide⟩)) ?_ | refine And.intro (Or.inl (Or.inl ⟨show (_ : Int) < _ by decide, show (_ : Int) < _ by decide⟩)) ?_ | refine And.intro ⟨show (0 : Int) ≤ _ by decide, show (_ : Int) ≤ _ by decide, show Int.natAbs _ < _ by decide⟩ ?_))
    refine And.intro (by omega) (And.intro (by omega) ?_)
    (repeat (first | refine And.intro rfl ?_ | refine And.intro (frz_frz _) ?_ | refine And.intro (frz_ints _ _) ?_ | refine And.intro (Nat.le_of_ble_eq_true rfl) ?_ | refine Exists.intro _ (Exists.intro _ (And.intro rfl (And.intro rfl ?_))) | refine Exists.intro _ (And.intro rfl ?_) | refine And.intro (show (0 : Int) < _ by decide) ?_ | refine And.intro (show (0 : Int) ≤ _ by decide) ?_ | refine And.intro ⟨show (0 : Int) < _ by decide, show Nat.log2 _ < _ by decide⟩ ?_ | refine And.intro (Or.inl (Or.inr ⟨show (_ : Int) < _ by decide, show (_ : Int) < _ by decide⟩)) ?_ | refine And.intro (Or.inl (Or.inl ⟨show (_ : Int) < _ by decide, show (_ : Int) < _ by decide⟩)) ?_ | refine And.intro ⟨show (0 : Int) ≤ _ by decide, show (_ : Int) ≤ _ by decide, show Int.natAbs _ < _ by decide⟩ ?_))
    refine And.intro (by omega) (And.intro (by omega) ?_)
    (repeat (first | refine And.intro rfl ?_ | refine And.intro (frz_frz _) ?_ | refine And.intro (frz_ints _ _) ?_ | refine And.intro (Nat.le_of_ble_eq_true rfl) ?_ | refine Exists.intro _ (Exists.intro _ (And.intro rfl (And.intro rfl ?_))) | refine Exists.intro _ (And.intro rfl ?_) | refine And.intro (show (0 : Int) < _ by decide) ?_ | refine And.intro (show (0 : Int) ≤ _ by decide) ?_ | refine And.intro ⟨show (0 : Int) < _ by decide, show Nat.log2 _ < _ by decide⟩ ?_ | refine And.intro (Or.inl (Or.inr ⟨show (_ : Int) < _ by decide, show (_ : Int) < _ by decide⟩)) ?_ | refine And.intro (Or.inl (Or.inl ⟨show (_ : Int) < _ by decide, show (_ : Int) < _ by decide⟩)) ?_ | refine And.intro ⟨show (0 : Int) ≤ _ by decide, show (_ : Int) ≤ _ by decide, show Int.natAbs _ < _ by decide⟩ ?_))
    refine And.intro s4 (And.intro s3 ?_)
    (repeat (first | refine And.intro rfl ?_ | refine And.intro (frz_frz _) ?_ | refine And.intro (frz_ints _ _) ?_ | refine And.intro (Nat.le_of_ble_eq_true rfl) ?_ | refine Exists.intro _ (Exists.intro _ (And.intro rfl (And.intro rfl ?_))) | refine Exists.intro _ (And.intro rfl ?_) | refine And.intro (show (0 : Int) < _ by decide) ?_ | refine And.intro (show (0 : Int) ≤ _ by decide) ?_ | refine And.intro ⟨show (0 : Int) < _ by decide, show Nat.log2 _ < _ by decide⟩ ?_ | refine And.intro (Or.inl (Or.inr ⟨show (_ : Int) < _ by decide, show (_ : Int) < _ by decide⟩)) ?_ | refine And.intro (Or.inl (Or.inl ⟨show (_ : Int) < _ by decide, show (_ : Int) < _ by decide⟩)) ?_ | refine And.intro ⟨show (0 : Int) ≤ _ by decide, show (_ : Int) ≤ _ by decide, show Int.natAbs _ < _ by decide⟩ ?_))
    refine ⟨_, _, .list [.int (2 ^ n - 1), .list ((bitsOf (2 ^ n - 1)).map .int)], rfl, ?_, ?_, ⟨⟨small_lit (by omega), smallL_ints (bits_small _), trivial⟩, ?_, ?_⟩, ?_⟩
    · show toP (.node true .lst [.leaf (.int (2 ^ n - 1)), .node true .lst (intsT (bitsOf (2 ^ n - 1)))]) = _
      simp only [toP, toPL, toPL_ints]
      rfl
    · show toP (frz (.node true .lst [.leaf (.int (((List.range n).map fun k => (2 : Int) ^ k).sum)), .node true .lst ((rgV 0 (n : Int)).map T.leaf)])) = _
      rw [toP_frz, rg_ints, s1, s2]
      simp only [toP, toPL, toPL_ints]
      rfl
    · simp only [PyData.depth, PyData.depthAll, depthAll_ints]
      decide
    · have := bits_len (2 ^ n - 1)
      simp only [szD, szL, szL_ints]
      omega
    (repeat (first | refine And.intro rfl ?_ | refine And.intro (frz_frz _) ?_ | refine And.intro (frz_ints _ _) ?_ | refine And.intro (Nat.le_of_ble_eq_true rfl) ?_ | refine Exists.intro _ (Exists.intro _ (And.intro rfl (And.intro rfl ?_))) | refine Exists.intro _ (And.intro rfl ?_) | refine And.intro (show (0 : Int) < _ by decide) ?_ | refine And.intro (show (0 : Int) ≤ _ by decide) ?_ | refine And.intro ⟨show (0 : Int) < _ by decide, show Nat.log2 _ < _ by decide⟩ ?_ | refine And.intro (Or.inl (Or.inr ⟨show (_ : Int) < _ by decide, show (_ : Int) < _ by decide⟩)) ?_ | refine And.intro (Or.inl (Or.inl ⟨show (_ : Int) < _ by decide, show (_ : Int) < _ by decide⟩)) ?_ | refine And.intro ⟨show (0 : Int) ≤ _ by decide, show (_ : Int) ≤ _ by decide, show Int.natAbs _ < _ by decide⟩ ?_))
    exact hD _ _ _ _ hb'
theorem rd_law {ts : List T} {Q : T → List T → Prop} {E : Value → List (Str × V) → List T → Prop} (h : sp_law ts Q E) : t_law (bodyEnds [false] Q E) (startE 12 (frzP [false] ts)) := by
  obtain ⟨ns, rfl, hl, q⟩ := h
  (repeat (first | refine And.intro rfl ?_ | refine And.intro (frz_frz _) ?_ | refine And.intro (frz_ints _ _) ?_ | refine And.intro (Nat.le_of_ble_eq_true rfl) ?_ | refine Exists.intro _ (Exists.intro _ (And.intro rfl (And.intro rfl ?_))) | refine Exists.intro _ (And.intro rfl ?_) | refine And.intro (show (0 : Int) < _ by decide) ?_ | refine And.intro (show (0 : Int) ≤ _ by decide) ?_ | refine And.intro ⟨show (0 : Int) < _ by decide, show Nat.log2 _ < _ by decide⟩ ?_ | refine And.intro (Or.inl (Or.inr ⟨show (_ : Int) < _ by decide, show (_ : Int) < _ by decide⟩)) ?_ | refine And.intro (Or.inl (Or.inl ⟨show (_ : Int) < _ by decide, show (_ : Int) < _ by decide⟩)) ?_ | refine And.intro ⟨show (0 : Int) ≤ _ by decide, show (_ : Int) ≤ _ by decide, show Int.natAbs _ < _ by decide⟩ ?_))
  refine And.intro hl (fun bag hb => ?_)
  (repeat (first | refine And.intro rfl ?_ | refine And.intro (frz_frz _) ?_ | refine And.intro (frz_ints _ _) ?_ | refine And.intro (Nat.le_of_ble_eq_true rfl) ?_ | refine Exists.intro _ (Exists.intro _ (And.intro rfl (And.intro rfl ?_))) | refine Exists.intro _ (And.intro rfl ?_) | refine And.intro (show (0 : Int) < _ by decide) ?_ | refine And.intro (show (0 : Int) ≤ _ by decide) ?_ | refine And.intro ⟨show (0 : Int) < _ by decide, show Nat.log2 _ < _ by decide⟩ ?_ | refine And.intro (Or.inl (Or.inr ⟨show (_ : Int) < _ by decide, show (_ : Int) < _ by decide⟩)) ?_ | refine And.intro (Or.inl (Or.inl ⟨show (_ : Int) < _ by decide, show (_ : Int) < _ by decide⟩)) ?_ | refine And.intro ⟨show (0 : Int) ≤ _ by decide, show (_ : Int) ≤ _ by decide, show Int.natAbs _ < _ by decide⟩ ?_))
  refine And.intro (by decide) (And.intro (by decide) ?_)
  refine Loop.ind (fun _ g => ∃ bag g2 g3 g4 g5 g6 g7 g8 g9 g10 g11, IsBag bag ∧ g = [some (.pin .lst (ns.map V.int)), some bag, g2, g3, g4, g5, g6, g7, g8, g9, g10, g11]) ⟨bag, _, _, _, _, _, _, _, _, _, _, hb, rfl⟩ (fun i t g ht hI R hR => ?_) (fun g hI => ?_)
  · obtain ⟨bag, g2, g3, g4, g5, g6, g7, g8, g9, g10, g11, hb, rfl⟩ := hI
    (repeat (first | refine And.intro rfl ?_ | refine And.intro (frz_frz _) ?_ | refine And.intro (frz_ints _ _) ?_ | refine And.intro (Nat.le_of_ble_eq_true rfl) ?_ | refine Exists.intro _ (Exists.intro _ (And.intro rfl (And.intro rfl ?_))) | refine Exists.intro _ (And.intro rfl ?_) | refine And.intro (show (0 : Int) < _ by decide) ?_ | refine And.intro (show (0 : Int) ≤ _ by decide) ?_ | refine And.intro ⟨show (0 : Int) < _ by decide, show Nat.log2 _ < _ by decide⟩ ?_ | refine And.intro (Or.inl (Or.inr ⟨show (_ : Int) < _ by decide, show (_ : Int) < _ by decide⟩)) ?_ | refine And.intro (Or.inl (Or.inl ⟨show (_ : Int) < _ by decide, show (_ : Int) < _ by decide⟩)) ?_ | refine And.intro ⟨show (0 : Int) ≤ _ by decide, show (_ : Int) ≤ _ by decide, show Int.natAbs _ < _ by decide⟩ ?_))
    refine ⟨bag, 4096, rfl, hb, by decide, by decide, fun r1 bag1 r10 r11 hb1 => ?_⟩
    (repeat (first | refine And.intro rfl ?_ | refine And.intro (frz_frz _) ?_ | refine And.intro (frz_ints _ _) ?_ | refine And.intro (Nat.le_of_ble_eq_true rfl) ?_ | refine Exists.intro _ (Exists.intro _ (And.intro rfl (And.intro rfl ?_))) | refine Exists.intro _ (And.intro rfl ?_) | refine And.intro (show (0 : Int) < _ by decide) ?_ | refine And.intro (show (0 : Int) ≤ _ by decide) ?_ | refine And.intro ⟨show (0 : Int) < _ by decide, show Nat.log2 _ < _ by decide⟩ ?_ | refine And.intro (Or.inl (Or.inr ⟨show (_ : Int) < _ by decide, show (_ : Int) < _ by decide⟩)) ?_ | refine And.intro (Or.inl (Or.inl ⟨show (_ : Int) < _ by decide, show (_ : Int) < _ by decide⟩)) ?_ | refine And.intro ⟨show (0 : Int) ≤ _ by decide, show (_ : Int) ≤ _ by decide, show Int.natAbs _ < _ by decide⟩ ?_))
    refine ⟨bag1, 16, rfl, hb1, by decide, by decide, fun r2 bag2 r20 r21 hb2 => ?_⟩
    (repeat (first | refine And.intro rfl ?_ | refine And.intro (frz_frz _) ?_ | refine And.intro (frz_ints _ _) ?_ | refine And.intro (Nat.le_of_ble_eq_true rfl) ?_ | refine Exists.intro _ (Exists.intro _ (And.intro rfl (And.intro rfl ?_))) | refine Exists.intro _ (And.intro rfl ?_) | refine And.intro (show (0 : Int) < _ by decide) ?_ | refine And.intro (show (0 : Int) ≤ _ by decide) ?_ | refine And.intro ⟨show (0 : Int) < _ by decide, show Nat.log2 _ < _ by decide⟩ ?_ | refine And.intro (Or.inl (Or.inr ⟨show (_ : Int) < _ by decide, show (_ : Int) < _ by decide⟩)) ?_ | refine And.intro (Or.inl (Or.inl ⟨show (_ : Int) < _ by decide, show (_ : Int) < _ by decide⟩)) ?_ | refine And.intro ⟨show (0 : Int) ≤ _ by decide, show (_ : Int) ≤ _ by decide, show Int.natAbs _ < _ by decide⟩ ?_))
    refine ⟨bag2, true, _, rfl, hb2, by simp, by simp, fun t3 bag3 ht3 hb3 => ?_⟩
    have hm : ∃ m : Int, t3 = .leaf (.int m) ∧ 0 ≤ m ∧ m < 4096 := by
      simp only [List.mem_cons, List.not_mem_nil, or_false] at ht3
      rcases ht3 with rfl | rfl | rfl | rfl
      · exact ⟨_, rfl, r10, r11⟩
      · exact ⟨_, rfl, r20, by omega⟩
      · exact ⟨_, rfl, by decide, by decide⟩
      · exact ⟨_, rfl, by decide, by decide⟩
    obtain ⟨m, rfl, h0, h1⟩ := hm
    (repeat (first | refine And.intro rfl ?_ | refine And.intro (frz_frz _) ?_ | refine And.intro (frz_ints _ _) ?_ | refine And.intro (Nat.le_of_ble_eq_true rfl) ?_ | refine Exists.intro _ (Exists.intro _ (And.intro rfl (And.intro rfl ?_))) | refine Exists.intro _ (And.intro rfl ?_) | refine And.intro (show (0 : Int) < _ by decide) ?_ | refine And.intro (show (0 : Int) ≤ _ by decide) ?_ | refine And.intro ⟨show (0 : Int) < _ by decide, show Nat.log2 _ < _ by decide⟩ ?_ | refine And.intro (Or.inl (Or.inr ⟨show (_ : Int) < _ by decide, show (_ : Int) < _ by decide⟩)) ?_ | refine And.intro (Or.inl (Or.inl ⟨show (_ : Int) < _ by decide, show (_ : Int) < _ by decide⟩)) ?_ | refine And.intro ⟨show (0 : Int) ≤ _ by decide, show (_ : Int) ≤ _ by decide, show Int.natAbs _ < _ by decide⟩ ?_))
    refine And.intro (by decide) (And.intro (by decide) ?_)
    refine Lc.fm (F_bit m) (by rw [rangeT_len]; decide) (fun t ht acc R' ha f1 f0 => ?_) ?_
    · obtain ⟨k, hk, rfl⟩ := rangeT_mem ht
      (repeat (first | refine And.intro rfl ?_ | refine And.intro (frz_frz _) ?_ | refine And.intro (frz_ints _ _) ?_ | refine And.intro (Nat.le_of_ble_eq_true rfl) ?_ | refine Exists.intro _ (Exists.intro _ (And.intro rfl (And.intro rfl ?_))) | refine Exists.intro _ (And.intro rfl ?_) | refine And.intro (show (0 : Int) < _ by decide) ?_ | refine And.intro (show (0 : Int) ≤ _ by decide) ?_ | refine And.intro ⟨show (0 : Int) < _ by decide, show Nat.log2 _ < _ by decide⟩ ?_ | refine And.intro (Or.inl (Or.inr ⟨show (_ : Int) < _ by decide, show (_ : Int) < _ by decide⟩)) ?_ | refine And.intro (Or.inl (Or.inl ⟨show (_ : Int) < _ by decide, show (_ : Int) < _ by decide⟩)) ?_ | refine And.intro ⟨show (0 : Int) ≤ _ by decide, show (_ : Int) ≤ _ by decide, show Int.natAbs _ < _ by decide⟩ ?_))
      refine ⟨m, k, rfl, h0, hk, ?_⟩
      refine ifB_dec (fun hbit => ?_) (fun hbit => ?_)
      · (repeat (first | refine And.intro rfl ?_ | refine And.intro (frz_frz _) ?_ | refine And.intro (frz_ints _ _) ?_ | refine And.intro (Nat.le_of_ble_eq_true rfl) ?_ | refine Exists.intro _ (Exists.intro _ (And.intro rfl (And.intro rfl ?_))) | refine Exists.intro _ (And.intro rfl ?_) | refine And.intro (show (0 : Int) < _ by decide) ?_ | refine And.intro (show (0 : Int) ≤ _ by decide) ?_ | refine And.intro ⟨show (0 : Int) < _ by decide, show Nat.log2 _ < _ by decide⟩ ?_ | refine And.intro (Or.inl (Or.inr ⟨show (_ : Int) < _ by decide, show (_ : Int) < _ by decide⟩)) ?_ | refine And.intro (Or.inl (Or.inl ⟨show (_ : Int) < _ by decide, show (_ : Int) < _ by decide⟩)) ?_ | refine And.intro ⟨show (0 : Int) ≤ _ by decide, show (_ : Int) ≤ _ by decide, show Int.natAbs _ < _ by decide⟩ ?_))
        exact And.intro ha (f1 _ (if_pos hbit))
      · exact f0 (if_neg hbit)
    · have e12 : (12 : Int).toNat = 12 := rfl
      rw [e12, fm_bit]
      have key := loop_two (D := seqE t_law_18 (lpE R (seqE t_law_23 (bodyEnds [false] Q E)))) (s0 := some (.pin .lst (ns.map V.int))) (g1 := some bag3) (g2 := some (frz t)) (g5 := g5) (g6 := none) (g7 := g7) (g8 := g8) (g9 := g9) (g10 := g10) (g11 := g11) h0 h1 (fun g5 g9 =>
        loop_hands (D := seqE t_law_12 (lpE R (seqE t_law_23 (bodyEnds [false] Q E)))) h0 h1 fun g6 g9 g10 g11 =>
          hands_drawn (D := lpE R (seqE t_law_23 (bodyEnds [false] Q E))) hb3 fun bag' g6 g7 g8 hb' => hR _ ⟨_, _, _, _, _, _, _, _, _, _, _, hb', rfl⟩) trivial
      rw [← intsT_frz (bitsOf m)] at key
      exact key
  · obtain ⟨bag, g2, g3, g4, g5, g6, g7, g8, g9, g10, g11, hb, rfl⟩ := hI
    (repeat (first | refine And.intro rfl ?_ | refine And.intro (frz_frz _) ?_ | refine And.intro (frz_ints _ _) ?_ | refine And.intro (Nat.le_of_ble_eq_true rfl) ?_ | refine Exists.intro _ (Exists.intro _ (And.intro rfl (And.intro rfl ?_))) | refine Exists.intro _ (And.intro rfl ?_) | refine And.intro (show (0 : Int) < _ by decide) ?_ | refine And.intro (show (0 : Int) ≤ _ by decide) ?_ | refine And.intro ⟨show (0 : Int) < _ by decide, show Nat.log2 _ < _ by decide⟩ ?_ | refine And.intro (Or.inl (Or.inr ⟨show (_ : Int) < _ by decide, show (_ : Int) < _ by decide⟩)) ?_ | refine And.intro (Or.inl (Or.inl ⟨show (_ : Int) < _ by decide, show (_ : Int) < _ by decide⟩)) ?_ | refine And.intro ⟨show (0 : Int) ≤ _ by decide, show (_ : Int) ≤ _ by decide, show Int.natAbs _ < _ by decide⟩ ?_))
    refine And.intro (by decide) ?_
    (repeat (first | refine And.intro rfl ?_ | refine And.intro (frz_frz _) ?_ | refine And.intro (frz_ints _ _) ?_ | refine And.intro (Nat.le_of_ble_eq_true rfl) ?_ | refine Exists.intro _ (Exists.intro _ (And.intro rfl (And.intro rfl ?_))) | refine Exists.intro _ (And.intro rfl ?_) | refine And.intro (show (0 : Int) < _ by decide) ?_ | refine And.intro (show (0 : Int) ≤ _ by decide) ?_ | refine And.intro ⟨show (0 : Int) < _ by decide, show Nat.log2 _ < _ by decide⟩ ?_ | refine And.intro (Or.inl (Or.inr ⟨show (_ : Int) < _ by decide, show (_ : Int) < _ by decide⟩)) ?_ | refine And.intro (Or.inl (Or.inl ⟨show (_ : Int) < _ by decide, show (_ : Int) < _ by decide⟩)) ?_ | refine And.intro ⟨show (0 : Int) ≤ _ by decide, show (_ : Int) ≤ _ by decide, show Int.natAbs _ < _ by decide⟩ ?_))
    refine And.intro (by decide) ?_
    (repeat (first | refine And.intro rfl ?_ | refine And.intro (frz_frz _) ?_ | refine And.intro (frz_ints _ _) ?_ | refine And.intro (Nat.le_of_ble_eq_true rfl) ?_ | refine Exists.intro _ (Exists.intro _ (And.intro rfl (And.intro rfl ?_))) | refine Exists.intro _ (And.intro rfl ?_) | refine And.intro (show (0 : Int) < _ by decide) ?_ | refine And.intro (show (0 : Int) ≤ _ by decide) ?_ | refine And.intro ⟨show (0 : Int) < _ by decide, show Nat.log2 _ < _ by decide⟩ ?_ | refine And.intro (Or.inl (Or.inr ⟨show (_ : Int) < _ by decide, show (_ : Int) < _ by decide⟩)) ?_ | refine And.intro (Or.inl (Or.inl ⟨show (_ : Int) < _ by decide, show (_ : Int) < _ by decide⟩)) ?_ | refine And.intro ⟨show (0 : Int) ≤ _ by decide, show (_ : Int) ≤ _ by decide, show Int.natAbs _ < _ by decide⟩ ?_))
    exact q
end L17
set_option Elab.async false
set_option linter.all false
set_option maxRecDepth 100000
set_option maxHeartbeats 4000000
namespace L17
open PySem L2 DL
theorem ok_all_of {P : Program} {w : World} {K : PySem.W.Frag} {mg : Str → Option Value} {base : Heap} (T : Txt K mg) : FnG P w K mg base 1 T.a_all_of T.d_all_of ["hands"] (spD K [false] sp_all_of) := by
  refine fnD_of2 (N := N_all_of) (k := 0) T.F_all_of sc_all_of rfl fun cdv A outer s H E hr hgd => ⟨t_all_of, ?_, fun ts Q E hl h => rd_all_of h⟩
  exact (dss_one (ds_ret (d_sub (d_shl d_int (d_var 0 (pv 0))) d_int)))
theorem ok_holds {P : Program} {w : World} {K : PySem.W.Frag} {mg : Str → Option Value} {base : Heap} (T : Txt K mg) : FnG P w K mg base 1 T.a_holds T.d_holds ["mask", "hand"] (spD K [false, false] sp_holds) := by
  refine fnD_of2 (N := N_holds) (k := 0) T.F_holds sc_holds rfl fun cdv A outer s H E hr hgd => ⟨t_holds, ?_, fun ts Q E hl h => rd_holds h⟩
  exact (dss_one (ds_ret (d_eq hr.units (d_bitand (d_shr (d_var 0 (pv 0)) (d_var 1 (pv 1))) d_int) d_int)))
theorem ok_with_one {P : Program} {w : World} {K : PySem.W.Frag} {mg : Str → Option Value} {base : Heap} (T : Txt K mg) : FnG P w K mg base 1 T.a_with_one T.d_with_one ["mask", "hand"] (spD K [false, false] sp_with_one) := by
  refine fnD_of2 (N := N_with_one) (k := 0) T.F_with_one sc_with_one rfl fun cdv A outer s H E hr hgd => ⟨t_with_one, ?_, fun ts Q E hl h => rd_with_one h⟩
  exact (dss_one (ds_ret (d_bitor (d_var 0 (pv 0)) (d_shl d_int (d_var 1 (pv 1))))))
theorem ok_without {P : Program} {w : World} {K : PySem.W.Frag} {mg : Str → Option Value} {base : Heap} (T : Txt K mg) : FnG P w K mg base 2 T.a_without T.d_without ["mask", "hand"] (spD K [false, false] sp_without) := by
  refine fnD_of2 (N := N_without) (k := 1) T.F_without sc_without rfl fun cdv A outer s H E hr hgd => ⟨t_without, ?_, fun ts Q E hl h => rd_without h⟩
  exact (dss_cons (ds_if (dt_val (d_call (ok_holds T) mono_holds hr hgd (by rfl) T.g_holds T.F_holds.kp T.b_holds (takes_of rfl rfl rfl rfl) (da_cons (d_var 0 (pv 0)) (da_cons (d_var 1 (pv 1)) da_nil))))
 (dss_one (ds_ret (d_bitxor (d_var 0 (pv 0)) (d_shl d_int (d_var 1 (pv 1))))))
 dss_nil)
(dss_one (ds_ret (d_var 0 (pv 0)))))
theorem ok_members {P : Program} {w : World} {K : PySem.W.Frag} {mg : Str → Option Value} {base : Heap} (T : Txt K mg) : FnG P w K mg base 1 T.a_members T.d_members ["mask"] (spD K [false] sp_members) := by
  refine fnD_of2 (N := N_members) (k := 0) T.F_members sc_members rfl fun cdv A outer s H E hr hgd => ⟨t_members, ?_, fun ts Q E hl h => rd_members h⟩
  exact (dss_cons (ds_set (i := 1) true (sc_members).nd rfl (by first | exact Or.inl rfl | exact Or.inr rfl) (d_lst da_nil) rfl)
(dss_cons (ds_set (i := 2) false (sc_members).nd rfl (by first | exact Or.inl rfl | exact Or.inr rfl) d_int rfl)
(dss_cons (ds_while (passes_of rfl) (dt_gt (d_var 0 (pv 0)) d_int)
 (dss_cons (ds_if (dt_eq hr.units (d_bitand (d_var 0 (pv 0)) d_int) d_int)
 (dss_one (ds_expr (d_app 1 (pv 1) (d_var 2 (pv 2)))))
 dss_nil)
(dss_cons (ds_set (i := 0) false (sc_members).nd rfl (by first | exact Or.inl rfl | exact Or.inr rfl) (d_shr (d_var 0 (pv 0)) d_int) rfl)
(dss_one (ds_aug (i := 2) (sc_members).nd rfl (by first | exact Or.inl rfl | exact Or.inr rfl) d_int iop_add op2_I0 rfl)))))
(dss_one (ds_ret (d_mov 1 (pv 1)))))))
theorem ok_size {P : Program} {w : World} {K : PySem.W.Frag} {mg : Str → Option Value} {base : Heap} (T : Txt K mg) : FnG P w K mg base 2 T.a_size T.d_size ["mask"] (spD K [false] sp_size) := by
  refine fnD_of2 (N := N_size) (k := 1) T.F_size sc_size rfl fun cdv A outer s H E hr hgd => ⟨t_size, ?_, fun ts Q E hl h => rd_size h⟩
  exact (dss_one (ds_ret (d_callB n_len (by rfl) T.n_len bo_len (da_cons (d_call (ok_members T) mono_members hr hgd (by rfl) T.g_members T.F_members.kp T.b_members (takes_of rfl rfl rfl rfl) (da_cons (d_var 0 (pv 0)) da_nil)) da_nil))))
theorem ok__law_bag {P : Program} {w : World} {K : PySem.W.Frag} {mg : Str → Option Value} {base : Heap} (T : Txt K mg) : FnG P w K mg base 1 T.a__law_bag T.d__law_bag ["_law_script"] (spD K [false] sp__law_bag) := by
  refine fnD_of2 (N := N__law_bag) (k := 0) T.F__law_bag sc__law_bag rfl fun cdv A outer s H E hr hgd => ⟨t__law_bag, ?_, fun ts Q E hl h => rd__law_bag h⟩
  exact (dss_one (ds_ret (d_lst (da_cons d_int (da_cons d_int (da_cons d_int (da_cons (d_lc (own := [("_law_cell", 1)]) rfl (sc__law_bag).nd (di_seq (d_slice (d_var 0 (pv 0)) do_none (do_some d_int))) (blkOk_by (N := N__law_bag) (sc := defScope s__law_bag) (by decide +kernel)) (fun _ _ _ _ _ => (dg_name false (i := 1) (sc__law_bag).nd rfl (by first | exact Or.inl rfl | exact Or.inr rfl) rfl)) (fun _ _ _ _ _ => dts_nil) (fun _ _ _ _ _ => (d_callB n_abs (by rfl) T.n_abs bo_abs (da_cons (d_var 1 (pv 1)) da_nil)))) da_nil)))))))
theorem ok__law_take {P : Program} {w : World} {K : PySem.W.Frag} {mg : Str → Option Value} {base : Heap} (T : Txt K mg) : FnG P w K mg base 1 T.a__law_take T.d__law_take ["_law_bag_here", "_law_many"] (spD K [true, false] sp__law_take) := by
  refine fnD_of2 (N := N__law_take) (k := 0) T.F__law_take sc__law_take rfl fun cdv A outer s H E hr hgd => ⟨t__law_take, ?_, fun ts Q E hl h => rd__law_take h⟩
  exact (dss_cons (ds_if (dt_eq hr.units (d_ixO 0 (pv 0) d_int) d_int)
 (dss_cons (ds_set (i := 4) false (sc__law_take).nd rfl (by first | exact Or.inl rfl | exact Or.inr rfl) (d_ix (d_add (d_slice (d_ixO 0 (pv 0) d_int) (do_some (d_ixO 0 (pv 0) d_int)) do_none) (d_lst (da_cons d_int da_nil))) d_int) rfl)
(dss_cons (ds_augI 0 (pv 0) d_int d_int iop_add op2_I0)
(dss_cons (ds_asg (d_mul (d_var 4 (pv 4)) (d_callTy n_int (by rfl) T.n_int bo_int (da_cons (d_ge (d_var 4 (pv 4)) (d_pow d_int d_int)) da_nil))) (dg_setI 0 (pv 0) d_int))
(dss_cons (ds_set (i := 5) false (sc__law_take).nd rfl (by first | exact Or.inl rfl | exact Or.inr rfl) (d_add (d_add (d_mul (d_ixO 0 (pv 0) d_int) d_int) (d_mod (d_callTy n_int (by rfl) T.n_int bo_int (da_cons (d_var 4 (pv 4)) da_nil)) d_int)) (d_mul d_int (d_ixO 0 (pv 0) d_int))) rfl)
(dss_one (ds_asg (d_mod (d_callTy n_int (by rfl) T.n_int bo_int (da_cons (d_var 5 (pv 5)) da_nil)) d_int) (dg_setI 0 (pv 0) d_int)))))))
 dss_nil)
(dss_cons (ds_if (dt_gt (d_ixO 0 (pv 0) d_int) d_int)
 (dss_cons (ds_asg (d_tup (da_cons (d_mod (d_callTy n_int (by rfl) T.n_int bo_int (da_cons (d_ixO 0 (pv 0) d_int) da_nil)) (d_var 1 (pv 1))) (da_cons (d_div (d_callTy n_int (by rfl) T.n_int bo_int (da_cons (d_ixO 0 (pv 0) d_int) da_nil)) (d_var 1 (pv 1))) da_nil))) (dg_tup rfl (dgs_cons (dg_name false (i := 6) (sc__law_take).nd rfl (by first | exact Or.inl rfl | exact Or.inr rfl) rfl) (dgs_cons (dg_setI 0 (pv 0) d_int) dgs_nil))))
(dss_one (ds_ret (d_var 6 (pv 6)))))
 dss_nil)
(dss_cons (ds_set (i := 2) false (sc__law_take).nd rfl (by first | exact Or.inl rfl | exact Or.inr rfl) (d_mod (d_callTy n_int (by rfl) T.n_int bo_int (da_cons (d_mul (d_add (d_ixO 0 (pv 0) d_int) d_int) d_int) da_nil)) d_int) rfl)
(dss_cons (ds_set (i := 3) false (sc__law_take).nd rfl (by first | exact Or.inl rfl | exact Or.inr rfl) (d_mod (d_callTy n_int (by rfl) T.n_int bo_int (da_cons (d_mul (d_mod (d_callTy n_int (by rfl) T.n_int bo_int (da_cons (d_mul (d_var 2 (pv 2)) (d_var 2 (pv 2))) da_nil)) d_int) d_int) da_nil)) d_int) rfl)
(dss_one (ds_ret (d_mod (d_callTy n_int (by rfl) T.n_int bo_int (da_cons (d_div (d_var 3 (pv 3)) d_int) da_nil)) (d_var 1 (pv 1)))))))))
theorem ok__law_alike {P : Program} {w : World} {K : PySem.W.Frag} {mg : Str → Option Value} {base : Heap} (T : Txt K mg) : FnG P w K mg base 1 T.a__law_alike T.d__law_alike ["_law_found", "_law_due"] (spD K [false, false] sp__law_alike) := by
  refine fnD_of2 (N := N__law_alike) (k := 0) T.F__law_alike sc__law_alike rfl fun cdv A outer s H E hr hgd => ⟨t__law_alike, ?_, fun ts Q E hl h => rd__law_alike h⟩
  exact (dss_one (ds_ret (d_and (d_eq hr.units (d_var 0 (pv 0)) (d_var 1 (pv 1))) (d_one (d_eq hr.units (d_callB (n_repr hgd hr.units) (by rfl) T.n_repr bo_repr (da_cons (d_var 0 (pv 0)) da_nil)) (d_callB (n_repr hgd hr.units) (by rfl) T.n_repr bo_repr (da_cons (d_var 1 (pv 1)) da_nil)))))))
theorem ok__law_one {P : Program} {w : World} {K : PySem.W.Frag} {mg : Str → Option Value} {base : Heap} (T : Txt K mg) : FnG P w K mg base 2 T.a__law_one T.d__law_one ["_law_bag_here", "_law_some"] (spD K [true, false] sp__law_one) := by
  refine fnD_of2 (N := N__law_one) (k := 1) T.F__law_one sc__law_one rfl fun cdv A outer s H E hr hgd => ⟨t__law_one, ?_, fun ts Q E hl h => rd__law_one h⟩
  exact (dss_one (ds_ret (d_ix (d_var 1 (pv 1)) (d_call (ok__law_take T) mono__law_take hr hgd (by rfl) T.g__law_take T.F__law_take.kp T.b__law_take (takes_of rfl rfl rfl rfl) (da_late 0 (pv 0) (da_cons (d_callB n_len (by rfl) T.n_len bo_len (da_cons (d_var 1 (pv 1)) da_nil)) da_nil))))))
theorem ok__law_bit {P : Program} {w : World} {K : PySem.W.Frag} {mg : Str → Option Value} {base : Heap} (T : Txt K mg) : FnG P w K mg base 1 T.a__law_bit T.d__law_bit ["_law_hand"] (spD K [false] sp__law_bit) := by
  refine fnD_of2 (N := N__law_bit) (k := 0) T.F__law_bit sc__law_bit rfl fun cdv A outer s H E hr hgd => ⟨t__law_bit, ?_, fun ts Q E hl h => rd__law_bit h⟩
  exact (dss_one (ds_ret (d_ix (d_lst (da_cons d_int (da_cons d_int (da_cons d_int (da_cons d_int (da_cons d_int (da_cons d_int (da_cons d_int (da_cons d_int (da_cons d_int (da_cons d_int (da_cons d_int (da_cons d_int da_nil))))))))))))) (d_var 0 (pv 0)))))
theorem ok__law_in {P : Program} {w : World} {K : PySem.W.Frag} {mg : Str → Option Value} {base : Heap} (T : Txt K mg) : FnG P w K mg base 2 T.a__law_in T.d__law_in ["_law_mask", "_law_hand"] (spD K [false, false] sp__law_in) := by
  refine fnD_of2 (N := N__law_in) (k := 1) T.F__law_in sc__law_in rfl fun cdv A outer s H E hr hgd => ⟨t__law_in, ?_, fun ts Q E hl h => rd__law_in h⟩
  exact (dss_one (ds_ret (d_eq hr.units (d_mod (d_callTy n_int (by rfl) T.n_int bo_int (da_cons (d_div (d_var 0 (pv 0)) (d_call (ok__law_bit T) mono__law_bit hr hgd (by rfl) T.g__law_bit T.F__law_bit.kp T.b__law_bit (takes_of rfl rfl rfl rfl) (da_cons (d_var 1 (pv 1)) da_nil))) da_nil)) d_int) d_int)))
theorem ok_law {P : Program} {w : World} {K : PySem.W.Frag} {mg : Str → Option Value} {base : Heap} (T : Txt K mg) : FnG P w K mg base 3 T.a_law T.d_law ["_law_script"] (spD K [false] sp_law) := by
  refine fnD_of2 (N := N_law) (k := 2) T.F_law sc_law rfl fun cdv A outer s H E hr hgd => ⟨t_law, ?_, fun ts Q E hl h => rd_law h⟩
  exact (dss_cons (ds_set (i := 1) true (sc_law).nd rfl (by first | exact Or.inl rfl | exact Or.inr rfl) (d_call ((ok__law_bag T).mono (by decide)) mono__law_bag hr hgd (by rfl) T.g__law_bag T.F__law_bag.kp T.b__law_bag (takes_of rfl rfl rfl rfl) (da_cons (d_var 0 (pv 0)) da_nil)) rfl)
(dss_cons (ds_for (passes_of rfl) rfl (di_range1 (by rfl) T.n_range (da_cons d_int da_nil)) (dg_name false (i := 2) (sc_law).nd rfl (by first | exact Or.inl rfl | exact Or.inr rfl) rfl)
 (dss_cons (ds_set (i := 3) false (sc_law).nd rfl (by first | exact Or.inl rfl | exact Or.inr rfl) (d_call (ok__law_one T) mono__law_one hr hgd (by rfl) T.g__law_one T.F__law_one.kp T.b__law_one (takes_of rfl rfl rfl rfl) (da_late 1 (pv 1) (da_cons (d_lst (da_cons (d_call ((ok__law_take T).mono (by decide)) mono__law_take hr hgd (by rfl) T.g__law_take T.F__law_take.kp T.b__law_take (takes_of rfl rfl rfl rfl) (da_late 1 (pv 1) (da_cons d_int da_nil))) (da_cons (d_call ((ok__law_take T).mono (by decide)) mono__law_take hr hgd (by rfl) T.g__law_take T.F__law_take.kp T.b__law_take (takes_of rfl rfl rfl rfl) (da_late 1 (pv 1) (da_cons d_int da_nil))) (da_cons d_int (da_cons d_int da_nil))))) da_nil))) rfl)
(dss_cons (ds_setLc (i := 4) (own := [("_law_hand", 6)]) false rfl (sc_law).nd rfl rfl rfl (sw_true rfl rfl rfl (by decide +kernel)) (di_range1 (by rfl) T.n_range (da_cons d_int da_nil)) (blkOk_by (N := N_law) (sc := defScope s_law) (by decide +kernel)) (fun _ _ _ _ _ => (dg_name false (i := 6) (sc_law).nd rfl (by first | exact Or.inl rfl | exact Or.inr rfl) rfl)) (fun _ _ _ _ _ => (dts_one (dt_val (d_call (ok__law_in T) mono__law_in hr hgd (by rfl) T.g__law_in T.F__law_in.kp T.b__law_in DL.takes0 (da_cons (d_var 3 (pv 3)) (da_cons (d_var 6 (pv 6)) da_nil)))))) (fun _ _ _ _ _ => (d_var 6 (pv 6))))
(dss_cons (ds_for (passes_of rfl) rfl (di_range1 (by rfl) T.n_range (da_cons d_int da_nil)) (dg_name false (i := 5) (sc_law).nd rfl (by first | exact Or.inl rfl | exact Or.inr rfl) rfl)
 (dss_cons (ds_set (i := 9) true (sc_law).nd rfl (by first | exact Or.inl rfl | exact Or.inr rfl) (d_call ((ok_members T).mono (by decide)) mono_members hr hgd (by rfl) T.g_members T.F_members.kp T.b_members (takes_of rfl rfl rfl rfl) (da_cons (d_var 3 (pv 3)) da_nil)) rfl)
(dss_cons (ds_if (dt_bor ((dw_or (dt_not (dt_val (d_call ((ok__law_alike T).mono (by decide)) mono__law_alike hr hgd (by rfl) T.g__law_alike T.F__law_alike.kp T.b__law_alike (takes_of rfl rfl rfl rfl) (da_cons (d_var 9 (pv 9)) (da_cons (d_var 4 (pv 4)) da_nil))))) (dw_or1 (dt_not (dt_val (d_call ((ok__law_alike T).mono (by decide)) mono__law_alike hr hgd (by rfl) T.g__law_alike T.F__law_alike.kp T.b__law_alike (takes_of rfl rfl rfl rfl) (da_cons (d_call (ok_size T) mono_size hr hgd (by rfl) T.g_size T.F_size.kp T.b_size (takes_of rfl rfl rfl rfl) (da_cons (d_var 3 (pv 3)) da_nil)) (da_cons (d_callB n_len (by rfl) T.n_len bo_len (da_cons (d_var 4 (pv 4)) da_nil)) da_nil)))))))).dt)
 (dss_one (ds_ret d_bl))
 dss_nil)
(dss_one (ds_expr (d_app 9 (pv 9) d_int))))))
(dss_cons (ds_for (passes_of rfl) rfl (di_range1 (by rfl) T.n_range (da_cons d_int da_nil)) (dg_name false (i := 6) (sc_law).nd rfl (by first | exact Or.inl rfl | exact Or.inr rfl) rfl)
 (dss_cons (ds_set (i := 10) false (sc_law).nd rfl (by first | exact Or.inl rfl | exact Or.inr rfl) (d_add (d_var 3 (pv 3)) (d_mul (d_call ((ok__law_bit T).mono (by decide)) mono__law_bit hr hgd (by rfl) T.g__law_bit T.F__law_bit.kp T.b__law_bit (takes_of rfl rfl rfl rfl) (da_cons (d_var 6 (pv 6)) da_nil)) (d_callTy n_int (by rfl) T.n_int bo_int (da_cons (d_notin (by with_unfolding_all rfl) (d_var 6 (pv 6)) (d_var 4 (pv 4))) da_nil)))) rfl)
(dss_cons (ds_set (i := 11) false (sc_law).nd rfl (by first | exact Or.inl rfl | exact Or.inr rfl) (d_sub (d_var 3 (pv 3)) (d_mul (d_call ((ok__law_bit T).mono (by decide)) mono__law_bit hr hgd (by rfl) T.g__law_bit T.F__law_bit.kp T.b__law_bit (takes_of rfl rfl rfl rfl) (da_cons (d_var 6 (pv 6)) da_nil)) (d_callTy n_int (by rfl) T.n_int bo_int (da_cons (d_in (by with_unfolding_all rfl) (d_var 6 (pv 6)) (d_var 4 (pv 4))) da_nil)))) rfl)
(dss_cons (ds_set (i := 9) true (sc_law).nd rfl (by first | exact Or.inl rfl | exact Or.inr rfl) (d_lst (da_cons (d_call ((ok_holds T).mono (by decide)) mono_holds hr hgd (by rfl) T.g_holds T.F_holds.kp T.b_holds (takes_of rfl rfl rfl rfl) (da_cons (d_var 3 (pv 3)) (da_cons (d_var 6 (pv 6)) da_nil))) (da_cons (d_call ((ok_with_one T).mono (by decide)) mono_with_one hr hgd (by rfl) T.g_with_one T.F_with_one.kp T.b_with_one (takes_of rfl rfl rfl rfl) (da_cons (d_var 3 (pv 3)) (da_cons (d_var 6 (pv 6)) da_nil))) (da_cons (d_call (ok_without T) mono_without hr hgd (by rfl) T.g_without T.F_without.kp T.b_without (takes_of rfl rfl rfl rfl) (da_cons (d_var 3 (pv 3)) (da_cons (d_var 6 (pv 6)) da_nil))) da_nil)))) rfl)
(dss_cons (ds_if (dt_bor (dt_not (dt_val (d_call ((ok__law_alike T).mono (by decide)) mono__law_alike hr hgd (by rfl) T.g__law_alike T.F__law_alike.kp T.b__law_alike (takes_of rfl rfl rfl rfl) (da_cons (d_var 9 (pv 9)) (da_cons (d_lst (da_cons (d_in (by with_unfolding_all rfl) (d_var 6 (pv 6)) (d_var 4 (pv 4))) (da_cons (d_var 10 (pv 10)) (da_cons (d_var 11 (pv 11)) da_nil)))) da_nil))))))
 (dss_one (ds_ret d_bl))
 dss_nil)
(dss_one (ds_if ((dw_or (dt_ne hr.units (d_call ((ok_with_one T).mono (by decide)) mono_with_one hr hgd (by rfl) T.g_with_one T.F_with_one.kp T.b_with_one (takes_of rfl rfl rfl rfl) (da_cons (d_var 11 (pv 11)) (da_cons (d_var 6 (pv 6)) da_nil))) (d_var 10 (pv 10))) (dw_or1 (dt_ne hr.units (d_call (ok_without T) mono_without hr hgd (by rfl) T.g_without T.F_without.kp T.b_without (takes_of rfl rfl rfl rfl) (da_cons (d_var 10 (pv 10)) (da_cons (d_var 6 (pv 6)) da_nil))) (d_var 11 (pv 11)))))).dt
 (dss_one (ds_ret d_bl))
 dss_nil)))))))
(dss_cons (ds_set (i := 7) false (sc_law).nd rfl (by first | exact Or.inl rfl | exact Or.inr rfl) (d_call ((ok__law_take T).mono (by decide)) mono__law_take hr hgd (by rfl) T.g__law_take T.F__law_take.kp T.b__law_take (takes_of rfl rfl rfl rfl) (da_late 1 (pv 1) (da_cons d_int da_nil))) rfl)
(dss_cons (ds_set (i := 8) false (sc_law).nd rfl (by first | exact Or.inl rfl | exact Or.inr rfl) (d_lst (da_cons (d_callB (n_sum rfl) (by rfl) T.n_sum bo_sum (da_cons (d_lc (own := [("_law_hand", 6)]) rfl (sc_law).nd (di_range1 (by rfl) T.n_range (da_cons (d_var 7 (pv 7)) da_nil)) (blkOk_by (N := N_law) (sc := defScope s_law) (by decide +kernel)) (fun _ _ _ _ _ => (dg_name false (i := 6) (sc_law).nd rfl (by first | exact Or.inl rfl | exact Or.inr rfl) rfl)) (fun _ _ _ _ _ => dts_nil) (fun _ _ _ _ _ => (d_call ((ok__law_bit T).mono (by decide)) mono__law_bit hr hgd (by rfl) T.g__law_bit T.F__law_bit.kp T.b__law_bit DL.takes0 (da_cons (d_var 6 (pv 6)) da_nil)))) da_nil)) (da_cons (d_listRg rfl (by rfl) T.n_list (dr_1 (by rfl) T.n_range (d_var 7 (pv 7)))) da_nil))) rfl)
(dss_one (ds_if (dt_not (dt_val (d_call ((ok__law_alike T).mono (by decide)) mono__law_alike hr hgd (by rfl) T.g__law_alike T.F__law_alike.kp T.b__law_alike (takes_of rfl rfl rfl rfl) (da_cons (d_lst (da_cons (d_call ((ok_all_of T).mono (by decide)) mono_all_of hr hgd (by rfl) T.g_all_of T.F_all_of.kp T.b_all_of (takes_of rfl rfl rfl rfl) (da_cons (d_var 7 (pv 7)) da_nil)) (da_cons (d_call ((ok_members T).mono (by decide)) mono_members hr hgd (by rfl) T.g_members T.F_members.kp T.b_members (takes_of rfl rfl rfl rfl) (da_cons (d_call ((ok_all_of T).mono (by decide)) mono_all_of hr hgd (by rfl) T.g_all_of T.F_all_of.kp T.b_all_of (takes_of rfl rfl rfl rfl) (da_cons (d_var 7 (pv 7)) da_nil)) da_nil)) da_nil))) (da_cons (d_var 8 (pv 8)) da_nil)))))
 (dss_one (ds_ret d_bl))
 dss_nil)))))))))
(dss_one (ds_ret (d_eq hr.units (d_lst (da_cons (d_call ((ok_all_of T).mono (by decide)) mono_all_of hr hgd (by rfl) T.g_all_of T.F_all_of.kp T.b_all_of (takes_of rfl rfl rfl rfl) (da_cons d_int da_nil)) (da_cons (d_call ((ok_all_of T).mono (by decide)) mono_all_of hr hgd (by rfl) T.g_all_of T.F_all_of.kp T.b_all_of (takes_of rfl rfl rfl rfl) (da_cons d_int da_nil)) (da_cons (d_call ((ok_all_of T).mono (by decide)) mono_all_of hr hgd (by rfl) T.g_all_of T.F_all_of.kp T.b_all_of (takes_of rfl rfl rfl rfl) (da_cons d_int da_nil)) da_nil)))) (d_lst (da_cons d_int (da_cons d_int (da_cons d_int da_nil)))))))))
theorem all_mk {l : PySem.W.OpenLaw} {w : World} {K : PySem.W.Frag} {h : Heap} {mg : Str → Option Value} {fa f0 f1 f2 f3 f4 f5 f6 f7 f8 f9 f10 f11 f12 : Addr} (X : K.In h) (G : h.Ns mainGlobals mg) (hfa : mg "law" = some (.ref fa))
    {od0 an0 od1 an1 od2 an2 od3 an3 od4 an4 od5 an5 od6 an6 od7 an7 od8 an8 od9 an9 od10 an10 od11 an11 od12 an12 : Option Addr} {sl0 sl1 sl2 sl3 sl4 sl5 sl6 sl7 sl8 sl9 sl10 sl11 sl12 : Array (Option Value)} {oc0 kV0 dc0 pm0 cd0 ct0 oc1 kV1 dc1 pm1 cd1 ct1 oc2 kV2 dc2 pm2 cd2 ct2 oc3 kV3 dc3 pm3 cd3 ct3 oc4 kV4 dc4 pm4 cd4 ct4 oc5 kV5 dc5 pm5 cd5 ct5 oc6 kV6 dc6 pm6 cd6 ct6 oc7 kV7 dc7 pm7 cd7 ct7 oc8 kV8 dc8 pm8 cd8 ct8 oc9 kV9 dc9 pm9 cd9 ct9 oc10 kV10 dc10 pm10 cd10 ct10 oc11 kV11 dc11 pm11 cd11 ct11 oc12 kV12 dc12 pm12 cd12 ct12 : Value}
    (a0 : PySem.W.nsIn K mainGlobals "all_of" = some (some (.ref f0))) (l0 : K.lookup f0 = some ⟨oc0, od0, .func (PySem.W.fnOf "all_of" "all_of" (defArgs s_all_of) (defBody s_all_of) (defScope s_all_of) .none kV0 dc0 pm0 an0 cd0 ct0), sl0⟩) (c0 : PySem.W.codeIn K cd0 "all_of" = true) (k0 : PySem.W.keepIn K (.ref f0) = true)
    (a1 : PySem.W.nsIn K mainGlobals "holds" = some (some (.ref f1))) (l1 : K.lookup f1 = some ⟨oc1, od1, .func (PySem.W.fnOf "holds" "holds" (defArgs s_holds) (defBody s_holds) (defScope s_holds) .none kV1 dc1 pm1 an1 cd1 ct1), sl1⟩) (c1 : PySem.W.codeIn K cd1 "holds" = true) (k1 : PySem.W.keepIn K (.ref f1) = true)
    (a2 : PySem.W.nsIn K mainGlobals "with_one" = some (some (.ref f2))) (l2 : K.lookup f2 = some ⟨oc2, od2, .func (PySem.W.fnOf "with_one" "with_one" (defArgs s_with_one) (defBody s_with_one) (defScope s_with_one) .none kV2 dc2 pm2 an2 cd2 ct2), sl2⟩) (c2 : PySem.W.codeIn K cd2 "with_one" = true) (k2 : PySem.W.keepIn K (.ref f2) = true)
    (a3 : PySem.W.nsIn K mainGlobals "without" = some (some (.ref f3))) (l3 : K.lookup f3 = some ⟨oc3, od3, .func (PySem.W.fnOf "without" "without" (defArgs s_without) (defBody s_without) (defScope s_without) .none kV3 dc3 pm3 an3 cd3 ct3), sl3⟩) (c3 : PySem.W.codeIn K cd3 "without" = true) (k3 : PySem.W.keepIn K (.ref f3) = true)
    (a4 : PySem.W.nsIn K mainGlobals "members" = some (some (.ref f4))) (l4 : K.lookup f4 = some ⟨oc4, od4, .func (PySem.W.fnOf "members" "members" (defArgs s_members) (defBody s_members) (defScope s_members) .none kV4 dc4 pm4 an4 cd4 ct4), sl4⟩) (c4 : PySem.W.codeIn K cd4 "members" = true) (k4 : PySem.W.keepIn K (.ref f4) = true)
    (a5 : PySem.W.nsIn K mainGlobals "size" = some (some (.ref f5))) (l5 : K.lookup f5 = some ⟨oc5, od5, .func (PySem.W.fnOf "size" "size" (defArgs s_size) (defBody s_size) (defScope s_size) .none kV5 dc5 pm5 an5 cd5 ct5), sl5⟩) (c5 : PySem.W.codeIn K cd5 "size" = true) (k5 : PySem.W.keepIn K (.ref f5) = true)
    (a6 : PySem.W.nsIn K mainGlobals "_law_bag" = some (some (.ref f6))) (l6 : K.lookup f6 = some ⟨oc6, od6, .func (PySem.W.fnOf "_law_bag" "_law_bag" (defArgs s__law_bag) (defBody s__law_bag) (defScope s__law_bag) .none kV6 dc6 pm6 an6 cd6 ct6), sl6⟩) (c6 : PySem.W.codeIn K cd6 "_law_bag" = true) (k6 : PySem.W.keepIn K (.ref f6) = true)
    (a7 : PySem.W.nsIn K mainGlobals "_law_take" = some (some (.ref f7))) (l7 : K.lookup f7 = some ⟨oc7, od7, .func (PySem.W.fnOf "_law_take" "_law_take" (defArgs s__law_take) (defBody s__law_take) (defScope s__law_take) .none kV7 dc7 pm7 an7 cd7 ct7), sl7⟩) (c7 : PySem.W.codeIn K cd7 "_law_take" = true) (k7 : PySem.W.keepIn K (.ref f7) = true)
    (a8 : PySem.W.nsIn K mainGlobals "_law_alike" = some (some (.ref f8))) (l8 : K.lookup f8 = some ⟨oc8, od8, .func (PySem.W.fnOf "_law_alike" "_law_alike" (defArgs s__law_alike) (defBody s__law_alike) (defScope s__law_alike) .none kV8 dc8 pm8 an8 cd8 ct8), sl8⟩) (c8 : PySem.W.codeIn K cd8 "_law_alike" = true) (k8 : PySem.W.keepIn K (.ref f8) = true)
    (a9 : PySem.W.nsIn K mainGlobals "_law_one" = some (some (.ref f9))) (l9 : K.lookup f9 = some ⟨oc9, od9, .func (PySem.W.fnOf "_law_one" "_law_one" (defArgs s__law_one) (defBody s__law_one) (defScope s__law_one) .none kV9 dc9 pm9 an9 cd9 ct9), sl9⟩) (c9 : PySem.W.codeIn K cd9 "_law_one" = true) (k9 : PySem.W.keepIn K (.ref f9) = true)
    (a10 : PySem.W.nsIn K mainGlobals "_law_bit" = some (some (.ref f10))) (l10 : K.lookup f10 = some ⟨oc10, od10, .func (PySem.W.fnOf "_law_bit" "_law_bit" (defArgs s__law_bit) (defBody s__law_bit) (defScope s__law_bit) .none kV10 dc10 pm10 an10 cd10 ct10), sl10⟩) (c10 : PySem.W.codeIn K cd10 "_law_bit" = true) (k10 : PySem.W.keepIn K (.ref f10) = true)
    (a11 : PySem.W.nsIn K mainGlobals "_law_in" = some (some (.ref f11))) (l11 : K.lookup f11 = some ⟨oc11, od11, .func (PySem.W.fnOf "_law_in" "_law_in" (defArgs s__law_in) (defBody s__law_in) (defScope s__law_in) .none kV11 dc11 pm11 an11 cd11 ct11), sl11⟩) (c11 : PySem.W.codeIn K cd11 "_law_in" = true) (k11 : PySem.W.keepIn K (.ref f11) = true)
    (a12 : PySem.W.nsIn K mainGlobals "law" = some (some (.ref f12))) (l12 : K.lookup f12 = some ⟨oc12, od12, .func (PySem.W.fnOf "law" "law" (defArgs s_law) (defBody s_law) (defScope s_law) .none kV12 dc12 pm12 an12 cd12 ct12), sl12⟩) (c12 : PySem.W.codeIn K cd12 "law" = true) (k12 : PySem.W.keepIn K (.ref f12) = true)
    (z_abs : PySem.W.nsIn K mainGlobals "abs" = some none)
    (z_int : PySem.W.nsIn K mainGlobals "int" = some none)
    (z_len : PySem.W.nsIn K mainGlobals "len" = some none)
    (z_list : PySem.W.nsIn K mainGlobals "list" = some none)
    (z_range : PySem.W.nsIn K mainGlobals "range" = some none)
    (z_repr : PySem.W.nsIn K mainGlobals "repr" = some none)
    (z_sum : PySem.W.nsIn K mainGlobals "sum" = some none)
    : ∃ fd : FuncData, (∀ (s : Shared) (v : Value), BindsTo s fd ⟨[v], []⟩ [("_law_script", v)]) ∧ ∀ base : Heap, K.In base → base.Ns mainGlobals mg → FnG l.prog w K mg base 3 fa fd ["_law_script"] (spD K [false] sp_law) := by
  have e := hfa.symm.trans (PySem.W.mg_of X G a12)
  cases e
  have F0 := fun_mk (st := s_all_of) l0 c0 k0
  have b0 := F0.binds (ps := ["hands"]) fun _ _ _ _ _ _ us hl => match us, hl with | [_], _ => rfl
  have F1 := fun_mk (st := s_holds) l1 c1 k1
  have b1 := F1.binds (ps := ["mask", "hand"]) fun _ _ _ _ _ _ us hl => match us, hl with | [_, _], _ => rfl
  have F2 := fun_mk (st := s_with_one) l2 c2 k2
  have b2 := F2.binds (ps := ["mask", "hand"]) fun _ _ _ _ _ _ us hl => match us, hl with | [_, _], _ => rfl
  have F3 := fun_mk (st := s_without) l3 c3 k3
  have b3 := F3.binds (ps := ["mask", "hand"]) fun _ _ _ _ _ _ us hl => match us, hl with | [_, _], _ => rfl
  have F4 := fun_mk (st := s_members) l4 c4 k4
  have b4 := F4.binds (ps := ["mask"]) fun _ _ _ _ _ _ us hl => match us, hl with | [_], _ => rfl
  have F5 := fun_mk (st := s_size) l5 c5 k5
  have b5 := F5.binds (ps := ["mask"]) fun _ _ _ _ _ _ us hl => match us, hl with | [_], _ => rfl
  have F6 := fun_mk (st := s__law_bag) l6 c6 k6
  have b6 := F6.binds (ps := ["_law_script"]) fun _ _ _ _ _ _ us hl => match us, hl with | [_], _ => rfl
  have F7 := fun_mk (st := s__law_take) l7 c7 k7
  have b7 := F7.binds (ps := ["_law_bag_here", "_law_many"]) fun _ _ _ _ _ _ us hl => match us, hl with | [_, _], _ => rfl
  have F8 := fun_mk (st := s__law_alike) l8 c8 k8
  have b8 := F8.binds (ps := ["_law_found", "_law_due"]) fun _ _ _ _ _ _ us hl => match us, hl with | [_, _], _ => rfl
  have F9 := fun_mk (st := s__law_one) l9 c9 k9
  have b9 := F9.binds (ps := ["_law_bag_here", "_law_some"]) fun _ _ _ _ _ _ us hl => match us, hl with | [_, _], _ => rfl
  have F10 := fun_mk (st := s__law_bit) l10 c10 k10
  have b10 := F10.binds (ps := ["_law_hand"]) fun _ _ _ _ _ _ us hl => match us, hl with | [_], _ => rfl
  have F11 := fun_mk (st := s__law_in) l11 c11 k11
  have b11 := F11.binds (ps := ["_law_mask", "_law_hand"]) fun _ _ _ _ _ _ us hl => match us, hl with | [_, _], _ => rfl
  have F12 := fun_mk (st := s_law) l12 c12 k12
  have b12 := F12.binds (ps := ["_law_script"]) fun _ _ _ _ _ _ us hl => match us, hl with | [_], _ => rfl
  have T : Txt K mg := { a_all_of := _, d_all_of := _, F_all_of := F0, b_all_of := b0, g_all_of := PySem.W.mg_of X G a0, a_holds := _, d_holds := _, F_holds := F1, b_holds := b1, g_holds := PySem.W.mg_of X G a1, a_with_one := _, d_with_one := _, F_with_one := F2, b_with_one := b2, g_with_one := PySem.W.mg_of X G a2, a_without := _, d_without := _, F_without := F3, b_without := b3, g_without := PySem.W.mg_of X G a3, a_members := _, d_members := _, F_members := F4, b_members := b4, g_members := PySem.W.mg_of X G a4, a_size := _, d_size := _, F_size := F5, b_size := b5, g_size := PySem.W.mg_of X G a5, a__law_bag := _, d__law_bag := _, F__law_bag := F6, b__law_bag := b6, g__law_bag := PySem.W.mg_of X G a6, a__law_take := _, d__law_take := _, F__law_take := F7, b__law_take := b7, g__law_take := PySem.W.mg_of X G a7, a__law_alike := _, d__law_alike := _, F__law_alike := F8, b__law_alike := b8, g__law_alike := PySem.W.mg_of X G a8, a__law_one := _, d__law_one := _, F__law_one := F9, b__law_one := b9, g__law_one := PySem.W.mg_of X G a9, a__law_bit := _, d__law_bit := _, F__law_bit := F10, b__law_bit := b10, g__law_bit := PySem.W.mg_of X G a10, a__law_in := _, d__law_in := _, F__law_in := F11, b__law_in := b11, g__law_in := PySem.W.mg_of X G a11, a_law := _, d_law := _, F_law := F12, b_law := b12, g_law := PySem.W.mg_of X G a12, n_abs := PySem.W.mg_none_of X G z_abs, n_int := PySem.W.mg_none_of X G z_int, n_len := PySem.W.mg_none_of X G z_len, n_list := PySem.W.mg_none_of X G z_list, n_range := PySem.W.mg_none_of X G z_range, n_repr := PySem.W.mg_none_of X G z_repr, n_sum := PySem.W.mg_none_of X G z_sum }
  exact ⟨_, fun s v => .of_eq rfl, fun base _ _ => ok_law (T := { a_all_of := _, d_all_of := _, F_all_of := F0, b_all_of := b0, g_all_of := PySem.W.mg_of X G a0, a_holds := _, d_holds := _, F_holds := F1, b_holds := b1, g_holds := PySem.W.mg_of X G a1, a_with_one := _, d_with_one := _, F_with_one := F2, b_with_one := b2, g_with_one := PySem.W.mg_of X G a2, a_without := _, d_without := _, F_without := F3, b_without := b3, g_without := PySem.W.mg_of X G a3, a_members := _, d_members := _, F_members := F4, b_members := b4, g_members := PySem.W.mg_of X G a4, a_size := _, d_size := _, F_size := F5, b_size := b5, g_size := PySem.W.mg_of X G a5, a__law_bag := _, d__law_bag := _, F__law_bag := F6, b__law_bag := b6, g__law_bag := PySem.W.mg_of X G a6, a__law_take := _, d__law_take := _, F__law_take := F7, b__law_take := b7, g__law_take := PySem.W.mg_of X G a7, a__law_alike := _, d__law_alike := _, F__law_alike := F8, b__law_alike := b8, g__law_alike := PySem.W.mg_of X G a8, a__law_one := _, d__law_one := _, F__law_one := F9, b__law_one := b9, g__law_one := PySem.W.mg_of X G a9, a__law_bit := _, d__law_bit := _, F__law_bit := F10, b__law_bit := b10, g__law_bit := PySem.W.mg_of X G a10, a__law_in := _, d__law_in := _, F__law_in := F11, b__law_in := b11, g__law_in := PySem.W.mg_of X G a11, a_law := _, d_law := _, F_law := F12, b_law := b12, g_law := PySem.W.mg_of X G a12, n_abs := PySem.W.mg_none_of X G z_abs, n_int := PySem.W.mg_none_of X G z_int, n_len := PySem.W.mg_none_of X G z_len, n_list := PySem.W.mg_none_of X G z_list, n_range := PySem.W.mg_none_of X G z_range, n_repr := PySem.W.mg_none_of X G z_repr, n_sum := PySem.W.mg_none_of X G z_sum })⟩
end L17
open PySem PySem.W PyProof.Rows
set_option maxHeartbeats 0 in
theorem PySem.Challenge.cw_wholepoll_k17_sets_holds : PySem.Challenge.rw_wholepoll_k17_sets.Holds := by
  w_on; o_law; k_head; (case hw => w_witness2)
  k_fill
  refine DL.walk_ofG (l := PySem.Challenge.rw_wholepoll_k17_sets) (n := 63) (k := 3) (x := "_law_script") (sp := L17.sp_law) rfl (by decide) rfl ⟨rfl, by decide, by decide⟩ (fun w h Y => PySem.W.kIn_of Y) L17.mono_law ?F (fun ns hl => L17.law_sp ns hl)
  case F =>
    intro w mg fa h KX G hmg
    refine' L17.all_mk KX G hmg ?a0 ?l0 ?c0 ?k0 ?a1 ?l1 ?c1 ?k1 ?a2 ?l2 ?c2 ?k2 ?a3 ?l3 ?c3 ?k3 ?a4 ?l4 ?c4 ?k4 ?a5 ?l5 ?c5 ?k5 ?a6 ?l6 ?c6 ?k6 ?a7 ?l7 ?c7 ?k7 ?a8 ?l8 ?c8 ?k8 ?a9 ?l9 ?c9 ?k9 ?a10 ?l10 ?c10 ?k10 ?a11 ?l11 ?c11 ?k11 ?a12 ?l12 ?c12 ?k12 ?z_abs ?z_int ?z_len ?z_list ?z_range ?z_repr ?z_sum
    (case a0 => k_is); (case l0 => k_is); (case c0 => k_is); (case k0 => k_is); (case a1 => k_is); (case l1 => k_is); (case c1 => k_is); (case k1 => k_is); (case a2 => k_is); (case l2 => k_is); (case c2 => k_is); (case k2 => k_is); (case a3 => k_is); (case l3 => k_is); (case c3 => k_is); (case k3 => k_is); (case a4 => k_is); (case l4 => k_is); (case c4 => k_is); (case k4 => k_is); (case a5 => k_is); (case l5 => k_is); (case c5 => k_is); (case k5 => k_is); (case a6 => k_is); (case l6 => k_is); (case c6 => k_is); (case k6 => k_is); (case a7 => k_is); (case l7 => k_is); (case c7 => k_is); (case k7 => k_is); (case a8 => k_is); (case l8 => k_is); (case c8 => k_is); (case k8 => k_is); (case a9 => k_is); (case l9 => k_is); (case c9 => k_is); (case k9 => k_is); (case a10 => k_is); (case l10 => k_is); (case c10 => k_is); (case k10 => k_is); (case a11 => k_is); (case l11 => k_is); (case c11 => k_is); (case k11 => k_is); (case a12 => k_is); (case l12 => k_is); (case c12 => k_is); (case k12 => k_is); (case z_abs => k_is); (case z_int => k_is); (case z_len => k_is); (case z_list => k_is); (case z_range => k_is); (case z_repr => k_is); (case z_sum => k_is)
