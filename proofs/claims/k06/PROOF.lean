import PyProof.Rows.All
import Wide.All
import OpenK.AllK
import Wide.FinOn
import HandS.ForMost
import HandS.ExcIs
import HandS.ExcValue
import HandS.ForExc
import HandS.Wide
import HandS.Style
import HandS.Conv
import HandS.SortInts
import HandS.IsInst
import PyProof.ReprRoads
import HandS.WideBits
import HandS.Ends
import PyProof.ReprLen
import PyProof.FitsBits
import HandS.TupAny
import HandS.TupLe
import HandS.TryOnly
import HandS.Zip
import HandS.Text
import PyProof.StrOps2
import PyProof.Draws
import KE.GoesMore
import KE.GoesEnum
import HandS.SetFor
import HandS.Strs
import KE.IntTextLaws
import HandS.Dict
import HandS.More
import KE.SortData
import HandS.DictTup
import KE.KDictCopyH
import KE.KDictPairs
import KE.KDictSum
import HandS.ListItems
import PyProof.SumWalkG
import HandS.Deep
import HandS.TupSets
import HandS.Iter
import PyProof.ListStr
import HandS.SetKeys
import HandS.SortKw
import KE.SortKeyHeap
import HandS.Keys
import HandS.Star
import HandS.ClsMeth
import HandS.Defaults
import KE.KeyNested
import KE.KDictKeyed
import PyProof.Rows.SeqRoads
import HandS.DictComp
import KE.KIntText
import HandS.IntHex
import HandS.DeepEq
import HandS.DictEq
import HandS.SlotsVar
import KE.KAssignIn
import HandS.Flow
import KE.KEqDict
import HandS.Set
import PyProof.MaxThree
import KE.BitLaws
import PySem.Challenge.RW_wholepoll_k06_whole_seals_and_recounts
set_option Elab.async false
set_option linter.all false
set_option maxRecDepth 100000
set_option maxHeartbeats 4000000
namespace DL
open PySem L2
inductive Sh where
  | lst | tup | dK (ks : List Key) | dT (ks : List (List Key)) | ins (C dx : Addr) (ns : List Str)
  | ext (φ : List V → Addr → Heap → Prop) | exc (n : Nat)
  | lk (od : Obj) (s : Sh)
def Sh.mk : Sh → Addr → List V → HO
  | .lst, _, vs => .lst vs
  | .tup, _, vs => .tup vs
  | .dK ks, _, vs => .dK (ks.zip vs)
  | .dT ks, _, vs => .dT (ks.zip vs)
  | .ins C dx ns, _, vs => .ins C dx (ns.zip vs)
  | .ext φ, a, vs => .ext (φ vs a)
  | .exc _, _, _ => .ext fun _ => False
  | .lk od s, a, vs => .frz od (s.mk a vs)
theorem Sh.mk_tup {s : Sh} {a : Addr} {vs ws : List V} (h : s.mk a vs = .tup ws) : s = .tup ∧ vs = ws := by
  cases s <;> first | (exact nomatch (show HO.lst _ = HO.tup _ from h)) | (exact nomatch (show HO.dK _ = HO.tup _ from h)) | (exact nomatch (show HO.dT _ = HO.tup _ from h)) | (exact nomatch (show HO.ins _ _ _ = HO.tup _ from h)) | (exact nomatch (show HO.ext _ = HO.tup _ from h)) | (exact nomatch (show HO.frz _ _ = HO.tup _ from h)) | (exact ⟨rfl, HO.tup.inj h⟩)
inductive T where
  | leaf (v : V)
  | node (o : Bool) (s : Sh) (k : List T)
  | pin (s : Sh) (vs : List V)
def Konst (K : PySem.W.Frag) (a : Addr) (vs : List V) : Sh → Prop
  | .lst => ∃ (o : Obj) (its : Array Value) (n : Nat), K.lookup a = some o ∧ o.cls = .type "list" ∧ o.dict = none ∧ o.data = .seq its n ∧ its.size ≤ sizeLine ∧ Vals vs its.toList
  | .tup => ∃ (o : Obj) (its : Array Value) (n : Nat), K.lookup a = some o ∧ o.cls = .type "tuple" ∧ o.data = .seq its n ∧ its.size ≤ sizeLine ∧ Vals vs its.toList
  | _ => False
def KzOk (vs : List V) : Prop := vs = [.int 0, .int 1] ∨ ∃ x r, vs = .str x :: r
structure ExcV (K : PySem.W.Frag) (D : Addr) : Prop where
  ex : ExcC K D
  kit : ∀ c : String, c ∈ ["int", "bool", "str", "list", "tuple", "dict"] → PySem.W.kitOne K (.ref D) (.type c) = some false
mutual
inductive OwnP (K : PySem.W.Frag) (F : Addr → Prop) (H : Hp) : V → T → List Addr → Prop
  | leaf (v : V) : OwnP K F H v (.leaf v) []
  | fz {a : Addr} {s : Sh} {vs : List V} {ts : List T} : F a → H a = some (s.mk a vs) → OwnL K F H vs ts [] → OwnP K F H (.ref a) (.node false s ts) []
  | pinF {a : Addr} {s : Sh} {vs : List V} : F a → Rd H a (s.mk a vs) → OwnP K F H (.ref a) (.pin s vs) []
  | pinK {a : Addr} {s : Sh} {vs : List V} : Konst K a vs s → OwnP K F H (.ref a) (.pin s vs) []
  | pinT {a : Addr} {vs : List V} : H a = some (.tup vs) → OwnP K F H (.ref a) (.pin .tup vs) []
  | tk {a : Addr} {vs : List V} {ts : List T} : H a = some (.tup vs) → OwnL K F H vs ts [] → OwnP K F H (.ref a) (.node false .tup ts) []
  | fx {a D : Addr} {n : Nat} : F a → H a = some (ExO (.ref D) a) → ExcV K D → OwnP K F H (.ref a) (.pin (.exc n) []) []
  | kz {a : Addr} {vs : List V} {ts : List T} : Konst K a vs .tup → KzOk vs → OwnL K F H vs ts [] → OwnP K F H (.ref a) (.node false .tup ts) []
  | own {a : Addr} {s : Sh} {vs : List V} {ts : List T} {fp : List Addr} : H a = some (s.mk a vs) → OwnL K F H vs ts fp → OwnP K F H (.ref a) (.node true s ts) (a :: fp)
inductive OwnL (K : PySem.W.Frag) (F : Addr → Prop) (H : Hp) : List V → List T → List Addr → Prop
  | nil : OwnL K F H [] [] []
  | cons {v : V} {t : T} {fp : List Addr} {vs : List V} {ts : List T} {fp' : List Addr} : OwnP K F H v t fp → OwnL K F H vs ts fp' → OwnL K F H (v :: vs) (t :: ts) (fp ++ fp')
end
mutual
def frz : T → T
  | .leaf v => .leaf v
  | .pin s vs => .pin s vs
  | .node _ s k => .node false s (frzL k)
def frzL : List T → List T
  | [] => []
  | t :: ts => frz t :: frzL ts
end
theorem frzL_map : ∀ ts : List T, frzL ts = ts.map frz
  | [] => by simp [frzL]
  | t :: ts => by simp [frzL, frzL_map ts]
mutual
theorem frz_frz : ∀ t : T, frz (frz t) = frz t
  | .leaf _ => by simp [frz]
  | .pin _ _ => by simp [frz]
  | .node _ s k => by simp [frz, frzL_frzL k]
theorem frzL_frzL : ∀ ts : List T, frzL (frzL ts) = frzL ts
  | [] => by simp [frzL]
  | t :: ts => by simp [frzL, frz_frz t, frzL_frzL ts]
end
section
variable {K : PySem.W.Frag} {F F' : Addr → Prop} {H H' : Hp}
theorem OwnL.length : ∀ {vs : List V} {ts : List T} {fp : List Addr}, OwnL K F H vs ts fp → vs.length = ts.length
  | _, _, _, .nil => rfl
  | _, _, _, .cons _ h => by simp [OwnL.length h]
mutual
theorem OwnP.mono (hF : ∀ a, F a → F' a) : ∀ (t : T) {v : V} {fp : List Addr}, OwnP K F H v t fp → (∀ a, (F a ∨ a ∈ fp) → ∀ o, H a = some o → H' a = some o) → (∀ a vs, H a = some (.tup vs) → H' a = some (.tup vs)) → OwnP K F' H' v t fp
  | .leaf _, _, _, h, _, _ => by
    cases h
    exact .leaf _
  | .pin _ _, _, _, h, hH, hT => by
    cases h with
    | pinF hf hr =>
      refine .pinF (hF _ hf) ?_
      rcases hr with hr | ⟨o, hr⟩
      · exact .inl (hH _ (.inl hf) _ hr)
      · exact .inr ⟨o, hH _ (.inl hf) _ hr⟩
    | pinK hc => exact .pinK hc
    | fx hf hr hv => exact .fx (hF _ hf) (hH _ (.inl hf) _ hr) hv
    | pinT hr => exact .pinT (hT _ _ hr)
  | .node o s ts, _, _, h, hH, hT => by
    cases h with
    | fz hf hr hk =>
      refine .fz (hF _ hf) (hH _ (.inl hf) _ hr) (OwnL.mono hF ts hk (fun a ha => hH a ?_) hT)
      rcases ha with ha | ha
      · exact .inl ha
      · cases ha
    | kz hc hz hk =>
      refine .kz hc hz (OwnL.mono hF ts hk (fun a ha => hH a ?_) hT)
      rcases ha with ha | ha
      · exact .inl ha
      · cases ha
    | tk hr hk =>
      refine .tk (hT _ _ hr) (OwnL.mono hF ts hk (fun a ha => hH a ?_) hT)
      rcases ha with ha | ha
      · exact .inl ha
      · cases ha
    | own ha hk =>
      refine .own (hH _ (.inr List.mem_cons_self) _ ha) (OwnL.mono hF ts hk (fun a ha => hH a ?_) hT)
      rcases ha with ha | ha
      · exact .inl ha
      · exact .inr (List.mem_cons_of_mem _ ha)
theorem OwnL.mono (hF : ∀ a, F a → F' a) : ∀ (ts : List T) {vs : List V} {fp : List Addr}, OwnL K F H vs ts fp → (∀ a, (F a ∨ a ∈ fp) → ∀ o, H a = some o → H' a = some o) → (∀ a vs, H a = some (.tup vs) → H' a = some (.tup vs)) → OwnL K F' H' vs ts fp
  | [], _, _, h, _, _ => by
    cases h
    exact .nil
  | t :: ts, _, _, h, hH, hT => by
    cases h with
    | cons h1 h2 =>
      exact .cons (OwnP.mono hF t h1 (fun a ha => hH a (ha.imp id (List.mem_append_left _))) hT) (OwnL.mono hF ts h2 (fun a ha => hH a (ha.imp id (List.mem_append_right _))) hT)
end
mutual
theorem OwnP.freeze (hF : ∀ a, F a → F' a) : ∀ (t : T) {v : V} {fp : List Addr}, OwnP K F H v t fp → (∀ a ∈ fp, F' a) → OwnP K F' H v (frz t) []
  | .leaf _, _, _, h, _ => by
    cases h
    exact .leaf _
  | .pin _ _, _, _, h, _ => by
    cases h with
    | pinF hf hr => exact .pinF (hF _ hf) hr
    | pinK hc => exact .pinK hc
    | fx hf hr hv => exact .fx (hF _ hf) hr hv
    | pinT hr => exact .pinT hr
  | .node o s ts, _, _, h, hp => by
    cases h with
    | fz hf hr hk => exact .fz (hF _ hf) hr (OwnL.freeze hF ts hk (fun _ z => nomatch z))
    | kz hc hz hk => exact .kz hc hz (OwnL.freeze hF ts hk (fun _ z => nomatch z))
    | tk hr hk => exact .tk hr (OwnL.freeze hF ts hk (fun _ z => nomatch z))
    | own ha hk => exact .fz (hp _ List.mem_cons_self) ha (OwnL.freeze hF ts hk fun a z => hp a (List.mem_cons_of_mem _ z))
theorem OwnL.freeze (hF : ∀ a, F a → F' a) : ∀ (ts : List T) {vs : List V} {fp : List Addr}, OwnL K F H vs ts fp → (∀ a ∈ fp, F' a) → OwnL K F' H vs (frzL ts) []
  | [], _, _, h, _ => by
    cases h
    exact .nil
  | t :: ts, _, _, h, hp => by
    cases h with
    | cons h1 h2 => exact .cons (fp := []) (OwnP.freeze hF t h1 fun a z => hp a (List.mem_append_left _ z)) (OwnL.freeze hF ts h2 fun a z => hp a (List.mem_append_right _ z))
end
mutual
theorem OwnP.nofp : ∀ (t : T) {v : V} {fp : List Addr}, OwnP K F H v t fp → frz t = t → fp = []
  | .leaf _, _, _, h, _ => by cases h; rfl
  | .pin _ _, _, _, h, _ => by cases h <;> rfl
  | .node o s ts, _, _, h, e => by
    cases h with
    | fz _ _ _ => rfl
    | kz _ _ _ => rfl
    | tk _ _ => rfl
    | own _ _ => simp [frz] at e
end
theorem OwnP.tracked : ∀ {t : T} {v : V} {fp : List Addr}, OwnP K F H v t fp → ∀ a ∈ fp, H a ≠ none := by
  intro t v fp h
  exact OwnP.rec (motive_1 := fun v t fp _ => ∀ a ∈ fp, H a ≠ none) (motive_2 := fun vs ts fp _ => ∀ a ∈ fp, H a ≠ none)
    (fun _ _ z => nomatch z) (fun _ _ _ _ _ z => nomatch z) (fun _ _ _ z => nomatch z) (fun _ _ z => nomatch z) (fun _ _ z => nomatch z) (fun _ _ _ _ z => nomatch z) (fun _ _ _ _ z => nomatch z) (fun _ _ _ _ _ z => nomatch z)
    (fun ha _ ih a z => by
      rcases List.mem_cons.mp z with e | z
      · rw [e, ha]; exact nofun
      · exact ih a z) (fun _ z => nomatch z)
    (fun _ _ ih1 ih2 a z => (List.mem_append.mp z).elim (ih1 a) (ih2 a)) h
theorem OwnL.tracked {ts : List T} {vs : List V} {fp : List Addr} (h : OwnL K F H vs ts fp) : ∀ a ∈ fp, H a ≠ none :=
  OwnL.rec (motive_1 := fun v t fp _ => ∀ a ∈ fp, H a ≠ none) (motive_2 := fun vs ts fp _ => ∀ a ∈ fp, H a ≠ none)
    (fun _ _ z => nomatch z) (fun _ _ _ _ _ z => nomatch z) (fun _ _ _ z => nomatch z) (fun _ _ z => nomatch z) (fun _ _ z => nomatch z) (fun _ _ _ _ z => nomatch z) (fun _ _ _ _ z => nomatch z) (fun _ _ _ _ _ z => nomatch z)
    (fun ha _ ih a z => by
      rcases List.mem_cons.mp z with e | z
      · rw [e, ha]; exact nofun
      · exact ih a z) (fun _ z => nomatch z)
    (fun _ _ ih1 ih2 a z => (List.mem_append.mp z).elim (ih1 a) (ih2 a)) h
abbrev Its := List (V × T)
def OwnZ (K : PySem.W.Frag) (F : Addr → Prop) (H : Hp) (zs : Its) (fp : List Addr) : Prop := OwnL K F H (zs.map (·.1)) (zs.map (·.2)) fp
theorem OwnZ.nil : OwnZ K F H [] [] := OwnL.nil
theorem ownL_leaves : ∀ vs : List V, OwnL K F H vs (vs.map .leaf) []
  | [] => .nil
  | v :: vs => .cons (fp := []) (.leaf v) (ownL_leaves vs)
theorem OwnZ.cons {v : V} {t : T} {zs : Its} {fp fp' : List Addr} (h1 : OwnP K F H v t fp) (h2 : OwnZ K F H zs fp') : OwnZ K F H ((v, t) :: zs) (fp ++ fp') := OwnL.cons h1 h2
theorem OwnZ.uncons {v : V} {t : T} {zs : Its} {fp : List Addr} (h : OwnZ K F H ((v, t) :: zs) fp) : ∃ f1 f2, fp = f1 ++ f2 ∧ OwnP K F H v t f1 ∧ OwnZ K F H zs f2 := by
  cases h with
  | cons h1 h2 => exact ⟨_, _, rfl, h1, h2⟩
theorem OwnZ.append : ∀ {zs ys : Its} {f1 f2 : List Addr}, OwnZ K F H zs f1 → OwnZ K F H ys f2 → OwnZ K F H (zs ++ ys) (f1 ++ f2)
  | [], _, _, _, h1, h2 => by
    cases h1
    exact h2
  | (v, t) :: zs, _, _, _, h1, h2 => by
    obtain ⟨a, b, rfl, p, q⟩ := h1.uncons
    rw [List.append_assoc]
    exact .cons p (OwnZ.append q h2)
theorem OwnZ.split : ∀ {zs ys : Its} {fp : List Addr}, OwnZ K F H (zs ++ ys) fp → ∃ f1 f2, fp = f1 ++ f2 ∧ OwnZ K F H zs f1 ∧ OwnZ K F H ys f2
  | [], _, _, h => ⟨[], _, rfl, .nil, h⟩
  | (v, t) :: zs, _, _, h => by
    obtain ⟨a, b, rfl, p, q⟩ := OwnZ.uncons (zs := zs ++ _) h
    obtain ⟨f1, f2, rfl, q1, q2⟩ := OwnZ.split q
    exact ⟨a ++ f1, f2, by rw [List.append_assoc], .cons p q1, q2⟩
theorem OwnZ.perm {zs ys : Its} (e : zs.Perm ys) : ∀ {fp : List Addr}, OwnZ K F H zs fp → ∃ fp', fp.Perm fp' ∧ OwnZ K F H ys fp' := by
  induction e with
  | nil => exact fun h => ⟨_, .refl _, h⟩
  | cons x _ ih =>
    intro fp h
    obtain ⟨a, b, rfl, p, q⟩ := h.uncons
    obtain ⟨b', e', q'⟩ := ih q
    exact ⟨a ++ b', List.Perm.append_left _ e', .cons p q'⟩
  | swap x y l =>
    intro fp h
    obtain ⟨a, b, rfl, p, q⟩ := h.uncons
    obtain ⟨c, d, rfl, p2, q2⟩ := OwnZ.uncons (v := x.1) (t := x.2) q
    refine ⟨c ++ (a ++ d), ?_, .cons p2 (.cons p q2)⟩
    rw [← List.append_assoc, ← List.append_assoc]
    exact List.Perm.append_right _ List.perm_append_comm
  | trans _ _ ih1 ih2 =>
    intro fp h
    obtain ⟨f1, e1, h1⟩ := ih1 h
    obtain ⟨f2, e2, h2⟩ := ih2 h1
    exact ⟨f2, e1.trans e2, h2⟩
theorem OwnZ.mono {zs : Its} {fp : List Addr} (hF : ∀ a, F a → F' a) (h : OwnZ K F H zs fp) (hH : ∀ a, (F a ∨ a ∈ fp) → ∀ o, H a = some o → H' a = some o) (hT : ∀ a vs, H a = some (.tup vs) → H' a = some (.tup vs)) : OwnZ K F' H' zs fp := OwnL.mono hF _ h hH hT
theorem OwnZ.tracked {zs : Its} {fp : List Addr} (h : OwnZ K F H zs fp) : ∀ a ∈ fp, H a ≠ none := OwnL.tracked h
theorem OwnL.zip {vs : List V} {ts : List T} {fp : List Addr} (h : OwnL K F H vs ts fp) : OwnZ K F H (vs.zip ts) fp := by
  have e := h.length
  unfold OwnZ
  rw [List.map_fst_zip (by omega), List.map_snd_zip (by omega)]
  exact h
theorem OwnL.unzip {vs : List V} {ts : List T} {fp : List Addr} (e : vs.length = ts.length) (h : OwnZ K F H (vs.zip ts) fp) : OwnL K F H vs ts fp := by
  unfold OwnZ at h
  rw [List.map_fst_zip (by omega), List.map_snd_zip (by omega)] at h
  exact h
end
abbrev Ev := List (Option T)
inductive EnvIs : St → Ev → Its → Prop
  | nil : EnvIs [] [] []
  | skip {x : Option V} {σ : St} {g : Ev} {zs : Its} : EnvIs σ g zs → EnvIs (x :: σ) (none :: g) zs
  | have {v : V} {t : T} {σ : St} {g : Ev} {zs : Its} : EnvIs σ g zs → EnvIs (some v :: σ) (some t :: g) ((v, t) :: zs)
theorem EnvIs.length : ∀ {σ : St} {g : Ev} {zs : Its}, EnvIs σ g zs → σ.length = g.length
  | _, _, _, .nil => rfl
  | _, _, _, .skip h => by simp [EnvIs.length h]
  | _, _, _, .have h => by simp [EnvIs.length h]
theorem EnvIs.take : ∀ {σ : St} {g : Ev} {zs : Its} {i : Nat} {t : T}, EnvIs σ g zs → g[i]? = some (some t) → ∃ v ys, σ[i]? = some (some v) ∧ zs.Perm ((v, t) :: ys) ∧ EnvIs σ (g.set i none) ys
  | _, _, _, i, _, .nil, e => by simp at e
  | _, _, _, 0, _, .skip h, e => by simp at e
  | _, _, _, 0, _, .have h, e => by
    simp at e
    subst e
    exact ⟨_, _, rfl, .refl _, .skip h⟩
  | _, _, _, i + 1, _, .skip h, e => by
    obtain ⟨v, ys, e1, p, q⟩ := EnvIs.take (i := i) h (by simpa using e)
    exact ⟨v, ys, by simpa using e1, p, .skip q⟩
  | _, _, _, i + 1, _, .have (v := w) (t := t0) h, e => by
    obtain ⟨v, ys, e1, p, q⟩ := EnvIs.take (i := i) h (by simpa using e)
    exact ⟨v, (w, t0) :: ys, by simpa using e1, (List.Perm.cons _ p).trans (List.Perm.swap _ _ _), .have q⟩
theorem EnvIs.drop : ∀ {σ : St} {g : Ev} {zs : Its} {i : Nat} (x : Option V), EnvIs σ g zs → ∃ ds ys, zs.Perm (ds ++ ys) ∧ EnvIs (σ.set i x) (g.set i none) ys
  | _, _, _, i, x, .nil => ⟨[], [], .refl _, by simpa using EnvIs.nil⟩
  | _, _, _, 0, x, .skip h => ⟨[], _, .refl _, .skip h⟩
  | _, _, _, 0, x, .have (v := w) (t := t0) h => ⟨[(w, t0)], _, .refl _, .skip h⟩
  | _, _, _, i + 1, x, .skip h => by
    obtain ⟨ds, ys, p, q⟩ := EnvIs.drop (i := i) x h
    exact ⟨ds, ys, p, .skip q⟩
  | _, _, _, i + 1, x, .have (v := w) (t := t0) h => by
    obtain ⟨ds, ys, p, q⟩ := EnvIs.drop (i := i) x h
    exact ⟨ds, (w, t0) :: ys, (List.Perm.cons _ p).trans List.perm_middle.symm, .have q⟩
theorem EnvIs.fill : ∀ {σ : St} {g : Ev} {zs : Its} {i : Nat} {v : V} (t : T), EnvIs σ g zs → g[i]? = some none → σ[i]? = some (some v) → ∃ ys, ys.Perm ((v, t) :: zs) ∧ EnvIs σ (g.set i (some t)) ys
  | _, _, _, i, _, t, .nil, e, _ => by simp at e
  | _, _, _, 0, _, t, .skip h, _, e => by
    simp at e
    subst e
    exact ⟨_, .refl _, .have h⟩
  | _, _, _, 0, _, t, .have h, e, _ => by simp at e
  | _, _, _, i + 1, _, t, .skip h, e, e' => by
    obtain ⟨ys, p, q⟩ := EnvIs.fill (i := i) t h (by simpa using e) (by simpa using e')
    exact ⟨ys, p, .skip q⟩
  | _, _, _, i + 1, _, t, .have h, e, e' => by
    obtain ⟨ys, p, q⟩ := EnvIs.fill (i := i) t h (by simpa using e) (by simpa using e')
    exact ⟨_, (List.Perm.cons _ p).trans (List.Perm.swap _ _ _), .have q⟩
structure Bs where
  H0 : Hp
  F0 : Addr → Prop
  fp0 : List Addr
structure Fine (B : Bs) (F : Addr → Prop) (H : Hp) (fp : List Addr) : Prop where
  nd : fp.Nodup
  off : ∀ a ∈ fp, ¬ F a
  trk : ∀ a, F a → H a ≠ none
  inc : ∀ a, B.F0 a → F a
  keep : ∀ a o, B.H0 a = some o → a ∉ B.fp0 → H a = some o
  newF : ∀ a, F a → B.F0 a ∨ a ∈ B.fp0 ∨ B.H0 a = none
  newO : ∀ a ∈ fp, a ∈ B.fp0 ∨ B.H0 a = none
  keepT : ∀ a vs, B.H0 a = some (.tup vs) → H a = some (.tup vs)
def RepG (K : PySem.W.Frag) (B : Bs) (lim : List Addr) (σ : St) (H : Hp) (g : Ev) (Φ : Its) : Prop :=
  ∃ (F : Addr → Prop) (zs : Its) (fp : List Addr), EnvIs σ g zs ∧ OwnZ K F H (zs ++ Φ) fp ∧ Fine B F H (lim ++ fp) ∧ ∀ a ∈ lim, H a ≠ none
section
variable {K : PySem.W.Frag} {B : Bs} {lim : List Addr} {σ : St} {H H' : Hp} {g : Ev} {Φ Ψ : Its}
theorem Fine.perm {F : Addr → Prop} {fp fp' : List Addr} (h : Fine B F H fp) (e : fp.Perm fp') : Fine B F H fp' :=
  ⟨e.nodup_iff.mp h.nd, fun a z => h.off a (e.mem_iff.mpr z), h.trk, h.inc, h.keep, h.newF, fun a z => h.newO a (e.mem_iff.mpr z), h.keepT⟩
theorem Fine.sub {F : Addr → Prop} {fp fp' : List Addr} (h : Fine B F H fp) (e : fp'.Sublist fp) : Fine B F H fp' :=
  ⟨h.nd.sublist e, fun a z => h.off a (e.subset z), h.trk, h.inc, h.keep, h.newF, fun a z => h.newO a (e.subset z), h.keepT⟩
theorem rep_items {F : Addr → Prop} {zs ys ds : Its} {g' : Ev} {σ' : St} {fp : List Addr} (e2 : EnvIs σ' g' ys) (h : OwnZ K F H zs fp) (f : Fine B F H (lim ++ fp)) (hl : ∀ a ∈ lim, H a ≠ none) (p : zs.Perm (ds ++ (ys ++ Ψ))) : RepG K B lim σ' H g' Ψ := by
  obtain ⟨fp', pf, h'⟩ := h.perm p
  obtain ⟨f1, f2, rfl, _, h2⟩ := h'.split
  refine ⟨F, ys, f2, e2, h2, (f.perm (List.Perm.append_left _ pf)).sub ?_, hl⟩
  exact List.Sublist.append (List.Sublist.refl _) (List.sublist_append_right _ _)
theorem RepG.perm (h : RepG K B lim σ H g Φ) (p : Φ.Perm Ψ) : RepG K B lim σ H g Ψ := by
  obtain ⟨F, zs, fp, e, o, f, hl⟩ := h
  exact rep_items (ds := []) e o f hl (List.Perm.append_left _ p)
theorem RepG.dropT {x : V × T} (h : RepG K B lim σ H g (x :: Φ)) : RepG K B lim σ H g Φ := by
  obtain ⟨F, zs, fp, e, o, f, hl⟩ := h
  exact rep_items (ds := [x]) e o f hl (List.perm_middle)
theorem RepG.dropTs {xs : Its} (h : RepG K B lim σ H g (xs ++ Φ)) : RepG K B lim σ H g Φ := by
  induction xs with
  | nil => exact h
  | cons x xs ih => exact ih (RepG.dropT h)
theorem RepG.len (h : RepG K B lim σ H g Φ) : σ.length = g.length := by
  obtain ⟨F, zs, fp, e, _⟩ := h
  exact e.length
theorem RepG.move {i : Nat} {t : T} (h : RepG K B lim σ H g Φ) (e : g[i]? = some (some t)) : ∃ v, σ[i]? = some (some v) ∧ RepG K B lim σ H (g.set i none) ((v, t) :: Φ) := by
  obtain ⟨F, zs, fp, en, o, f, hl⟩ := h
  obtain ⟨v, ys, ev, p, en'⟩ := en.take e
  exact ⟨v, ev, rep_items (ds := []) en' o f hl ((List.Perm.append_right _ p).trans List.perm_middle.symm)⟩
theorem RepG.clear (h : RepG K B lim σ H g Φ) (i : Nat) (x : Option V) : RepG K B lim (σ.set i x) H (g.set i none) Φ := by
  obtain ⟨F, zs, fp, en, o, f, hl⟩ := h
  obtain ⟨ds, ys, p, en'⟩ := en.drop (i := i) x
  exact rep_items (ds := ds) en' o f hl (by rw [← List.append_assoc]; exact List.Perm.append_right _ p)
theorem set_at {α : Type} {l : List α} {i : Nat} {x : α} (h : l[i]? = some x) : l.set i x = l := by
  apply List.ext_getElem?
  intro j
  by_cases e : i = j
  · subst e
    have hi : i < l.length := by
      rw [List.getElem?_eq_some_iff] at h
      exact h.1
    rw [List.getElem?_set_self hi, h]
  · rw [List.getElem?_set_ne e]
theorem RepG.put {i : Nat} {v : V} {t : T} (h : RepG K B lim σ H g ((v, t) :: Φ)) (hi : i < σ.length) : RepG K B lim (σ.set i (some v)) H (g.set i (some t)) Φ := by
  have h1 := h.clear i (some v)
  obtain ⟨F, zs, fp, en, o, f, hl⟩ := h1
  have hl' := en.length
  simp only [List.length_set] at hl'
  obtain ⟨ys, p, en'⟩ := en.fill (i := i) (v := v) t (by rw [List.getElem?_set_self (by omega)]) (by rw [List.getElem?_set_self hi])
  rw [List.set_set] at en'
  exact rep_items (ds := []) en' o f hl ((List.perm_middle).trans (List.Perm.append_right _ p.symm))
theorem RepG.back {i : Nat} {v : V} {t : T} (h : RepG K B lim σ H g ((v, t) :: Φ)) (hi : σ[i]? = some (some v)) : RepG K B lim σ H (g.set i (some t)) Φ := by
  have hlt : i < σ.length := by
    rw [List.getElem?_eq_some_iff] at hi
    exact hi.1
  have q := h.put hlt
  rwa [set_at hi] at q
theorem RepG.freezeT {v : V} {t : T} (h : RepG K B lim σ H g ((v, t) :: Φ)) : RepG K B lim σ H g ((v, frz t) :: Φ) := by
  obtain ⟨F, zs, fp, en, o, f, hl⟩ := h
  obtain ⟨fp', pf, o'⟩ := o.perm (List.perm_middle (a := (v, t)))
  obtain ⟨f1, f2, rfl, p1, o2⟩ := OwnZ.uncons (zs := zs ++ Φ) o'
  have f' := f.perm (List.Perm.append_left lim pf)
  have nd := f'.nd
  have hz : OwnZ K (fun a => F a ∨ a ∈ f1) H ((v, frz t) :: (zs ++ Φ)) ([] ++ f2) :=
    .cons (OwnP.freeze (fun a z => .inl z) _ p1 fun a z => .inr z) (o2.mono (fun a z => .inl z) (fun _ _ _ e => e) fun _ _ e => e)
  have fin : Fine B (fun a => F a ∨ a ∈ f1) H (lim ++ ([] ++ f2)) := by
    rw [List.nil_append]
    have sub : (lim ++ f2).Sublist (lim ++ (f1 ++ f2)) := List.Sublist.append (List.Sublist.refl _) (List.sublist_append_right _ _)
    refine ⟨nd.sublist sub, fun a z => ?_, fun a z => ?_, fun a z => .inl (f.inc a z), f.keep, fun a z => ?_, fun a z => f'.newO a (sub.subset z), f.keepT⟩
    · rintro (k | k)
      · exact f'.off a (sub.subset z) k
      · rcases List.mem_append.mp z with z | z
        · exact (List.nodup_append.mp nd).2.2 a z a (List.mem_append_left _ k) rfl
        · exact (List.nodup_append.mp (List.nodup_append.mp nd).2.1).2.2 a k a z rfl
    · rcases z with z | z
      · exact f.trk a z
      · exact p1.tracked a z
    · rcases z with z | z
      · exact f.newF a z
      · rcases f'.newO a (List.mem_append_right _ (List.mem_append_left _ z)) with q | q
        · exact .inr (.inl q)
        · exact .inr (.inr q)
  exact rep_items (ds := []) en hz fin hl (List.perm_middle.symm)
theorem RepG.look {i : Nat} {t : T} (h : RepG K B lim σ H g Φ) (e : g[i]? = some (some t)) (hf : frz t = t) : ∃ v, σ[i]? = some (some v) ∧ RepG K B lim σ H g ((v, t) :: Φ) := by
  obtain ⟨F, zs, fp, en, o, f, hl⟩ := h
  obtain ⟨v, ys, ev, p, en'⟩ := id en.take e
  refine ⟨v, ev, ?_⟩
  obtain ⟨fp', pf, o'⟩ := o.perm (List.Perm.append_right Φ p)
  obtain ⟨f1, f2, rfl, p1, o2⟩ := OwnZ.uncons (zs := ys ++ Φ) o'
  obtain rfl := p1.nofp _ hf
  have f' := f.perm (List.Perm.append_left lim pf)
  have hz : OwnZ K F H ((v, t) :: (v, t) :: (ys ++ Φ)) ([] ++ ([] ++ f2)) := .cons p1 (.cons p1 o2)
  refine rep_items (ds := []) en hz f' hl ?_
  exact ((List.Perm.cons _ (List.Perm.append_right Φ p.symm))).trans List.perm_middle.symm
theorem RepG.freeze {i : Nat} {t : T} (h : RepG K B lim σ H g Φ) (e : g[i]? = some (some t)) : RepG K B lim σ H (g.set i (some (frz t))) Φ := by
  obtain ⟨v, ev, h1⟩ := h.move e
  have h2 := h1.freezeT.back ev
  rwa [List.set_set] at h2
end
end DL
set_option Elab.async false
set_option linter.all false
set_option maxRecDepth 100000
set_option maxHeartbeats 4000000
namespace DL
open PySem L2
section
variable {K : PySem.W.Frag} {B : Bs} {lim : List Addr} {σ : St} {H H' : Hp} {g : Ev} {Φ Ψ : Its}
theorem RepG.lim0 (h : RepG K B lim σ H g Φ) : RepG K B [] σ H g Φ := by
  obtain ⟨F, zs, fp, en, o, f, hl⟩ := h
  exact ⟨F, zs, fp, en, o, f.sub (List.sublist_append_right _ _), fun _ z => nomatch z⟩
theorem RepG.only (h : RepG K B lim σ H g Φ) : RepG K B [] σ H g [] := (RepG.dropTs (xs := Φ) (Φ := []) (by rw [List.append_nil]; exact h)).lim0
theorem RepG.open_ {v : V} {s : Sh} {ts : List T} (h : RepG K B lim σ H g ((v, .node true s ts) :: Φ)) :
    ∃ a vs, v = .ref a ∧ vs.length = ts.length ∧ H a = some (s.mk a vs) ∧ RepG K B (a :: lim) σ H g (vs.zip ts ++ Φ) := by
  obtain ⟨F, zs, fp, en, o, f, hl⟩ := h
  obtain ⟨fp', pf, o'⟩ := o.perm (List.perm_middle (a := (v, T.node true s ts)))
  obtain ⟨f1, f2, rfl, p1, o2⟩ := OwnZ.uncons (zs := zs ++ Φ) o'
  have f' := f.perm (List.Perm.append_left lim pf)
  cases p1 with
  | @own a _ vs _ fk ha hk =>
    refine ⟨a, vs, rfl, hk.length, ha, ?_⟩
    have oz : OwnZ K F H (vs.zip ts ++ (zs ++ Φ)) (fk ++ f2) := hk.zip.append o2
    have ff : Fine B F H ((a :: lim) ++ (fk ++ f2)) := f'.perm (by
      rw [List.cons_append, List.cons_append]
      exact List.perm_middle)
    refine rep_items (ds := []) en oz ff (fun b z => ?_) ?_
    · rcases List.mem_cons.mp z with e | z
      · rw [e, ha]; exact nofun
      · exact hl b z
    · rw [List.nil_append, ← List.append_assoc, ← List.append_assoc]
      exact List.Perm.append_right _ List.perm_append_comm
theorem RepG.close {a : Addr} {s : Sh} {zs : Its} (h : RepG K B (a :: lim) σ H g (zs ++ Φ)) (ht : ∀ vs, H a = some (.tup vs) → s.mk a (zs.map (·.1)) = .tup vs) :
    RepG K B lim σ (upd H a (s.mk a (zs.map (·.1)))) g ((.ref a, .node true s (zs.map (·.2))) :: Φ) := by
  obtain ⟨F, ys, fp, en, o, f, hl⟩ := h
  have p : (ys ++ (zs ++ Φ)).Perm (zs ++ (ys ++ Φ)) := by
    rw [← List.append_assoc, ← List.append_assoc]
    exact List.Perm.append_right _ List.perm_append_comm
  obtain ⟨fp', pf, o'⟩ := o.perm p
  obtain ⟨f1, f2, rfl, o1, o2⟩ := o'.split
  have f' := f.perm (List.Perm.append_left (a :: lim) pf)
  have nd := f'.nd
  rw [List.cons_append, List.nodup_cons] at nd
  have na : a ∉ lim ∧ a ∉ f1 ∧ a ∉ f2 := by
    have := nd.1
    simp only [List.mem_append, not_or] at this
    exact this
  have nF : ¬ F a := f'.off a (by simp)
  have st : ∀ b o, b ≠ a → H b = some o → (upd H a (s.mk a (zs.map (·.1)))) b = some o := fun b o hb e => by rw [upd_ne hb]; exact e
  have stT : ∀ b vs, H b = some (.tup vs) → (upd H a (s.mk a (zs.map (·.1)))) b = some (.tup vs) := fun b vs e => by
    by_cases q : b = a
    · subst q
      rw [upd_same, ht vs e]
    · exact st b _ q e
  have k1 : OwnZ K F (upd H a (s.mk a (zs.map (·.1)))) zs f1 := o1.mono (fun _ z => z) (fun b hb o e => st b o (fun z => by subst z; rcases hb with q | q; exact nF q; exact na.2.1 q) e) stT
  have k2 : OwnZ K F (upd H a (s.mk a (zs.map (·.1)))) (ys ++ Φ) f2 := o2.mono (fun _ z => z) (fun b hb o e => st b o (fun z => by subst z; rcases hb with q | q; exact nF q; exact na.2.2 q) e) stT
  have oz : OwnZ K F (upd H a (s.mk a (zs.map (·.1)))) ((V.ref a, T.node true s (zs.map (·.2))) :: (ys ++ Φ)) ((a :: f1) ++ f2) := .cons (.own upd_same k1) k2
  have ff : Fine B F (upd H a (s.mk a (zs.map (·.1)))) (lim ++ ((a :: f1) ++ f2)) := by
    have f2' := f'.perm (show ((a :: lim) ++ (f1 ++ f2)).Perm (lim ++ ((a :: f1) ++ f2)) by
      rw [List.cons_append, List.cons_append]
      exact List.perm_middle.symm)
    refine ⟨f2'.nd, f2'.off, fun b z e => ?_, f2'.inc, fun b o e nb => ?_, f2'.newF, f2'.newO, fun b vs e => stT b vs (f2'.keepT b vs e)⟩
    · have hb : b ≠ a := fun q => by subst q; exact nF z
      rw [upd_ne hb] at e
      exact f2'.trk b z e
    · have hb : b ≠ a := fun q => by
        subst q
        rcases f2'.newO b (by simp) with q | q
        · exact nb q
        · rw [q] at e; cases e
      exact st b o hb (f2'.keep b o e nb)
  refine rep_items (ds := []) en oz ff (fun b z e => ?_) (List.perm_middle.symm)
  have hb : b ≠ a := fun q => by subst q; exact na.1 z
  rw [upd_ne hb] at e
  exact hl b (List.mem_cons_of_mem _ z) e
theorem RepG.alloc {p : Addr} {o : HO} (h : RepG K B lim σ H g Φ) (hp : H p = none) : RepG K B (p :: lim) σ (upd H p o) g Φ := by
  obtain ⟨F, zs, fp, en, oz, f, hl⟩ := h
  have st : ∀ b u, H b = some u → (upd H p o) b = some u := fun b u e => by rw [upd_ne (ne_of_none e hp)]; exact e
  have stn : ∀ b, H b ≠ none → (upd H p o) b ≠ none := fun b e => by
    cases q : H b with
    | none => exact absurd q e
    | some u => rw [st b u q]; exact nofun
  refine ⟨F, zs, fp, en, oz.mono (fun _ z => z) (fun b _ u e => st b u e) (fun b vs e => st b _ e), ⟨?_, fun a z => ?_, fun a z => stn a (f.trk a z), f.inc, fun a u e na => st a u (f.keep a u e na), f.newF, fun a z => ?_, fun a vs e => st a _ (f.keepT a vs e)⟩, fun b z => ?_⟩
  · rw [List.cons_append, List.nodup_cons]
    refine ⟨fun z => ?_, f.nd⟩
    rcases List.mem_append.mp z with z | z
    · exact hl p z hp
    · exact oz.tracked p z hp
  · rw [List.cons_append, List.mem_cons] at z
    rcases z with rfl | z
    · exact fun q => f.trk a q hp
    · exact f.off a z
  · rw [List.cons_append, List.mem_cons] at z
    rcases z with rfl | z
    · by_cases hb : a ∈ B.fp0
      · exact .inl hb
      · refine .inr ?_
        cases q : B.H0 a with
        | none => rfl
        | some u =>
          have := f.keep a u q hb
          rw [hp] at this; cases this
    · exact f.newO a z
  · rcases List.mem_cons.mp z with rfl | z
    · rw [upd_same]; exact nofun
    · exact stn b (hl b z)
theorem RepG.make {p : Addr} {s : Sh} {zs : Its} (h : RepG K B lim σ H g (zs ++ Φ)) (hp : H p = none) :
    RepG K B lim σ (upd H p (s.mk p (zs.map (·.1)))) g ((.ref p, .node true s (zs.map (·.2))) :: Φ) := by
  have q := (h.alloc (o := s.mk p (zs.map (·.1))) hp).close (s := s) (fun vs e => by rw [upd_same] at e; exact Option.some.inj e)
  rwa [upd_upd] at q
theorem RepG.node {v : V} {o : Bool} {s : Sh} {ts : List T} (h : RepG K B lim σ H g ((v, .node o s ts) :: Φ)) :
    ∃ a vs, v = .ref a ∧ vs.length = ts.length ∧ (Rd H a (s.mk a vs) ∨ Konst K a vs s) := by
  obtain ⟨F, zs, fp, en, oz, f, hl⟩ := h
  obtain ⟨fp', pf, o'⟩ := oz.perm (List.perm_middle (a := (v, T.node o s ts)))
  obtain ⟨f1, f2, rfl, p1, o2⟩ := OwnZ.uncons (zs := zs ++ Φ) o'
  cases p1 with
  | fz hf hr hk => exact ⟨_, _, rfl, hk.length, .inl (.inl hr)⟩
  | kz hc _ hk => exact ⟨_, _, rfl, hk.length, .inr hc⟩
  | tk hr hk => exact ⟨_, _, rfl, hk.length, .inl (.inl hr)⟩
  | own ha hk => exact ⟨_, _, rfl, hk.length, .inl (.inl ha)⟩
theorem RepG.nodeH {v : V} {o : Bool} {s : Sh} {ts : List T} (h : RepG K B lim σ H g ((v, .node o s ts) :: Φ)) (hs : s ≠ .tup) :
    ∃ a vs, v = .ref a ∧ vs.length = ts.length ∧ H a = some (s.mk a vs) := by
  obtain ⟨F, zs, fp, en, oz, f, hl⟩ := h
  obtain ⟨fp', pf, o'⟩ := oz.perm (List.perm_middle (a := (v, T.node o s ts)))
  obtain ⟨f1, f2, rfl, p1, o2⟩ := OwnZ.uncons (zs := zs ++ Φ) o'
  cases p1 with
  | fz hf hr hk => exact ⟨_, _, rfl, hk.length, hr⟩
  | kz hc _ hk => exact absurd rfl hs
  | tk _ _ => exact absurd rfl hs
  | own ha hk => exact ⟨_, _, rfl, hk.length, ha⟩
theorem RepG.kids {v : V} {s : Sh} {ts : List T} (h : RepG K B lim σ H g ((v, .node false s ts) :: Φ)) :
    ∃ a vs, v = .ref a ∧ vs.length = ts.length ∧ (Rd H a (s.mk a vs) ∨ Konst K a vs s) ∧ RepG K B lim σ H g (vs.zip ts ++ (v, .node false s ts) :: Φ) := by
  obtain ⟨F, zs, fp, en, oz, f, hl⟩ := h
  obtain ⟨fp', pf, o'⟩ := oz.perm (List.perm_middle (a := (v, T.node false s ts)))
  obtain ⟨f1, f2, rfl, p1, o2⟩ := OwnZ.uncons (zs := zs ++ Φ) o'
  have f' := f.perm (List.Perm.append_left lim pf)
  have p1' := p1
  have fin : ∀ vs : List V, OwnL K F H vs ts [] → f1 = [] → RepG K B lim σ H g (vs.zip ts ++ (v, .node false s ts) :: Φ) := fun vs hk e => by
    subst e
    have oz2 : OwnZ K F H (vs.zip ts ++ ((v, T.node false s ts) :: (zs ++ Φ))) ([] ++ ([] ++ f2)) := hk.zip.append (.cons p1' o2)
    refine rep_items (ds := []) en oz2 f' hl ?_
    rw [List.nil_append]
    have e1 : (vs.zip ts ++ (v, T.node false s ts) :: (zs ++ Φ)).Perm ((zs ++ ((v, T.node false s ts) :: Φ)) ++ vs.zip ts) :=
      List.perm_append_comm.trans (List.Perm.append_right _ List.perm_middle.symm)
    refine e1.trans ?_
    rw [List.append_assoc]
    exact List.Perm.append_left _ List.perm_append_comm
  cases p1 with
  | fz hf hr hk => exact ⟨_, _, rfl, hk.length, .inl (.inl hr), fin _ hk rfl⟩
  | kz hc _ hk => exact ⟨_, _, rfl, hk.length, .inr hc, fin _ hk rfl⟩
  | tk hr hk => exact ⟨_, _, rfl, hk.length, .inl (.inl hr), fin _ hk rfl⟩
theorem RepG.leaf {v : V} {w : V} (h : RepG K B lim σ H g ((v, .leaf w) :: Φ)) : v = w := by
  obtain ⟨F, zs, fp, en, oz, f, hl⟩ := h
  obtain ⟨fp', pf, o'⟩ := oz.perm (List.perm_middle (a := (v, T.leaf w)))
  obtain ⟨f1, f2, rfl, p1, o2⟩ := OwnZ.uncons (zs := zs ++ Φ) o'
  cases p1
  rfl
theorem RepG.addLeaf {v : V} (h : RepG K B lim σ H g Φ) : RepG K B lim σ H g ((v, .leaf v) :: Φ) := by
  obtain ⟨F, zs, fp, en, oz, f, hl⟩ := h
  exact rep_items (ds := []) en (OwnZ.cons (fp := []) (.leaf v) oz) f hl List.perm_middle.symm
theorem RepG.grow (h : RepG K B lim σ H g Φ) (e : ∀ a o, H a = some o → H' a = some o) : RepG K B lim σ H' g Φ := by
  obtain ⟨F, zs, fp, en, oz, f, hl⟩ := h
  have stn : ∀ b, H b ≠ none → H' b ≠ none := fun b q => by
    cases z : H b with
    | none => exact absurd z q
    | some u => rw [e b u z]; exact nofun
  exact ⟨F, zs, fp, en, oz.mono (fun _ z => z) (fun b _ u q => e b u q) (fun b vs q => e b _ q), ⟨f.nd, f.off, fun a z => stn a (f.trk a z), f.inc, fun a u q na => e a u (f.keep a u q na), f.newF, f.newO, fun a vs q => e a _ (f.keepT a vs q)⟩, fun b z => stn b (hl b z)⟩
theorem seqL {a : Addr} {vs : List V} (h : Rd H a (Sh.lst.mk a vs) ∨ Konst K a vs .lst) : SqL K H a vs := h
theorem seqT {a : Addr} {vs : List V} (h : Rd H a (Sh.tup.mk a vs) ∨ Konst K a vs .tup) : SqT K H a vs := h
end
abbrev XP := Value → List (Str × V) → Ev → Prop
abbrev DTE := Ev → (T → Ev → Prop) → XP → Prop
abbrev DTT := Ev → (Bool → Ev → Prop) → XP → Prop
abbrev DTA := Ev → (List T → Ev → Prop) → XP → Prop
structure DEnds where
  nx : Ev → Prop
  rt : T → Ev → Prop
  ex : XP
  bk : Ev → Prop := fun _ => False
  ct : Ev → Prop := fun _ => False
abbrev DTS := DEnds → Ev → Prop
def XD (d : Option Addr) (fs : List (Str × V)) (H : Hp) : Prop := match fs with
  | [] => d = none
  | f :: r => ∃ a, d = some a ∧ H a = some (.xd (f :: r))
def ckN : Nat → Str
  | 0 => "PollError" | 1 => "NoNumber" | 2 => "NoBallot" | 3 => "NoSheet" | 4 => "NoChange" | 5 => "Torn" | 6 => "NoBundle" | 7 => "WrongNumber" | 8 => "NoWay" | 9 => "NoRoll"
  | 10 => "NoTelling" | 11 => "NoEnvelope" | 12 => "NoLand" | 13 => "TooMany" | 14 => "NoPoll" | 15 => "NoDeed" | 16 => "Ended" | 17 => "Nothing" | 18 => "NoText" | 19 => "NoRow"
  | _ => "PollError"
abbrev cxN (n : Nat) : Value := .int (n : Nat) 0
def sym (mg : Str → Option Value) : Value → Value → Prop := fun x c => ∃ n, x = cxN n ∧ mg (ckN n) = some c
def upW (mg : Str → Option Value) (W : WX) : WX := fun c d σ H => ∃ x, sym mg x c ∧ W x d σ H
def liftX (K : PySem.W.Frag) (B : Bs) (W : WX) (σ : St) (E : XP) : Prop := ∀ c fs g d H, RepG K B [] σ H g [] → XD d fs H → E c fs g → W c d σ H
def liftE (K : PySem.W.Frag) (B : Bs) (W : WX) (t : DTE) : TE := fun σ H Q => ∃ (Φ : Its) (lim : List Addr) (g : Ev) (E : XP), RepG K B lim σ H g Φ ∧ liftX K B W σ E ∧
  t g (fun τ g' => ∀ v H', RepG K B lim σ H' g' ((v, τ) :: Φ) → Q v H') E
def liftT (K : PySem.W.Frag) (B : Bs) (W : WX) (t : DTT) : TT := fun σ H Q => ∃ (Φ : Its) (lim : List Addr) (g : Ev) (E : XP), RepG K B lim σ H g Φ ∧ liftX K B W σ E ∧
  t g (fun b g' => ∀ H', RepG K B lim σ H' g' Φ → Q b H') E
def BackOk (σ : St) : List V → List (Option Nat) → Prop
  | [], [] => True
  | v :: vs, some j :: bs => σ[j]? = some (some v) ∧ BackOk σ vs bs
  | _ :: vs, none :: bs => BackOk σ vs bs
  | _, _ => False
def liftA (K : PySem.W.Frag) (B : Bs) (W : WX) (bs : List (Option Nat)) (t : DTA) : TA := fun σ H Q => ∃ (Φ : Its) (lim : List Addr) (g : Ev) (E : XP), RepG K B lim σ H g Φ ∧ liftX K B W σ E ∧
  t g (fun τs g' => ∀ vs H', vs.length = τs.length → BackOk σ vs bs → RepG K B lim σ H' g' (vs.zip τs ++ Φ) → Q vs H') E
def Kept (m : Nat → Bool) (σ σ' : St) : Prop := σ'.length = σ.length ∧ ∀ i, m i = true → σ'[i]? = σ[i]?
def low (K : PySem.W.Frag) (B : Bs) (m : Nat → Bool) (σ0 : St) (lim : List Addr) (Φ : Its) (D : Ends) (E : XP) : DEnds :=
  { nx := fun g' => ∀ σ' H', RepG K B lim σ' H' g' Φ → Kept m σ0 σ' → D.nx σ' H', rt := fun τ g' => ∀ v σ' H', RepG K B [] σ' H' g' [(v, τ)] → Kept m σ0 σ' → D.rt v H', ex := E,
    bk := fun g' => ∀ σ' H', RepG K B lim σ' H' g' Φ → Kept m σ0 σ' → D.bk σ' H', ct := fun g' => ∀ σ' H', RepG K B lim σ' H' g' Φ → Kept m σ0 σ' → D.ct σ' H' }
def liftS (K : PySem.W.Frag) (B : Bs) (W : WX) (m : Nat → Bool) (σ0 : St) (t : DTS) : TS := fun D σ H => ∃ (Φ : Its) (lim : List Addr) (g : Ev) (E : XP), RepG K B lim σ H g Φ ∧ Kept m σ0 σ ∧
  (∀ σ, Kept m σ0 σ → liftX K B W σ E) ∧ t (low K B m σ0 lim Φ D E) g
structure DE (X : Cx) (W : WX) (e : Expr) (t : DTE) : Prop where
  run : ∀ B, PE X e (liftE X.K B W t)
  mono : ∀ g Q Q' E E', (∀ τ g', Q τ g' → Q' τ g') → (∀ c fs g', E c fs g' → E' c fs g') → t g Q E → t g Q' E'
structure DT (X : Cx) (W : WX) (e : Expr) (t : DTT) : Prop where
  run : ∀ B, PT X e (liftT X.K B W t)
  mono : ∀ g Q Q' E E', (∀ b g', Q b g' → Q' b g') → (∀ c fs g', E c fs g' → E' c fs g') → t g Q E → t g Q' E'
structure DW (X : Cx) (W : WX) (e : Expr) (t : DTT) : Prop where
  run : ∀ B, PW X e (liftT X.K B W t)
  mono : ∀ g Q Q' E E', (∀ b g', Q b g' → Q' b g') → (∀ c fs g', E c fs g' → E' c fs g') → t g Q E → t g Q' E'
structure DA (X : Cx) (W : WX) (es : List Expr) (bs : List (Option Nat)) (t : DTA) : Prop where
  run : ∀ B, PA X es (liftA X.K B W bs t)
  mono : ∀ g Q Q' E E', (∀ τs g', Q τs g' → Q' τs g') → (∀ c fs g', E c fs g' → E' c fs g') → t g Q E → t g Q' E'
structure DEnds.Le (D D' : DEnds) : Prop where
  nx : ∀ g, D.nx g → D'.nx g
  rt : ∀ τ g, D.rt τ g → D'.rt τ g
  ex : ∀ c fs g, D.ex c fs g → D'.ex c fs g
  bk : ∀ g, D.bk g → D'.bk g
  ct : ∀ g, D.ct g → D'.ct g
structure DS (X : Cx) (W : WX) (m : Nat → Bool) (st : Stmt) (t : DTS) : Prop where
  run : ∀ B σ0, PS X st (liftS X.K B W m σ0 t)
  mono : ∀ D D' g, D.Le D' → t D g → t D' g
structure DSs (X : Cx) (W : WX) (m : Nat → Bool) (st : List Stmt) (t : DTS) : Prop where
  run : ∀ B σ0, PSs X st (liftS X.K B W m σ0 t)
  mono : ∀ D D' g, D.Le D' → t D g → t D' g
theorem PE.imp {X : Cx} {e : Expr} {t t' : TE} (h : PE X e t) (i : ∀ σ H Q, t' σ H Q → t σ H Q) : PE X e t' := ⟨fun pins s σ H Q I hw => h.run pins s σ H Q I (i σ H Q hw)⟩
theorem PT.imp {X : Cx} {e : Expr} {t t' : TT} (h : PT X e t) (i : ∀ σ H Q, t' σ H Q → t σ H Q) : PT X e t' := ⟨fun pins s σ H Q I hw => h.run pins s σ H Q I (i σ H Q hw)⟩
theorem PW.imp {X : Cx} {e : Expr} {t t' : TT} (h : PW X e t) (i : ∀ σ H Q, t' σ H Q → t σ H Q) : PW X e t' := ⟨fun wh pins s σ H Q I hw => h.run wh pins s σ H Q I (i σ H Q hw)⟩
theorem PA.imp {X : Cx} {e : List Expr} {t t' : TA} (h : PA X e t) (i : ∀ σ H Q, t' σ H Q → t σ H Q) : PA X e t' := ⟨fun pos pins s σ H Q I hw => h.run pos pins s σ H Q I (i σ H Q hw)⟩
theorem PS.imp {X : Cx} {e : Stmt} {t t' : TS} (h : PS X e t) (i : ∀ D σ H, t' D σ H → t D σ H) : PS X e t' := ⟨fun pins s σ H D I hw => h.run pins s σ H D I (i D σ H hw)⟩
theorem PSs.imp {X : Cx} {e : List Stmt} {t t' : TS} (h : PSs X e t) (i : ∀ D σ H, t' D σ H → t D σ H) : PSs X e t' := ⟨fun pins s σ H D I hw => h.run pins s σ H D I (i D σ H hw)⟩
section
variable {X : Cx} {W : WX} {m : Nat → Bool} {a b c e : Expr} {es : List Expr} {ta tb tc te : DTE} {pos : Pos}
def xVar (i : Nat) : DTE := fun g Q _ => match g[i]? with
  | some (some t) => frz t = t ∧ Q t g
  | _ => False
def xFrz (i : Nat) : DTE := fun g Q _ => match g[i]? with
  | some (some t) => Q (frz t) (g.set i (some (frz t)))
  | _ => False
def xMov (i : Nat) : DTE := fun g Q _ => match g[i]? with
  | some (some t) => Q t (g.set i none)
  | _ => False
def xC (v : V) : DTE := fun g Q _ => Q (.leaf v) g
theorem m_match {i : Nat} {g : Ev} {P P' : T → Prop} (h : ∀ t, P t → P' t) : (match g[i]? with | some (some t) => P t | _ => False) → (match g[i]? with | some (some t) => P' t | _ => False) := by
  intro q
  split at q
  · rename_i t e
    exact h t q
  · exact q.elim
theorem d_var (i : Nat) (h : PE X e (tVar i)) : DE X W e (xVar i) := by
  refine ⟨fun B => PE.imp h fun σ H Q ⟨Φ, lim, g, E, r, hx, q⟩ => ?_, fun g Q Q' E E' hq _ q => m_match (fun t z => ⟨z.1, hq _ _ z.2⟩) q⟩
  unfold xVar at q
  split at q
  · rename_i t ht
    obtain ⟨v, hv, r'⟩ := r.look ht q.1
    exact ⟨v, hv, q.2 v H r'⟩
  · exact q.elim
theorem d_frz (i : Nat) (h : PE X e (tVar i)) : DE X W e (xFrz i) := by
  refine ⟨fun B => PE.imp h fun σ H Q ⟨Φ, lim, g, E, r, hx, q⟩ => ?_, fun g Q Q' E E' hq _ q => m_match (fun t z => hq _ _ z) q⟩
  unfold xFrz at q
  split at q
  · rename_i t ht
    have hi : i < g.length := by
      rw [List.getElem?_eq_some_iff] at ht
      exact ht.1
    obtain ⟨v, hv, r'⟩ := (r.freeze ht).look (List.getElem?_set_self hi) (frz_frz t)
    exact ⟨v, hv, q v H r'⟩
  · exact q.elim
theorem d_mov (i : Nat) (h : PE X e (tVar i)) : DE X W e (xMov i) := by
  refine ⟨fun B => PE.imp h fun σ H Q ⟨Φ, lim, g, E, r, hx, q⟩ => ?_, fun g Q Q' E E' hq _ q => m_match (fun t z => hq _ _ z) q⟩
  unfold xMov at q
  split at q
  · rename_i t ht
    obtain ⟨v, hv, r'⟩ := r.move ht
    exact ⟨v, hv, q v H r'⟩
  · exact q.elim
theorem d_c {v : V} (h : PE X e (tC v)) : DE X W e (xC v) := by
  refine ⟨fun B => PE.imp h fun σ H Q ⟨Φ, lim, g, E, r, hx, q⟩ => ?_, fun g Q Q' E E' hq _ q => hq _ _ q⟩
  exact q v H r.addLeaf
theorem d_int {i j pos} : DE X W (.Constant (.int i) j pos) (xC (.int i)) := d_c pe_int
theorem d_bl {b j pos} : DE X W (.Constant (.bool b) j pos) (xC (.bl b)) := d_c pe_bl
def ifB : Bool → Prop → Prop → Prop
  | true, a, _ => a
  | false, _, b => b
theorem ifB_dec {p : Prop} [Decidable p] {a b : Prop} (h1 : p → a) (h2 : ¬ p → b) : ifB (decide p) a b := by
  by_cases h : p
  · rw [decide_eq_true h]
    exact h1 h
  · rw [decide_eq_false h]
    exact h2 h
theorem ifB_of {c : Bool} {a b : Prop} (h1 : c = true → a) (h2 : c = false → b) : ifB c a b := by
  cases c with
  | true => exact h1 rfl
  | false => exact h2 rfl
abbrev R2T := T → T → (T → Prop) → Prop
def Op2 (K : PySem.W.Frag) (r : R2) (rt : R2T) : Prop :=
  (∀ (B : Bs) (lim : List Addr) (σ : St) (H : Hp) (g : Ev) (Φ : Its) (v1 v2 : V) (τ1 τ2 : T) (Q : VK), RepG K B lim σ H g ((v2, τ2) :: (v1, τ1) :: Φ) →
    rt τ1 τ2 (fun τ => ∀ v H', RepG K B lim σ H' g ((v, τ) :: Φ) → Q v H') → r v1 v2 H Q) ∧
  ∀ τ1 τ2 Q Q', (∀ τ, Q τ → Q' τ) → rt τ1 τ2 Q → rt τ1 τ2 Q'
def xOp (rt : R2T) (ta tb : DTE) : DTE := fun g Q E => ta g (fun τ1 g1 => tb g1 (fun τ2 g2 => rt τ1 τ2 fun τ => Q τ g2) E) E
theorem lift2 {K : PySem.W.Frag} {B : Bs} {σ : St} {H : Hp} {R : V → V → Hp → Prop} {R' : T → T → Ev → Prop} {Φ : Its} {lim : List Addr} {g : Ev} {E : XP} (r : RepG K B lim σ H g Φ) (hx : liftX K B W σ E)
    (mb : ∀ g Q Q' E E', (∀ τ g', Q τ g' → Q' τ g') → (∀ c fs g', E c fs g' → E' c fs g') → tb g Q E → tb g Q' E')
    (ma : ∀ g Q Q' E E', (∀ τ g', Q τ g' → Q' τ g') → (∀ c fs g', E c fs g' → E' c fs g') → ta g Q E → ta g Q' E')
    (q : ta g (fun τ1 g1 => tb g1 (fun τ2 g2 => R' τ1 τ2 g2) E) E) (h : ∀ v1 v2 τ1 τ2 g2 H2, RepG K B lim σ H2 g2 ((v2, τ2) :: (v1, τ1) :: Φ) → R' τ1 τ2 g2 → R v1 v2 H2) :
    liftE K B W ta σ H fun x H1 => liftE K B W tb σ H1 fun y H2 => R x y H2 := by
  refine ⟨Φ, lim, g, E, r, hx, ma _ _ _ _ _ (fun τ1 g1 q1 v1 H1 r1 => ?_) (fun _ _ _ z => z) q⟩
  exact ⟨(v1, τ1) :: Φ, lim, g1, E, r1, hx, mb _ _ _ _ _ (fun τ2 g2 q2 v2 H2 r2 => h v1 v2 τ1 τ2 g2 H2 r2 q2) (fun _ _ _ z => z) q1⟩
theorem d_op2 {op : Operator} {r : R2} {rt : R2T} (ho : OpR X (binaryOp op) r) (hr : Op2 X.K r rt) (ha : DE X W a ta) (hb : DE X W b tb) : DE X W (.BinOp a op b pos) (xOp rt ta tb) := by
  refine ⟨fun B => PE.imp (pe_op ho (ha.run B) (hb.run B)) fun σ H Q ⟨Φ, lim, g, E, r, hx, q⟩ => ?_, fun g Q Q' E E' hq he q => ?_⟩
  · exact lift2 r hx hb.mono ha.mono q fun v1 v2 τ1 τ2 g2 H2 r2 q2 => hr.1 B lim σ H2 g2 Φ v1 v2 τ1 τ2 Q r2 q2
  · exact ha.mono _ _ _ _ _ (fun τ1 g1 q1 => hb.mono _ _ _ _ _ (fun τ2 g2 q2 => hr.2 _ _ _ _ (fun τ z => hq _ _ z) q2) he q1) he q
def rtI (C : Int → Int → Prop) (f : Int → Int → V) : R2T := fun τ1 τ2 Q => match τ1, τ2 with
  | .leaf (.int i), .leaf (.int j) => C i j ∧ Q (.leaf (f i j))
  | _, _ => False
def rtI0 (f : Int → Int → V) : R2T := fun τ1 τ2 Q => match τ1, τ2 with
  | .leaf (.int i), .leaf (.int j) => Q (.leaf (f i j))
  | _, _ => False
theorem op2_I {K : PySem.W.Frag} {C C' : Int → Int → Prop} {f : Int → Int → V} (hc : ∀ i j, C' i j → C i j) : Op2 K (rI C f) (rtI C' f) := by
  refine ⟨fun B lim σ H g Φ v1 v2 τ1 τ2 Q r q => ?_, fun τ1 τ2 Q Q' hq q => ?_⟩
  · unfold rtI at q
    split at q
    · obtain rfl := r.leaf
      obtain rfl := r.dropT.leaf
      exact ⟨_, _, rfl, rfl, hc _ _ q.1, q.2 _ _ r.dropT.dropT.addLeaf⟩
    · exact q.elim
  · unfold rtI at q
    split at q
    · exact ⟨q.1, hq _ q.2⟩
    · exact q.elim
theorem op2_I0 {K : PySem.W.Frag} {f : Int → Int → V} : Op2 K (rI0 f) (rtI0 f) := by
  refine ⟨fun B lim σ H g Φ v1 v2 τ1 τ2 Q r q => ?_, fun τ1 τ2 Q Q' hq q => ?_⟩
  · unfold rtI0 at q
    split at q
    · obtain rfl := r.leaf
      obtain rfl := r.dropT.leaf
      exact ⟨_, _, rfl, rfl, q _ _ r.dropT.dropT.addLeaf⟩
    · exact q.elim
  · unfold rtI0 at q
    split at q
    · exact hq _ q
    · exact q.elim
end
end DL
set_option Elab.async false
set_option linter.all false
set_option maxRecDepth 100000
set_option maxHeartbeats 4000000
namespace DL
open PySem L2
section
variable {X : Cx} {W : WX} {m : Nat → Bool} {a b c e : Expr} {es : List Expr} {ta tb tc te : DTE} {tA tB' : DTT} {pos : Pos}
theorem d_cmp {op : CmpOp} {r : R2} {rt : R2T} (ho : OpR X (compareOp op) r) (hr : Op2 X.K r rt) (ha : DE X W a ta) (hb : DE X W b tb) (hm : behindInMarks op b = false) : DE X W (.Compare a [op] [b] pos) (xOp rt ta tb) := by
  refine ⟨fun B => PE.imp (pe_cmpR ho (ha.run B) (hb.run B) hm) fun σ H Q ⟨Φ, lim, g, E, r, hx, q⟩ => ?_, fun g Q Q' E E' hq he q => ?_⟩
  · exact lift2 r hx hb.mono ha.mono q fun v1 v2 τ1 τ2 g2 H2 r2 q2 => hr.1 B lim σ H2 g2 Φ v1 v2 τ1 τ2 Q r2 q2
  · exact ha.mono _ _ _ _ _ (fun τ1 g1 q1 => hb.mono _ _ _ _ _ (fun τ2 g2 q2 => hr.2 _ _ _ _ (fun τ z => hq _ _ z) q2) he q1) he q
def xB (te : DTE) : DTT := fun g Q E => te g (fun τ g1 => match τ with
  | .leaf (.bl b) => Q b g1
  | _ => False) E
theorem m_bl {g1 : Ev} {Q Q' : Bool → Ev → Prop} (h : ∀ b g', Q b g' → Q' b g') : ∀ {τ : T}, (match τ with | .leaf (.bl b) => Q b g1 | _ => False) → (match τ with | .leaf (.bl b) => Q' b g1 | _ => False) := by
  intro τ q
  split at q
  · exact h _ _ q
  · exact q.elim
theorem dt_cmp {op : CmpOp} {rr : R2} {rt : R2T} (ho : OpR X (compareOp op) rr) (hr : Op2 X.K rr rt) (ha : DE X W a ta) (hb : DE X W b tb) (hm : behindInMarks op b = false) : DT X W (.Compare a [op] [b] pos) (xB (xOp rt ta tb)) := by
  refine ⟨fun B => PT.imp (pt_cmpR ho (ha.run B) (hb.run B) hm) fun σ H Q ⟨Φ, lim, g, E, r, hx, q⟩ => ?_, fun g Q Q' E E' hq he q => ?_⟩
  · refine lift2 (R := fun v1 v2 H2 => rr v1 v2 H2 fun x H3 => ∃ k, x = .bl k ∧ Q k H3) r hx hb.mono ha.mono q fun v1 v2 τ1 τ2 g2 H2 r2 q2 => hr.1 B lim σ H2 g2 Φ v1 v2 τ1 τ2 _ r2 (hr.2 _ _ _ _ (fun τ z v H' r' => ?_) q2)
    dsimp only at z
    split at z
    · obtain rfl := r'.leaf
      exact ⟨_, rfl, z H' r'.dropT⟩
    · exact z.elim
  · exact ha.mono _ _ _ _ _ (fun τ1 g1 q1 => hb.mono _ _ _ _ _ (fun τ2 g2 q2 => hr.2 _ _ _ _ (fun τ z => m_bl hq z) q2) he q1) he q
def xOr (t u : DTT) : DTT := fun g Q E => t g (fun b g1 => ifB b (Q true g1) (u g1 Q E)) E
def xNot (t : DTT) : DTT := fun g Q E => t g (fun b g1 => Q (!b) g1) E
theorem DW.dt (h : DW X W e tA) : DT X W e tA := ⟨fun B => (h.run B).pt, h.mono⟩
theorem dw_or1 (h : DT X W a tA) : DW X W (.BoolOp .Or [a] pos) tA := ⟨fun B => pw_or1 (h.run B), h.mono⟩
theorem xOr_mono (ha : ∀ g Q Q' E E', (∀ b g', Q b g' → Q' b g') → (∀ c fs g', E c fs g' → E' c fs g') → tA g Q E → tA g Q' E') (hb : ∀ g Q Q' E E', (∀ b g', Q b g' → Q' b g') → (∀ c fs g', E c fs g' → E' c fs g') → tB' g Q E → tB' g Q' E') :
    ∀ g Q Q' E E', (∀ b g', Q b g' → Q' b g') → (∀ c fs g', E c fs g' → E' c fs g') → xOr tA tB' g Q E → xOr tA tB' g Q' E' := fun g Q Q' E E' hq he q =>
  ha _ _ _ _ _ (fun b g1 q1 => by
    cases b with
    | true => exact hq _ _ q1
    | false => exact hb _ _ _ _ _ hq he q1) he q
theorem dw_or {rest : List Expr} (ha : DT X W a tA) (hb : DW X W (.BoolOp .Or (b :: rest) pos) tB') : DW X W (.BoolOp .Or (a :: b :: rest) pos) (xOr tA tB') := by
  refine ⟨fun B => PW.imp (pw_or (ha.run B) (hb.run B)) fun σ H Q ⟨Φ, lim, g, E, r, hx, q⟩ => ?_, xOr_mono ha.mono hb.mono⟩
  refine ⟨Φ, lim, g, E, r, hx, ha.mono _ _ _ _ _ (fun b g1 q1 H1 r1 => ?_) (fun _ _ _ z => z) q⟩
  cases b with
  | true => exact q1 H1 r1
  | false => exact ⟨Φ, lim, g1, E, r1, hx, q1⟩
theorem dt_not (ha : DT X W a tA) : DT X W (.UnaryOp .Not a pos) (xNot tA) := by
  refine ⟨fun B => PT.imp (pt_not (ha.run B)) fun σ H Q ⟨Φ, lim, g, E, r, hx, q⟩ => ?_, fun g Q Q' E E' hq he q => ha.mono _ _ _ _ _ (fun b g1 q1 => hq _ _ q1) he q⟩
  exact ⟨Φ, lim, g, E, r, hx, q⟩
def xAndV (ta tb : DTE) : DTE := fun g Q E => ta g (fun τ g1 => match τ with
  | .leaf (.bl b) => ifB b (tb g1 Q E) (Q (.leaf (.bl false)) g1)
  | _ => False) E
def xNotV (ta : DTE) : DTE := fun g Q E => ta g (fun τ g1 => match τ with
  | .leaf (.bl b) => Q (.leaf (.bl (!b))) g1
  | _ => False) E
theorem d_one {op} (h : DE X W a ta) : DE X W (.BoolOp op [a] pos) ta := ⟨fun B => pe_one (h.run B), h.mono⟩
theorem d_and {rest : List Expr} (ha : DE X W a ta) (hb : DE X W (.BoolOp .And (b :: rest) pos) tb) : DE X W (.BoolOp .And (a :: b :: rest) pos) (xAndV ta tb) := by
  refine ⟨fun B => PE.imp (pe_and (ha.run B) (hb.run B)) fun σ H Q ⟨Φ, lim, g, E, r, hx, q⟩ => ?_, fun g Q Q' E E' hq he q => ?_⟩
  · refine ⟨Φ, lim, g, E, r, hx, ha.mono _ _ _ _ _ (fun τ g1 q1 v H1 r1 => ?_) (fun _ _ _ z => z) q⟩
    split at q1
    · rename_i b
      obtain rfl := r1.leaf
      refine ⟨_, rfl, ?_⟩
      cases b with
      | true =>
        exact ⟨Φ, lim, g1, E, r1.dropT, hx, q1⟩
      | false =>
        exact q1 _ H1 r1.dropT.addLeaf
    · exact q1.elim
  · refine ha.mono _ _ _ _ _ (fun τ g1 q1 => ?_) he q
    split at q1
    · rename_i b
      cases b with
      | true =>
        exact hb.mono _ _ _ _ _ hq he q1
      | false =>
        exact hq _ _ q1
    · exact q1.elim
theorem d_not (ha : DE X W a ta) : DE X W (.UnaryOp .Not a pos) (xNotV ta) := by
  refine ⟨fun B => PE.imp (pe_not (ha.run B)) fun σ H Q ⟨Φ, lim, g, E, r, hx, q⟩ => ?_, fun g Q Q' E E' hq he q => ?_⟩
  · refine ⟨Φ, lim, g, E, r, hx, ha.mono _ _ _ _ _ (fun τ g1 q1 v H1 r1 => ?_) (fun _ _ _ z => z) q⟩
    split at q1
    · obtain rfl := r1.leaf
      exact ⟨_, rfl, q1 _ H1 r1.dropT.addLeaf⟩
    · exact q1.elim
  · refine ha.mono _ _ _ _ _ (fun τ g1 q1 => ?_) he q
    split at q1
    · exact hq _ _ q1
    · exact q1.elim
def aNil : DTA := fun g Q _ => Q [] g
def aCons (te : DTE) (t : DTA) : DTA := fun g Q E => te g (fun τ g1 => t g1 (fun τs g2 => Q (τ :: τs) g2) E) E
theorem da_nil : DA X W [] [] aNil := by
  refine ⟨fun B => PA.imp pa_nil fun σ H Q ⟨Φ, lim, g, E, r, hx, q⟩ => ?_, fun g Q Q' E E' hq he q => hq _ _ q⟩
  exact q [] H rfl trivial r
theorem da_cons {bs : List (Option Nat)} {t : DTA} (ha : DE X W e ta) (hr : DA X W es bs t) (hs : starEach (e :: es) X.env = (false, eval e X.env) :: starEach es X.env := by rfl) : DA X W (e :: es) (none :: bs) (aCons ta t) := by
  refine ⟨fun B => PA.imp (pa_cons (ha.run B) (hr.run B) hs) fun σ H Q h => ?_, fun g Q Q' E E' hq he q => ha.mono _ _ _ _ _ (fun τ g1 q1 => hr.mono _ _ _ _ _ (fun τs g2 q2 => hq _ _ q2) he q1) he q⟩
  obtain ⟨Φ, lim, g, E, r, hx, q⟩ := h
  refine ⟨Φ, lim, g, E, r, hx, ha.mono _ _ _ _ _ (fun τ g1 q1 v H1 r1 => ?_) (fun _ _ _ z => z) q⟩
  refine ⟨(v, τ) :: Φ, lim, g1, E, r1, hx, hr.mono _ _ _ _ _ (fun τs g2 q2 vs H2 hl hb r2 => ?_) (fun _ _ _ z => z) q1⟩
  refine q2 (v :: vs) H2 (by simp [hl]) hb ?_
  show RepG X.K B lim σ H2 g2 ((v, τ) :: (vs.zip τs ++ Φ))
  exact r2.perm List.perm_middle
def xLst (t : DTA) : DTE := fun g Q E => t g (fun τs g1 => τs.length ≤ sizeLine ∧ Q (.node true .lst τs) g1) E
def xTup (t : DTA) : DTE := fun g Q E => t g (fun τs g1 => τs.length ≤ sizeLine ∧ Q (.node true .tup τs) g1) E
theorem make_of {K : PySem.W.Frag} {B : Bs} {lim : List Addr} {σ : St} {H : Hp} {g : Ev} {Φ : Its} {vs : List V} {τs : List T} (s : Sh) (hl : vs.length = τs.length) (r : RepG K B lim σ H g (vs.zip τs ++ Φ)) {p : Addr} (hp : H p = none) :
    RepG K B lim σ (upd H p (s.mk p vs)) g ((.ref p, .node true s τs) :: Φ) := by
  have q := r.make (s := s) hp
  rwa [List.map_fst_zip (by omega), List.map_snd_zip (by omega)] at q
theorem d_lst {bs : List (Option Nat)} {t : DTA} (h : DA X W es bs t) : DE X W (.List es pos) (xLst t) := by
  refine ⟨fun B => PE.imp (pe_lst (h.run B)) fun σ H Q ⟨Φ, lim, g, E, r, hx, q⟩ => ?_, fun g Q Q' E E' hq he q => h.mono _ _ _ _ _ (fun τs g1 q1 => ⟨q1.1, hq _ _ q1.2⟩) he q⟩
  exact ⟨Φ, lim, g, E, r, hx, h.mono _ _ _ _ _ (fun τs g1 q1 vs H1 hl _ r1 => ⟨by rw [hl]; exact q1.1, fun p hp => q1.2 _ _ (make_of .lst hl r1 hp)⟩) (fun _ _ _ z => z) q⟩
theorem d_tup {x1} {bs : List (Option Nat)} {t : DTA} (h : DA X W es bs t) : DE X W (.Tuple es x1 pos) (xTup t) := by
  refine ⟨fun B => PE.imp (pe_tup (h.run B)) fun σ H Q ⟨Φ, lim, g, E, r, hx, q⟩ => ?_, fun g Q Q' E E' hq he q => h.mono _ _ _ _ _ (fun τs g1 q1 => ⟨q1.1, hq _ _ q1.2⟩) he q⟩
  exact ⟨Φ, lim, g, E, r, hx, h.mono _ _ _ _ _ (fun τs g1 q1 vs H1 hl _ r1 => ⟨by rw [hl]; exact q1.1, fun p hp => q1.2 _ _ (make_of .tup hl r1 hp)⟩) (fun _ _ _ z => z) q⟩
theorem kept_refl {σ : St} : Kept m σ σ := ⟨rfl, fun _ _ => rfl⟩
theorem Kept.trans {σ σ1 σ2 : St} (h : Kept m σ σ1) (h' : Kept m σ1 σ2) : Kept m σ σ2 := ⟨h'.1.trans h.1, fun i hi => (h'.2 i hi).trans (h.2 i hi)⟩
theorem Kept.set {σ σ1 : St} {i : Nat} {x : Option V} (h : Kept m σ σ1) (hi : m i = false) : Kept m σ (σ1.set i x) := ⟨by rw [List.length_set]; exact h.1, fun j hj => by
  rw [List.getElem?_set_ne (fun e => by rw [e, hj] at hi; cases hi)]
  exact h.2 j hj⟩
theorem RepG.put' {K : PySem.W.Frag} {B : Bs} {lim : List Addr} {σ : St} {H : Hp} {g : Ev} {Φ : Its} {i : Nat} {v : V} {t : T} (h : RepG K B lim σ H g ((v, t) :: Φ)) : RepG K B lim (σ.set i (some v)) H (g.set i (some t)) Φ := by
  by_cases hi : i < σ.length
  · exact h.put hi
  · have e1 : σ.set i (some v) = σ := List.set_eq_of_length_le (by omega)
    have e2 : g.set i (some t) = g := List.set_eq_of_length_le (by rw [← h.len]; omega)
    rw [e1, e2]
    exact h.dropT
theorem RepG.ret {K : PySem.W.Frag} {B : Bs} {lim : List Addr} {σ : St} {H : Hp} {g : Ev} {Φ : Its} {x : V × T} (h : RepG K B lim σ H g (x :: Φ)) : RepG K B [] σ H g [x] :=
  ((h.perm (Ψ := Φ ++ [x]) (by
    have := (List.perm_append_comm (l₁ := [x]) (l₂ := Φ))
    exact this)).dropTs).lim0
theorem DS.mk' {st : Stmt} {t : DTS} {tt : Bs → St → TS} (h : ∀ B σ0, PS X st (tt B σ0))
    (hr : ∀ B σ0 D σ H Φ lim g E, RepG X.K B lim σ H g Φ → Kept m σ0 σ → (∀ σ, Kept m σ0 σ → liftX X.K B W σ E) → t (low X.K B m σ0 lim Φ D E) g → tt B σ0 D σ H) (mono : ∀ D D' g, D.Le D' → t D g → t D' g) : DS X W m st t :=
  ⟨fun B σ0 => PS.imp (h B σ0) fun D σ H ⟨Φ, lim, g, E, r, hk, hx, q⟩ => hr B σ0 D σ H Φ lim g E r hk hx q, mono⟩
def sNext : DTS := fun D g => D.nx g
inductive Nx (u : DTS) (D : DEnds) (g : Ev) : Prop where
  | mk (h : u D g) : Nx u D g
theorem Nx.out {u : DTS} {D : DEnds} {g : Ev} : Nx u D g → u D g
  | ⟨h⟩ => h
def seqE (u : DTS) (D : DEnds) : DEnds := { D with nx := Nx u D }
def sSeq (t u : DTS) : DTS := fun D g => t (seqE u D) g
theorem le_nx {D D' : DEnds} (h : D.Le D') {f f' : Ev → Prop} (hf : ∀ g, f g → f' g) : DEnds.Le { D with nx := f } { D' with nx := f' } := ⟨hf, h.rt, h.ex, h.bk, h.ct⟩
theorem dss_nil : DSs X W m [] sNext := ⟨fun B σ0 => PSs.imp pss_nil fun D σ H ⟨Φ, lim, g, E, r, hk, hx, q⟩ => q σ H r hk, fun D D' g h q => h.nx g q⟩
theorem dss_cons {st : Stmt} {rest : List Stmt} {t u : DTS} (h1 : DS X W m st t) (h2 : DSs X W m rest u) : DSs X W m (st :: rest) (sSeq t u) := by
  refine ⟨fun B σ0 => PSs.imp (pss_cons (h1.run B σ0) (h2.run B σ0)) fun D σ H ⟨Φ, lim, g, E, r, hk, hx, q⟩ => ?_, fun D D' g h q => h1.mono _ _ _ (le_nx h fun g' q' => ⟨h2.mono _ _ _ h q'.out⟩) q⟩
  exact ⟨Φ, lim, g, E, r, hk, hx, h1.mono { low X.K B m σ0 lim Φ D E with nx := Nx u (low X.K B m σ0 lim Φ D E) } _ _ ⟨fun g1 q1 σ1 H1 r1 hk1 => ⟨Φ, lim, g1, E, r1, hk1, hx, q1.out⟩, fun _ _ z => z, fun _ _ _ z => z, fun _ z => z, fun _ z => z⟩ q⟩
theorem dss_one {st : Stmt} {t : DTS} (h1 : DS X W m st t) : DSs X W m [st] t := ⟨fun B σ0 => pss_one (h1.run B σ0), h1.mono⟩
def sCont : DTS := fun D g => D.ct g
theorem ds_continue : DS X W m (.Continue pos) sCont := .mk' (fun _ _ => ps_continue) (fun B σ0 D σ H Φ lim g E r hk hx q => q σ H r hk) fun D D' g h q => h.ct g q
def sSet (own : Bool) (i : Nat) (te : DTE) : DTS := fun D g => te g (fun τ g1 => D.nx (g1.set i (some (if own = true then τ else frz τ)))) D.ex
theorem ds_set {i : Nat} {x : Str} {pos' : Pos} (own : Bool) (hN : X.N.Nodup) (hi : X.N[i]? = some x) (hx : Loc X.env.scope x) (he : DE X W e te) (hm : m i = false) (hs : swapsWith e (some (.Name x pos')) pos.line X.env = pure false := by rfl)
    (hf : X.fn x = true ∨ X.env.scope.names.lookup x = some .local := by first | exact .inl rfl | exact .inr rfl | assumption) : DS X W m (.Assign [.Name x pos'] e pos) (sSet own i te) := by
  refine .mk' (fun B σ0 => ps_set hN hi hx (he.run B) hs hf) (fun B σ0 D σ H Φ lim g E r hk hX q => ?_) fun D D' g h q => he.mono _ _ _ _ _ (fun τ g1 q1 => h.nx _ q1) h.ex q
  refine ⟨Φ, lim, g, E, r, hX σ hk, he.mono _ _ _ _ _ (fun τ g1 q1 v H1 r1 => ?_) (fun _ _ _ z => z) q⟩
  refine q1 (σ.set i (some v)) H1 ?_ (hk.set hm)
  cases own with
  | true => exact r1.put'
  | false => exact r1.freezeT.put'
def sDrop (te : DTE) : DTS := fun D g => te g (fun _ g1 => D.nx g1) D.ex
theorem ds_expr (he : DE X W e te) (hs : swapsWith e none pos.line X.env = pure false := by rfl) : DS X W m (.Expr e pos) (sDrop te) := by
  refine .mk' (fun B σ0 => ps_expr (he.run B) hs) (fun B σ0 D σ H Φ lim g E r hk hX q => ?_) fun D D' g h q => he.mono _ _ _ _ _ (fun τ g1 q1 => h.nx _ q1) h.ex q
  exact ⟨Φ, lim, g, E, r, hX σ hk, he.mono _ _ _ _ _ (fun τ g1 q1 v H1 r1 => q1 σ H1 r1.dropT hk) (fun _ _ _ z => z) q⟩
def sRet (te : DTE) : DTS := fun D g => te g D.rt D.ex
theorem ds_ret (he : DE X W e te) : DS X W m (.Return (some e) pos) (sRet te) := by
  refine .mk' (fun B σ0 => ps_ret (he.run B)) (fun B σ0 D σ H Φ lim g E r hk hX q => ?_) fun D D' g h q => he.mono _ _ _ _ _ h.rt h.ex q
  exact ⟨Φ, lim, g, E, r, hX σ hk, he.mono _ _ _ _ _ (fun τ g1 q1 v H1 r1 => q1 v σ H1 r1.ret hk) (fun _ _ _ z => z) q⟩
def sIf (c : DTT) (t u : DTS) : DTS := fun D g => c g (fun b g1 => ifB b (t D g1) (u D g1)) D.ex
theorem ds_if {sa sb : List Stmt} {t u : DTS} (hc : DT X W c tA) (ha : DSs X W m sa t) (hb : DSs X W m sb u) : DS X W m (.If c sa sb pos) (sIf tA t u) := by
  refine .mk' (fun B σ0 => ps_if (hc.run B) (ha.run B σ0) (hb.run B σ0)) (fun B σ0 D σ H Φ lim g E r hk hX q => ?_) fun D D' g h q => hc.mono _ _ _ _ _ (fun b g1 q1 => ?_) h.ex q
  · refine ⟨Φ, lim, g, E, r, hX σ hk, hc.mono _ _ _ _ _ (fun b g1 q1 H1 r1 => ?_) (fun _ _ _ z => z) q⟩
    cases b with
    | true => exact ⟨Φ, lim, g1, E, r1, hk, hX, q1⟩
    | false => exact ⟨Φ, lim, g1, E, r1, hk, hX, q1⟩
  · cases b with
    | true => exact ha.mono _ _ _ h q1
    | false => exact hb.mono _ _ _ h q1
def sRaise (c : Value) : DTS := fun D g => D.ex c [] g
theorem ds_raise {C : Addr} {bmB : List Value} {Bn newId initId : String} {x t : Str} {j : Nat} {p p2 p3 : Pos} {n : Nat} (hc : X.calm = true) (tk : Takes X (upW X.mg W)) (F : ExcBaseFacts Bn newId initId bmB) (q : PySem.W.excIn X.K C bmB newId = true) (gC : X.mg x = some (.ref C)) (hn : ckN n = x)
    (kC : PySem.W.keepIn X.K (.ref C) = true) (r : Raises X (.ref C)) (hg : Gl X x) (hdb : (x == ("__debug__" : Str)) = false := by decide) :
    DS X W m (.Raise (some (.Call (.Name x p) [.Constant (.str t) j p2] [] p3)) none pos) (sRaise (cxN n)) :=
  .mk' (fun B σ0 => ps_raise hc tk (pmk_own F q gC kC r hg hdb)) (fun B σ0 D σ H Φ lim g E rp hk hX q => ⟨cxN n, ⟨n, rfl, by rw [hn]; exact gC⟩, hX σ hk _ [] _ _ _ rp.only rfl q⟩) fun D D' g h q => h.ex _ _ g q
end
end DL
set_option Elab.async false
set_option linter.all false
set_option maxRecDepth 100000
set_option maxHeartbeats 4000000
namespace DL
open PySem L2
abbrev DSp := List T → (T → List T → Prop) → (Value → List (Str × V) → List T → Prop) → Prop
def MonoD (m : DSp) : Prop := ∀ ts Q Q' E E', (∀ t us, Q t us → Q' t us) → (∀ c fs us, E c fs us → E' c fs us) → m ts Q E → m ts Q' E'
def pick {α : Type} : List Bool → List α → List α
  | true :: bs, x :: xs => x :: pick bs xs
  | false :: bs, _ :: xs => pick bs xs
  | _, _ => []
def Aft (K : PySem.W.Frag) (F : Addr → Prop) (fp : List Addr) (H : Hp) (ws : List V) (H' : Hp) (us : List T) (Φ : Its) : Prop :=
  ∃ (F' : Addr → Prop) (f' : List Addr), ws.length = us.length ∧ OwnZ K F' H' (ws.zip us ++ Φ) f' ∧ Fine ⟨H, F, fp⟩ F' H' f'
def spD (K : PySem.W.Frag) (mg : Str → Option Value) (fl : List Bool) (m : DSp) : Sp := fun vs H Q E => ∃ (ts : List T) (F : Addr → Prop) (fp : List Addr), OwnL K F H vs ts fp ∧ fp.Nodup ∧ (∀ a ∈ fp, ¬ F a) ∧ (∀ a, F a → H a ≠ none) ∧ vs.length = fl.length ∧
  m ts (fun t us => ∀ v H', Aft K F fp H (pick fl vs) H' us [(v, t)] → Q v H') (fun c fs us => ∀ d H' cv, sym mg c cv → Aft K F fp H (pick fl vs) H' us [] → XD d fs H' → E cv d H')
def restore : Ev → List (Option Nat) → List T → Ev
  | g, none :: bs, us => restore g bs us
  | g, some j :: bs, u :: us => restore (g.set j (some u)) bs us
  | g, _, _ => g
section
variable {K : PySem.W.Frag} {B : Bs} {lim : List Addr} {σ : St} {H H' : Hp} {g : Ev} {Φ Ψ : Its}
theorem call_frame {F F' : Addr → Prop} {zs : Its} {fpA fpR f' : List Addr} (en : EnvIs σ g zs) (oR : OwnZ K F H (zs ++ Φ) fpR) (f : Fine B F H (lim ++ (fpA ++ fpR))) (hl : ∀ a ∈ lim, H a ≠ none)
    (o' : OwnZ K F' H' Ψ f') (fn : Fine ⟨H, F, fpA⟩ F' H' f') : RepG K B lim σ H' g (Ψ ++ Φ) := by
  have nd := f.nd
  have ndA : ∀ a, a ∈ fpA → a ∉ lim ∧ a ∉ fpR := fun a ha => by
    refine ⟨fun z => (List.nodup_append.mp nd).2.2 a z a (List.mem_append_left _ ha) rfl, fun z => ?_⟩
    exact (List.nodup_append.mp (List.nodup_append.mp nd).2.1).2.2 a ha a z rfl
  have keepF : ∀ a o, H a = some o → a ∉ fpA → H' a = some o := fn.keep
  have oR' : OwnZ K F' H' (zs ++ Φ) fpR := oR.mono fn.inc (fun a ha o e => keepF a o e fun z => by
    rcases ha with q | q
    · exact f.off a (List.mem_append_right _ (List.mem_append_left _ z)) q
    · exact (ndA a z).2 q) fn.keepT
  have trk : ∀ a, a ∈ lim ∨ a ∈ fpR → H a ≠ none := fun a ha => ha.elim (hl a) (oR.tracked a)
  have notF' : ∀ a, a ∈ lim ∨ a ∈ fpR → ¬ F' a := fun a ha q => by
    rcases fn.newF a q with q | q | q
    · exact f.off a (by rcases ha with z | z <;> simp [z]) q
    · exact ha.elim (ndA a q).1 (ndA a q).2
    · exact trk a ha q
  have keepL : ∀ a, a ∈ lim → H' a ≠ none := fun a ha => by
    cases q : H a with
    | none => exact absurd q (hl a ha)
    | some o => rw [keepF a o q fun z => (ndA a z).1 ha]; exact nofun
  have old : ∀ a, a ∈ f' → a ∉ lim ∧ a ∉ fpR := fun a ha => by
    rcases fn.newO a ha with q | q
    · exact ndA a q
    · exact ⟨fun z => trk a (.inl z) q, fun z => trk a (.inr z) q⟩
  have fresh : ∀ a, H a = none → a ∈ B.fp0 ∨ B.H0 a = none := fun a q => by
    by_cases hb : a ∈ B.fp0
    · exact .inl hb
    · refine .inr ?_
      cases z : B.H0 a with
      | none => rfl
      | some o =>
        have := f.keep a o z hb
        rw [q] at this; cases this
  have oldA : ∀ a, a ∈ fpA → a ∈ B.fp0 ∨ B.H0 a = none := fun a ha => f.newO a (List.mem_append_right _ (List.mem_append_left _ ha))
  have fin : Fine B F' H' (lim ++ (f' ++ fpR)) := by
    refine ⟨?_, fun a z => ?_, fn.trk, fun a z => fn.inc a (f.inc a z), fun a o e na => ?_, fun a z => ?_, fun a z => ?_, fun a vs e => fn.keepT a vs (f.keepT a vs e)⟩
    · refine List.nodup_append.mpr ⟨(List.nodup_append.mp nd).1, List.nodup_append.mpr ⟨fn.nd, (List.nodup_append.mp (List.nodup_append.mp nd).2.1).2.1, fun a ha b hb e => ?_⟩, fun a ha b hb e => ?_⟩
      · subst e
        exact (old a ha).2 hb
      · subst e
        rcases List.mem_append.mp hb with q | q
        · exact (old a q).1 ha
        · exact (List.nodup_append.mp nd).2.2 a ha a (List.mem_append_right _ q) rfl
    · rcases List.mem_append.mp z with q | q
      · exact notF' a (.inl q)
      · rcases List.mem_append.mp q with q | q
        · exact fn.off a q
        · exact notF' a (.inr q)
    · refine keepF a o (f.keep a o e na) fun q => ?_
      rcases oldA a q with k | k
      · exact na k
      · rw [e] at k; cases k
    · rcases fn.newF a z with q | q | q
      · exact f.newF a q
      · exact .inr (oldA a q)
      · exact .inr (fresh a q)
    · rcases List.mem_append.mp z with q | q
      · exact f.newO a (List.mem_append_left _ q)
      · rcases List.mem_append.mp q with q | q
        · rcases fn.newO a q with k | k
          · exact oldA a k
          · exact fresh a k
        · exact f.newO a (List.mem_append_right _ (List.mem_append_right _ q))
  have oz : OwnZ K F' H' (Ψ ++ (zs ++ Φ)) (f' ++ fpR) := o'.append oR'
  refine rep_items (ds := []) en oz fin keepL ?_
  rw [List.nil_append, ← List.append_assoc, ← List.append_assoc]
  exact List.Perm.append_right _ List.perm_append_comm
theorem RepG.restore : ∀ {vs : List V} {bs : List (Option Nat)} {us : List T} {g : Ev}, BackOk σ vs bs → (pick (bs.map Option.isSome) vs).length = us.length → RepG K B lim σ H g ((pick (bs.map Option.isSome) vs).zip us ++ Φ) → RepG K B lim σ H (restore g bs us) Φ
  | [], [], us, g, _, hl, h => by
    cases us with
    | nil => exact h
    | cons => cases hl
  | v :: vs, none :: bs, us, g, hb, hl, h => RepG.restore (vs := vs) (bs := bs) hb hl h
  | v :: vs, some j :: bs, [], g, hb, hl, h => by cases hl
  | v :: vs, some j :: bs, u :: us, g, hb, hl, h => by
    have h1 : RepG K B lim σ H g ((v, u) :: ((pick (bs.map Option.isSome) vs).zip us ++ Φ)) := h
    exact RepG.restore (vs := vs) (bs := bs) hb.2 (by simpa [pick] using hl) (h1.back hb.1)
  | [], _ :: _, _, _, hb, _, _ => by
    exact False.elim hb
  | _ :: _, [], _, _, hb, _, _ => False.elim hb
end
structure FnG (P : Program) (w : World) (K : PySem.W.Frag) (mg : Str → Option Value) (base : Heap) (k : Nat) (f : Addr) (fd : FuncData) (ps : List Str) (sp : Sp) : Prop where
  len : ∀ vs H Q E, sp vs H Q E → vs.length = ps.length
  run : ∀ (A : Around) (outer : List Env) (s : Shared) (H : Hp) (args : Args) (us : List Value) (vs : List V) (Q : VK) (E : XK), Room k A → A.guards = some [] → Env0 P w K mg base A outer s H →
    PySem.BindsTo s fd args (ps.zip us) → Vals vs us → sp vs H Q E → codeAny (model P w) A (.call (.ref f) args) (CR (L2.CX P w) outer P w H s Q E) s
theorem FnG.mono {P : Program} {w : World} {K : PySem.W.Frag} {mg : Str → Option Value} {base : Heap} {j k : Nat} {f : Addr} {fd : FuncData} {ps : List Str} {sp : Sp} (F : FnG P w K mg base j f fd ps sp) (h : j ≤ k) : FnG P w K mg base k f fd ps sp :=
  ⟨F.len, fun A outer s H args us vs Q E hr => F.run A outer s H args us vs Q E (hr.mono h)⟩
theorem fnG_of {P : Program} {w : World} {K : PySem.W.Frag} {mg : Str → Option Value} {base : Heap} {x qual : Str} {st : Stmt} {f : Addr} {fd : FuncData} {N ps : List Str} {k : Nat} {sp : Sp} (F : Fun K x qual st f fd) (S : FnScope N ps (defScope st)) (len : ∀ vs H Q E, sp vs H Q E → vs.length = ps.length)
    (hbody : ∀ (cdv : Value) (A : Around) (outer : List Env) (s : Shared) (H : Hp) (vs : List V) (Q : VK) (E : XK), Room k (A.deeper (PyProof.Rows.envOfC qual (defScope st) s.heap.objs.size f cdv)) → A.guards = some [] → sp vs H Q E →
      ∃ t, PSs (cxOf (L2.CX P w) P w K mg base N qual (defScope st) f cdv A outer s H E) (defBody st) t ∧ t { nx := fun _ H' => Q .non H', rt := Q } (L2.start N vs) H) : FnG P w K mg base (k + 1) f fd ps sp := by
  obtain ⟨oc, od, kV, doc, pm, an, cdv, ct, osl, rfl, lk, hcd⟩ := F.ex
  refine ⟨len, fun A outer s H args us vs Q E hr hg e0 hb r hsp => ?_⟩
  have hlen := len _ _ _ _ hsp
  have kb : ∀ b o, base.get? b = some o → s.heap.get? b = some o := fun b o e => (e0.bs b o e).1
  have KX : K.In s.heap := e0.mod.kin.keeps kb
  have nl : s.heap.NoLimit := e0.mod.nolimit.keeps kb
  refine codeAny_call_function hr.depth (KX _ _ lk) rfl S.co S.gen rfl (PySem.W.codeRec_of KX hcd) (hb _ _ _ _ ?_)
  refine wpAny_newFunctionEnv_cells S.kind (fun y hy => ?_) fun env he s1 xx => ?_
  · obtain ⟨y1, y2⟩ := y
    rcases S.par y1 (List.of_mem_zip hy).1 with z | z
    · exact .inl z
    · exact .inr ⟨z, PySem.W.cellsFrom_some _ _ _ (.inl z)⟩
  subst he
  refine ⟨nl.keeps xx.toInCall.keep, codeAny_func ?_⟩
  obtain ⟨t, ht, hq⟩ := hbody cdv A outer s H vs Q E (hr.deeper _) hg hsp
  have I := inv_start (CX := L2.CX P w) (E := E) S hr.hd e0 hlen r xx
  refine wpAny_mono (ht.run [] s1 _ H _ I hq) (fun fl s' z => ?_) fun _ _ z => z
  match fl, z with
  | .ret u, ⟨v, σ', H', J, rv, q⟩ => exact ⟨v, H', J.os, J.bare, J.base, J.hok, rv, q⟩
  | .next, ⟨σ', H', J, q⟩ => exact ⟨.non, H', J.os, J.bare, J.base, J.hok, rfl, q⟩
  | .brk, ⟨_, _, _, q⟩ => exact q.elim
  | .cont, ⟨_, _, _, q⟩ => exact q.elim
section
variable {X : Cx} {k : Nat} {f : Addr} {fd : FuncData} {ps : List Str} {sp : Sp} {E : St → XK} {x : Str} {p pos : Pos} {e : Expr} {es : List Expr} {t : TA}
theorem run_fnG {pins : List (Addr × Obj)} {σ : St} {H : Hp} {s : Shared} {Q : VK} {us : List Value} {vs : List V} (F : FnG X.prog X.w X.K X.mg X.base k f fd ps sp) (hr : Room k X.A) (hgd : X.A.guards = some []) (hb : Binds X.K fd ps [])
    (hx : PassesAt (L2.CX X.prog X.w) X σ (E σ)) (I : Inv X pins σ H s) (r : Vals vs us) (h : sp vs H Q (E σ)) : wpAny (model X.prog X.w) X.A (call (.ref f) us) (EP X pins σ Q) X.xe s := by
  have b := hb s us I.kIn (by rw [List.append_nil, ← r.length]; exact F.len _ _ _ _ h)
  rw [List.append_nil] at b
  refine wpAny_call (codeAny_mono (F.run X.A X.stack s H ⟨us, []⟩ us vs Q (E σ) hr hgd I.env0 b r h) fun rr s' z => ?_)
  match rr, z with
  | .error e, z => exact hx pins H s e s' I z
  | .ok (.ret u), z => exact I.after z
theorem pe_callG (F : FnG X.prog X.w X.K X.mg X.base k f fd ps sp) (hr : Room k X.A) (hgd : X.A.guards = some []) (hg : Gl X x) (hm : X.mg x = some (.ref f)) (hk : PySem.W.keepIn X.K (.ref f) = true) (hb : Binds X.K fd ps [])
    (hx : ∀ σ, PassesAt (L2.CX X.prog X.w) X σ (E σ)) (ha : PA X (e :: es) t) (hdb : (x == ("__debug__" : Str)) = false := by decide) (he : starEach (e :: es) X.env = (false, eval e X.env) :: starEach es X.env := by rfl)
    (hpl : (backTo pos (starEach es X.env)).any (·.1) = false := by rfl) : PE X (.Call (.Name x p) (e :: es) [] pos) (tCallS sp E t) :=
  ⟨fun pins s σ H Q I h => wpAny_Call_Name_kw (ld_glob I hg hm (PySem.W.callWith_K (h₀ := X.base) I.ok.mod.kin hk (thn (ha.run pos pins s σ H _ I h) fun us s1 ⟨vs, H1, I1, r, q⟩ => ⟨I1.kIn, run_fnG F hr hgd hb (hx σ) I1 r q⟩) he hpl) hdb)⟩
end
section
variable {X : Cx} {W : WX} {m : Nat → Bool} {a b c e : Expr} {es : List Expr} {ta tb tc te : DTE} {t : DTA} {bs : List (Option Nat)} {pos p : Pos}
def xCall (m : DSp) (bs : List (Option Nat)) (t : DTA) : DTE := fun g Q E => t g (fun τs g1 => m τs (fun τ us => Q τ (restore g1 bs us)) (fun c fs us => E c fs (restore g1 bs us))) E
theorem backOk_len {σ : St} : ∀ {vs : List V} {bs : List (Option Nat)}, BackOk σ vs bs → vs.length = bs.length
  | [], [], _ => rfl
  | v :: vs, none :: bs, h => by simp [backOk_len (vs := vs) (bs := bs) h]
  | v :: vs, some j :: bs, h => by simp [backOk_len (vs := vs) (bs := bs) h.2]
  | [], _ :: _, h => False.elim h
  | _ :: _, [], h => False.elim h
theorem call_sp {B : Bs} {σ : St} {H : Hp} {Φ : Its} {lim : List Addr} {g1 : Ev} {E : XP} {sp : DSp} {vs : List V} {τs : List T} {Q : VK} (hm : MonoD sp) (hx : liftX X.K B W σ E) (hl : vs.length = τs.length) (hb : BackOk σ vs bs)
    (r : RepG X.K B lim σ H g1 (vs.zip τs ++ Φ)) (q : sp τs (fun τ us => ∀ v H', RepG X.K B lim σ H' (restore g1 bs us) ((v, τ) :: Φ) → Q v H') (fun c fs us => E c fs (restore g1 bs us))) :
    spD X.K X.mg (bs.map Option.isSome) sp vs H Q (WE (upW X.mg W) σ) := by
  obtain ⟨F, zs, fp, en, oz, f, hlim⟩ := r
  have p1 : (zs ++ (vs.zip τs ++ Φ)).Perm (vs.zip τs ++ (zs ++ Φ)) := by
    rw [← List.append_assoc, ← List.append_assoc]
    exact List.Perm.append_right _ List.perm_append_comm
  obtain ⟨fp', pf, o'⟩ := oz.perm p1
  obtain ⟨fpA, fpR, rfl, oA, oR⟩ := o'.split
  have f' := f.perm (List.Perm.append_left lim pf)
  have nd := (List.nodup_append.mp f'.nd).2.1
  refine ⟨τs, F, fpA, OwnL.unzip hl oA, (List.nodup_append.mp nd).1, fun a ha => f'.off a (List.mem_append_right _ (List.mem_append_left _ ha)), f'.trk, by rw [List.length_map]; exact backOk_len hb, ?_⟩
  refine hm _ _ _ _ _ (fun τ us q1 v H' aft => ?_) (fun c fs us q1 d H' cv hs aft xd => ?_) q
  · obtain ⟨F', f2, hlen, o2, fn⟩ := aft
    have r2 := call_frame en oR f' hlim o2 fn
    rw [List.append_assoc] at r2
    exact q1 v H' (RepG.restore hb hlen r2)
  · obtain ⟨F', f2, hlen, o2, fn⟩ := aft
    have r2 := call_frame en oR f' hlim o2 fn
    rw [List.append_assoc] at r2
    exact ⟨c, hs, hx c fs _ d H' (RepG.restore hb hlen r2).only xd q1⟩
theorem xCall_mono {sp : DSp} (hm : MonoD sp) (ht : ∀ g Q Q' E E', (∀ τs g', Q τs g' → Q' τs g') → (∀ c fs g', E c fs g' → E' c fs g') → t g Q E → t g Q' E') :
    ∀ g Q Q' E E', (∀ τ g', Q τ g' → Q' τ g') → (∀ c fs g', E c fs g' → E' c fs g') → xCall sp bs t g Q E → xCall sp bs t g Q' E' := fun g Q Q' E E' hq he q =>
  ht _ _ _ _ _ (fun τs g1 q1 => hm _ _ _ _ _ (fun τ us z => hq _ _ z) (fun c fs us z => he _ _ _ z) q1) he q
theorem d_call {sp : DSp} {k : Nat} {f : Addr} {fd : FuncData} {ps : List Str} {x : Str} {fl : List Bool} (F : FnG X.prog X.w X.K X.mg X.base k f fd ps (spD X.K X.mg fl sp)) (hm : MonoD sp) (hr : Room k X.A) (hgd : X.A.guards = some []) (hg : Gl X x) (hmg : X.mg x = some (.ref f))
    (hk : PySem.W.keepIn X.K (.ref f) = true) (hb : Binds X.K fd ps []) (tk : Takes X (upW X.mg W)) (ha : DA X W (e :: es) bs t) (hfl : bs.map Option.isSome = fl := by rfl) (hdb : (x == ("__debug__" : Str)) = false := by decide)
    (he : starEach (e :: es) X.env = (false, eval e X.env) :: starEach es X.env := by rfl) (hpl : (backTo pos (starEach es X.env)).any (·.1) = false := by rfl) : DE X W (.Call (.Name x p) (e :: es) [] pos) (xCall sp bs t) := by
  subst hfl
  refine ⟨fun B => PE.imp (pe_callG F hr hgd hg hmg hk hb (fun σ => passAt tk σ) (ha.run B) hdb he hpl) fun σ H Q ⟨Φ, lim, g, E, r, hx, q⟩ => ?_, xCall_mono hm ha.mono⟩
  exact ⟨Φ, lim, g, E, r, hx, ha.mono _ _ _ _ _ (fun τs g1 q1 vs H1 hl hb r1 => call_sp hm hx hl hb r1 (hm _ _ _ _ _ (fun τ us z => z) (fun _ _ _ z => z) q1)) (fun _ _ _ z => z) q⟩
end
def outs : List Nat → Ev → Option (List T)
  | [], _ => some []
  | i :: is, g => match g[i]? with
    | some (some t) => (outs is (g.set i none)).map (t :: ·)
    | _ => none
def slots : Nat → List Bool → List Nat
  | _, [] => []
  | n, true :: bs => n :: slots (n + 1) bs
  | n, false :: bs => slots (n + 1) bs
def mutOf (fl : List Bool) : Nat → Bool := fun i => fl.getD i false
def svs : List Nat → St → Option (List V)
  | [], _ => some []
  | i :: is, σ => match σ[i]? with
    | some (some v) => (svs is σ).map (v :: ·)
    | _ => none
theorem svs_congr {σ σ' : St} : ∀ {is : List Nat}, (∀ i ∈ is, σ'[i]? = σ[i]?) → svs is σ' = svs is σ
  | [], _ => rfl
  | i :: is, h => by
    unfold svs
    rw [h i List.mem_cons_self, svs_congr fun j hj => h j (List.mem_cons_of_mem _ hj)]
theorem RepG.outs {K : PySem.W.Frag} {B : Bs} {lim : List Addr} {σ : St} {H : Hp} : ∀ {is : List Nat} {g : Ev} {Φ : Its} {us : List T} {ws : List V}, outs is g = some us → svs is σ = some ws → RepG K B lim σ H g Φ →
    ∃ g', us.length = ws.length ∧ RepG K B lim σ H g' (ws.zip us ++ Φ)
  | [], g, Φ, us, ws, e, ew, h => by
    cases e
    cases ew
    exact ⟨g, rfl, h⟩
  | i :: is, g, Φ, us, ws, e, ew, h => by
    unfold DL.outs at e
    split at e
    · rename_i t ht
      cases eo : DL.outs is (g.set i none) with
      | none => rw [eo] at e; cases e
      | some us' =>
        rw [eo] at e
        cases e
        obtain ⟨v, hv, r1⟩ := h.move ht
        unfold svs at ew
        rw [hv] at ew
        cases em : svs is σ with
        | none => rw [em] at ew; cases ew
        | some ws' =>
          rw [em] at ew
          cases ew
          obtain ⟨g', hl, r2⟩ := RepG.outs (ws := ws') eo em r1
          refine ⟨g', by simp [hl], r2.perm ?_⟩
          exact List.perm_middle
    · cases e
theorem slots_get {rest : St} : ∀ {fl : List Bool} {n : Nat} {pre : St} {vs' : List V}, pre.length = n → vs'.length = fl.length → svs (slots n fl) (pre ++ vs'.map some ++ rest) = some (pick fl vs')
  | [], n, pre, vs', _, h => by
    have : vs' = [] := List.eq_nil_of_length_eq_zero h
    subst this
    rfl
  | b :: fl, n, pre, [], _, h => by cases h
  | true :: fl, n, pre, v :: vs', hp, h => by
    have ih := slots_get (rest := rest) (fl := fl) (n := n + 1) (pre := pre ++ [some v]) (vs' := vs') (by simp [hp]) (by simpa using h)
    have e1 : pre ++ (v :: vs').map some ++ rest = (pre ++ [some v]) ++ vs'.map some ++ rest := by simp
    rw [e1]
    have e2 : ((pre ++ [some v]) ++ vs'.map some ++ rest)[n]? = some (some v) := by
      subst hp
      simp
    show svs (n :: slots (n + 1) fl) _ = _
    unfold svs
    rw [e2, ih]
    rfl
  | false :: fl, n, pre, v :: vs', hp, h => by
    have ih := slots_get (rest := rest) (fl := fl) (n := n + 1) (pre := pre ++ [some v]) (vs' := vs') (by simp [hp]) (by simpa using h)
    have e1 : pre ++ (v :: vs').map some ++ rest = (pre ++ [some v]) ++ vs'.map some ++ rest := by simp
    rw [e1]
    exact ih
theorem slots_mem : ∀ {fl : List Bool} {n i : Nat}, i ∈ slots n fl → n ≤ i ∧ fl.getD (i - n) false = true
  | true :: fl, n, i, h => by
    rcases List.mem_cons.mp h with e | h
    · subst e
      simp
    · obtain ⟨h1, h2⟩ := slots_mem h
      refine ⟨by omega, ?_⟩
      have : i - n = (i - (n + 1)) + 1 := by omega
      rw [this]
      exact h2
  | false :: fl, n, i, h => by
    obtain ⟨h1, h2⟩ := slots_mem (fl := fl) (n := n + 1) h
    refine ⟨by omega, ?_⟩
    have : i - n = (i - (n + 1)) + 1 := by omega
    rw [this]
    exact h2
def startE (n : Nat) (ts : List T) : Ev := ts.map some ++ List.replicate (n - ts.length) none
def retD (fl : List Bool) (Q : T → List T → Prop) : T → Ev → Prop := fun τ g => match outs (slots 0 fl) g with
  | some us => Q τ us
  | none => False
def exD (fl : List Bool) (E : Value → List (Str × V) → List T → Prop) : XP := fun c fs g => match outs (slots 0 fl) g with
  | some us => E c fs us
  | none => False
def bodyEnds (fl : List Bool) (Q : T → List T → Prop) (E : Value → List (Str × V) → List T → Prop) : DEnds := { nx := fun g => retD fl Q (.leaf .non) g, rt := retD fl Q, ex := exD fl E }
theorem env_start {K : PySem.W.Frag} {F : Addr → Prop} {H : Hp} : ∀ {vs : List V} {ts : List T} {fp : List Addr}, OwnL K F H vs ts fp → ∀ k : Nat, EnvIs (vs.map some ++ List.replicate k none) (ts.map some ++ List.replicate k none) (vs.zip ts) := by
  intro vs ts fp h k
  have rep : ∀ k : Nat, EnvIs (List.replicate k none) (List.replicate k none) [] := fun k => by
    induction k with
    | zero => exact .nil
    | succ k ih => exact .skip ih
  have e := h.length
  clear h
  induction vs generalizing ts with
  | nil =>
    have : ts = [] := List.eq_nil_of_length_eq_zero e.symm
    subst this
    exact rep k
  | cons v vs ih =>
    cases ts with
    | nil => cases e
    | cons t ts => exact .have (ih (by simpa using e))
section
variable {P : Program} {w : World} {K : PySem.W.Frag} {mg : Str → Option Value} {base : Heap}
theorem fnD_of {x qual : Str} {st : Stmt} {f : Addr} {fd : FuncData} {N ps : List Str} {k : Nat} {sp : DSp} {fl : List Bool} (F : Fun K x qual st f fd) (S : FnScope N ps (defScope st)) (hfl : fl.length = ps.length)
    (hbody : ∀ (cdv : Value) (A : Around) (outer : List Env) (s : Shared) (H : Hp) (E : XK), Room k (A.deeper (PyProof.Rows.envOfC qual (defScope st) s.heap.objs.size f cdv)) → A.guards = some [] →
      ∃ t, DSs (cxOf (L2.CX P w) P w K mg base N qual (defScope st) f cdv A outer s H E) (fun x d _ H => ∀ cv, sym mg x cv → E cv d H) (mutOf fl) (defBody st) t ∧
        ∀ ts Q' E', ts.length = ps.length → sp ts Q' E' → t (bodyEnds fl Q' E') (startE N.length ts)) :
    FnG P w K mg base (k + 1) f fd ps (spD K mg fl sp) := by
  refine fnG_of F S (fun vs H Q E h => ?_) (fun cdv A outer s H vs Q E hr hgd h => ?_)
  · obtain ⟨ts, F, fp, o, _, _, _, hl, _⟩ := h
    omega
  · obtain ⟨ts, F0, fp, o, nd, off, trk, hl, hq⟩ := h
    obtain ⟨t, ht, hb⟩ := hbody cdv A outer s H E hr hgd
    have hlt : ts.length = ps.length := by rw [← o.length]; omega
    refine ⟨_, ht.run ⟨H, F0, fp⟩ (L2.start N vs), [], [], startE N.length ts, exD fl (fun c fs us => ∀ d H' cv, sym mg c cv → Aft K F0 fp H (pick fl vs) H' us [] → XD d fs H' → E cv d H'), ?_, kept_refl, ?_, ht.mono _ _ _ ?_ (hb ts _ _ hlt hq)⟩
    · refine ⟨F0, vs.zip ts, fp, ?_, ?_, ?_, fun _ z => nomatch z⟩
      · have := env_start o (N.length - vs.length)
        unfold L2.start startE
        rw [← o.length]
        exact this
      · rw [List.append_nil]
        exact o.zip
      · exact ⟨nd, off, trk, fun _ z => z, fun a o e _ => e, fun a z => .inl z, fun a z => .inl z, fun _ _ e => e⟩
    · -- exceptions
      intro σ hk c fs g d H' r xd q cv hs
      unfold exD at q
      split at q
      · rename_i us hus
        have hw : svs (slots 0 fl) σ = some (pick fl vs) := by
          have e1 := slots_get (rest := List.replicate (N.length - vs.length) none) (fl := fl) (n := 0) (pre := []) (vs' := vs) rfl hl
          rw [List.nil_append] at e1
          rw [← e1]
          refine svs_congr fun i hi => ?_
          have := (slots_mem hi).2
          exact hk.2 i (by unfold mutOf; simpa using this)
        obtain ⟨g', hlen, r'⟩ := r.outs hus hw
        obtain ⟨F', zs, f', en, oz, f, _⟩ := r'
        obtain ⟨f1, f2, rfl, _, o2⟩ := oz.split
        exact q d H' cv hs ⟨F', f2, hlen.symm, o2, f.sub (by rw [List.nil_append]; exact List.sublist_append_right _ _)⟩ xd
      · exact q.elim
    · have ret : ∀ τ g, retD fl (fun t us => ∀ v H', Aft K F0 fp H (pick fl vs) H' us [(v, t)] → Q v H') τ g → ∀ v σ' H', RepG K ⟨H, F0, fp⟩ [] σ' H' g [(v, τ)] → Kept (mutOf fl) (L2.start N vs) σ' → Q v H' := by
        intro τ g q v σ H' r hk
        unfold retD at q
        split at q
        · rename_i us hus
          have hw : svs (slots 0 fl) σ = some (pick fl vs) := by
            have e1 := slots_get (rest := List.replicate (N.length - vs.length) none) (fl := fl) (n := 0) (pre := []) (vs' := vs) rfl hl
            rw [List.nil_append] at e1
            rw [← e1]
            refine svs_congr fun i hi => ?_
            have := (slots_mem hi).2
            exact hk.2 i (by unfold mutOf; simpa using this)
          obtain ⟨g', hlen, r'⟩ := r.outs hus hw
          obtain ⟨F', zs, f', en, oz, f, _⟩ := r'
          obtain ⟨f1, f2, rfl, _, o2⟩ := oz.split
          exact q v H' ⟨F', f2, hlen.symm, o2, f.sub (by rw [List.nil_append]; exact List.sublist_append_right _ _)⟩
        · exact q.elim
      exact ⟨fun g q σ' H' r hk => ret _ g q .non σ' H' r.addLeaf hk, fun τ g q v σ' H' r hk => ret τ g q v σ' H' r hk, fun _ _ _ z => z, fun _ z => z.elim, fun _ z => z.elim⟩
end
end DL
set_option Elab.async false
set_option linter.all false
set_option maxRecDepth 100000
set_option maxHeartbeats 4000000
namespace DL
open PySem L2
section
variable {K : PySem.W.Frag} {B : Bs} {lim : List Addr} {σ : St} {H H' : Hp} {g : Ev} {Φ Ψ : Its}
theorem perm_at {α : Type} : ∀ {l : List α} {i : Nat} {x : α}, l[i]? = some x → ∃ r, l.Perm (x :: r)
  | [], _, _, h => by simp at h
  | a :: l, 0, x, h => by
    simp at h
    subst h
    exact ⟨l, .refl _⟩
  | a :: l, i + 1, x, h => by
    obtain ⟨r, p⟩ := perm_at (l := l) (i := i) (x := x) (by simpa using h)
    exact ⟨a :: r, (List.Perm.cons _ p).trans (List.Perm.swap _ _ _)⟩
theorem RepG.one {zs : Its} {i : Nat} {x : V × T} (h : RepG K B lim σ H g (zs ++ Φ)) (e : zs[i]? = some x) : RepG K B lim σ H g (x :: Φ) := by
  obtain ⟨r, p⟩ := perm_at e
  have h1 : RepG K B lim σ H g (r ++ (x :: Φ)) := h.perm (((List.Perm.append_right Φ p)).trans List.perm_middle.symm)
  exact h1.dropTs
theorem RepG.dup {v : V} {t : T} (h : RepG K B lim σ H g ((v, t) :: Φ)) (hf : frz t = t) : RepG K B lim σ H g ((v, t) :: (v, t) :: Φ) := by
  obtain ⟨F, zs, fp, en, o, f, hl⟩ := h
  obtain ⟨fp', pf, o'⟩ := o.perm (List.perm_middle (a := (v, t)))
  obtain ⟨f1, f2, rfl, p1, o2⟩ := OwnZ.uncons (zs := zs ++ Φ) o'
  obtain rfl := p1.nofp _ hf
  have f' := f.perm (List.Perm.append_left lim pf)
  have hz : OwnZ K F H ((v, t) :: (v, t) :: (zs ++ Φ)) ([] ++ ([] ++ f2)) := .cons p1 (.cons p1 o2)
  refine rep_items (ds := []) en hz f' hl ?_
  rw [List.nil_append]
  exact (List.Perm.cons _ List.perm_middle.symm).trans List.perm_middle.symm
theorem RepG.dupAt {zs : Its} {i : Nat} {v : V} {t : T} (h : RepG K B lim σ H g (zs ++ Φ)) (e : zs[i]? = some (v, t)) (hf : frz t = t) : RepG K B lim σ H g ((v, t) :: (zs ++ Φ)) := by
  obtain ⟨r, p⟩ := perm_at e
  have h1 := (h.perm (List.Perm.append_right Φ p)).dup hf
  exact h1.perm (List.Perm.cons _ (List.Perm.append_right Φ p.symm))
theorem frzL_get : ∀ {ts : List T} {i : Nat} {t : T}, (frzL ts)[i]? = some t → frz t = t
  | [], _, _, h => by simp [frzL] at h
  | a :: ts, 0, t, h => by
    simp only [frzL, List.getElem?_cons_zero, Option.some.injEq] at h
    subst h
    exact frz_frz a
  | a :: ts, i + 1, t, h => frzL_get (ts := ts) (i := i) (by simpa [frzL] using h)
theorem frzL_length : ∀ ts : List T, (frzL ts).length = ts.length
  | [] => rfl
  | _ :: ts => by simp [frzL, frzL_length ts]
theorem zip_get {α β : Type} : ∀ {l : List α} {r : List β} {i : Nat} {b : β}, l.length = r.length → r[i]? = some b → ∃ a, l[i]? = some a ∧ (l.zip r)[i]? = some (a, b)
  | [], [], _, _, _, h => by simp at h
  | a :: l, b' :: r, 0, b, _, h => by
    simp at h
    subst h
    exact ⟨a, rfl, rfl⟩
  | a :: l, b' :: r, i + 1, b, e, h => by
    obtain ⟨x, e1, e2⟩ := zip_get (l := l) (r := r) (i := i) (b := b) (by simpa using e) (by simpa using h)
    exact ⟨x, by simpa using e1, by simpa using e2⟩
  | [], _ :: _, _, _, e, _ => by cases e
  | _ :: _, [], _, _, _, h => by simp at h
theorem RepG.parts {v : V} {o : Bool} {s : Sh} {ts : List T} (h : RepG K B lim σ H g ((v, .node o s ts) :: Φ)) :
    ∃ a vs, v = .ref a ∧ vs.length = ts.length ∧ (Rd H a (s.mk a vs) ∨ Konst K a vs s) ∧ RepG K B lim σ H g (vs.zip (frzL ts) ++ (v, .node false s (frzL ts)) :: Φ) := by
  have h1 := h.freezeT
  rw [show frz (T.node o s ts) = .node false s (frzL ts) by simp [frz]] at h1
  obtain ⟨a, vs, e, hl, hr, r⟩ := h1.kids
  exact ⟨a, vs, e, by rw [hl, frzL_length], hr, r⟩
theorem RepG.pinned {v : V} {o : Bool} {s : Sh} {ts : List T} (h : RepG K B lim σ H g ((v, .node o s ts) :: Φ)) :
    ∃ a vs, v = .ref a ∧ vs.length = ts.length ∧ RepG K B lim σ H g ((v, .pin s vs) :: vs.zip (frzL ts) ++ Φ) := by
  have h1 := h.freezeT
  rw [show frz (T.node o s ts) = .node false s (frzL ts) by simp [frz]] at h1
  obtain ⟨F, zs, fp, en, oz, f, hl⟩ := h1
  obtain ⟨fp', pf, o'⟩ := oz.perm (List.perm_middle (a := (v, T.node false s (frzL ts))))
  obtain ⟨f1, f2, rfl, p1, o2⟩ := OwnZ.uncons (zs := zs ++ Φ) o'
  have f' := f.perm (List.Perm.append_left lim pf)
  have fin : ∀ vs : List V, f1 = [] → OwnP K F H v (.pin s vs) [] → OwnL K F H vs (frzL ts) [] → RepG K B lim σ H g ((v, .pin s vs) :: vs.zip (frzL ts) ++ Φ) := fun vs e pv hk => by
    subst e
    have oz2 : OwnZ K F H ((v, T.pin s vs) :: (vs.zip (frzL ts) ++ (zs ++ Φ))) ([] ++ ([] ++ f2)) := .cons pv (hk.zip.append o2)
    refine rep_items (ds := []) en oz2 f' hl ?_
    rw [List.nil_append, List.cons_append]
    refine List.Perm.trans ?_ List.perm_middle.symm
    refine List.Perm.cons _ ?_
    rw [← List.append_assoc, ← List.append_assoc]
    exact List.Perm.append_right _ List.perm_append_comm
  cases p1 with
  | fz hf hr hk => exact ⟨_, _, rfl, by rw [hk.length, frzL_length], fin _ rfl (.pinF hf (.inl hr)) hk⟩
  | kz hc _ hk => exact ⟨_, _, rfl, by rw [hk.length, frzL_length], fin _ rfl (.pinK hc) hk⟩
  | tk hr hk => exact ⟨_, _, rfl, by rw [hk.length, frzL_length], fin _ rfl (.pinT hr) hk⟩
theorem RepG.pinAt {v : V} {s : Sh} {vs : List V} (h : RepG K B lim σ H g ((v, .pin s vs) :: Φ)) (hs : ∀ n, s ≠ Sh.exc n := by intro n z; cases z) : ∃ a, v = .ref a ∧ (Rd H a (s.mk a vs) ∨ Konst K a vs s) := by
  obtain ⟨F, zs, fp, en, oz, f, hl⟩ := h
  obtain ⟨fp', pf, o'⟩ := oz.perm (List.perm_middle (a := (v, T.pin s vs)))
  obtain ⟨f1, f2, rfl, p1, o2⟩ := OwnZ.uncons (zs := zs ++ Φ) o'
  cases p1 with
  | pinF hf hr => exact ⟨_, rfl, .inl hr⟩
  | pinK hc => exact ⟨_, rfl, .inr hc⟩
  | pinT hr => exact ⟨_, rfl, .inl (.inl hr)⟩
  | fx hf hr hv => exact absurd rfl (hs _)
def ExcIn (K : PySem.W.Frag) (H : Hp) (a : Addr) : Prop := (∃ D, H a = some (ExO (.ref D) a) ∧ ExcV K D) ∨ H a = some (.ext fun _ => False) ∨ ∃ o, H a = some (.frz o (.ext fun _ => False))
theorem RepG.excAt {v : V} {n : Nat} {vs : List V} (h : RepG K B lim σ H g ((v, .pin (.exc n) vs) :: Φ)) : ∃ a, v = .ref a ∧ ExcIn K H a := by
  obtain ⟨F, zs, fp, en, oz, f, hl⟩ := h
  obtain ⟨fp', pf, o'⟩ := oz.perm (List.perm_middle (a := (v, T.pin (.exc n) vs)))
  obtain ⟨f1, f2, rfl, p1, o2⟩ := OwnZ.uncons (zs := zs ++ Φ) o'
  cases p1 with
  | pinF hf hr =>
    rcases hr with hr | ⟨o, hr⟩
    · exact ⟨_, rfl, .inr (.inl hr)⟩
    · exact ⟨_, rfl, .inr (.inr ⟨o, hr⟩)⟩
  | pinK hc => exact hc.elim
  | fx hf hr hv => exact ⟨_, rfl, .inl ⟨_, hr, hv⟩⟩
end
abbrev DTG := T → Ev → (Ev → Prop) → Prop
abbrev DTGs := List T → Ev → (Ev → Prop) → Prop
def liftG (K : PySem.W.Frag) (B : Bs) (m : Nat → Bool) (σ0 : St) (gt : DTG) : TG := fun v σ H Q => ∃ (Φ : Its) (lim : List Addr) (g : Ev) (τ : T), RepG K B lim σ H g ((v, τ) :: Φ) ∧ Kept m σ0 σ ∧
  gt τ g (fun g' => ∀ σ' H', RepG K B lim σ' H' g' Φ → Kept m σ0 σ' → Q σ' H')
def liftGs (K : PySem.W.Frag) (B : Bs) (m : Nat → Bool) (σ0 : St) (gt : DTGs) : TGs := fun vs σ H Q => ∃ (Φ : Its) (lim : List Addr) (g : Ev) (τs : List T), vs.length = τs.length ∧ RepG K B lim σ H g (vs.zip τs ++ Φ) ∧ Kept m σ0 σ ∧
  gt τs g (fun g' => ∀ σ' H', RepG K B lim σ' H' g' Φ → Kept m σ0 σ' → Q σ' H')
structure DG (X : Cx) (m : Nat → Bool) (tg : Expr) (gt : DTG) : Prop where
  run : ∀ B σ0, PG X tg (liftG X.K B m σ0 gt)
  mono : ∀ τ g Q Q', (∀ g', Q g' → Q' g') → gt τ g Q → gt τ g Q'
structure DGs (X : Cx) (m : Nat → Bool) (tgs : List Expr) (gt : DTGs) : Prop where
  run : ∀ B σ0, PGs X tgs (liftGs X.K B m σ0 gt)
  mono : ∀ τs g Q Q', (∀ g', Q g' → Q' g') → gt τs g Q → gt τs g Q'
theorem PG.imp {X : Cx} {e : Expr} {t t' : TG} (h : PG X e t) (i : ∀ v σ H Q, t' v σ H Q → t v σ H Q) : PG X e t' := ⟨fun pins s σ H v u Q I r hw => h.run pins s σ H v u Q I r (i v σ H Q hw)⟩
theorem PGs.imp {X : Cx} {e : List Expr} {t t' : TGs} (h : PGs X e t) (i : ∀ v σ H Q, t' v σ H Q → t v σ H Q) : PGs X e t' := ⟨fun pins s σ H v u Q I r hw => h.run pins s σ H v u Q I r (i v σ H Q hw)⟩
section
variable {X : Cx} {W : WX} {m : Nat → Bool} {pos : Pos}
def gNm (own : Bool) (i : Nat) : DTG := fun τ g Q => Q (g.set i (some (if own = true then τ else frz τ)))
theorem dg_name {i : Nat} {x : Str} (own : Bool) (hN : X.N.Nodup) (hi : X.N[i]? = some x) (hx : Loc X.env.scope x) (hm : m i = false) (hf : X.fn x = true ∨ X.env.scope.names.lookup x = some .local := by first | exact .inl rfl | exact .inr rfl | assumption) : DG X m (.Name x pos) (gNm own i) := by
  refine ⟨fun B σ0 => PG.imp (pg_name hN hi hx hf) fun v σ H Q ⟨Φ, lim, g, τ, r, hk, q⟩ => ?_, fun τ g Q Q' h q => h _ q⟩
  refine q (σ.set i (some v)) H ?_ (hk.set hm)
  cases own with
  | true => exact r.put'
  | false => exact r.freezeT.put'
def gNl : DTGs := fun τs g Q => match τs with
  | [] => Q g
  | _ => False
def gCn (t : DTG) (u : DTGs) : DTGs := fun τs g Q => match τs with
  | τ :: r => t τ g fun g' => u r g' Q
  | [] => False
theorem dgs_nil : DGs X m [] gNl := by
  refine ⟨fun B σ0 => PGs.imp pgs_nil fun vs σ H Q ⟨Φ, lim, g, τs, hl, r, hk, q⟩ => ?_, fun τs g Q Q' h q => ?_⟩
  · cases τs with
    | nil =>
      have : vs = [] := List.eq_nil_of_length_eq_zero hl
      subst this
      exact ⟨rfl, q σ H r hk⟩
    | cons => exact q.elim
  · cases τs with
    | nil => exact h _ q
    | cons => exact q.elim
theorem dgs_cons {e : Expr} {es : List Expr} {t : DTG} {u : DTGs} (h1 : DG X m e t) (h2 : DGs X m es u) (hs : (assignEach (e :: es) X.env).map (·.2) = assign e X.env :: (assignEach es X.env).map (·.2) := by rfl) : DGs X m (e :: es) (gCn t u) := by
  refine ⟨fun B σ0 => PGs.imp (pgs_cons (h1.run B σ0) (h2.run B σ0) hs) fun vs σ H Q ⟨Φ, lim, g, τs, hl, r, hk, q⟩ => ?_, fun τs g Q Q' h q => ?_⟩
  · cases τs with
    | nil => exact q.elim
    | cons τ τs =>
      cases vs with
      | nil => cases hl
      | cons v vs =>
        refine ⟨v, vs, rfl, vs.zip τs ++ Φ, lim, g, τ, r, hk, h1.mono _ _ _ _ (fun g' q' σ' H' r' hk' => ?_) q⟩
        exact ⟨Φ, lim, g', τs, by simpa using hl, r', hk', q'⟩
  · cases τs with
    | nil => exact q.elim
    | cons τ τs => exact h1.mono _ _ _ _ (fun g' q' => h2.mono _ _ _ _ h q') q
def sAsg (te : DTE) (gt : DTG) : DTS := fun D g => te g (fun τ g1 => gt τ g1 D.nx) D.ex
theorem ds_asg {tg e : Expr} {te : DTE} {gt : DTG} (he : DE X W e te) (hg : DG X m tg gt) (hs : swapsWithSole [tg] e pos.line X.env = pure false := by rfl) (hw : swappedStores [tg] e X.env = pure none := by rfl)
    (h1 : (assignEach [tg] X.env).map (·.2) = [assign tg X.env] := by rfl) : DS X W m (.Assign [tg] e pos) (sAsg te gt) := by
  refine .mk' (fun B σ0 => ps_asg (he.run B) (hg.run B σ0) hs hw h1) (fun B σ0 D σ H Φ lim g E r hk hX q => ?_) fun D D' g h q => he.mono _ _ _ _ _ (fun τ g1 q1 => hg.mono _ _ _ _ h.nx q1) h.ex q
  refine ⟨Φ, lim, g, E, r, hX σ hk, he.mono _ _ _ _ _ (fun τ g1 q1 v H1 r1 => ?_) (fun _ _ _ z => z) q⟩
  exact ⟨Φ, lim, g1, τ, r1, hk, hg.mono _ _ _ _ (fun g' q' σ' H' r' hk' => q' σ' H' r' hk') q1⟩
def sPar (i j : Nat) (t : DTA) : DTS := fun D g => t g (fun τs g1 => match τs with
  | [x, y] => D.nx ((g1.set i (some (frz x))).set j (some (frz y)))
  | _ => False) D.ex
theorem ds_par {i j : Nat} {x y : Str} {a b : Expr} {t : DTA} {bs : List (Option Nat)} {px py pt : Pos} {kt k2 pt2} (hc : X.calm = true) (hN : X.N.Nodup) (hi : X.N[i]? = some x) (hj : X.N[j]? = some y) (hij : i ≠ j) (hmi : m i = false) (hmj : m j = false)
    (hx : X.env.scope.names.lookup x = some .local) (hy : X.env.scope.names.lookup y = some .local) (ha : DA X W [a, b] bs t)
    (hw : swappedStores [.Tuple [.Name x px, .Name y py] kt pt] (.Tuple [a, b] k2 pt2) X.env = pure (some [x, y]))
    (hs : swapsWithSole [.Tuple [.Name x px, .Name y py] kt pt] (.Tuple [a, b] k2 pt2) pos.line X.env = pure false := by rfl) :
    DS X W m (.Assign [.Tuple [.Name x px, .Name y py] kt pt] (.Tuple [a, b] k2 pt2) pos) (sPar i j t) := by
  refine .mk' (fun B σ0 => ps_par hc hN hi hj hij hx hy (ha.run B) hw hs) (fun B σ0 D σ H Φ lim g E r hk hX q => ?_) fun D D' g h q => ha.mono _ _ _ _ _ (fun τs g1 q1 => ?_) h.ex q
  · refine ⟨Φ, lim, g, E, r, hX σ hk, ha.mono _ _ _ _ _ (fun τs g1 q1 vs H1 hl _ r1 => ?_) (fun _ _ _ z => z) q⟩
    split at q1
    · rename_i x' y'
      obtain ⟨v, w, rfl⟩ : ∃ v w, vs = [v, w] := by
        match vs, hl with
        | [v, w], _ => exact ⟨v, w, rfl⟩
      refine ⟨v, w, rfl, q1 _ _ ?_ ((hk.set hmi).set hmj)⟩
      have r2 : RepG X.K B lim σ H1 g1 ((v, x') :: (w, y') :: Φ) := r1
      have r3 : RepG X.K B lim σ H1 g1 ((w, frz y') :: (v, frz x') :: Φ) := (r2.freezeT.perm (List.Perm.swap _ _ _)).freezeT
      exact (r3.perm (List.Perm.swap _ _ _)).put'.put'
    · exact q1.elim
  · split at q1
    · exact h.nx _ q1
    · exact q1.elim
end
def Walks (K : PySem.W.Frag) (B : Bs) (lim : List Addr) (J : It) (Ψ : Its) (ts : List T) : Prop :=
  ∀ σ H g Φ i, RepG K B lim σ H g (Ψ ++ Φ) → (∀ t, ts[i]? = some t → J.go i H ∧ ∀ x H', J.yld i H x H' → RepG K B lim σ H' g ((x, t) :: (Ψ ++ Φ))) ∧ (ts.length ≤ i → J.stop i H)
abbrev DTI := Ev → (List T → Ev → Prop) → XP → Prop
def liftI (K : PySem.W.Frag) (B : Bs) (W : WX) (t : DTI) : TI := fun σ H R => ∃ (Φ : Its) (lim : List Addr) (g : Ev) (E : XP), RepG K B lim σ H g Φ ∧ liftX K B W σ E ∧
  t g (fun ts g' => ∀ J Ψ H', RepG K B lim σ H' g' (Ψ ++ Φ) → Walks K B lim J Ψ ts → R J H') E
structure DI (X : Cx) (W : WX) (tg iter : Expr) (t : DTI) : Prop where
  run : ∀ B, PI X tg iter (liftI X.K B W t)
  mono : ∀ g Q Q' E E', (∀ ts g', Q ts g' → Q' ts g') → (∀ c fs g', E c fs g' → E' c fs g') → t g Q E → t g Q' E'
theorem PI.imp {X : Cx} {tg e : Expr} {t t' : TI} (h : PI X tg e t) (i : ∀ σ H R, t' σ H R → t σ H R) : PI X tg e t' := ⟨fun pins s σ H R I hw => h.run pins s σ H R I (i σ H R hw)⟩
def iSq (K : PySem.W.Frag) (tl : TE) : TI := fun σ H R => tl σ H fun x H1 => ∃ a, x = .ref a ∧ (((∃ xs, SqL K H1 a xs) ∧ R (Itl K a) H1) ∨ ((∃ xs, SqT K H1 a xs) ∧ R (Itt K a) H1))
theorem pi_sq {X : Cx} {tg l : Expr} {tl : TE} (hl : PE X l tl) : PI X tg l (iSq X.K tl) := by
  refine ⟨fun pins s σ H R I h => ?_⟩
  refine thn (hl.run pins s σ H _ I h) fun v s1 ⟨x, H1, I1, r1, q1⟩ => ?_
  obtain ⟨a, e, q1⟩ := q1
  subst e
  cases r1
  rcases q1 with ⟨⟨xs, hq⟩, q⟩ | ⟨⟨xs, hq⟩, q⟩
  · obtain ⟨its, rv, p, hz⟩ := I1.list hq
    refine wpAny_pyIter_list p.isList ?_
    refine ⟨s1.heap.objs.size, [s1.heap.objs.size], _, _, H1, rfl, I1.kept (t' := s1.toks) fun b o e => Heap.get?_push_of_some _ e, turn_list a _, ⟨_, Heap.get?_push_size _ rfl, rfl, rfl⟩, fun b hb => ?_, q⟩
    have e : b = s1.heap.objs.size := by simpa using hb
    subst e
    exact I1.fpOk (Nat.le_refl _) (I1.hok.fresh (Nat.le_refl _))
  · obtain ⟨its, rv, p, hz⟩ := I1.tuple hq
    refine wpAny_pyIter_tuple (show s1.heap.IsTuple a its.toArray from p) ?_
    refine ⟨s1.heap.objs.size, [s1.heap.objs.size], _, _, H1, rfl, I1.kept (t' := s1.toks) fun b o e => Heap.get?_push_of_some _ e, turn_tuple a _, ⟨_, Heap.get?_push_size _ rfl, rfl, rfl⟩, fun b hb => ?_, q⟩
    have e : b = s1.heap.objs.size := by simpa using hb
    subst e
    exact I1.fpOk (Nat.le_refl _) (I1.hok.fresh (Nat.le_refl _))
theorem walks_list {K : PySem.W.Frag} {B : Bs} {lim : List Addr} {a : Addr} {vs : List V} {ts : List T} (hl : vs.length = ts.length) (hf : ∀ (i : Nat) (t : T), ts[i]? = some t → frz t = t) : Walks K B lim (Itl K a) ((.ref a, .pin .lst vs) :: vs.zip ts) ts := by
  intro σ H g Φ i r
  have sq : SqL K H a vs := by
    obtain ⟨b, e, hr⟩ := RepG.pinAt (Φ := vs.zip ts ++ Φ) r
    cases e
    exact seqL hr
  refine ⟨fun t ht => ?_, fun hi => ⟨vs, sq, by omega⟩⟩
  obtain ⟨v, hv, hz⟩ := zip_get hl ht
  refine ⟨⟨vs, v, sq, hv⟩, fun x H' y => ?_⟩
  obtain ⟨e, y⟩ := y
  subst e
  have hx := y vs sq
  rw [hv] at hx
  cases hx
  exact RepG.dupAt (zs := (.ref a, .pin .lst vs) :: vs.zip ts) (i := i + 1) r (by simpa using hz) (hf i t ht)
theorem walks_tup {K : PySem.W.Frag} {B : Bs} {lim : List Addr} {a : Addr} {vs : List V} {ts : List T} (hl : vs.length = ts.length) (hf : ∀ (i : Nat) (t : T), ts[i]? = some t → frz t = t) : Walks K B lim (Itt K a) ((.ref a, .pin .tup vs) :: vs.zip ts) ts := by
  intro σ H g Φ i r
  have sq : SqT K H a vs := by
    obtain ⟨b, e, hr⟩ := RepG.pinAt (Φ := vs.zip ts ++ Φ) r
    cases e
    exact seqT hr
  refine ⟨fun t ht => ?_, fun hi => ⟨vs, sq, by omega⟩⟩
  obtain ⟨v, hv, hz⟩ := zip_get hl ht
  refine ⟨⟨vs, v, sq, hv⟩, fun x H' y => ?_⟩
  obtain ⟨e, y⟩ := y
  subst e
  have hx := y vs sq
  rw [hv] at hx
  cases hx
  exact RepG.dupAt (zs := (.ref a, .pin .tup vs) :: vs.zip ts) (i := i + 1) r (by simpa using hz) (hf i t ht)
def iSeq (te : DTE) : DTI := fun g Q E => te g (fun τ g1 => match τ with
  | .node _ .lst ts => Q (frzL ts) g1
  | .node _ .tup ts => Q (frzL ts) g1
  | _ => False) E
section
variable {X : Cx} {W : WX} {m : Nat → Bool} {tg e : Expr} {te : DTE} {pos p : Pos}
theorem di_seq (he : DE X W e te) : DI X W tg e (iSeq te) := by
  refine ⟨fun B => PI.imp (pi_sq (he.run B)) fun σ H R ⟨Φ, lim, g, E, r, hx, q⟩ => ?_, fun g Q Q' E E' hq hE q => he.mono _ _ _ _ _ (fun τ g1 q1 => ?_) hE q⟩
  · refine ⟨Φ, lim, g, E, r, hx, he.mono _ _ _ _ _ (fun τ g1 q1 v H1 r1 => ?_) (fun _ _ _ z => z) q⟩
    split at q1
    · rename_i o ts
      obtain ⟨a, vs, rfl, hl, r2⟩ := r1.pinned
      have sq : SqL X.K H1 a vs := by
        obtain ⟨b, e, hr⟩ := RepG.pinAt (Φ := vs.zip (frzL ts) ++ Φ) r2
        cases e
        exact seqL hr
      exact ⟨a, rfl, .inl ⟨⟨vs, sq⟩, q1 _ _ H1 r2 (walks_list (by rw [hl, frzL_length]) fun i t ht => frzL_get ht)⟩⟩
    · rename_i o ts
      obtain ⟨a, vs, rfl, hl, r2⟩ := r1.pinned
      have sq : SqT X.K H1 a vs := by
        obtain ⟨b, e, hr⟩ := RepG.pinAt (Φ := vs.zip (frzL ts) ++ Φ) r2
        cases e
        exact seqT hr
      exact ⟨a, rfl, .inr ⟨⟨vs, sq⟩, q1 _ _ H1 r2 (walks_tup (by rw [hl, frzL_length]) fun i t ht => frzL_get ht)⟩⟩
    · exact q1.elim
  · split at q1
    · exact hq _ _ q1
    · exact hq _ _ q1
    · exact q1.elim
def rangeT (lo : Int) (n : Nat) : List T := (List.range n).map fun k => .leaf (.int (lo + (k : Nat)))
theorem walks_range {K : PySem.W.Frag} {B : Bs} {lim : List Addr} {lo : Int} {n : Nat} : Walks K B lim (Itr lo n) [] (rangeT lo n) := by
  intro σ H g Φ i r
  refine ⟨fun t ht => ?_, fun hi => by
    show n ≤ i
    simpa [rangeT] using hi⟩
  unfold rangeT at ht
  rw [List.getElem?_map] at ht
  by_cases hi : i < n
  · rw [List.getElem?_range hi] at ht
    cases ht
    refine ⟨hi, fun x H' y => ?_⟩
    obtain ⟨e, y⟩ := y
    subst e y
    exact r.addLeaf
  · rw [List.getElem?_eq_none (by simpa using hi)] at ht
    cases ht
def iRange1 (t : DTA) : DTI := fun g Q E => t g (fun τs g1 => match τs with
  | [.leaf (.int j)] => -(2 ^ 62) ≤ j ∧ j < 2 ^ 62 ∧ Q (rangeT 0 j.toNat) g1
  | _ => False) E
theorem di_range1 {a : Expr} {t : DTA} {bs : List (Option Nat)} (hg : Gl X "range") (hm : X.mg "range" = none) (ha : DA X W [a] bs t) (hs : starEach [a] X.env = [(false, eval a X.env)] := by rfl) : DI X W tg (.Call (.Name "range" p) [a] [] pos) (iRange1 t) := by
  refine ⟨fun B => PI.imp (pi_range1 hg hm (ha.run B) hs) fun σ H R ⟨Φ, lim, g, E, r, hx, q⟩ => ?_, fun g Q Q' E E' hq hE q => ha.mono _ _ _ _ _ (fun τs g1 q1 => ?_) hE q⟩
  · refine ⟨Φ, lim, g, E, r, hx, ha.mono _ _ _ _ _ (fun τs g1 q1 vs H1 hl _ r1 => ?_) (fun _ _ _ z => z) q⟩
    split at q1
    · rename_i j
      match vs, hl with
      | [v], _ =>
        have r2 : RepG X.K B lim σ H1 g1 ((v, .leaf (.int j)) :: Φ) := r1
        obtain rfl := r2.leaf
        exact ⟨j, rfl, q1.1, q1.2.1, q1.2.2 _ [] H1 r2.dropT walks_range⟩
    · exact q1.elim
  · split at q1
    · exact ⟨q1.1, q1.2.1, hq _ _ q1.2.2⟩
    · exact q1.elim
abbrev lpE (f : Ev → Prop) (D : DEnds) : DEnds := { nx := f, ct := f, bk := D.nx, rt := D.rt, ex := D.ex }
def loopL (gt : DTG) (body : DTS) (D : DEnds) : List T → Ev → Prop
  | [], g => D.nx g
  | t :: ts, g => gt t g fun g1 => body (lpE (loopL gt body D ts) D) g1
inductive Loop (gt : DTG) (body : DTS) (D : DEnds) (ts : List T) (g : Ev) : Prop where
  | mk (h : loopL gt body D ts g) : Loop gt body D ts g
theorem Loop.out {gt : DTG} {body : DTS} {D : DEnds} {ts : List T} {g : Ev} : Loop gt body D ts g → loopL gt body D ts g
  | ⟨h⟩ => h
def sFor (it : DTI) (gt : DTG) (body : DTS) : DTS := fun D g => it g (fun ts g1 => Loop gt body D ts g1) D.ex
theorem Loop.ind {gt : DTG} {body : DTS} {D : DEnds} {ts : List T} {g : Ev} (I : Nat → Ev → Prop) (h0 : I 0 g)
    (hs : ∀ (i : Nat) (t : T) (g : Ev), ts[i]? = some t → I i g → ∀ R : Ev → Prop, (∀ g', I (i + 1) g' → R g') → gt t g fun g1 => body (lpE R D) g1) (he : ∀ g, I ts.length g → D.nx g) : Loop gt body D ts g := by
  refine ⟨?_⟩
  have key : ∀ (rest : List T) (i : Nat) (g : Ev), ts.drop i = rest → i ≤ ts.length → I i g → loopL gt body D rest g := by
    intro rest
    induction rest with
    | nil =>
      intro i g e hi h
      have : i = ts.length := by
        have := congrArg List.length e
        rw [List.length_drop, List.length_nil] at this
        omega
      subst this
      exact he g h
    | cons t rest ih =>
      intro i g e hi h
      have ht : ts[i]? = some t := by
        have := congrArg (·[0]?) e
        simpa using this
      have hlt : i < ts.length := by
        have := congrArg List.length e
        rw [List.length_drop, List.length_cons] at this
        omega
      refine hs i t g ht h (loopL gt body D rest) fun g' h' => ih (i + 1) g' ?_ hlt h'
      have := congrArg (List.drop 1) e
      rw [List.drop_drop] at this
      simpa [Nat.add_comm] using this
  exact key ts 0 g rfl (Nat.zero_le _) h0
theorem loopL_mono {gt : DTG} {body : DTS} {D D' : DEnds} (hg : ∀ τ g Q Q', (∀ g', Q g' → Q' g') → gt τ g Q → gt τ g Q') (hb : ∀ D D' g, D.Le D' → body D g → body D' g) (h : D.Le D') : ∀ ts g, loopL gt body D ts g → loopL gt body D' ts g
  | [], g, q => h.nx g q
  | t :: ts, g, q => hg _ _ _ _ (fun g1 q1 => hb (lpE (loopL gt body D ts) D) (lpE (loopL gt body D' ts) D') _ ⟨loopL_mono hg hb h ts, h.rt, h.ex, h.nx, loopL_mono hg hb h ts⟩ q1) q
theorem ds_for {iter : Expr} {body : List Stmt} {it : DTI} {gt : DTG} {tb : DTS} (hp : PassesOwn (model X.prog X.w) X.A X.env X.xe) (hc : X.calm = true) (hi : DI X W tg iter it) (hg : DG X m tg gt) (hb : DSs X W m body tb)
    (hs : ∀ x, foldedSetIterable iter X.env x = pure x := by intro _; rfl) : DS X W m (.For tg iter body [] pos) (sFor it gt tb) := by
  refine .mk' (fun B σ0 => ps_for hp hc (hi.run B) (hg.run B σ0) (hb.run B σ0) hs) (fun B σ0 D σ H Φ lim g E r hk hX q => ?_) fun D D' g h q => hi.mono _ _ _ _ _ (fun ts g1 q1 => ⟨loopL_mono hg.mono hb.mono h ts g1 q1.out⟩) h.ex q
  refine ⟨Φ, lim, g, E, r, hX σ hk, hi.mono _ _ _ _ _ (fun ts g1 q1 J Ψ H1 r1 hw => ?_) (fun _ _ _ z => z) q⟩
  refine ⟨fun i n σ H => n = ts.length - i ∧ i ≤ ts.length ∧ ∃ g, RepG X.K B lim σ H g (Ψ ++ Φ) ∧ Kept m σ0 σ ∧ loopL gt tb (low X.K B m σ0 lim Φ D E) (ts.drop i) g, ⟨ts.length, by simp, Nat.zero_le _, g1, r1, hk, q1.out⟩, ?_⟩
  rintro i n σ H ⟨rfl, hi', g2, r2, hk2, q2⟩
  obtain ⟨w1, w2⟩ := hw σ H g2 Φ i r2
  by_cases hlt : i < ts.length
  · have e : ts.drop i = ts[i] :: ts.drop (i + 1) := (List.drop_eq_getElem_cons hlt)
    rw [e] at q2
    obtain ⟨go, yl⟩ := w1 ts[i] (by simp [hlt])
    refine .inr ⟨go, fun σ H => ∃ g, RepG X.K B lim σ H g (Ψ ++ Φ) ∧ Kept m σ0 σ ∧ loopL gt tb (low X.K B m σ0 lim Φ D E) (ts.drop (i + 1)) g, fun σ' H' ⟨g', a1, a2, a3⟩ => ⟨ts.length - (i + 1), by omega, rfl, hlt, g', a1, a2, a3⟩, fun x H' y => ?_⟩
    refine ⟨Ψ ++ Φ, lim, g2, ts[i], yl x H' y, hk2, hg.mono _ _ _ _ (fun g3 q3 σ3 H3 r3 hk3 => ?_) q2⟩
    refine ⟨Ψ ++ Φ, lim, g3, E, r3, hk3, hX, hb.mono (lpE (loopL gt tb (low X.K B m σ0 lim Φ D E) (ts.drop (i + 1))) (low X.K B m σ0 lim Φ D E)) _ _ ⟨fun g' q' σ' H' r' hk' => ⟨g', r', hk', q'⟩, fun _ _ z => z, fun _ _ _ z => z, fun g' q' σ' H' r' hk' => q' σ' H' r'.dropTs hk', fun g' q' σ' H' r' hk' => ⟨g', r', hk', q'⟩⟩ q3⟩
  · have e : ts.drop i = [] := List.drop_eq_nil_of_le (by omega)
    rw [e] at q2
    exact .inl ⟨w2 (by omega), q2 σ H r2.dropTs hk2⟩
def whileN (c : DTT) (body : DTS) (D : DEnds) : Nat → Ev → Prop
  | 0, _ => False
  | n + 1, g => c g (fun b g1 => ifB b (body (lpE (whileN c body D n) D) g1) (D.nx g1)) D.ex
inductive While (c : DTT) (body : DTS) (D : DEnds) (g : Ev) : Prop where
  | mk (h : ∃ n, whileN c body D n g) : While c body D g
theorem While.out {c : DTT} {body : DTS} {D : DEnds} {g : Ev} : While c body D g → ∃ n, whileN c body D n g
  | ⟨h⟩ => h
end
end DL
set_option Elab.async false
set_option linter.all false
set_option maxRecDepth 100000
set_option maxHeartbeats 4000000
namespace DL
open PySem L2
def wipeE (g : Ev) : List Nat → Ev
  | [] => g
  | v :: vs => (wipeE g vs).set v none
theorem RepG.wipe {K : PySem.W.Frag} {B : Bs} {lim : List Addr} {σ : St} {H : Hp} {g : Ev} {Φ : Its} (h : RepG K B lim σ H g Φ) : ∀ vs : List Nat, RepG K B lim (L2.wipe σ vs) H (wipeE g vs) Φ
  | [] => h
  | v :: vs => (h.wipe vs).clear v none
theorem wipe_get (σ : St) : ∀ (vs : List Nat) (i : Nat), (L2.wipe σ vs)[i]? = if i ∈ vs ∧ i < σ.length then some none else σ[i]?
  | [], i => by simp [L2.wipe]
  | v :: vs, i => by
    unfold L2.wipe
    by_cases e : v = i
    · subst e
      by_cases hl : v < σ.length
      · rw [List.getElem?_set_self (by rw [wipe_length]; exact hl), if_pos ⟨List.mem_cons_self, hl⟩]
      · rw [List.getElem?_eq_none (by simpa [wipe_length] using hl), if_neg (fun z => hl z.2)]
        exact (List.getElem?_eq_none (by simpa using hl)).symm
    · rw [List.getElem?_set_ne e, wipe_get σ vs i]
      have : (i ∈ v :: vs ∧ i < σ.length) ↔ (i ∈ vs ∧ i < σ.length) := by
        rw [List.mem_cons]
        exact ⟨fun z => ⟨z.1.resolve_left (Ne.symm e), z.2⟩, fun z => ⟨.inr z.1, z.2⟩⟩
      by_cases h : i ∈ vs ∧ i < σ.length
      · rw [if_pos h, if_pos (this.mpr h)]
      · rw [if_neg h, if_neg (fun z => h (this.mp z))]
def mB (vs : List Nat) : Nat → Bool := fun i => !vs.contains i
theorem wipe_same {σ σ2 : St} {vs : List Nat} (k : Kept (mB vs) (L2.wipe σ vs) σ2) : L2.wipe σ2 vs = L2.wipe σ vs := by
  apply List.ext_getElem?
  intro i
  have hl : σ2.length = σ.length := k.1.trans (wipe_length σ vs)
  rw [wipe_get, wipe_get, hl]
  by_cases h : i ∈ vs ∧ i < σ.length
  · rw [if_pos h, if_pos h]
  · rw [if_neg h, if_neg h]
    by_cases hm : i ∈ vs
    · have hi : ¬ i < σ.length := fun z => h ⟨hm, z⟩
      rw [List.getElem?_eq_none (by omega), List.getElem?_eq_none (by omega)]
    · rw [k.2 i (by unfold mB; simpa using hm), wipe_get, if_neg h]
theorem EnvIs.swapS : ∀ {σ σ' : St} {g : Ev} {zs : Its}, EnvIs σ' g zs → σ.length = σ'.length → (∀ (i : Nat) (t : T), g[i]? = some (some t) → σ[i]? = σ'[i]?) → EnvIs σ g zs
  | [], _, _, _, .nil, _, _ => .nil
  | [], _, _, _, .skip _, e, _ => by cases e
  | [], _, _, _, .have _, e, _ => by cases e
  | x :: σ, _, _, _, .nil, e, _ => by cases e
  | x :: σ, _, _, _, .skip h, e, k => .skip (EnvIs.swapS h (by simpa using e) fun i t q => by simpa using k (i + 1) t (by simpa using q))
  | x :: σ, _, _, _, .have (v := v) (t := t) h, e, k => by
    have e0 : some x = some (some v) := by simpa using k 0 t rfl
    cases e0
    exact .have (EnvIs.swapS h (by simpa using e) fun i t q => by simpa using k (i + 1) t (by simpa using q))
def NoOwn (g : Ev) (vs : List Nat) : Prop := ∀ i ∈ vs, ∀ t : T, g[i]? ≠ some (some t)
theorem noOwn_wipe (g : Ev) : ∀ vs : List Nat, NoOwn (wipeE g vs) vs
  | [] => fun _ z => nomatch z
  | v :: vs => fun i hi t e => by
    unfold wipeE at e
    by_cases hv : v = i
    · subst hv
      by_cases hl : v < (wipeE g vs).length
      · rw [List.getElem?_set_self hl] at e; cases e
      · rw [List.getElem?_eq_none (by simpa using hl)] at e; cases e
    · rw [List.getElem?_set_ne hv] at e
      exact noOwn_wipe g vs i ((List.mem_cons.mp hi).resolve_left (Ne.symm hv)) t e
theorem RepG.unwipe {K : PySem.W.Frag} {B : Bs} {lim : List Addr} {σ : St} {H : Hp} {g : Ev} {Φ : Its} {vs : List Nat} (h : RepG K B lim (L2.wipe σ vs) H g Φ) (no : NoOwn g vs) : RepG K B lim σ H g Φ := by
  obtain ⟨F, zs, fp, en, o, f, hl⟩ := h
  refine ⟨F, zs, fp, en.swapS (wipe_length σ vs).symm fun i t q => ?_, o, f, hl⟩
  rw [wipe_get, if_neg fun z => no i z.1 t q]
abbrev W0 : WX := fun _ _ _ _ => False
abbrev noX : XP := fun _ _ _ => False
theorem liftX0 {K : PySem.W.Frag} {B : Bs} {W : WX} {σ : St} : liftX K B W σ noX := fun _ _ _ _ _ _ _ z => z.elim
structure DTs (X : Cx) (W : WX) (ifs : List Expr) (t : DTT) : Prop where
  run : ∀ B, PTs X ifs (liftT X.K B W t)
  mono : ∀ g Q Q' E E', (∀ b g', Q b g' → Q' b g') → (∀ c fs g', E c fs g' → E' c fs g') → t g Q E → t g Q' E'
def xYes : DTT := fun g Q _ => Q true g
theorem dts_nil {X : Cx} {W : WX} : DTs X W [] xYes := ⟨fun B => ⟨fun pins s σ H Q I ⟨Φ, lim, g, E, r, hx, q⟩ => pts_nil.run pins s σ H Q I (q H r)⟩, fun _ _ _ _ _ hq _ q => hq _ _ q⟩
theorem dts_one {X : Cx} {W : WX} {c : Expr} {t : DTT} (h : DT X W c t) : DTs X W [c] t := ⟨fun B => pts_one (h.run B), h.mono⟩
def lcL (gt : DTG) (tt : DTT) (te : DTE) (vs : List Nat) : List T → Ev → List T → (List T → Ev → Prop) → Prop
  | [], g, acc, R => R acc g
  | t :: ts, g, acc, R => gt t g fun g1 => tt g1 (fun b g2 => ifB b (te g2 (fun τ g3 => acc.length < sizeLine ∧ lcL gt tt te vs ts (wipeE g3 vs) (acc ++ [τ]) R) noX) (lcL gt tt te vs ts (wipeE g2 vs) acc R)) noX
inductive Lc (gt : DTG) (tt : DTT) (te : DTE) (vs : List Nat) (ts : List T) (g : Ev) (acc : List T) (R : List T → Ev → Prop) : Prop where
  | mk (h : lcL gt tt te vs ts g acc R) : Lc gt tt te vs ts g acc R
theorem Lc.out {gt : DTG} {tt : DTT} {te : DTE} {vs : List Nat} {ts : List T} {g : Ev} {acc : List T} {R : List T → Ev → Prop} : Lc gt tt te vs ts g acc R → lcL gt tt te vs ts g acc R
  | ⟨h⟩ => h
theorem Lc.ind {gt : DTG} {tt : DTT} {te : DTE} {vs : List Nat} {ts : List T} {g : Ev} {acc : List T} {R : List T → Ev → Prop} (I : Nat → Ev → List T → Prop) (h0 : I 0 g acc)
    (hs : ∀ (i : Nat) (t : T) (g : Ev) (acc : List T), ts[i]? = some t → I i g acc → ∀ R' : Ev → List T → Prop, (∀ g' acc', I (i + 1) g' acc' → R' g' acc') →
      gt t g fun g1 => tt g1 (fun b g2 => ifB b (te g2 (fun τ g3 => acc.length < sizeLine ∧ R' (wipeE g3 vs) (acc ++ [τ])) noX) (R' (wipeE g2 vs) acc)) noX)
    (he : ∀ g acc, I ts.length g acc → R acc g) : Lc gt tt te vs ts g acc R := by
  refine ⟨?_⟩
  have key : ∀ (rest : List T) (i : Nat) (g : Ev) (acc : List T), ts.drop i = rest → i ≤ ts.length → I i g acc → lcL gt tt te vs rest g acc R := by
    intro rest
    induction rest with
    | nil =>
      intro i g acc e hi h
      have : i = ts.length := by
        have := congrArg List.length e
        rw [List.length_drop, List.length_nil] at this
        omega
      subst this
      exact he g acc h
    | cons t rest ih =>
      intro i g acc e hi h
      have ht : ts[i]? = some t := by
        have := congrArg (·[0]?) e
        simpa using this
      have hlt : i < ts.length := by
        have := congrArg List.length e
        rw [List.length_drop, List.length_cons] at this
        omega
      refine hs i t g acc ht h (fun g' acc' => lcL gt tt te vs rest g' acc' R) fun g' acc' h' => ih (i + 1) g' acc' ?_ hlt h'
      have := congrArg (List.drop 1) e
      rw [List.drop_drop] at this
      simpa [Nat.add_comm] using this
  exact key ts 0 g acc rfl (Nat.zero_le _) h0
theorem Lc.fm {gt : DTG} {tt : DTT} {te : DTE} {vs : List Nat} {ts : List T} {g : Ev} {R : List T → Ev → Prop} (F : T → Option T) (hl : ts.length ≤ sizeLine)
    (hs : ∀ t ∈ ts, ∀ (acc : List T) (R' : Ev → List T → Prop), acc.length < sizeLine → (∀ τ, F t = some τ → R' g (acc ++ [τ])) → (F t = none → R' g acc) →
      gt t g fun g1 => tt g1 (fun b g2 => ifB b (te g2 (fun τ g3 => acc.length < sizeLine ∧ R' (wipeE g3 vs) (acc ++ [τ])) noX) (R' (wipeE g2 vs) acc)) noX)
    (he : R (ts.filterMap F) g) : Lc gt tt te vs ts g [] R := by
  refine Lc.ind (fun i g' acc => g' = g ∧ acc = (ts.take i).filterMap F ∧ i ≤ ts.length) ⟨rfl, by simp, Nat.zero_le _⟩ (fun i t g' acc ht h R' hR => ?_) fun g' acc h => ?_
  · obtain ⟨rfl, rfl, hi⟩ := h
    have hlt : i < ts.length := by
      rw [List.getElem?_eq_some_iff] at ht
      exact ht.1
    have e1 : ts.take (i + 1) = ts.take i ++ [t] := by
      rw [List.take_add_one, ht]
      rfl
    refine hs t (List.mem_of_getElem? ht) _ R' ?_ (fun τ hτ => hR _ _ ⟨rfl, ?_, hlt⟩) (fun hn => hR _ _ ⟨rfl, ?_, hlt⟩)
    · have h1 := List.length_filterMap_le F (ts.take i)
      rw [List.length_take] at h1
      omega
    · rw [e1, List.filterMap_append]
      simp [hτ]
    · rw [e1, List.filterMap_append]
      simp [hn]
  · obtain ⟨rfl, rfl, _⟩ := h
    rw [List.take_length]
    exact he
def xLc (it : DTI) (gt : DTG) (tt : DTT) (te : DTE) (vs : List Nat) : DTE := fun g Q E => it g (fun ts g1 => Lc gt tt te vs ts (wipeE g1 vs) [] (fun acc g2 => Q (.node true .lst acc) g2)) E
theorem lcL_mono {gt : DTG} {tt : DTT} {te : DTE} {vs : List Nat} (hg : ∀ τ g Q Q', (∀ g', Q g' → Q' g') → gt τ g Q → gt τ g Q') (ht : ∀ g Q Q' E E', (∀ b g', Q b g' → Q' b g') → (∀ c fs g', E c fs g' → E' c fs g') → tt g Q E → tt g Q' E')
    (he : ∀ g Q Q' E E', (∀ b g', Q b g' → Q' b g') → (∀ c fs g', E c fs g' → E' c fs g') → te g Q E → te g Q' E') : ∀ ts g acc R R', (∀ acc g, R acc g → R' acc g) → lcL gt tt te vs ts g acc R → lcL gt tt te vs ts g acc R'
  | [], g, acc, R, R', h, q => h _ _ q
  | t :: ts, g, acc, R, R', h, q => hg _ _ _ _ (fun g1 q1 => ht _ _ _ _ _ (fun b g2 q2 => by
      cases b with
      | true => exact he _ _ _ _ _ (fun τ g3 q3 => ⟨q3.1, lcL_mono hg ht he ts _ _ R R' h q3.2⟩) (fun _ _ _ z => z) q2
      | false => exact lcL_mono hg ht he ts _ _ R R' h q2) (fun _ _ _ z => z) q1) q
section
variable {X : Cx} {W : WX} {m : Nat → Bool} {tg iter elt e : Expr} {te : DTE} {pos p : Pos}
theorem lc_reads {it : DTI} {gt : DTG} {tt : DTT} {vs : List Nat} {B : Bs} {σ : St} {H : Hp} {Q : VK} (mi : ∀ g Q Q' E E', (∀ ts g', Q ts g' → Q' ts g') → (∀ c fs g', E c fs g' → E' c fs g') → it g Q E → it g Q' E')
    (mg : ∀ τ g Q Q', (∀ g', Q g' → Q' g') → gt τ g Q → gt τ g Q') (mt : ∀ g Q Q' E E', (∀ b g', Q b g' → Q' b g') → (∀ c fs g', E c fs g' → E' c fs g') → tt g Q E → tt g Q' E')
    (me : ∀ g Q Q' E E', (∀ b g', Q b g' → Q' b g') → (∀ c fs g', E c fs g' → E' c fs g') → te g Q E → te g Q' E') (h : liftE X.K B W (xLc it gt tt te vs) σ H Q) :
    tLc (liftI X.K B W it) (liftG X.K B (mB vs) (L2.wipe σ vs) gt) (liftT X.K B W0 tt) (liftE X.K B W0 te) vs σ H Q := by
  obtain ⟨Φ, lim, g, E, r, hx, q⟩ := h
  refine ⟨Φ, lim, g, E, r, hx, mi _ _ _ _ _ (fun ts g1 q1 J Ψ H1 r1 hw D hD => ?_) (fun _ _ _ z => z) q⟩
  have r2 : RepG X.K B lim σ (upd H1 D (.lst [])) g1 (Ψ ++ ((.ref D, .node true .lst []) :: Φ)) := (RepG.make (s := .lst) (zs := []) r1 hD).perm List.perm_middle.symm
  refine ⟨fun i n H => n = ts.length - i ∧ i ≤ ts.length ∧ ∃ g acc, NoOwn g vs ∧ RepG X.K B lim (L2.wipe σ vs) H g (Ψ ++ ((.ref D, .node true .lst acc) :: Φ)) ∧
    lcL gt tt te vs (ts.drop i) g acc (fun acc g2 => ∀ v H', RepG X.K B lim σ H' g2 ((v, .node true .lst acc) :: Φ) → Q v H'), ⟨ts.length, by simp, Nat.zero_le _, _, [], noOwn_wipe g1 vs, r2.wipe vs, q1.out⟩, ?_⟩
  rintro i n H ⟨rfl, hi, g2, acc, no, r3, q3⟩
  obtain ⟨w1, w2⟩ := hw _ H g2 _ i r3
  by_cases hlt : i < ts.length
  · have e : ts.drop i = ts[i] :: ts.drop (i + 1) := (List.drop_eq_getElem_cons hlt)
    rw [e] at q3
    obtain ⟨go, yl⟩ := w1 ts[i] (by simp [hlt])
    refine .inr ⟨go, fun H => ∃ g acc, NoOwn g vs ∧ RepG X.K B lim (L2.wipe σ vs) H g (Ψ ++ ((.ref D, .node true .lst acc) :: Φ)) ∧
      lcL gt tt te vs (ts.drop (i + 1)) g acc (fun acc g2 => ∀ v H', RepG X.K B lim σ H' g2 ((v, .node true .lst acc) :: Φ) → Q v H'), fun H' z => ⟨ts.length - (i + 1), by omega, rfl, hlt, z⟩, fun x H' y => ?_⟩
    refine ⟨_, lim, g2, ts[i], yl x H' y, kept_refl, mg _ _ _ _ (fun g4 q4 σ4 H4 r4 hk4 => ?_) q3⟩
    have ws := wipe_same hk4
    refine ⟨ws, _, lim, g4, noX, r4, liftX0, mt _ _ _ _ _ (fun b g5 q5 H5 r5 => ?_) (fun _ _ _ z => z) q4⟩
    cases b with
    | false =>
      rw [if_neg Bool.false_ne_true]
      refine ⟨_, acc, noOwn_wipe g5 vs, ?_, q5⟩
      have := r5.wipe vs
      rwa [ws] at this
    | true =>
      rw [if_pos rfl]
      refine ⟨_, lim, g5, noX, r5, liftX0, me _ _ _ _ _ (fun τ g6 q6 z H6 r6 => ?_) (fun _ _ _ z => z) q5⟩
      have p1 : ((z, τ) :: (Ψ ++ ((V.ref D, T.node true .lst acc) :: Φ))).Perm ((V.ref D, T.node true .lst acc) :: ((z, τ) :: (Ψ ++ Φ))) :=
        (List.Perm.cons _ List.perm_middle).trans (List.Perm.swap _ _ _)
      obtain ⟨a, us, ea, hl, ha, r7⟩ := (r6.perm p1).open_
      cases ea
      refine ⟨us, ha, by rw [hl]; exact q6.1, _, acc ++ [τ], noOwn_wipe g6 vs, ?_, q6.2⟩
      have r8 : RepG X.K B (D :: lim) σ4 H6 g6 ((us.zip acc ++ [(z, τ)]) ++ (Ψ ++ Φ)) := by
        rw [List.append_assoc]
        exact r7
      have r9 := r8.close (s := .lst) (fun vs e => nomatch (show HO.lst us = HO.tup vs from Option.some.inj (ha.symm.trans e)))
      have e1 : ((us.zip acc ++ [(z, τ)]).map (·.1)) = us ++ [z] := by
        rw [List.map_append, List.map_fst_zip (by omega)]
        rfl
      have e2 : ((us.zip acc ++ [(z, τ)]).map (·.2)) = acc ++ [τ] := by
        rw [List.map_append, List.map_snd_zip (by omega)]
        rfl
      rw [e1, e2] at r9
      have r10 := (r9.perm List.perm_middle.symm).wipe vs
      rwa [ws] at r10
  · have e : ts.drop i = [] := List.drop_eq_nil_of_le (by omega)
    rw [e] at q3
    exact .inl ⟨w2 (by omega), q3 _ H (r3.unwipe no |>.dropTs)⟩
theorem xLc_mono {it : DTI} {gt : DTG} {tt : DTT} {vs : List Nat} (mi : ∀ g Q Q' E E', (∀ ts g', Q ts g' → Q' ts g') → (∀ c fs g', E c fs g' → E' c fs g') → it g Q E → it g Q' E')
    (mg : ∀ τ g Q Q', (∀ g', Q g' → Q' g') → gt τ g Q → gt τ g Q') (mt : ∀ g Q Q' E E', (∀ b g', Q b g' → Q' b g') → (∀ c fs g', E c fs g' → E' c fs g') → tt g Q E → tt g Q' E')
    (me : ∀ g Q Q' E E', (∀ b g', Q b g' → Q' b g') → (∀ c fs g', E c fs g' → E' c fs g') → te g Q E → te g Q' E') :
    ∀ g Q Q' E E', (∀ τ g', Q τ g' → Q' τ g') → (∀ c fs g', E c fs g' → E' c fs g') → xLc it gt tt te vs g Q E → xLc it gt tt te vs g Q' E' := fun g Q Q' E E' hq hE q =>
  mi _ _ _ _ _ (fun ts g1 q1 => ⟨lcL_mono mg mt me ts _ _ _ _ (fun _ _ z => hq _ _ z) q1.out⟩) hE q
theorem d_lc {ifs : List Expr} {scope : Scope} {own : List (Str × Nat)} {it : DTI} {gt : DTG} {tt : DTT} (hc : X.calm = true) (hN : X.N.Nodup) (hi : DI X W tg iter it) (ok : BlkOk X.N X.env.scope scope own)
    (hg : ∀ (s : Shared) (H : Hp) (C : Addr) (cl : List (Str × Addr)) (fp : List Addr), DG (X.blk s H scope (compEnvC scope cl C X.env) fp) (mB (own.map (·.2))) tg gt)
    (ht : ∀ (s : Shared) (H : Hp) (C : Addr) (cl : List (Str × Addr)) (fp : List Addr), DTs (X.blk s H scope (compEnvC scope cl C X.env) fp) W0 ifs tt)
    (he : ∀ (s : Shared) (H : Hp) (C : Addr) (cl : List (Str × Addr)) (fp : List Addr), DE (X.blk s H scope (compEnvC scope cl C X.env) fp) W0 elt te) (hs : ∀ x, foldedSetIterable iter X.env x = pure x := by intro _; rfl) :
    DE X W (.ListComp elt [⟨tg, iter, ifs, 0⟩] scope pos) (xLc it gt tt te (own.map (·.2))) :=
  have mg := fun (s : Shared) (H : Hp) => (hg s H 0 [] []).mono
  have mt := fun (s : Shared) (H : Hp) => (ht s H 0 [] []).mono
  have me := fun (s : Shared) (H : Hp) => (he s H 0 [] []).mono
  ⟨fun B => ⟨fun pins s σ H Q I h => (pe_lc (g := liftG X.K B (mB (own.map (·.2))) (L2.wipe σ (own.map (·.2))) gt) hc hN (hi.run B) ok (fun s H C cl fp => (hg s H C cl fp).run B _) (fun s H C cl fp => (ht s H C cl fp).run B) (fun s H C cl fp => (he s H C cl fp).run B) hs).run pins s σ H Q I
    (lc_reads hi.mono (mg s H) (mt s H) (me s H) h)⟩, xLc_mono hi.mono (mg X.s_0 X.H_0) (mt X.s_0 X.H_0) (me X.s_0 X.H_0)⟩
theorem ds_setLc {i : Nat} {y : Str} {py spos : Pos} {ifs : List Expr} {scope : Scope} {own : List (Str × Nat)} {it : DTI} {gt : DTG} {tt : DTT} (ow : Bool) (hc : X.calm = true) (hN : X.N.Nodup) (hy : X.N[i]? = some y) (hyl : X.env.scope.names.lookup y = some .local) (hmi : m i = false)
    (hsw : swapsWith (.ListComp elt [⟨tg, iter, ifs, 0⟩] scope pos) (some (.Name y py)) spos.line X.env = pure true) (hi : DI X W tg iter it) (ok : BlkOk X.N X.env.scope scope own)
    (hg : ∀ (s : Shared) (H : Hp) (C : Addr) (cl : List (Str × Addr)) (fp : List Addr), DG (X.blk s H scope (compEnvC scope cl C X.env) fp) (mB (own.map (·.2))) tg gt)
    (ht : ∀ (s : Shared) (H : Hp) (C : Addr) (cl : List (Str × Addr)) (fp : List Addr), DTs (X.blk s H scope (compEnvC scope cl C X.env) fp) W0 ifs tt)
    (he : ∀ (s : Shared) (H : Hp) (C : Addr) (cl : List (Str × Addr)) (fp : List Addr), DE (X.blk s H scope (compEnvC scope cl C X.env) fp) W0 elt te) (hs : ∀ x, foldedSetIterable iter X.env x = pure x := by intro _; rfl) :
    DS X W m (.Assign [.Name y py] (.ListComp elt [⟨tg, iter, ifs, 0⟩] scope pos) spos) (sSet ow i (xLc it gt tt te (own.map (·.2)))) := by
  have mg := fun (s : Shared) (H : Hp) => (hg s H 0 [] []).mono
  have mt := fun (s : Shared) (H : Hp) => (ht s H 0 [] []).mono
  have me := fun (s : Shared) (H : Hp) => (he s H 0 [] []).mono
  refine ⟨fun B σ0 => ⟨fun pins s σ H D I ⟨Φ, lim, g, E, r, hk, hX, q⟩ => ?_⟩, fun D D' g h q => xLc_mono hi.mono (mg X.s_0 X.H_0) (mt X.s_0 X.H_0) (me X.s_0 X.H_0) _ _ _ _ _ (fun τ g1 q1 => h.nx _ q1) h.ex q⟩
  refine (ps_setLc (g := liftG X.K B (mB (own.map (·.2))) (L2.wipe σ (own.map (·.2))) gt) (tt := liftT X.K B W0 tt) (te := liftE X.K B W0 te) (wi := liftI X.K B W it) hc hN hy hyl hsw (hi.run B) ok (fun s H C cl fp => (hg s H C cl fp).run B _) (fun s H C cl fp => (ht s H C cl fp).run B) (fun s H C cl fp => (he s H C cl fp).run B) hs).run pins s σ H D I ?_
  refine lc_reads hi.mono (mg s H) (mt s H) (me s H) ⟨Φ, lim, g, E, r, hX σ hk, xLc_mono hi.mono (mg s H) (mt s H) (me s H) _ _ _ _ _ (fun τ g1 q1 v H1 r1 => ?_) (fun _ _ _ z => z) q⟩
  refine q1 (σ.set i (some v)) H1 ?_ (hk.set hmi)
  cases ow with
  | true => exact r1.put'
  | false => exact r1.freezeT.put'
def rtIx : R2T := fun τ1 τ2 Q => match τ1, τ2 with
  | .node _ .lst ts, .leaf (.int i) => ∃ t, atI ts i = some t ∧ Q (frz t)
  | .node _ .tup ts, .leaf (.int i) => ∃ t, atI ts i = some t ∧ Q (frz t)
  | .leaf (.str z), .leaf (.int i) => z.length ≤ sizeLine ∧ ∃ c, atI z.cps.toList i = some c ∧ Q (.leaf (.str ⟨#[c]⟩))
  | _, _ => False
theorem atI_len {α β : Type} {xs : List α} {ys : List β} {i : Int} {y : β} (hl : xs.length = ys.length) (h : atI ys i = some y) : ∃ (j : Nat) (x : α), atI xs i = some x ∧ xs[j]? = some x ∧ ys[j]? = some y := by
  unfold atI at h ⊢
  rw [hl]
  cases e : ixN ys.length i with
  | none => rw [e] at h; cases h
  | some j =>
    rw [e] at h
    have h' : ys[j]? = some y := h
    have hj : j < xs.length := by
      rw [hl]
      rw [List.getElem?_eq_some_iff] at h'
      exact h'.1
    exact ⟨j, xs[j], by show xs[j]? = _; simp [hj], by simp [hj], h'⟩
theorem frzL_at : ∀ {ts : List T} {j : Nat} {t : T}, ts[j]? = some t → (frzL ts)[j]? = some (frz t)
  | [], _, _, h => by simp at h
  | a :: ts, 0, t, h => by
    simp at h
    subst h
    rfl
  | a :: ts, j + 1, t, h => by
    have := frzL_at (ts := ts) (j := j) (t := t) (by simpa using h)
    simpa [frzL] using this
theorem RepG.part {K : PySem.W.Frag} {B : Bs} {lim : List Addr} {σ : St} {H : Hp} {g : Ev} {Φ : Its} {v : V} {o : Bool} {s : Sh} {ts : List T} (h : RepG K B lim σ H g ((v, .node o s ts) :: Φ)) :
    ∃ a vs, v = .ref a ∧ vs.length = ts.length ∧ (Rd H a (s.mk a vs) ∨ Konst K a vs s) ∧ ∀ (j : Nat) (t : T) (x : V), ts[j]? = some t → vs[j]? = some x → RepG K B lim σ H g ((x, frz t) :: Φ) := by
  obtain ⟨a, vs, e, hl, hr, r⟩ := h.parts
  refine ⟨a, vs, e, hl, hr, fun j t x ht hx => ?_⟩
  obtain ⟨y, hy, hz⟩ := zip_get (l := vs) (r := frzL ts) (by rw [hl, frzL_length]) (frzL_at ht)
  rw [hx] at hy
  cases hy
  exact (r.one hz).perm (List.Perm.swap _ _ _) |>.dropT
theorem op2_ix {K : PySem.W.Frag} : Op2 K (rIx K) rtIx := by
  refine ⟨fun B lim σ H g Φ v1 v2 τ1 τ2 Q r q => ?_, fun τ1 τ2 Q Q' hq q => ?_⟩
  · unfold rtIx at q
    split at q
    · rename_i o ts i
      obtain rfl := r.leaf
      obtain ⟨t, ht, q⟩ := q
      obtain ⟨a, vs, rfl, hl, hr, hp⟩ := r.dropT.part
      obtain ⟨j, x, e1, e2, e3⟩ := atI_len hl ht
      exact .inl ⟨a, vs, i, x, rfl, rfl, seqL hr, e1, q x H (hp j t x e3 e2)⟩
    · rename_i o ts i
      obtain rfl := r.leaf
      obtain ⟨t, ht, q⟩ := q
      obtain ⟨a, vs, rfl, hl, hr, hp⟩ := r.dropT.part
      obtain ⟨j, x, e1, e2, e3⟩ := atI_len hl ht
      exact .inr (.inl ⟨a, vs, i, x, rfl, rfl, seqT hr, e1, q x H (hp j t x e3 e2)⟩)
    · rename_i z i
      obtain rfl := r.leaf
      obtain rfl := r.dropT.leaf
      obtain ⟨hz, c, hc, q⟩ := q
      exact .inr (.inr ⟨z, i, c, rfl, rfl, hz, hc, q _ H r.dropT.dropT.addLeaf⟩)
    · exact q.elim
  · unfold rtIx at q
    split at q
    · obtain ⟨t, ht, q⟩ := q
      exact ⟨t, ht, hq _ q⟩
    · obtain ⟨t, ht, q⟩ := q
      exact ⟨t, ht, hq _ q⟩
    · obtain ⟨hz, c, hc, q⟩ := q
      exact ⟨hz, c, hc, hq _ q⟩
    · exact q.elim
theorem d_ix {a b : Expr} {ta tb : DTE} (ha : DE X W a ta) (hb : DE X W b tb) (hs : PlainIx b := by intro _ _; rfl) : DE X W (.Subscript a b pos) (xOp rtIx ta tb) := by
  refine ⟨fun B => PE.imp (pe_ix ix_seq (ha.run B) (hb.run B) hs) fun σ H Q ⟨Φ, lim, g, E, r, hx, q⟩ => ?_, fun g Q Q' E E' hq he q => ?_⟩
  · exact lift2 r hx hb.mono ha.mono q fun v1 v2 τ1 τ2 g2 H2 r2 q2 => op2_ix.1 B lim σ H2 g2 Φ v1 v2 τ1 τ2 Q r2 q2
  · exact ha.mono _ _ _ _ _ (fun τ1 g1 q1 => hb.mono _ _ _ _ _ (fun τ2 g2 q2 => (op2_ix (K := X.K)).2 _ _ _ _ (fun τ z => hq _ _ z) q2) he q1) he q
end
end DL
set_option Elab.async false
set_option linter.all false
set_option maxRecDepth 100000
set_option maxHeartbeats 4000000
namespace DL
open PySem L2
abbrev RNT := List T → (T → Prop) → Prop
def CallN (X : Cx) (f : Value) (r : List V → Hp → VK → Prop) (rt : RNT) : Prop :=
  CallR X f r ∧ (∀ (B : Bs) (lim : List Addr) (σ : St) (H : Hp) (g : Ev) (Φ : Its) (vs : List V) (τs : List T) (Q : VK), vs.length = τs.length → RepG X.K B lim σ H g (vs.zip τs ++ Φ) →
    rt τs (fun τ => ∀ v H', RepG X.K B lim σ H' g ((v, τ) :: Φ) → Q v H') → r vs H Q) ∧ ∀ τs Q Q', (∀ τ, Q τ → Q' τ) → rt τs Q → rt τs Q'
def xCB (rt : RNT) (t : DTA) : DTE := fun g Q E => t g (fun τs g1 => rt τs fun τ => Q τ g1) E
section
variable {X : Cx} {W : WX} {m : Nat → Bool} {a b c e : Expr} {es : List Expr} {ta tb tc te : DTE} {t : DTA} {bs : List (Option Nat)} {pos p : Pos} {x : Str}
theorem xCB_mono {rt : RNT} (hm : ∀ τs Q Q', (∀ τ, Q τ → Q' τ) → rt τs Q → rt τs Q') (ht : ∀ g Q Q' E E', (∀ τs g', Q τs g' → Q' τs g') → (∀ c fs g', E c fs g' → E' c fs g') → t g Q E → t g Q' E') :
    ∀ g Q Q' E E', (∀ τ g', Q τ g' → Q' τ g') → (∀ c fs g', E c fs g' → E' c fs g') → xCB rt t g Q E → xCB rt t g Q' E' := fun g Q Q' E E' hq he q =>
  ht _ _ _ _ _ (fun τs g1 q1 => hm _ _ _ (fun τ z => hq _ _ z) q1) he q
theorem d_callB {id : String} {r : List V → Hp → VK → Prop} {rt : RNT} (hc : CallN X (.builtin id) r rt) (hg : Gl X x) (hm : X.mg x = none) (hv : bootBuiltins x = some (.builtin id)) (ha : DA X W (e :: es) bs t) (hn : x ≠ "__name__" := by decide) (hdb : (x == ("__debug__" : Str)) = false := by decide)
    (he : starEach (e :: es) X.env = (false, eval e X.env) :: starEach es X.env := by rfl) (hpl : (backTo pos (starEach es X.env)).any (·.1) = false := by rfl) : DE X W (.Call (.Name x p) (e :: es) [] pos) (xCB rt t) := by
  refine ⟨fun B => PE.imp (pe_callB hc.1 hg hm hv (ha.run B) hn hdb he hpl) fun σ H Q ⟨Φ, lim, g, E, r, hx, q⟩ => ?_, xCB_mono hc.2.2 ha.mono⟩
  exact ⟨Φ, lim, g, E, r, hx, ha.mono _ _ _ _ _ (fun τs g1 q1 vs H1 hl _ r1 => hc.2.1 B lim σ H1 g1 Φ vs τs Q hl r1 (hc.2.2 _ _ _ (fun τ z v H' r' => z v H' r') q1)) (fun _ _ _ z => z) q⟩
theorem d_callTy {id : String} {r : List V → Hp → VK → Prop} {rt : RNT} (hc : CallN X (.type id) r rt) (hg : Gl X x) (hm : X.mg x = none) (hv : bootBuiltins x = some (.type id)) (ha : DA X W (e :: es) bs t) (hn : x ≠ "__name__" := by decide) (hdb : (x == ("__debug__" : Str)) = false := by decide)
    (he : starEach (e :: es) X.env = (false, eval e X.env) :: starEach es X.env := by rfl) (hpl : (backTo pos (starEach es X.env)).any (·.1) = false := by rfl) : DE X W (.Call (.Name x p) (e :: es) [] pos) (xCB rt t) := by
  refine ⟨fun B => PE.imp (pe_callTy hc.1 hg hm hv (ha.run B) hn hdb he hpl) fun σ H Q ⟨Φ, lim, g, E, r, hx, q⟩ => ?_, xCB_mono hc.2.2 ha.mono⟩
  exact ⟨Φ, lim, g, E, r, hx, ha.mono _ _ _ _ _ (fun τs g1 q1 vs H1 hl _ r1 => hc.2.1 B lim σ H1 g1 Φ vs τs Q hl r1 (hc.2.2 _ _ _ (fun τ z v H' r' => z v H' r') q1)) (fun _ _ _ z => z) q⟩
theorem one_leaf {K : PySem.W.Frag} {B : Bs} {lim : List Addr} {σ : St} {H : Hp} {g : Ev} {Φ : Its} {vs : List V} {w : V} (hl : vs.length = [T.leaf w].length) (r : RepG K B lim σ H g (vs.zip [T.leaf w] ++ Φ)) : vs = [w] ∧ RepG K B lim σ H g Φ := by
  match vs, hl with
  | [v], _ =>
    have r2 : RepG K B lim σ H g ((v, .leaf w) :: Φ) := r
    obtain rfl := r2.leaf
    exact ⟨rfl, r2.dropT⟩
theorem two_leaf {K : PySem.W.Frag} {B : Bs} {lim : List Addr} {σ : St} {H : Hp} {g : Ev} {Φ : Its} {vs : List V} {w w' : V} (hl : vs.length = [T.leaf w, T.leaf w'].length) (r : RepG K B lim σ H g (vs.zip [T.leaf w, T.leaf w'] ++ Φ)) : vs = [w, w'] ∧ RepG K B lim σ H g Φ := by
  match vs, hl with
  | [v, v'], _ =>
    have r2 : RepG K B lim σ H g ((v, .leaf w) :: (v', .leaf w') :: Φ) := r
    obtain rfl := r2.leaf
    obtain rfl := r2.dropT.leaf
    exact ⟨rfl, r2.dropT.dropT⟩
def rnAbs : RNT := fun τs Q => match τs with
  | [.leaf (.int i)] => Q (.leaf (.int (if i < 0 then -i else i)))
  | _ => False
theorem n_abs : CallN X (.builtin "abs") (fun xs H Q => ∃ i, xs = [.int i] ∧ Q (.int (if i < 0 then -i else i)) H) rnAbs := by
  refine ⟨call_abs, fun B lim σ H g Φ vs τs Q hl r q => ?_, fun τs Q Q' h q => ?_⟩
  · unfold rnAbs at q
    split at q
    · obtain ⟨rfl, r'⟩ := one_leaf hl r
      exact ⟨_, rfl, q _ _ r'.addLeaf⟩
    · exact q.elim
  · unfold rnAbs at q
    split at q
    · exact h _ q
    · exact q.elim
def rnInt : RNT := fun τs Q => match τs with
  | [.leaf (.int i)] => Q (.leaf (.int i))
  | [.leaf (.bl k)] => Q (.leaf (.int (if k then 1 else 0)))
  | _ => False
theorem n_int : CallN X (.type "int") (fun xs H Q => (∃ i, xs = [.int i] ∧ Q (.int i) H) ∨ ∃ k, xs = [.bl k] ∧ Q (.int (if k then 1 else 0)) H) rnInt := by
  refine ⟨call_int1, fun B lim σ H g Φ vs τs Q hl r q => ?_, fun τs Q Q' h q => ?_⟩
  · unfold rnInt at q
    split at q
    · obtain ⟨rfl, r'⟩ := one_leaf hl r
      exact .inl ⟨_, rfl, q _ _ r'.addLeaf⟩
    · obtain ⟨rfl, r'⟩ := one_leaf hl r
      exact .inr ⟨_, rfl, q _ _ r'.addLeaf⟩
    · exact q.elim
  · unfold rnInt at q
    split at q
    · exact h _ q
    · exact h _ q
    · exact q.elim
def rnLen : RNT := fun τs Q => match τs with
  | [.node _ .lst ts] => Q (.leaf (.int ts.length))
  | [.node _ .tup ts] => Q (.leaf (.int ts.length))
  | [.leaf (.str z)] => z.length ≤ sizeLine ∧ Q (.leaf (.int z.length))
  | _ => False
def rLenA (K : PySem.W.Frag) : List V → Hp → VK → Prop := fun xs H Q => (∃ p ys, xs = [.ref p] ∧ (SqL K H p ys ∨ SqT K H p ys) ∧ Q (.int ys.length) H) ∨ ∃ z, xs = [.str z] ∧ z.length ≤ sizeLine ∧ Q (.int z.length) H
theorem n_len : CallN X (.builtin "len") (rLenA X.K) rnLen := by
  refine ⟨call_len_seq.or call_len_str, fun B lim σ H g Φ vs τs Q hl r q => ?_, fun τs Q Q' h q => ?_⟩
  · unfold rnLen at q
    split at q
    · rename_i o ts
      match vs, hl with
      | [v], _ =>
        have r2 : RepG X.K B lim σ H g ((v, .node o .lst ts) :: Φ) := r
        obtain ⟨a, us, rfl, hl', hr⟩ := r2.node
        exact .inl ⟨a, us, rfl, .inl (seqL hr), by rw [hl']; exact q _ _ r2.dropT.addLeaf⟩
    · rename_i o ts
      match vs, hl with
      | [v], _ =>
        have r2 : RepG X.K B lim σ H g ((v, .node o .tup ts) :: Φ) := r
        obtain ⟨a, us, rfl, hl', hr⟩ := r2.node
        exact .inl ⟨a, us, rfl, .inr (seqT hr), by rw [hl']; exact q _ _ r2.dropT.addLeaf⟩
    · obtain ⟨rfl, r'⟩ := one_leaf hl r
      exact .inr ⟨_, rfl, q.1, q.2 _ _ r'.addLeaf⟩
    · exact q.elim
  · unfold rnLen at q
    split at q
    · exact h _ q
    · exact h _ q
    · exact ⟨q.1, h _ q.2⟩
    · exact q.elim
def rnMax2 : RNT := fun τs Q => match τs with
  | [.leaf (.int i), .leaf (.int j)] => Q (.leaf (.int (if j > i then j else i)))
  | _ => False
theorem n_max2 (hc : X.calm = true) : CallN X (.builtin "max") (fun xs H Q => ∃ i j, xs = [.int i, .int j] ∧ Q (.int (if j > i then j else i)) H) rnMax2 := by
  refine ⟨call_max2 hc, fun B lim σ H g Φ vs τs Q hl r q => ?_, fun τs Q Q' h q => ?_⟩
  · unfold rnMax2 at q
    split at q
    · obtain ⟨rfl, r'⟩ := two_leaf hl r
      exact ⟨_, _, rfl, q _ _ r'.addLeaf⟩
    · exact q.elim
  · unfold rnMax2 at q
    split at q
    · exact h _ q
    · exact q.elim
mutual
def toP : T → Option PyData
  | .leaf .non => some .none
  | .leaf (.bl b) => some (.bool b)
  | .leaf (.int i) => some (.int i)
  | .leaf (.str x) => some (.str x)
  | .leaf _ => none
  | .node _ .lst ts => (toPL ts).map .list
  | .node _ .tup ts => (toPL ts).map .tuple
  | .node _ _ _ => none
  | .pin _ _ => none
def toPL : List T → Option (List PyData)
  | [] => some []
  | t :: ts => match toP t with
    | none => none
    | some d => (toPL ts).map (d :: ·)
end
mutual
theorem OwnP.dp {K : PySem.W.Frag} {F : Addr → Prop} {H : Hp} : ∀ (t : T) {v : V} {fp : List Addr} {d : PyData}, OwnP K F H v t fp → toP t = some d → Dp K H v d
  | .leaf w, _, _, d, h, e => by
    cases h
    cases w <;> simp only [toP, Option.some.injEq, reduceCtorEq] at e
    · subst e; exact .non
    · subst e; exact .bl _
    · subst e; exact .int _
    · subst e; exact .str _
  | .pin _ _, _, _, _, _, e => by simp [toP] at e
  | .node o s ts, _, _, d, h, e => by
    cases s with
    | lst =>
      simp only [toP] at e
      cases q : toPL ts with
      | none => rw [q] at e; cases e
      | some ds =>
        rw [q] at e
        cases e
        cases h with
        | fz hf hr hk => exact .lst (SqL.of hr) (OwnL.dp ts hk q)
        | own ha hk => exact .lst (SqL.of ha) (OwnL.dp ts hk q)
    | tup =>
      simp only [toP] at e
      cases q : toPL ts with
      | none => rw [q] at e; cases e
      | some ds =>
        rw [q] at e
        cases e
        cases h with
        | fz hf hr hk => exact .tup (SqT.of hr) (OwnL.dp ts hk q)
        | kz hc _ hk => exact .tup (seqT (.inr hc)) (OwnL.dp ts hk q)
        | tk hr hk => exact .tup (seqT (.inl (.inl hr))) (OwnL.dp ts hk q)
        | own ha hk => exact .tup (SqT.of ha) (OwnL.dp ts hk q)
    | dK _ => simp [toP] at e
    | dT _ => simp [toP] at e
    | ins _ _ _ => simp [toP] at e
    | ext _ => simp [toP] at e
    | exc _ => simp [toP] at e
    | lk _ _ => simp [toP] at e
theorem OwnL.dp {K : PySem.W.Frag} {F : Addr → Prop} {H : Hp} : ∀ (ts : List T) {vs : List V} {fp : List Addr} {ds : List PyData}, OwnL K F H vs ts fp → toPL ts = some ds → DpAll K H vs ds
  | [], _, _, _, h, e => by
    cases h
    simp only [toPL, Option.some.injEq] at e
    subst e
    exact .nil
  | t :: ts, _, _, ds, h, e => by
    cases h with
    | cons h1 h2 =>
      simp only [toPL] at e
      cases q1 : toP t with
      | none => rw [q1] at e; cases e
      | some d =>
        rw [q1] at e
        cases q2 : toPL ts with
        | none => simp [q2] at e
        | some ds' =>
          simp only [q2, Option.map_some, Option.some.injEq] at e
          subst e
          exact .cons (OwnP.dp t h1 q1) (OwnL.dp ts h2 q2)
end
theorem RepG.dp {K : PySem.W.Frag} {B : Bs} {lim : List Addr} {σ : St} {H : Hp} {g : Ev} {Φ : Its} {v : V} {τ : T} {d : PyData} (h : RepG K B lim σ H g ((v, τ) :: Φ)) (e : toP τ = some d) : Dp K H v d := by
  obtain ⟨F, zs, fp, en, oz, f, hl⟩ := h
  obtain ⟨fp', pf, o'⟩ := oz.perm (List.perm_middle (a := (v, τ)))
  obtain ⟨f1, f2, rfl, p1, o2⟩ := OwnZ.uncons (zs := zs ++ Φ) o'
  exact p1.dp τ e
def rtEq (neg : Bool) : R2T := fun τ1 τ2 Q => match τ1, τ2 with
  | .leaf (.int i), .leaf (.int j) => Q (.leaf (.bl (if neg then !decide (i = j) else decide (i = j))))
  | .leaf (.str i), .leaf (.str j) => Q (.leaf (.bl (if neg then !decide (i = j) else decide (i = j))))
  | .leaf (.bl i), .leaf (.bl j) => Q (.leaf (.bl (if neg then !decide (i = j) else decide (i = j))))
  | τ1, τ2 => ∃ d e, toP τ1 = some d ∧ toP τ2 = some e ∧ SeqAt.shaped d = true ∧ SeqAt.shaped e = true ∧ Q (.leaf (.bl (if neg then !PyData.eqv d e else PyData.eqv d e)))
theorem rtEq_mono {neg : Bool} : ∀ τ1 τ2 Q Q', (∀ τ, Q τ → Q' τ) → rtEq neg τ1 τ2 Q → rtEq neg τ1 τ2 Q' := by
  intro τ1 τ2 Q Q' hq q
  unfold rtEq at q ⊢
  split at q
  · exact hq _ q
  · exact hq _ q
  · exact hq _ q
  · obtain ⟨d, e, h1, h2, h3, h4, q⟩ := q
    exact ⟨d, e, h1, h2, h3, h4, hq _ q⟩
def rEqA (K : PySem.W.Frag) : R2 := fun x y H Q => rEq x y H Q ∨ rEqD K x y H Q
def rNeA (K : PySem.W.Frag) : R2 := fun x y H Q => rNe x y H Q ∨ rNeD K x y H Q
theorem op_eqA (hu : X.A.units + 64 < cLine) : OpR X (compareOp .Eq) (rEqA X.K) := fun pins s σ H x y v u Q I rx ry h => h.elim (op_eq pins s σ H x y v u Q I rx ry) (op_eqD hu pins s σ H x y v u Q I rx ry)
theorem op_neA (hu : X.A.units + 64 < cLine) : OpR X (compareOp .NotEq) (rNeA X.K) := fun pins s σ H x y v u Q I rx ry h => h.elim (op_ne pins s σ H x y v u Q I rx ry) (op_neD hu pins s σ H x y v u Q I rx ry)
theorem dec_vint (i j : Int) : decide (V.int i = V.int j) = decide (i = j) := by simp
theorem dec_vstr (i j : Str) : decide (V.str i = V.str j) = decide (i = j) := by simp
theorem dec_vbl (i j : Bool) : decide (V.bl i = V.bl j) = decide (i = j) := by simp
theorem op2_eq {K : PySem.W.Frag} : Op2 K (rEqA K) (rtEq false) := by
  refine ⟨fun B lim σ H g Φ v1 v2 τ1 τ2 Q r q => ?_, rtEq_mono⟩
  unfold rtEq at q
  split at q
  · obtain rfl := r.leaf
    obtain rfl := r.dropT.leaf
    refine .inl ⟨rfl, ?_⟩
    rw [dec_vint]
    exact q _ _ r.dropT.dropT.addLeaf
  · obtain rfl := r.leaf
    obtain rfl := r.dropT.leaf
    refine .inl ⟨rfl, ?_⟩
    rw [dec_vstr]
    exact q _ _ r.dropT.dropT.addLeaf
  · obtain rfl := r.leaf
    obtain rfl := r.dropT.leaf
    refine .inl ⟨rfl, ?_⟩
    rw [dec_vbl]
    exact q _ _ r.dropT.dropT.addLeaf
  · obtain ⟨d, e, h1, h2, h3, h4, q⟩ := q
    exact .inr ⟨d, e, r.dropT.dp h1, r.dp h2, h3, h4, q _ _ r.dropT.dropT.addLeaf⟩
theorem op2_ne {K : PySem.W.Frag} : Op2 K (rNeA K) (rtEq true) := by
  refine ⟨fun B lim σ H g Φ v1 v2 τ1 τ2 Q r q => ?_, rtEq_mono⟩
  unfold rtEq at q
  split at q
  · obtain rfl := r.leaf
    obtain rfl := r.dropT.leaf
    refine .inl ⟨rfl, ?_⟩
    rw [dec_vint]
    exact q _ _ r.dropT.dropT.addLeaf
  · obtain rfl := r.leaf
    obtain rfl := r.dropT.leaf
    refine .inl ⟨rfl, ?_⟩
    rw [dec_vstr]
    exact q _ _ r.dropT.dropT.addLeaf
  · obtain rfl := r.leaf
    obtain rfl := r.dropT.leaf
    refine .inl ⟨rfl, ?_⟩
    rw [dec_vbl]
    exact q _ _ r.dropT.dropT.addLeaf
  · obtain ⟨d, e, h1, h2, h3, h4, q⟩ := q
    exact .inr ⟨d, e, r.dropT.dp h1, r.dp h2, h3, h4, q _ _ r.dropT.dropT.addLeaf⟩
def rRepr (K : PySem.W.Frag) : List V → Hp → VK → Prop := fun xs H Q => ∃ v d, xs = [v] ∧ Dp K H v d ∧ d.showable = true ∧ d.hasDict = false ∧ d.depth ≤ 60 ∧ d.shown.length ≤ sizeLine ∧ Q (.str d.shown) H
theorem reads_leafy {h : Heap} {u : Value} {d : PyData} {as : List Addr} (r : Reads h u d as) : (∃ a, u = .ref a) ∨ (u = .none ∧ d = .none) ∨ (∃ b, u = .bool b ∧ d = .bool b) ∨ (∃ i t, u = .int i t ∧ d = .int i) ∨ ∃ x t, u = .str x t ∧ d = .str x := by
  cases r with
  | none => exact .inr (.inl ⟨rfl, rfl⟩)
  | bool b => exact .inr (.inr (.inl ⟨b, rfl, rfl⟩))
  | int i t => exact .inr (.inr (.inr (.inl ⟨i, t, rfl, rfl⟩)))
  | str x t => exact .inr (.inr (.inr (.inr ⟨x, t, rfl, rfl⟩)))
  | list h1 h2 h3 h4 => exact .inl ⟨_, rfl⟩
  | tuple h1 h2 h3 h4 => exact .inl ⟨_, rfl⟩
  | dict h1 h2 h3 h4 h5 => exact .inl ⟨_, rfl⟩
theorem call_reprD (hgd : X.A.guards = some []) (hu : X.A.units + 64 < cLine) : CallR X (.builtin "repr") (rRepr X.K) := by
  intro pins s σ H xs us Q I r h
  obtain ⟨v, d, rfl, hd, hs, hnd, hdep, hsz, q⟩ := h
  obtain ⟨u, rfl, ru⟩ := Vals.one r
  obtain ⟨as, rd⟩ := Dp.reads I d v u hd ru
  have fin : ∀ (h' : Heap) (t tk : Nat), (∀ b o, s.heap.get? b = some o → h'.get? b = some o) → EP X pins σ Q (.str d.shown t) { s with heap := h', toks := tk } := fun h' t tk k => ⟨.str d.shown, H, I.kept k, ⟨t, rfl⟩, q⟩
  rcases reads_leafy rd with ⟨a, rfl⟩ | ⟨rfl, rfl⟩ | ⟨b, rfl, rfl⟩ | ⟨i, t, rfl, rfl⟩ | ⟨x, t, rfl, rfl⟩
  · exact repr_of_reads' rd hs (fun z => by rw [hnd] at z; cases z) hgd (by omega) (fun _ _ z => z) (fun h' u tk k => fin h' u tk k) hsz
  · have := fin s.heap s.toks (s.toks + 1) fun _ _ z => z
    simp only [PyData.shown] at this
    exact PySem.P.repr_of_none this
  · have := fin s.heap s.toks (s.toks + 1) fun _ _ z => z
    simp only [PyData.shown] at this
    exact PySem.P.repr_of_bool this
  · have := fin s.heap s.toks (s.toks + 1) fun _ _ z => z
    simp only [PyData.shown] at this
    exact PySem.P.repr_of_int (by simpa [PyData.showable] using hs) this
  · have := fin s.heap s.toks (s.toks + 1) fun _ _ z => z
    simp only [PyData.shown] at this hsz
    exact PySem.P.repr_of_str this hsz
def rnRepr : RNT := fun τs Q => match τs with
  | [τ] => ∃ d, toP τ = some d ∧ d.showable = true ∧ d.hasDict = false ∧ d.depth ≤ 60 ∧ d.shown.length ≤ sizeLine ∧ Q (.leaf (.str d.shown))
  | _ => False
theorem n_repr (hgd : X.A.guards = some []) (hu : X.A.units + 64 < cLine) : CallN X (.builtin "repr") (rRepr X.K) rnRepr := by
  refine ⟨call_reprD hgd hu, fun B lim σ H g Φ vs τs Q hl r q => ?_, fun τs Q Q' h q => ?_⟩
  · unfold rnRepr at q
    split at q
    · rename_i τ
      match vs, hl with
      | [v], _ =>
        have r2 : RepG X.K B lim σ H g ((v, τ) :: Φ) := r
        obtain ⟨d, h1, h2, h3, h4, h5, q⟩ := q
        exact ⟨v, d, rfl, r2.dp h1, h2, h3, h4, h5, q _ _ r2.dropT.addLeaf⟩
    · exact q.elim
  · unfold rnRepr at q
    split at q
    · obtain ⟨d, h1, h2, h3, h4, h5, q⟩ := q
      exact ⟨d, h1, h2, h3, h4, h5, h _ q⟩
    · exact q.elim
end
end DL
set_option Elab.async false
set_option linter.all false
set_option maxRecDepth 100000
set_option maxHeartbeats 4000000
namespace DL
open PySem L2
theorem upd_self {H : Hp} {a : Addr} {o : HO} (h : H a = some o) : upd H a o = H := by
  funext b
  unfold upd
  split
  · rename_i e
    rw [e, h]
  · rfl
section
variable {K : PySem.W.Frag} {B : Bs} {lim : List Addr} {σ : St} {H H' : Hp} {g : Ev} {Φ Ψ : Its}
theorem set_perm {α : Type} : ∀ {l : List α} {i : Nat} {x : α} (y : α), l[i]? = some x → ∃ r, l.Perm (x :: r) ∧ (l.set i y).Perm (y :: r)
  | [], _, _, _, h => by simp at h
  | a :: l, 0, x, y, h => by
    simp at h
    subst h
    exact ⟨l, .refl _, .refl _⟩
  | a :: l, i + 1, x, y, h => by
    obtain ⟨r, p1, p2⟩ := set_perm (l := l) (i := i) (x := x) y (by simpa using h)
    exact ⟨a :: r, (List.Perm.cons _ p1).trans (List.Perm.swap _ _ _), (List.Perm.cons _ p2).trans (List.Perm.swap _ _ _)⟩
theorem zip_set {α β : Type} : ∀ {l : List α} {r : List β} {i : Nat} {a : α} {b : β}, (l.zip r).set i (a, b) = (l.set i a).zip (r.set i b)
  | [], _, _, _, _ => by simp
  | _ :: _, [], _, _, _ => by simp
  | x :: l, y :: r, 0, a, b => rfl
  | x :: l, y :: r, i + 1, a, b => by
    simp only [List.zip_cons_cons, List.set_cons_succ, List.cons.injEq, true_and]
    exact zip_set
theorem RepG.partO {i : Nat} {s : Sh} {ts : List T} {j : Nat} {t : T} (h : RepG K B lim σ H g Φ) (e : g[i]? = some (some (.node true s ts))) (ht : ts[j]? = some t) :
    ∃ a us x, σ[i]? = some (some (.ref a)) ∧ us.length = ts.length ∧ H a = some (s.mk a us) ∧ us[j]? = some x ∧ RepG K B lim σ H (g.set i (some (.node true s (ts.set j (frz t))))) ((x, frz t) :: Φ) := by
  obtain ⟨v, hv, r1⟩ := h.move e
  obtain ⟨a, us, rfl, hl, ha, r2⟩ := r1.open_
  obtain ⟨x, hx, hz⟩ := zip_get (l := us) (r := ts) hl ht
  obtain ⟨r, p1, p2⟩ := set_perm (x, frz t) hz
  have r3 : RepG K B (a :: lim) σ H (g.set i none) ((x, t) :: (r ++ Φ)) := r2.perm (List.Perm.append_right Φ p1)
  have r4 := r3.freezeT.dup (frz_frz t)
  have r5 : RepG K B (a :: lim) σ H (g.set i none) (us.zip (ts.set j (frz t)) ++ ((x, frz t) :: Φ)) := by
    refine r4.perm ?_
    have e1 : us.zip (ts.set j (frz t)) = (us.zip ts).set j (x, frz t) := by
      rw [zip_set, set_at hx]
    rw [e1]
    refine (List.Perm.cons _ (List.Perm.append_right Φ p2.symm)).trans ?_
    exact List.perm_middle.symm
  have hl2 : us.length = (ts.set j (frz t)).length := by rw [List.length_set]; exact hl
  have r6 := r5.close (s := s) (fun vs e => by rw [List.map_fst_zip (by omega)]; exact Option.some.inj (ha.symm.trans e))
  rw [List.map_fst_zip (by omega), List.map_snd_zip (by omega), upd_self ha] at r6
  have r7 := r6.back hv
  rw [List.set_set] at r7
  exact ⟨a, us, x, hv, hl, ha, hx, r7⟩
theorem RepG.setO {i : Nat} {s : Sh} {ts : List T} {j : Nat} {w : V} {τ : T} (h : RepG K B lim σ H g ((w, τ) :: Φ)) (e : g[i]? = some (some (.node true s ts))) (hj : j < ts.length) (hs : s ≠ .tup := by intro h; cases h) :
    ∃ a us, σ[i]? = some (some (.ref a)) ∧ us.length = ts.length ∧ H a = some (s.mk a us) ∧ RepG K B lim σ (upd H a (s.mk a (us.set j w))) (g.set i (some (.node true s (ts.set j τ)))) Φ := by
  obtain ⟨v, hv, r1⟩ := h.move e
  obtain ⟨a, us, rfl, hl, ha, r2⟩ := r1.open_
  have ht : ts[j]? = some ts[j] := by simp [hj]
  obtain ⟨x, hx, hz⟩ := zip_get (l := us) (r := ts) hl ht
  obtain ⟨r, p1, p2⟩ := set_perm (w, τ) hz
  have r3 : RepG K B (a :: lim) σ H (g.set i none) ((x, ts[j]) :: (r ++ ((w, τ) :: Φ))) := r2.perm (List.Perm.append_right _ p1)
  have r5 : RepG K B (a :: lim) σ H (g.set i none) ((us.set j w).zip (ts.set j τ) ++ Φ) := by
    refine r3.dropT.perm ?_
    rw [← zip_set]
    exact List.perm_middle.trans (List.Perm.append_right Φ p2.symm)
  have hl2 : (us.set j w).length = (ts.set j τ).length := by rw [List.length_set, List.length_set]; exact hl
  have r6 := r5.close (s := s) (fun vs e => absurd (Sh.mk_tup (Option.some.inj (ha.symm.trans e))).1 hs)
  rw [List.map_fst_zip (by omega), List.map_snd_zip (by omega)] at r6
  have r7 := r6.back hv
  rw [List.set_set] at r7
  exact ⟨a, us, hv, hl, ha, r7⟩
theorem RepG.renew {i : Nat} {s s' : Sh} {ts : List T} (h : RepG K B lim σ H g Φ) (e : g[i]? = some (some (.node true s ts))) (hs : s ≠ .tup := by intro h; cases h) :
    ∃ a us, σ[i]? = some (some (.ref a)) ∧ us.length = ts.length ∧ H a = some (s.mk a us) ∧ ∀ (zs Ψ : Its), (zs ++ Ψ).Perm (us.zip ts ++ Φ) →
      RepG K B lim σ (upd H a (s'.mk a (zs.map (·.1)))) (g.set i (some (.node true s' (zs.map (·.2))))) Ψ := by
  obtain ⟨v, hv, r1⟩ := h.move e
  obtain ⟨a, us, rfl, hl, ha, r2⟩ := r1.open_
  refine ⟨a, us, hv, hl, ha, fun zs Ψ p => ?_⟩
  have r6 := (r2.perm p.symm).close (s := s') (fun vs e => absurd (Sh.mk_tup (Option.some.inj (ha.symm.trans e))).1 hs)
  have r7 := r6.back hv
  rwa [List.set_set] at r7
theorem RepG.slot {i : Nat} {t : T} (h : RepG K B lim σ H g Φ) (e : g[i]? = some (some t)) : ∃ v, σ[i]? = some (some v) := by
  obtain ⟨v, hv, _⟩ := h.move e
  exact ⟨v, hv⟩
end
section
variable {X : Cx} {W : WX} {m : Nat → Bool} {a b c e : Expr} {es : List Expr} {ta tb tc te : DTE} {t : DTA} {bs : List (Option Nat)} {pos p : Pos} {x : Str}
def atSlot (i : Nat) (g : Ev) (P : T → Prop) : Prop := match g[i]? with
  | some (some t) => P t
  | _ => False
theorem atSlot_mono {i : Nat} {g : Ev} {P P' : T → Prop} (h : ∀ t, P t → P' t) (q : atSlot i g P) : atSlot i g P' := by
  unfold atSlot at q ⊢
  split at q
  · exact h _ q
  · exact q.elim
theorem atSlot_of {i : Nat} {g : Ev} {P : T → Prop} (q : atSlot i g P) : ∃ t, g[i]? = some (some t) ∧ P t := by
  unfold atSlot at q
  split at q
  · rename_i t h
    exact ⟨t, h, q⟩
  · exact q.elim
def ownL : T → (List T → Prop) → Prop
  | .node true .lst ts, P => P ts
  | _, _ => False
theorem ownL_mono {t : T} {P P' : List T → Prop} (h : ∀ ts, P ts → P' ts) (q : ownL t P) : ownL t P' := by
  unfold ownL at q
  split at q
  · exact h _ q
  · exact q.elim
theorem ownL_of {t : T} {P : List T → Prop} (q : ownL t P) : ∃ ts, t = .node true .lst ts ∧ P ts := by
  unfold ownL at q
  split at q
  · exact ⟨_, rfl, q⟩
  · exact q.elim
def isI : T → (Int → Prop) → Prop
  | .leaf (.int i), P => P i
  | _, _ => False
theorem isI_mono {t : T} {P P' : Int → Prop} (h : ∀ i, P i → P' i) (q : isI t P) : isI t P' := by
  unfold isI at q
  split at q
  · exact h _ q
  · exact q.elim
theorem isI_of {t : T} {P : Int → Prop} (q : isI t P) : ∃ i, t = .leaf (.int i) ∧ P i := by
  unfold isI at q
  split at q
  · exact ⟨_, rfl, q⟩
  · exact q.elim
theorem ixN_lt {n : Nat} {k : Int} {j : Nat} (h : ixN n k = some j) : j < n := (ixN_seq h).2.1
def xIxO (i : Nat) (tb : DTE) : DTE := fun g Q E => atSlot i g fun _ => tb g (fun τ2 g1 => isI τ2 fun k => atSlot i g1 fun t0 => ownL t0 fun ts => ∃ j t, ixN ts.length k = some j ∧ ts[j]? = some t ∧ Q (frz t) (g1.set i (some (.node true .lst (ts.set j (frz t)))))) E
theorem d_ixO (i : Nat) (ha : PE X a (tVar i)) (hb : DE X W b tb) (hs : PlainIx b := by intro _ _; rfl) : DE X W (.Subscript a b pos) (xIxO i tb) := by
  refine ⟨fun B => PE.imp (pe_ix ix_list ha (hb.run B) hs) fun σ H Q ⟨Φ, lim, g, E, r, hx, q⟩ => ?_, fun g Q Q' E E' hq he q => atSlot_mono (fun _ q => hb.mono _ _ _ _ _ (fun τ g1 q1 => isI_mono (fun k q2 => atSlot_mono (fun t0 q3 => ownL_mono (fun ts ⟨j, t, h1, h2, q4⟩ => ⟨j, t, h1, h2, hq _ _ q4⟩) q3) q2) q1) he q) q⟩
  obtain ⟨t0, h0, q⟩ := atSlot_of q
  obtain ⟨v, hv⟩ := r.slot h0
  refine ⟨v, hv, Φ, lim, g, E, r, hx, hb.mono _ _ _ _ _ (fun τ2 g1 q1 v2 H2 r2 => ?_) (fun _ _ _ z => z) q⟩
  obtain ⟨k, rfl, q1⟩ := isI_of q1
  obtain ⟨t1, h1, q1⟩ := atSlot_of q1
  obtain ⟨ts, rfl, j, t, hj, ht, q1⟩ := ownL_of q1
  obtain rfl := r2.leaf
  obtain ⟨ad, us, y, hv2, hl, hH, hy, r3⟩ := r2.dropT.partO h1 ht
  rw [hv] at hv2
  cases hv2
  refine ⟨ad, us, k, y, rfl, rfl, SqL.of hH, ?_, q1 _ _ r3⟩
  unfold atI
  rw [hl, hj]
  exact hy
def gSetI (i : Nat) (ti : DTE) : DTG := fun τ g Q => atSlot i g fun _ => ti g (fun τ2 g1 => isI τ2 fun k => atSlot i g1 fun t0 => ownL t0 fun ts => ∃ j, ixN ts.length k = some j ∧ Q (g1.set i (some (.node true .lst (ts.set j τ))))) noX
theorem dg_setI {o ix : Expr} {ti : DTE} (i : Nat) (ho : PE X o (tVar i)) (hi : DE X W0 ix ti) (ha : ∀ v, assign (.Subscript o ix pos) X.env v = (do
      let ov ← holding [v] (eval o X.env)
      let iv ← holding [v, ov] (eval ix X.env)
      standAt pos
      holding [v, ov, iv] (setItem ov iv v)
      release [v, ov, iv] []) := by intro _; rfl) : DG X m (.Subscript o ix pos) (gSetI i ti) := by
  refine ⟨fun B σ0 => PG.imp (pg_sub ho (hi.run B) set_list ha) fun v σ H Q ⟨Φ, lim, g, τ, r, hk, q⟩ => ?_, fun τ g Q Q' h q => atSlot_mono (fun _ q => hi.mono _ _ _ _ _ (fun τ g1 q1 => isI_mono (fun k q2 => atSlot_mono (fun t0 q3 => ownL_mono (fun ts ⟨j, h1, q4⟩ => ⟨j, h1, h _ q4⟩) q3) q2) q1) (fun _ _ _ z => z) q) q⟩
  obtain ⟨t0, h0, q⟩ := atSlot_of q
  obtain ⟨v0, hv⟩ := r.slot h0
  refine ⟨v0, hv, (v, τ) :: Φ, lim, g, noX, r, liftX0, hi.mono _ _ _ _ _ (fun τ2 g1 q1 v2 H2 r2 => ?_) (fun _ _ _ z => z) q⟩
  obtain ⟨k, rfl, q1⟩ := isI_of q1
  obtain ⟨t1, h1, q1⟩ := atSlot_of q1
  obtain ⟨ts, rfl, j, hj, q1⟩ := ownL_of q1
  obtain rfl := r2.leaf
  obtain ⟨ad, us, hv2, hl, hH, r3⟩ := r2.dropT.setO h1 (ixN_lt hj)
  rw [hv] at hv2
  cases hv2
  exact ⟨ad, us, k, j, rfl, rfl, hH, by rw [hl]; exact hj, q1 _ _ r3 hk⟩
theorem get_list : PGet X (fun o i H Q => ∃ (p : Addr) (xs : List V) (k : Int) (v : V), o = .ref p ∧ i = .int k ∧ 0 ≤ k ∧ SqL X.K H p xs ∧ xs[k.toNat]? = some v ∧ Q v H) := by
  intro pins s σ H o i ov iv Q I ro ri h
  obtain ⟨pa, xs, k, v, rfl, rfl, h0, hs, hv, q⟩ := h
  cases ro
  obtain ⟨t, rfl⟩ := ri
  obtain ⟨its, r, pl, hz⟩ := I.list hs
  obtain ⟨w, ew, rw'⟩ := r.get hv
  have hl := r.length
  have hn := line63
  have hk : k.toNat < xs.length := by
    rw [List.getElem?_eq_some_iff] at hv
    exact hv.1
  exact wpAny_getItem_list pl.isList h0 (by omega) (by simpa using ew) ⟨v, H, I, rw', q⟩
def isLf : T → (V → Prop) → Prop
  | .leaf w, P => P w
  | _, _ => False
theorem isLf_mono {t : T} {P P' : V → Prop} (h : ∀ i, P i → P' i) (q : isLf t P) : isLf t P' := by
  unfold isLf at q
  split at q
  · exact h _ q
  · exact q.elim
theorem isLf_of {t : T} {P : V → Prop} (q : isLf t P) : ∃ i, t = .leaf i ∧ P i := by
  unfold isLf at q
  split at q
  · exact ⟨_, rfl, q⟩
  · exact q.elim
def sAugI (i : Nat) (ti : DTE) (rt : R2T) (te : DTE) : DTS := fun D g => atSlot i g fun _ => ti g (fun τ2 g1 => isI τ2 fun k => 0 ≤ k ∧ atSlot i g1 fun t0 => ownL t0 fun ts => ∃ t, ts[k.toNat]? = some t ∧ isLf t fun w => te g1 (fun τe g2 => rt (.leaf w) τe fun τ =>
  atSlot i g2 fun t2 => ownL t2 fun ts2 => k.toNat < ts2.length ∧ D.nx (g2.set i (some (.node true .lst (ts2.set k.toNat τ))))) D.ex) D.ex
theorem ds_augI {o ix : Expr} {ti : DTE} {op : Operator} {rr : R2} {rt : R2T} {tpos : Pos} (i : Nat) (ho : PE X o (tVar i)) (hi : DE X W ix ti) (he : DE X W e te) (hp : OpR X (inplaceOp op) rr) (hr : Op2 X.K rr rt)
    (ha : ∀ ov iv new, augStore ix ov iv new = (do holding [new, ov, iv] (setItem ov iv new); release [new, ov, iv] []; pure .next) := by intros; rfl) : DS X W m (.AugAssign (.Subscript o ix tpos) op e pos) (sAugI i ti rt te) := by
  refine .mk' (fun B σ0 => ps_augS ho (hi.run B) get_list (he.run B) hp set_list ha) (fun B σ0 D σ H Φ lim g E r hk hX q => ?_) fun D D' g h q => ?_
  · obtain ⟨t0, h0, q⟩ := atSlot_of q
    obtain ⟨v0, hv⟩ := r.slot h0
    refine ⟨v0, hv, Φ, lim, g, E, r, hX σ hk, hi.mono _ _ _ _ _ (fun τ2 g1 q1 v2 H2 r2 => ?_) (fun _ _ _ z => z) q⟩
    obtain ⟨k, rfl, hk0, q1⟩ := isI_of q1
    obtain ⟨t1, h1, q1⟩ := atSlot_of q1
    obtain ⟨ts, rfl, t, ht, q1⟩ := ownL_of q1
    obtain ⟨w, rfl, q1⟩ := isLf_of q1
    obtain rfl := r2.leaf
    obtain ⟨ad, us, y, hv2, hl, hH, hy, r3⟩ := r2.dropT.partO h1 ht
    rw [hv] at hv2
    cases hv2
    obtain rfl := r3.leaf
    have r4 : RepG X.K B lim σ H2 g1 ((y, .leaf y) :: Φ) := by
      have e1 : ts.set k.toNat (frz (.leaf y)) = ts := by
        show ts.set k.toNat (.leaf y) = ts
        exact set_at ht
      rw [e1, set_at h1] at r3
      exact r3
    refine ⟨ad, us, k, y, rfl, rfl, hk0, SqL.of hH, hy, (y, .leaf y) :: Φ, lim, g1, E, r4, hX σ hk, he.mono _ _ _ _ _ (fun τe g2 q2 v3 H3 r5 => ?_) (fun _ _ _ z => z) q1⟩
    refine hr.1 B lim σ H3 g2 Φ y v3 _ τe _ r5 (hr.2 _ _ _ _ (fun τ q3 v4 H4 r6 => ?_) q2)
    obtain ⟨t2, h2, q3⟩ := atSlot_of q3
    obtain ⟨ts2, rfl, hlt, q3⟩ := ownL_of q3
    obtain ⟨ad2, us2, hv3, hl2, hH2, r7⟩ := r6.setO h2 hlt
    rw [hv] at hv3
    cases hv3
    refine ⟨ad, us2, k, k.toNat, rfl, rfl, hH2, ?_, q3 _ _ r7 hk⟩
    unfold ixN
    rw [if_pos hk0, hl2, if_pos (by omega)]
  · refine atSlot_mono (fun _ q => hi.mono _ _ _ _ _ (fun τ g1 q1 => isI_mono (fun k q2 => ⟨q2.1, atSlot_mono (fun t0 q3 => ownL_mono (fun ts ⟨t, h1, q4⟩ => ⟨t, h1, isLf_mono (fun w q5 => ?_) q4⟩) q3) q2.2⟩) q1) h.ex q) q
    exact he.mono _ _ _ _ _ (fun τe g2 q6 => hr.2 _ _ _ _ (fun τ q7 => atSlot_mono (fun t2 q8 => ownL_mono (fun ts2 q9 => ⟨q9.1, h.nx _ q9.2⟩) q8) q7) q6) h.ex q5
def sAug (i : Nat) (rt : R2T) (te : DTE) : DTS := fun D g => atSlot i g fun t0 => isLf t0 fun w => te g (fun τe g1 => rt (.leaf w) τe fun τ => D.nx (g1.set i (some (frz τ)))) D.ex
theorem ds_aug {i : Nat} {op : Operator} {rr : R2} {rt : R2T} {pos' : Pos} (hN : X.N.Nodup) (hi : X.N[i]? = some x) (hx : Loc X.env.scope x) (he : DE X W e te) (hp : OpR X (inplaceOp op) rr) (hr : Op2 X.K rr rt) (hm : m i = false)
    (hf : X.fn x = true ∨ X.env.scope.names.lookup x = some .local := by first | exact .inl rfl | exact .inr rfl | assumption) : DS X W m (.AugAssign (.Name x pos') op e pos) (sAug i rt te) := by
  refine .mk' (fun B σ0 => ps_aug hN hi hx (he.run B) hp hf) (fun B σ0 D σ H Φ lim g E r hk hX q => ?_) fun D D' g h q => ?_
  · obtain ⟨t0, h0, q⟩ := atSlot_of q
    obtain ⟨w, rfl, q⟩ := isLf_of q
    obtain ⟨v0, hv, r1⟩ := r.look h0 rfl
    obtain rfl := r1.leaf
    refine ⟨v0, hv, (v0, .leaf v0) :: Φ, lim, g, E, r1, hX σ hk, he.mono _ _ _ _ _ (fun τe g1 q1 v1 H1 r2 => ?_) (fun _ _ _ z => z) q⟩
    exact hr.1 B lim σ H1 g1 Φ v0 v1 _ τe _ r2 (hr.2 _ _ _ _ (fun τ q2 v2 H2 r3 => q2 _ _ r3.freezeT.put' (hk.set hm)) q1)
  · exact atSlot_mono (fun t0 q => isLf_mono (fun w q => he.mono _ _ _ _ _ (fun τe g1 q1 => hr.2 _ _ _ _ (fun τ q2 => h.nx _ q2) q1) h.ex q) q) q
def xApp (i : Nat) (te : DTE) : DTE := fun g Q E => atSlot i g fun t0 => ownL t0 fun _ => te g (fun τ g1 => atSlot i g1 fun t1 => ownL t1 fun ts => ts.length < sizeLine ∧ Q (.leaf .non) (g1.set i (some (.node true .lst (ts ++ [τ]))))) E
theorem d_app {o : Expr} {apos cpos : Pos} (i : Nat) (ho : PE X o (tVar i)) (he : DE X W e te) (hbase : attributeBase o "append" X.env (eval o X.env) = eval o X.env := by rfl)
    (hfew : ((backTo cpos (starEach [e] X.env)).all (fun x => !x.1) && (backToKw cpos (keywordEach [] X.env)).all (fun x => x.1.isSome) && decide ([e].length + ([] : List Keyword).length + (if ([] : List Keyword).isEmpty then 0 else 1) < 30)) = true := by rfl)
    (hline : (apos.endLine == cpos.line) = true := by rfl) (hs : starEach [e] X.env = (false, eval e X.env) :: starEach [] X.env := by rfl) (hplain : (backTo cpos (starEach [] X.env)).any (·.1) = false := by rfl) : DE X W (.Call (.Attribute o "append" apos) [e] [] cpos) (xApp i te) := by
  refine ⟨fun B => PE.imp (pe_bm PySem.F.plainAttrs_list PySem.F.slot_list_append PySem.F.type_list_append mt_append ho (pa_cons (he.run B) pa_nil hs) hbase hfew hline hs hplain) fun σ H Q ⟨Φ, lim, g, E, r, hx, q⟩ => ?_, fun g Q Q' E E' hq hE q => ?_⟩
  · obtain ⟨t0, h0, q⟩ := atSlot_of q
    obtain ⟨ts0, rfl, q⟩ := ownL_of q
    obtain ⟨ad, us, hv, hl, hH, _⟩ := r.renew (s' := .lst) h0
    refine ⟨.ref ad, hv, .inl ⟨rfl, us, SqL.of hH⟩, Φ, lim, g, E, r, hx, he.mono _ _ _ _ _ (fun τ g1 q1 w H1 r1 => ?_) (fun _ _ _ z => z) q⟩
    obtain ⟨t1, h1, q1⟩ := atSlot_of q1
    obtain ⟨ts, rfl, hlt, q1⟩ := ownL_of q1
    obtain ⟨ad2, us2, hv2, hl2, hH2, k⟩ := r1.renew (s' := .lst) h1
    rw [hv] at hv2
    cases hv2
    refine ⟨ad, us2, w, rfl, rfl, hH2, by omega, ?_⟩
    have r2 := k (us2.zip ts ++ [(w, τ)]) Φ (by rw [List.append_assoc]; exact .refl _)
    have e1 : ((us2.zip ts ++ [(w, τ)]).map (·.1)) = us2 ++ [w] := by
      rw [List.map_append, List.map_fst_zip (by omega)]
      rfl
    have e2 : ((us2.zip ts ++ [(w, τ)]).map (·.2)) = ts ++ [τ] := by
      rw [List.map_append, List.map_snd_zip (by omega)]
      rfl
    rw [e1, e2] at r2
    exact q1 _ _ r2.addLeaf
  · exact atSlot_mono (fun t0 q => ownL_mono (fun _ q => he.mono _ _ _ _ _ (fun τ g1 q1 => atSlot_mono (fun t1 q2 => ownL_mono (fun ts q3 => ⟨q3.1, hq _ _ q3.2⟩) q2) q1) hE q) q) q
end
end DL
set_option Elab.async false
set_option linter.all false
set_option maxRecDepth 100000
set_option maxHeartbeats 4000000
namespace DL
open PySem L2
section
variable {K : PySem.W.Frag} {B : Bs} {lim : List Addr} {σ : St} {H H' : Hp} {g : Ev} {Φ Ψ : Its}
theorem RepG.leaves : ∀ {ws vs : List V}, vs.length = (ws.map T.leaf).length → RepG K B lim σ H g (vs.zip (ws.map T.leaf) ++ Φ) → vs = ws
  | [], [], _, _ => rfl
  | [], _ :: _, h, _ => by cases h
  | _ :: _, [], h, _ => by cases h
  | w :: ws, v :: vs, h, r => by
    have r1 : RepG K B lim σ H g ((v, .leaf w) :: (vs.zip (ws.map T.leaf) ++ Φ)) := r
    obtain rfl := r1.leaf
    rw [RepG.leaves (ws := ws) (vs := vs) (by simpa using h) r1.dropT]
theorem frzL_leaves (ws : List V) : frzL (ws.map T.leaf) = ws.map T.leaf := by
  rw [frzL_map, List.map_map]
  rfl
theorem RepG.flats {v : V} {o : Bool} {s : Sh} {ws : List V} (h : RepG K B lim σ H g ((v, .node o s (ws.map T.leaf)) :: Φ)) :
    ∃ a, v = .ref a ∧ (Rd H a (s.mk a ws) ∨ Konst K a ws s) := by
  obtain ⟨a, vs, e, hl, hr, r⟩ := h.parts
  rw [frzL_leaves] at r
  rw [RepG.leaves hl r] at hr
  exact ⟨a, e, hr⟩
theorem RepG.kidsH {v : V} {s : Sh} {ts : List T} (hs : s ≠ .tup) (h : RepG K B lim σ H g ((v, .node false s ts) :: Φ)) :
    ∃ a vs, v = .ref a ∧ vs.length = ts.length ∧ H a = some (s.mk a vs) ∧ RepG K B lim σ H g (vs.zip ts ++ (v, .node false s ts) :: Φ) := by
  obtain ⟨F, zs, fp, en, oz, f, hl⟩ := h
  obtain ⟨fp', pf, o'⟩ := oz.perm (List.perm_middle (a := (v, T.node false s ts)))
  obtain ⟨f1, f2, rfl, p1, o2⟩ := OwnZ.uncons (zs := zs ++ Φ) o'
  have f' := f.perm (List.Perm.append_left lim pf)
  have p1' := p1
  have fin : ∀ vs : List V, OwnL K F H vs ts [] → f1 = [] → RepG K B lim σ H g (vs.zip ts ++ (v, .node false s ts) :: Φ) := fun vs hk e => by
    subst e
    have oz2 : OwnZ K F H (vs.zip ts ++ ((v, T.node false s ts) :: (zs ++ Φ))) ([] ++ ([] ++ f2)) := hk.zip.append (.cons p1' o2)
    refine rep_items (ds := []) en oz2 f' hl ?_
    rw [List.nil_append]
    have e1 : (vs.zip ts ++ (v, T.node false s ts) :: (zs ++ Φ)).Perm ((zs ++ ((v, T.node false s ts) :: Φ)) ++ vs.zip ts) :=
      List.perm_append_comm.trans (List.Perm.append_right _ List.perm_middle.symm)
    refine e1.trans ?_
    rw [List.append_assoc]
    exact List.Perm.append_left _ List.perm_append_comm
  cases p1 with
  | fz hf hr hk => exact ⟨_, _, rfl, hk.length, hr, fin _ hk rfl⟩
  | kz hc _ hk => exact absurd rfl hs
  | tk _ _ => exact absurd rfl hs
theorem RepG.subs {zs ys : Its} (e : ys.Sublist zs) (h : RepG K B lim σ H g (zs ++ Φ)) : RepG K B lim σ H g (ys ++ Φ) := by
  induction e generalizing Φ with
  | slnil => exact h
  | cons x _ ih => exact ih (RepG.dropT h)
  | cons_cons x _ ih =>
    rename_i l1 l2 _
    have h1 : RepG K B lim σ H g (l2 ++ x :: Φ) := h.perm List.perm_middle.symm
    exact (ih h1).perm List.perm_middle
end
def cutA {α : Type} (xs : List α) (lo hi : Option Int) : List α := (xs.drop (HT.sIx xs.length 0 lo)).take (HT.sIx xs.length xs.length hi - HT.sIx xs.length 0 lo)
theorem cutA_zip {α β : Type} {xs : List α} {ys : List β} (h : xs.length = ys.length) (lo hi : Option Int) : (cutA xs lo hi).zip (cutA ys lo hi) = cutA (xs.zip ys) lo hi := by
  unfold cutA
  have e : (xs.zip ys).length = xs.length := by rw [List.length_zip]; omega
  rw [e, ← h, List.zip_eq_zipWith, List.zip_eq_zipWith, List.drop_zipWith, List.take_zipWith]
theorem cutA_sub {α : Type} (xs : List α) (lo hi : Option Int) : (cutA xs lo hi).Sublist xs := (List.take_sublist _ _).trans (List.drop_sublist _ _)
theorem cutA_len {α β : Type} {xs : List α} {ys : List β} (h : xs.length = ys.length) (lo hi : Option Int) : (cutA xs lo hi).length = (cutA ys lo hi).length := by
  unfold cutA
  rw [List.length_take, List.length_take, List.length_drop, List.length_drop, h]
abbrev DTO := Ev → (Option Int → Ev → Prop) → XP → Prop
def liftO (K : PySem.W.Frag) (B : Bs) (W : WX) (t : DTO) : TO := fun σ H Q => ∃ (Φ : Its) (lim : List Addr) (g : Ev) (E : XP), RepG K B lim σ H g Φ ∧ liftX K B W σ E ∧ t g (fun o g' => ∀ H', RepG K B lim σ H' g' Φ → Q o H') E
structure DO (X : Cx) (W : WX) (e : Option Expr) (t : DTO) : Prop where
  run : ∀ B, PO X e (liftO X.K B W t)
  mono : ∀ g Q Q' E E', (∀ b g', Q b g' → Q' b g') → (∀ c fs g', E c fs g' → E' c fs g') → t g Q E → t g Q' E'
def xNoP : DTO := fun g Q _ => Q none g
def xPart (te : DTE) : DTO := fun g Q E => te g (fun τ g1 => isI τ fun i => Q (some i) g1) E
theorem PO.imp {X : Cx} {e : Option Expr} {t t' : TO} (h : PO X e t) (i : ∀ σ H Q, t' σ H Q → t σ H Q) : PO X e t' := ⟨fun pins s σ H Q I hw => h.run pins s σ H Q I (i σ H Q hw)⟩
section
variable {X : Cx} {W : WX} {m : Nat → Bool} {a b c e : Expr} {es : List Expr} {ta tb tc te : DTE} {t : DTA} {bs : List (Option Nat)} {pos p p2 : Pos} {x : Str} {lo hi : Option Expr} {tl th : DTO}
theorem do_none : DO X W none xNoP := ⟨fun B => PO.imp po_none fun σ H Q ⟨Φ, lim, g, E, r, hx, q⟩ => q H r, fun g Q Q' E E' hq _ q => hq _ _ q⟩
theorem do_some (h : DE X W e te) : DO X W (some e) (xPart te) := by
  refine ⟨fun B => PO.imp (po_some (h.run B)) fun σ H Q ⟨Φ, lim, g, E, r, hx, q⟩ => ?_, fun g Q Q' E E' hq he q => h.mono _ _ _ _ _ (fun τ g1 q1 => isI_mono (fun i z => hq _ _ z) q1) he q⟩
  refine ⟨Φ, lim, g, E, r, hx, h.mono _ _ _ _ _ (fun τ g1 q1 v H1 r1 => ?_) (fun _ _ _ z => z) q⟩
  obtain ⟨i, rfl, q1⟩ := isI_of q1
  obtain rfl := r1.leaf
  exact ⟨i, rfl, q1 _ r1.dropT⟩
theorem make_cut {B : Bs} {K : PySem.W.Frag} {lim : List Addr} {σ : St} {H : Hp} {g : Ev} {Φ : Its} {us : List V} {ts : List T} {lo hi : Option Int} (s : Sh) (hl : us.length = ts.length) (r : RepG K B lim σ H g (us.zip ts ++ Φ)) {q : Addr} (hq : H q = none) :
    RepG K B lim σ (upd H q (s.mk q (cutV us lo hi))) g ((.ref q, .node true s (cutA ts lo hi)) :: Φ) := by
  have r1 : RepG K B lim σ H g ((cutA us lo hi).zip (cutA ts lo hi) ++ Φ) := by
    rw [cutA_zip hl]
    exact r.subs (cutA_sub _ _ _)
  exact make_of s (cutA_len hl lo hi) r1 hq
theorem leavesR {B : Bs} {K : PySem.W.Frag} {lim : List Addr} {σ : St} {H : Hp} {g : Ev} {Φ : Its} (r : RepG K B lim σ H g Φ) : ∀ vs : List V, RepG K B lim σ H g (vs.zip (vs.map T.leaf) ++ Φ)
  | [] => r
  | v :: vs => (leavesR r vs).addLeaf
def rtCat : R2T := fun τ1 τ2 Q => match τ1, τ2 with
  | .node _ .lst ts, .node _ .lst us => ts.length + us.length ≤ sizeLine ∧ Q (.node true .lst (frzL ts ++ frzL us))
  | .leaf (.int i), .leaf (.int j) => Q (.leaf (.int (i + j)))
  | _, _ => False
theorem rtCat_mono : ∀ τ1 τ2 Q Q', (∀ τ, Q τ → Q' τ) → rtCat τ1 τ2 Q → rtCat τ1 τ2 Q' := by
  intro τ1 τ2 Q Q' hq q
  unfold rtCat at q
  split at q
  · exact ⟨q.1, hq _ q.2⟩
  · exact hq _ q
  · exact q.elim
def rAdd : R2 := fun x y H Q => rCat x y H Q ∨ rI0 (fun i j => .int (i + j)) x y H Q
theorem frz_node (o : Bool) (s : Sh) (ts : List T) : frz (T.node o s ts) = .node false s (frzL ts) := by simp [frz]
theorem zip_app {α β : Type} {l l' : List α} {r r' : List β} (h : l.length = r.length) : (l ++ l').zip (r ++ r') = l.zip r ++ l'.zip r' := List.zip_append h
theorem op2_cat {K : PySem.W.Frag} : Op2 K rAdd rtCat := by
  refine ⟨fun B lim σ H g Φ v1 v2 τ1 τ2 Q r q => ?_, rtCat_mono⟩
  unfold rtCat at q
  split at q
  · rename_i o ts o' us
    have r0 := r.freezeT
    rw [frz_node] at r0
    have r1 := (r0.perm (List.Perm.swap _ _ _)).freezeT
    rw [frz_node] at r1
    obtain ⟨a1, vs1, rfl, hl1, hr1, r2⟩ := r1.kidsH (by nofun)
    have r3 := r2.perm (Ψ := (v2, .node false .lst (frzL us)) :: (vs1.zip (frzL ts) ++ (V.ref a1, T.node false .lst (frzL ts)) :: Φ)) (by
      have e := List.perm_middle (a := (v2, T.node false .lst (frzL us))) (l₁ := vs1.zip (frzL ts) ++ [(V.ref a1, T.node false .lst (frzL ts))]) (l₂ := Φ)
      simpa using e)
    obtain ⟨a2, vs2, rfl, hl2, hr2, r4⟩ := r3.kidsH (by nofun)
    refine .inl ⟨a1, a2, vs1, vs2, rfl, rfl, hr1, hr2, by rw [hl1, hl2, frzL_length, frzL_length]; exact q.1, fun p hp => q.2 _ _ ?_⟩
    have r5 : RepG K B lim σ H g ((vs1 ++ vs2).zip (frzL ts ++ frzL us) ++ Φ) := by
      rw [zip_app hl1]
      have r6 := r4.perm (Ψ := (V.ref a2, T.node false .lst (frzL us)) :: (V.ref a1, T.node false .lst (frzL ts)) :: (vs1.zip (frzL ts) ++ vs2.zip (frzL us) ++ Φ)) (by
        refine (List.perm_middle).trans (List.Perm.cons _ ?_)
        have e1 : (vs2.zip (frzL us) ++ (vs1.zip (frzL ts) ++ (V.ref a1, T.node false .lst (frzL ts)) :: Φ)).Perm ((V.ref a1, T.node false .lst (frzL ts)) :: (vs2.zip (frzL us) ++ (vs1.zip (frzL ts) ++ Φ))) := by
          rw [← List.append_assoc, ← List.append_assoc]
          exact List.perm_middle
        refine e1.trans (List.Perm.cons _ ?_)
        rw [← List.append_assoc]
        exact List.Perm.append_right _ List.perm_append_comm)
      exact r6.dropT.dropT
    have hl : (vs1 ++ vs2).length = (frzL ts ++ frzL us).length := by rw [List.length_append, List.length_append, hl1, hl2]
    exact make_of .lst hl r5 hp
  · obtain rfl := r.leaf
    obtain rfl := r.dropT.leaf
    exact .inr ⟨_, _, rfl, rfl, q _ _ r.dropT.dropT.addLeaf⟩
  · exact q.elim
abbrev intsT (ns : List Int) : List T := ns.map fun i => .leaf (.int i)
theorem intsT_eq (ns : List Int) : intsT ns = (ns.map V.int).map T.leaf := by rw [List.map_map]; rfl
def rnSum : RNT := fun τs Q => match τs with
  | [.node _ .lst ts] => ∃ ns : List Int, ts = intsT ns ∧ Q (.leaf (.int ns.sum))
  | _ => False
theorem n_sum (hc : X.calm = true) : CallN X (.builtin "sum") (rSum X.K) rnSum := by
  refine ⟨cr_sum hc, fun B lim σ H g Φ vs τs Q hl r q => ?_, fun τs Q Q' h q => ?_⟩
  · unfold rnSum at q
    split at q
    · obtain ⟨ns, rfl, q⟩ := q
      match vs, hl with
      | [v], _ =>
        rename_i o _
        have r2 : RepG X.K B lim σ H g ((v, .node o .lst ((ns.map V.int).map T.leaf)) :: Φ) := by
          rw [← intsT_eq]
          exact r
        obtain ⟨a, rfl, hr⟩ := r2.flats
        exact ⟨a, ns, rfl, seqL hr, q _ _ r2.dropT.addLeaf⟩
    · exact q.elim
  · unfold rnSum at q
    split at q
    · obtain ⟨ns, e, q⟩ := q
      exact ⟨ns, e, h _ q⟩
    · exact q.elim
abbrev TRg := St → Hp → (Int → Int → Hp → Prop) → Prop
theorem PRg.imp {X : Cx} {e : Expr} {t t' : TRg} (h : PRg X e t) (i : ∀ σ H Q, t' σ H Q → t σ H Q) : PRg X e t' := fun pins s σ H Q I hw => h pins s σ H Q I (i σ H Q hw)
end
end DL
set_option Elab.async false
set_option linter.all false
set_option maxRecDepth 100000
set_option maxHeartbeats 4000000
namespace DL
open PySem L2 PySem.Spec PyProof.Rows
theorem spD_law {K : PySem.W.Frag} {mg : Str → Option Value} {H : Hp} {a : Addr} {ns : List Int} {m : DSp} (hm : MonoD m) (hS : SqL K H a (ns.map V.int)) (h : m [.pin .lst (ns.map V.int)] (fun t _ => t = .leaf (.bl true)) fun _ _ _ => False) :
    spD K mg [false] m [.ref a] H (fun v _ => v = .bl true) fun _ _ _ => False := by
  have fin : ∀ F : Addr → Prop, OwnP K F H (.ref a) (.pin .lst (ns.map V.int)) [] → (∀ b, F b → H b ≠ none) → spD K mg [false] m [.ref a] H (fun v _ => v = .bl true) fun _ _ _ => False := fun F o ht => by
    refine ⟨[.pin .lst (ns.map V.int)], F, [], .cons (fp := []) (fp' := []) o .nil, .nil, (fun _ z => nomatch z), ht, rfl, hm _ (fun t _ => t = .leaf (.bl true)) _ (fun _ _ _ => False) _ (fun t us e v H' aft => ?_) (fun _ _ _ z => z.elim) h⟩
    subst e
    obtain ⟨F', f', hl, o2, _⟩ := aft
    have o3 : OwnZ K F' H' [(v, .leaf (.bl true))] f' := by
      have : (pick [false] [V.ref a]).zip us = [] := by
        show ([] : List V).zip us = []
        rfl
      rw [this] at o2
      exact o2
    obtain ⟨f1, f2, _, p, _⟩ := o3.uncons
    cases p
    rfl
  rcases hS with hr | ⟨o, its, n, h1, h2, h3, h4, h5, h6⟩
  · refine fin (fun b => b = a) (.pinF rfl hr) fun b e => ?_
    subst e
    rcases hr with hr | ⟨o, hr⟩
    · rw [hr]; exact nofun
    · rw [hr]; exact nofun
  · exact fin (fun _ => False) (.pinK ⟨o, its, n, h1, h2, h3, h4, h5, h6⟩) fun _ z => z.elim
theorem law_callG {P : Program} {w : World} {K : PySem.W.Frag} {mg mb : Str → Option Value} {k : Nat} {fa a : Addr} {fd : FuncData} {x : Str} {sp : Sp} {s₁ : Shared} {vs : List Value} {ns : List Int}
    (KX : K.In s₁.heap) (hns : s₁.heap.Ns mainGlobals mg) (hb : s₁.heap.Ns builtinsNs mb) (hbb : ∀ x : Str, x ≠ "__name__" → mb x = bootBuiltins x) (hlim : s₁.heap.NoLimit) (hg : s₁.gens = #[])
    (ha : s₁.heap.get? a = some { cls := .type "list", data := .seq vs.toArray }) (hi : IntsAre vs ns) (hl : ns.length ≤ sizeLine) (hr : Room k callerA)
    (F : ∀ base : Heap, K.In base → base.Ns mainGlobals mg → FnG P w K mg base k fa fd [x] sp) (hbind : ∀ (s : Shared) (u : Value), BindsTo s fd ⟨[u], []⟩ [(x, u)])
    (hsp : ∀ H : Hp, SqL K H a (ns.map V.int) → sp [.ref a] H (fun v _ => v = .bl true) fun _ _ _ => False) :
    codeAny (model P w) callerA (.call (.ref fa) ⟨[.ref a], []⟩) (fun r s' => r = .ok (.ret (.bool true)) ∧ OldK s₁.heap s'.heap ∧ s'.os = s₁.os ∧ AllBare s'.gens) s₁ := by
  have rv := vals_ints hi
  have lenV := hi.length
  have core : ∀ H : Hp, (∀ b, H b = none ∨ ∃ ob xs, H b = some (.frz ob xs)) → SqL K H a (ns.map V.int) → HOk P w H s₁.heap → (∀ b, H b ≠ none → b = a) → (H a ≠ none → K.lookup a = none) →
      codeAny (model P w) callerA (.call (.ref fa) ⟨[.ref a], []⟩) (fun r s' => r = .ok (.ret (.bool true)) ∧ OldK s₁.heap s'.heap ∧ s'.os = s₁.os ∧ AllBare s'.gens) s₁ := by
    intro H hO hS hok hA hK
    have base_of : ∀ {b : Addr} {o : Obj}, s₁.heap.get? b = some o → H b = none → (hidT s₁.heap H).get? b = some o := fun e n => hidT_get e n
    have noA : ∀ {b : Addr} {o : Obj} {es : Array DictEntry} {ep : Nat}, s₁.heap.get? b = some o → o.data = .dict es ep → H b = none := fun {b o es ep} e d => by
      cases q : H b with
      | none => rfl
      | some u =>
        have e' : b = a := hA b (by rw [q]; simp)
        subst e'
        rw [ha] at e; cases e
        have d' : Data.seq vs.toArray _ = Data.dict es ep := d
        cases d'
    have nsK : ∀ {b : Addr} {m : Str → Option Value}, s₁.heap.Ns b m → (hidT s₁.heap H).Ns b m := fun {b m} ⟨o, es, ep, e, d, r⟩ => ⟨o, es, ep, base_of e (noA e d), d, r⟩
    have hKb : K.In (hidT s₁.heap H) := fun b o e => base_of (KX b o e) (by
      cases q : H b with
      | none => rfl
      | some u =>
        have e' : b = a := hA b (by rw [q]; simp)
        subst e'
        rw [hK (by rw [q]; simp)] at e; cases e)
    have hM : Mod K mg (hidT s₁.heap H) := ⟨hKb, nsK hns, ⟨mb, nsK hb, hbb⟩, let ⟨mc, h1, h2⟩ := hlim; ⟨mc, nsK h1, h2⟩⟩
    have e0 : Env0 P w K mg (hidT s₁.heap H) callerA [] s₁ H := ⟨rfl, hM, fun b o e => of_hidT e, Nat.le_of_eq (hidT_size _ _), trivial, fun b hb => absurd (show b ∈ ([] : List Addr) from hb) (by simp), hok, .of_eq hg⟩
    refine codeAny_mono ((F _ hKb (nsK hns)).run callerA [] s₁ H ⟨[.ref a], []⟩ [.ref a] [.ref a] _ _ hr rfl e0 (hbind s₁ (.ref a)) (.cons rfl .nil) (hsp H hS)) fun r s' h => ?_
    cases r with
    | error e =>
      obtain ⟨_, _, _, _, _, _, _, _, _, _, _, _, z⟩ := h
      exact z.elim
    | ok fl =>
      cases fl with
      | next => exact False.elim h
      | brk => exact False.elim h
      | cont => exact False.elim h
      | ret u =>
        obtain ⟨v, H', os, bare, un, hok', r', q⟩ := h
        have q' : v = .bl true := q
        subst q'
        obtain rfl : u = Value.bool true := r'
        refine ⟨rfl, OldK.of_keep fun b o e => ?_, os, bare⟩
        cases q : H b with
        | none => exact un.keep b o e q (by intro z; exact absurd (show b ∈ ([] : List Addr) from z) (by simp)) (by simp)
        | some u =>
          rcases hO b with z | ⟨ob, xs, z⟩
          · rw [q] at z; cases z
          · have z2 := un.frzs b ob _ z
            obtain ⟨e1, _⟩ := hok b _ z
            obtain ⟨e2, _⟩ := hok' b _ z2
            rw [e] at e1; cases e1
            exact e2
  cases hk : K.lookup a with
  | some o =>
    have e := KX a o hk
    rw [ha] at e
    cases e
    refine core (fun _ => none) (fun _ => .inl rfl) (.inr ⟨_, vs.toArray, _, hk, rfl, rfl, rfl, by rw [List.size_toArray, lenV]; exact hl, by simpa using rv⟩) (fun b u z => by have z' : (none : Option HO) = some u := z; cases z') (fun b z => absurd rfl z) fun z => absurd rfl z
  | none =>
    refine core (fun b => if b = a then some (.frz { cls := .type "list", data := .seq vs.toArray } (.lst (ns.map V.int))) else none) (fun b => ?_) (.inl (.inr ⟨{ cls := .type "list", data := .seq vs.toArray }, if_pos rfl⟩)) (fun b u z => ?_) (fun b z => ?_) fun _ => hk
    · by_cases hb : b = a
      · exact .inr ⟨_, _, if_pos hb⟩
      · exact .inl (if_neg hb)
    · by_cases hb : b = a
      · have z' := (if_pos hb).symm.trans z
        cases z'
        subst hb
        exact ⟨ha, by rw [List.length_map]; exact hl, vs, _, rv, ha⟩
      · have z' := (if_neg hb).symm.trans z
        cases z'
    · by_cases hb : b = a
      · exact hb
      · exact absurd (if_neg hb) z
theorem walk_ofG {l : PySem.W.OpenLaw} {n k : Nat} {q : Program} {loose : List Str} {XP : (Str → Option Value) → Heap → Prop} {YP : World → Heap → Prop} {d : DefRec} {K : Params → PySem.W.Frag} {sp : DSp} {x : Str}
    (hn : l.most = some n) (hn2 : n ≤ sizeLine) (hdf : d.params.defaults = []) (hr : Room k callerA)
    (hY : ∀ (w : World) (h : Heap), YP w h → (K w.params).In h) (hm : MonoD sp)
    (F : ∀ (w : World) (mg : Str → Option Value) (fa : Addr) (h : Heap), (K w.params).In h → h.Ns mainGlobals mg → mg d.name = some (.ref fa) →
      ∃ fd : FuncData, (∀ (s : Shared) (u : Value), BindsTo s fd ⟨[u], []⟩ [(x, u)]) ∧
        ∀ base : Heap, (K w.params).In base → base.Ns mainGlobals mg → FnG l.prog w (K w.params) mg base k fa fd [x] (spD (K w.params) mg [false] sp))
    (hsp : ∀ (ns : List Int), ns.length ≤ n → sp [.pin .lst (ns.map V.int)] (fun t _ => t = .leaf (.bl true)) fun _ _ _ => False) :
    PySem.W.WalkO q loose XP YP l.row.toRowW d [] (fun f vs => PySem.call f vs) := by
  refine Att.attach_call hn hdf fun w s₀ s₁ mg mb fa o pm cd doc a vs ns G Y ho hd hcd hmg hobj hints hlen hg => ?_
  have KX := hY w _ Y
  obtain ⟨fd, hb, hF⟩ := F w mg fa _ KX G.T.g hmg
  exact law_callG KX G.T.g G.T.b G.T.builtins G.T.nolimit hg hobj hints (Nat.le_trans hlen hn2) hr hF hb fun H hS => spD_law hm hS (hsp ns hlen)
def spLaw : DSp := fun ts Q _ => ∃ ns : List Int, ts = [.pin .lst (ns.map V.int)] ∧ ns.length ≤ 63 ∧ Q (.leaf (.bl true)) []
theorem spLaw_mono : MonoD spLaw := fun ts Q Q' E E' hq he ⟨ns, e, h, q⟩ => ⟨ns, e, h, hq _ _ q⟩
end DL
set_option Elab.async false
set_option linter.all false
set_option maxRecDepth 100000
set_option maxHeartbeats 4000000
namespace DL
open PySem L2
def isTup : Sh → Bool
  | .tup => true
  | _ => false
theorem isTup_of : ∀ {s : Sh}, isTup s = true → s = .tup := by
  intro s h
  cases s <;> first | rfl | (simp [isTup] at h)
mutual
def pureT : T → Bool
  | .leaf _ => true
  | .pin _ _ => false
  | .node o s k => (o || isTup s) && pureL k
def pureL : List T → Bool
  | [] => true
  | t :: ts => pureT t && pureL ts
end
section
variable {K : PySem.W.Frag} {F F' : Addr → Prop} {H H' : Hp}
mutual
theorem OwnP.anyF : ∀ (t : T) {v : V} {fp : List Addr}, OwnP K F H v t fp → pureT t = true → OwnP K F' H v t fp
  | .leaf _, _, _, h, _ => by
    cases h
    exact .leaf _
  | .pin _ _, _, _, _, e => by simp [pureT] at e
  | .node o s ts, _, _, h, e => by
    simp only [pureT, Bool.and_eq_true, Bool.or_eq_true] at e
    obtain ⟨eo, e⟩ := e
    cases h with
    | own ha hk => exact .own ha (OwnL.anyF ts hk e)
    | tk ha hk => exact .tk ha (OwnL.anyF ts hk e)
    | kz k1 k2 hk => exact .kz k1 k2 (OwnL.anyF ts hk e)
    | fz hf ha hk =>
      rcases eo with z | z
      · cases z
      · obtain rfl := isTup_of z
        exact .tk ha (OwnL.anyF ts hk e)
theorem OwnL.anyF : ∀ (ts : List T) {vs : List V} {fp : List Addr}, OwnL K F H vs ts fp → pureL ts = true → OwnL K F' H vs ts fp
  | [], _, _, h, _ => by
    cases h
    exact .nil
  | t :: ts, _, _, h, e => by
    simp only [pureL, Bool.and_eq_true] at e
    cases h with
    | cons h1 h2 => exact .cons (OwnP.anyF t h1 e.1) (OwnL.anyF ts h2 e.2)
end
def frzE (g : Ev) : Ev := g.map (Option.map frz)
theorem EnvIs.frzE : ∀ {σ : St} {g : Ev} {zs : Its}, EnvIs σ g zs → EnvIs σ (frzE g) (zs.map fun z => (z.1, frz z.2))
  | _, _, _, .nil => .nil
  | _, _, _, .skip h => .skip (EnvIs.frzE h)
  | _, _, _, .have h => .have (EnvIs.frzE h)
theorem OwnZ.frzZ {zs : Its} {fp : List Addr} (hF : ∀ a, F a → F' a) (h : OwnZ K F H zs fp) (hp : ∀ a ∈ fp, F' a) : OwnZ K F' H (zs.map fun z => (z.1, frz z.2)) [] := by
  have := OwnL.freeze hF _ h hp
  rw [frzL_map] at this
  unfold OwnZ
  rw [List.map_map, List.map_map]
  rw [List.map_map] at this
  exact this
end
section
variable {X : Cx} {W : WX} {m : Nat → Bool} {a b c e : Expr} {es : List Expr} {ta tb tc te : DTE} {tA : DTT} {t : DTA} {bs : List (Option Nat)} {pos p : Pos} {x : Str}
def baseB (H : Hp) (F : Addr → Prop) (fp : List Addr) : Bs := ⟨H, fun a => F a ∨ a ∈ fp, []⟩
theorem bor_in {K : PySem.W.Frag} {B : Bs} {lim : List Addr} {σ : St} {H : Hp} {g : Ev} {Φ : Its} (r : RepG K B lim σ H g Φ) : ∃ B', RepG K B' [] σ H (frzE g) [] ∧
    (∀ H1, (∃ g', RepG K B' [] σ H1 g' []) → RepG K B lim σ H1 g Φ) ∧ ∀ v τ H1 g', pureT τ = true → RepG K B' [] σ H1 g' [(v, τ)] → RepG K B lim σ H1 g ((v, τ) :: Φ) := by
  obtain ⟨F, zs, fp, en, o, f, hl⟩ := r
  obtain ⟨f1, f2, rfl, o1, o2⟩ := o.split
  have trk : ∀ a, a ∈ lim ++ (f1 ++ f2) → H a ≠ none := fun a ha => by
    rcases List.mem_append.mp ha with z | z
    · exact hl a z
    · exact o.tracked a z
  have back : ∀ H1 (F1 : Addr → Prop) (fv : List Addr) (Ψ : Its), Fine (baseB H F (lim ++ (f1 ++ f2))) F1 H1 fv → OwnZ K F H1 Ψ fv → RepG K B lim σ H1 g (Ψ ++ Φ) := fun H1 F1 fv Ψ fn oz => by
    have st : ∀ b o, H b = some o → H1 b = some o := fun b o e => fn.keep b o e (fun z => nomatch z)
    have stn : ∀ b, H b ≠ none → H1 b ≠ none := fun b hb => by
      cases q : H b with
      | none => exact absurd q hb
      | some o => rw [st b o q]; exact nofun
    have new : ∀ b ∈ fv, H b = none := fun b hb => by
      rcases fn.newO b hb with z | z
      · cases z
      · exact z
    have oo : OwnZ K F H1 (zs ++ Φ) (f1 ++ f2) := o.mono (fun _ z => z) (fun b _ u e => st b u e) fun b vs e => st b _ e
    have o3 : OwnZ K F H1 (Ψ ++ (zs ++ Φ)) (fv ++ (f1 ++ f2)) := oz.append oo
    have ff : Fine B F H1 (lim ++ (fv ++ (f1 ++ f2))) := by
      refine ⟨?_, fun b z => ?_, fun b z => stn b (f.trk b z), f.inc, fun b o e n => st b o (f.keep b o e n), f.newF, fun b z => ?_, fun b vs e => st b _ (f.keepT b vs e)⟩
      · refine List.nodup_append.mpr ⟨(List.nodup_append.mp f.nd).1, List.nodup_append.mpr ⟨fn.nd, (List.nodup_append.mp f.nd).2.1, fun x hx y hy e => ?_⟩, fun x hx y hy e => ?_⟩
        · subst e
          exact trk x (List.mem_append_right _ hy) (new x hx)
        · subst e
          rcases List.mem_append.mp hy with q | q
          · exact hl x hx (new x q)
          · exact (List.nodup_append.mp f.nd).2.2 x hx x q rfl
      · rcases List.mem_append.mp z with q | q
        · exact f.off b (List.mem_append_left _ q)
        · rcases List.mem_append.mp q with q | q
          · intro zz
            exact f.trk b zz (new b q)
          · exact f.off b (List.mem_append_right _ q)
      · rcases List.mem_append.mp z with q | q
        · exact f.newO b (List.mem_append_left _ q)
        · rcases List.mem_append.mp q with q | q
          · by_cases hb : b ∈ B.fp0
            · exact .inl hb
            · refine .inr ?_
              cases z : B.H0 b with
              | none => rfl
              | some u =>
                have := f.keep b u z hb
                rw [new b q] at this; cases this
          · exact f.newO b (List.mem_append_right _ q)
    refine rep_items (ds := []) en o3 ff (fun b z => stn b (hl b z)) ?_
    rw [List.nil_append, ← List.append_assoc, ← List.append_assoc]
    exact List.Perm.append_right _ List.perm_append_comm
  refine ⟨baseB H F (lim ++ (f1 ++ f2)), ?_, fun H1 ⟨g', r1⟩ => ?_, fun v τ H1 g' hp r1 => ?_⟩
  · refine ⟨fun a => F a ∨ a ∈ lim ++ (f1 ++ f2), zs.map fun z => (z.1, frz z.2), [], en.frzE, ?_, ?_, fun _ z => nomatch z⟩
    · rw [List.append_nil]
      exact o1.frzZ (fun _ z => .inl z) fun a z => .inr (List.mem_append_right _ (List.mem_append_left _ z))
    · exact ⟨.nil, (fun _ z => nomatch z), fun b z => z.elim (f.trk b) (trk b), fun _ z => z, fun _ _ z _ => z, fun _ z => .inl z, (fun _ z => nomatch z), fun _ _ e => e⟩
  · obtain ⟨F1, zs1, fp1, en1, oz1, fn, _⟩ := r1
    exact back H1 F1 [] [] (fn.sub (List.nil_sublist _)) .nil
  · obtain ⟨F1, zs1, fp1, en1, oz1, fn, _⟩ := r1
    obtain ⟨g1, g2, rfl, oa, ob⟩ := oz1.split
    obtain ⟨h1, h2, e, pv, pn⟩ := ob.uncons
    have e2 : h2 = [] := by cases pn; rfl
    subst e e2
    exact back H1 F1 (h1 ++ []) [(v, τ)] (fn.sub (by rw [List.nil_append]; exact List.sublist_append_right _ _)) (.cons (pv.anyF τ hp) .nil)
def xBor (te : DTE) : DTE := fun g Q _ => te (frzE g) (fun τ _ => pureT τ = true ∧ Q τ g) noX
def xBorT (tA : DTT) : DTT := fun g Q _ => tA (frzE g) (fun b _ => Q b g) noX
theorem d_bor (h : DE X W e te) : DE X W e (xBor te) := by
  refine ⟨fun B => ⟨fun pins s σ H Q I ⟨Φ, lim, g, E, r, hx, q⟩ => ?_⟩, fun g Q Q' E E' hq _ q => h.mono _ _ _ _ _ (fun τ g1 q1 => ⟨q1.1, hq _ _ q1.2⟩) (fun _ _ _ z => z) q⟩
  obtain ⟨B', r1, _, k⟩ := bor_in r
  refine (h.run B').run pins s σ H Q I ⟨[], [], _, noX, r1, liftX0, h.mono _ _ _ _ _ (fun τ g1 q1 v H1 r2 => ?_) (fun _ _ _ z => z) q⟩
  exact q1.2 v H1 (k v τ H1 g1 q1.1 r2)
theorem dt_bor (h : DT X W e tA) : DT X W e (xBorT tA) := by
  refine ⟨fun B => ⟨fun pins s σ H Q I ⟨Φ, lim, g, E, r, hx, q⟩ => ?_⟩, fun g Q Q' E E' hq _ q => h.mono _ _ _ _ _ (fun τ g1 q1 => hq _ _ q1) (fun _ _ _ z => z) q⟩
  obtain ⟨B', r1, k, _⟩ := bor_in r
  refine (h.run B').run pins s σ H Q I ⟨[], [], _, noX, r1, liftX0, h.mono _ _ _ _ _ (fun b g1 q1 H1 r2 => ?_) (fun _ _ _ z => z) q⟩
  exact q1 H1 (k H1 ⟨g1, r2⟩)
def xUn (f : Int → V) (ta : DTE) : DTE := fun g Q E => ta g (fun τ g1 => isI τ fun i => Q (.leaf (f i)) g1) E
theorem d_un {op : UnaryOp} {f : Int → V} (ho : UnR X (unaryOp op) (rU f)) (ha : DE X W a ta) : DE X W (.UnaryOp op a pos) (xUn f ta) := by
  refine ⟨fun B => PE.imp (pe_un ho (ha.run B)) fun σ H Q ⟨Φ, lim, g, E, r, hx, q⟩ => ?_, fun g Q Q' E E' hq he q => ha.mono _ _ _ _ _ (fun τ g1 q1 => isI_mono (fun i z => hq _ _ z) q1) he q⟩
  refine ⟨Φ, lim, g, E, r, hx, ha.mono _ _ _ _ _ (fun τ g1 q1 v H1 r1 => ?_) (fun _ _ _ z => z) q⟩
  obtain ⟨i, rfl, q1⟩ := isI_of q1
  obtain rfl := r1.leaf
  exact ⟨i, rfl, q1 _ _ r1.dropT.addLeaf⟩
end
end DL
set_option Elab.async false
set_option linter.all false
set_option maxRecDepth 100000
set_option maxHeartbeats 4000000
namespace DL
open PySem L2 PySem.Spec PyProof.Rows
def frzP : List Bool → List T → List T
  | true :: bs, t :: ts => t :: frzP bs ts
  | false :: bs, t :: ts => frz t :: frzP bs ts
  | _, ts => ts
theorem frzP_length : ∀ (fl : List Bool) (ts : List T), (frzP fl ts).length = ts.length
  | true :: bs, t :: ts => by simp [frzP, frzP_length bs ts]
  | false :: bs, t :: ts => by simp [frzP, frzP_length bs ts]
  | [], ts => by simp [frzP]
  | _ :: _, [] => by simp [frzP]
section
variable {K : PySem.W.Frag} {B : Bs} {lim : List Addr} {σ : L2.St} {H : Hp} {Φ : Its}
theorem RepG.frzP : ∀ {fl : List Bool} {ts : List T} {pre rest : Ev}, RepG K B lim σ H (pre ++ (ts.map some ++ rest)) Φ → RepG K B lim σ H (pre ++ ((frzP fl ts).map some ++ rest)) Φ
  | true :: bs, t :: ts, pre, rest, h => by
    have h1 : RepG K B lim σ H ((pre ++ [some t]) ++ (ts.map some ++ rest)) Φ := by
      rw [List.append_assoc]
      exact h
    have h2 := RepG.frzP (fl := bs) h1
    rw [List.append_assoc] at h2
    exact h2
  | false :: bs, t :: ts, pre, rest, h => by
    have e : (pre ++ ((t :: ts).map some ++ rest))[pre.length]? = some (some t) := by simp
    have h0 := h.freeze e
    have e2 : (pre ++ ((t :: ts).map some ++ rest)).set pre.length (some (frz t)) = (pre ++ [some (frz t)]) ++ (ts.map some ++ rest) := by simp
    rw [e2] at h0
    have h2 := RepG.frzP (fl := bs) h0
    rw [List.append_assoc] at h2
    exact h2
  | [], ts, pre, rest, h => h
  | true :: _, [], pre, rest, h => h
  | false :: _, [], pre, rest, h => h
end
section
variable {P : Program} {w : World} {K : PySem.W.Frag} {mg : Str → Option Value} {base : Heap}
theorem fnD_of2 {x qual : Str} {st : Stmt} {f : Addr} {fd : FuncData} {N ps : List Str} {k : Nat} {sp : DSp} {fl : List Bool} (F : Fun K x qual st f fd) (S : FnScope N ps (defScope st)) (hfl : fl.length = ps.length)
    (hbody : ∀ (cdv : Value) (A : Around) (outer : List Env) (s : Shared) (H : Hp) (E : XK), Room k (A.deeper (PyProof.Rows.envOfC qual (defScope st) s.heap.objs.size f cdv)) → (A.deeper (PyProof.Rows.envOfC qual (defScope st) s.heap.objs.size f cdv)).guards = some [] →
      ∃ t, DSs (cxOf (L2.CX P w) P w K mg base N qual (defScope st) f cdv A outer s H E) (fun x d _ H => ∀ cv, sym mg x cv → E cv d H) (mutOf fl) (defBody st) t ∧
        ∀ ts Q' E', ts.length = ps.length → sp ts Q' E' → t (bodyEnds fl Q' E') (startE N.length (frzP fl ts))) :
    FnG P w K mg base (k + 1) f fd ps (spD K mg fl sp) := by
  refine fnD_of F S hfl fun cdv A outer s H E hr hgd => ?_
  obtain ⟨t, ht, hb⟩ := hbody cdv A outer s H E hr hgd
  refine ⟨fun D g => ∃ ts, g = startE N.length ts ∧ t D (startE N.length (frzP fl ts)), ⟨fun B σ0 => ⟨fun pins s σ H D I ⟨Φ, lim, g, E, r, hk, hx, ts, e, q⟩ => ?_⟩, fun D D' g h ⟨ts, e, q⟩ => ⟨ts, e, ht.mono _ _ _ h q⟩⟩, fun ts Q' E' hl h => ⟨ts, rfl, hb ts Q' E' hl h⟩⟩
  refine (ht.run B σ0).run pins s σ H D I ⟨Φ, lim, _, E, ?_, hk, hx, q⟩
  subst e
  have := RepG.frzP (fl := fl) (pre := []) r
  unfold startE
  rw [frzP_length]
  exact this
end
def aLend (j : Nat) (t : DTA) : DTA := fun g Q E => atSlot j g fun _ => t g (fun τs g2 => atSlot j g2 fun τ => Q (τ :: τs) (g2.set j none)) E
theorem da_late {X : Cx} {W : WX} {e : Expr} {es : List Expr} (j : Nat) {bs : List (Option Nat)} {t : DTA} (h : PE X e (tVar j)) (hr : DA X W es bs t) (hs : starEach (e :: es) X.env = (false, eval e X.env) :: starEach es X.env := by rfl) : DA X W (e :: es) (some j :: bs) (aLend j t) := by
  refine ⟨fun B => PA.imp (pa_cons h (hr.run B) hs) fun σ H Q ⟨Φ, lim, g, E, r, hx, q⟩ => ?_, fun g Q Q' E E' hq he q => atSlot_mono (fun τ z => hr.mono _ _ _ _ _ (fun τs g2 q2 => atSlot_mono (fun τ z => hq _ _ z) q2) he z) q⟩
  obtain ⟨τ0, h0, q⟩ := atSlot_of q
  obtain ⟨v, hv⟩ := r.slot h0
  refine ⟨v, hv, Φ, lim, g, E, r, hx, hr.mono _ _ _ _ _ (fun τs g2 q2 vs H2 hl hb r2 => ?_) (fun _ _ _ z => z) q⟩
  obtain ⟨τ, h2, q2⟩ := atSlot_of q2
  obtain ⟨v', hv', r'⟩ := r2.move h2
  rw [hv] at hv'
  cases hv'
  exact q2 (v :: vs) H2 (by simp [hl]) ⟨hv, hb⟩ r'
abbrev oSub : R2T := rtI0 fun i j => .int (i - j)
def CMulA (i j : Int) : Prop := CMul i j ∨ CMulW i j
abbrev oDiv : R2T := rtI CDivW fun i j => .int (i / j)
abbrev oMod : R2T := rtI (fun _ j => 0 < j) fun i j => .int (i % j)
abbrev oPow : R2T := rtI CPow fun i j => .int (i ^ j.toNat)
abbrev oShl : R2T := rtI CPow fun i j => .int (i * 2 ^ j.toNat)
abbrev oShr : R2T := rtI (fun _ j => 0 ≤ j) fun i j => .int (i / 2 ^ j.toNat)
abbrev oAnd : R2T := rtI0 fun i j => .int (Builtin.bitAnd i j)
abbrev oOr : R2T := rtI0 fun i j => .int (Builtin.bitOr i j)
abbrev oLt : R2T := rtI0 fun i j => .bl (decide (i < j))
abbrev oLe : R2T := rtI0 fun i j => .bl (decide (i ≤ j))
abbrev oGt : R2T := rtI0 fun i j => .bl (decide (j < i))
abbrev oGe : R2T := rtI0 fun i j => .bl (decide (j ≤ i))
section
variable {X : Cx} {W : WX} {m : Nat → Bool} {a b c e : Expr} {es : List Expr} {ta tb tc te : DTE} {tA : DTT} {t : DTA} {bs : List (Option Nat)} {pos p : Pos} {x : Str}
theorem op_mulA : OpR X (binaryOp .Mult) (rI CMulA fun i j => .int (i * j)) := opI fun _ _ _ _ _ _ _ hc q => mul_int q (hc.elim CMul.ok CMulW.ok)
theorem d_sub (ha : DE X W a ta) (hb : DE X W b tb) : DE X W (.BinOp a .Sub b pos) (xOp oSub ta tb) := d_op2 op_sub op2_I0 ha hb
theorem d_div (ha : DE X W a ta) (hb : DE X W b tb) : DE X W (.BinOp a .FloorDiv b pos) (xOp oDiv ta tb) := d_op2 op_fdivW (op2_I fun _ _ z => z) ha hb
theorem d_mod (ha : DE X W a ta) (hb : DE X W b tb) : DE X W (.BinOp a .Mod b pos) (xOp oMod ta tb) := d_op2 op_mod (op2_I fun _ _ z => z) ha hb
theorem d_pow (ha : DE X W a ta) (hb : DE X W b tb) : DE X W (.BinOp a .Pow b pos) (xOp oPow ta tb) := d_op2 op_pow (op2_I fun _ _ z => z) ha hb
theorem d_shl (ha : DE X W a ta) (hb : DE X W b tb) : DE X W (.BinOp a .LShift b pos) (xOp oShl ta tb) := d_op2 op_shl (op2_I fun _ _ z => z) ha hb
theorem d_shr (ha : DE X W a ta) (hb : DE X W b tb) : DE X W (.BinOp a .RShift b pos) (xOp oShr ta tb) := d_op2 op_shr (op2_I fun _ _ z => z) ha hb
theorem d_bitand (ha : DE X W a ta) (hb : DE X W b tb) : DE X W (.BinOp a .BitAnd b pos) (xOp oAnd ta tb) := d_op2 op_and op2_I0 ha hb
theorem d_bitor (ha : DE X W a ta) (hb : DE X W b tb) : DE X W (.BinOp a .BitOr b pos) (xOp oOr ta tb) := d_op2 op_or op2_I0 ha hb
theorem d_ge (ha : DE X W a ta) (hb : DE X W b tb) : DE X W (.Compare a [.GtE] [b] pos) (xOp oGe ta tb) := d_cmp op_ge op2_I0 ha hb (nomark _)
theorem d_eq (hu : X.A.units + 64 < cLine) (ha : DE X W a ta) (hb : DE X W b tb) : DE X W (.Compare a [.Eq] [b] pos) (xOp (rtEq false) ta tb) := d_cmp (op_eqA hu) op2_eq ha hb (nomark _)
theorem dt_lt (ha : DE X W a ta) (hb : DE X W b tb) : DT X W (.Compare a [.Lt] [b] pos) (xB (xOp oLt ta tb)) := dt_cmp op_lt op2_I0 ha hb (nomark _)
theorem dt_gt (ha : DE X W a ta) (hb : DE X W b tb) : DT X W (.Compare a [.Gt] [b] pos) (xB (xOp oGt ta tb)) := dt_cmp op_gt op2_I0 ha hb (nomark _)
theorem dt_eq (hu : X.A.units + 64 < cLine) (ha : DE X W a ta) (hb : DE X W b tb) : DT X W (.Compare a [.Eq] [b] pos) (xB (xOp (rtEq false) ta tb)) := dt_cmp (op_eqA hu) op2_eq ha hb (nomark _)
theorem dt_ne (hu : X.A.units + 64 < cLine) (ha : DE X W a ta) (hb : DE X W b tb) : DT X W (.Compare a [.NotEq] [b] pos) (xB (xOp (rtEq true) ta tb)) := dt_cmp (op_neA hu) op2_ne ha hb (nomark _)
theorem d_neg (ha : DE X W a ta) : DE X W (.UnaryOp .USub a pos) (xUn (fun i => .int (-i)) ta) := d_un un_neg ha
end
theorem takes0 {X : Cx} : Takes X (upW X.mg W0) := by
  intro u s' x
  obtain ⟨_, _, _, _, _, _, _, _, _, _, _, _, _, _, _, _, _, _, z⟩ := x
  exact z.elim
theorem takesN {X : Cx} {E : XK} (h : Takes X (fun cls d _ H => E cls d H)) : Takes X (upW X.mg (fun x d _ H => ∀ cv, sym X.mg x cv → E cv d H)) := h.imp fun c _ _ _ ⟨_, hs, w⟩ => w c hs
mutual
def smallD : PyData → Prop
  | .none => True
  | .bool _ => True
  | .int i => i.natAbs < 2 ^ 1800
  | .str x => PyData.canLay0 (.str x) = true ∧ (∀ c ∈ x.cps.toList, c < 16 ^ 8)
  | .list xs => smallL xs
  | .tuple xs => smallL xs
  | .dict _ => False
def smallL : List PyData → Prop
  | [] => True
  | x :: xs => smallD x ∧ smallL xs
end
mutual
def szD : PyData → Nat
  | .none => 1
  | .bool _ => 1
  | .int _ => 1
  | .str x => x.length + 1
  | .list xs => szL xs + 1
  | .tuple xs => szL xs + 1
  | .dict _ => 1
def szL : List PyData → Nat
  | [] => 0
  | x :: xs => szD x + szL xs
end
mutual
theorem small_canLay : ∀ d : PyData, smallD d → d.canLay0 = true
  | .none, _ => by simp [PyData.canLay0]
  | .bool _, _ => by simp [PyData.canLay0]
  | .int _, _ => by simp [PyData.canLay0]
  | .str x, h => by
    simp only [smallD] at h
    exact h.1
  | .list xs, h => by
    simp only [smallD] at h
    simp only [PyData.canLay0]
    exact small_canLayL xs h
  | .tuple xs, h => by
    simp only [smallD] at h
    simp only [PyData.canLay0]
    exact small_canLayL xs h
  | .dict _, h => by simp only [smallD] at h
theorem small_canLayL : ∀ xs : List PyData, smallL xs → PyData.canLayAll0 xs = true
  | [], _ => by simp [PyData.canLayAll0]
  | x :: xs, h => by
    simp only [smallL] at h
    simp only [PyData.canLayAll0, Bool.and_eq_true]
    exact ⟨small_canLay x h.1, small_canLayL xs h.2⟩
end
theorem log2_small {n : Nat} (h : n < 2 ^ 1800) : n.log2 < 1800 := PySem.Flt.log2_lt_of (by decide) h
mutual
theorem small_show : ∀ d : PyData, smallD d → d.showable = true
  | .none, _ => by simp [PyData.showable]
  | .bool _, _ => by simp [PyData.showable]
  | .int i, h => by
    simp only [smallD] at h
    simp only [PyData.showable, decide_eq_true_eq]
    exact Nat.lt_trans (log2_small h) (by decide)
  | .str x, h => by simp [PyData.showable]
  | .list xs, h => by
    simp only [smallD] at h
    simp only [PyData.showable]
    exact small_showL xs h
  | .tuple xs, h => by
    simp only [smallD] at h
    simp only [PyData.showable]
    exact small_showL xs h
  | .dict _, h => by simp only [smallD] at h
theorem small_showL : ∀ xs : List PyData, smallL xs → PyData.showableAll xs = true
  | [], _ => by simp [PyData.showableAll]
  | x :: xs, h => by
    simp only [smallL] at h
    simp only [PyData.showableAll, Bool.and_eq_true]
    exact ⟨small_show x h.1, small_showL xs h.2⟩
end
theorem szL_len : ∀ xs : List PyData, (PyData.shownAll xs).length = xs.length
  | [] => by simp [PyData.shownAll]
  | x :: xs => by simp [PyData.shownAll, szL_len xs]
mutual
theorem small_len : ∀ d : PyData, smallD d → d.shown.length + 2 ≤ 2000 * szD d
  | .none, _ => by
    have e : (PyData.shown .none).length = 4 := by simp only [PyData.shown]; rfl
    simp only [szD]
    omega
  | .bool b, _ => by
    have e : (PyData.shown (.bool b)).length ≤ 5 := by
      simp only [PyData.shown]
      cases b <;> decide
    simp only [szD]
    omega
  | .int i, h => by
    simp only [smallD] at h
    have e : (PyData.shown (.int i)).length ≤ 1801 := by
      simp only [PyData.shown]
      have := int_text_length_le (a := i) (k := 1800) (by decide) (log2_small h)
      exact Nat.le_trans (Nat.le_of_eq (PySem.ofString_length _)) this
    simp only [szD]
    omega
  | .str x, h => by
    simp only [smallD] at h
    have e := StrLaws.reprText_len x h.2
    simp only [PyData.shown, szD]
    omega
  | .list xs, h => by
    simp only [smallD] at h
    have h1 := small_lenL xs h
    have h2 := listText_len_le (PyData.shownAll xs)
    have h3 := szL_len xs
    simp only [PyData.shown, szD]
    omega
  | .tuple xs, h => by
    simp only [smallD] at h
    have h1 := small_lenL xs h
    have h2 := tupleText_len_le (PyData.shownAll xs)
    have h3 := szL_len xs
    simp only [PyData.shown, szD]
    omega
  | .dict _, h => by simp only [smallD] at h
theorem small_lenL : ∀ xs : List PyData, smallL xs → ((PyData.shownAll xs).map (·.length)).sum + 2 * xs.length ≤ 2000 * szL xs
  | [], _ => by simp [PyData.shownAll, szL]
  | x :: xs, h => by
    simp only [smallL] at h
    have h1 := small_len x h.1
    have h2 := small_lenL xs h.2
    simp only [PyData.shownAll, List.map_cons, List.sum_cons, List.length_cons, szL]
    omega
end
structure GoodD (d : PyData) : Prop where
  sm : smallD d
  dp : d.depth ≤ 60
  sz : szD d ≤ 8000
theorem GoodD.shaped {d : PyData} (h : GoodD d) : SeqAt.shaped d = true := by
  unfold SeqAt.shaped
  rw [Bool.and_eq_true, decide_eq_true_eq]
  exact ⟨small_canLay d h.sm, Nat.le_trans h.dp (by decide)⟩
theorem GoodD.show {d : PyData} (h : GoodD d) : d.showable = true := small_show d h.sm
theorem GoodD.nodict {d : PyData} (h : GoodD d) : d.hasDict = false := PyData.hasDict_of_canLay d (small_canLay d h.sm)
theorem GoodD.len {d : PyData} (h : GoodD d) : d.shown.length ≤ sizeLine := by
  have h1 := small_len d h.sm
  have h2 := h.sz
  show _ ≤ 2 ^ 24
  omega
theorem GoodD.refl {d : PyData} (h : GoodD d) : PyData.eqv d d = true := SeqAt.eqv_refl d (small_canLay d h.sm)
end DL
set_option Elab.async false
set_option linter.all false
set_option maxRecDepth 100000
set_option maxHeartbeats 4000000
namespace DL
open PySem L2
theorem intsT_frz (ns : List Int) : frzL (intsT ns) = intsT ns := by
  rw [frzL_map, List.map_map]
  rfl
theorem frz_ints (s : Sh) (ns : List Int) : frz (.node false s (intsT ns)) = .node false s (intsT ns) := by
  rw [frz_node, intsT_frz]
theorem rtEq_same {a b : T} {d : PyData} {Q : T → Prop} (ha : toP a = some d) (hb : toP b = some d) (h : GoodD d) (q : Q (.leaf (.bl true))) : rtEq false a b Q := by
  unfold rtEq
  split
  · rename_i i j
    simp only [toP, Option.some.injEq] at ha hb
    have : i = j := by
      rw [← ha] at hb
      cases hb
      rfl
    simpa [this] using q
  · rename_i i j
    simp only [toP, Option.some.injEq] at ha hb
    have : i = j := by
      rw [← ha] at hb
      cases hb
      rfl
    simpa [this] using q
  · rename_i i j
    simp only [toP, Option.some.injEq] at ha hb
    have : i = j := by
      rw [← ha] at hb
      cases hb
      rfl
    simpa [this] using q
  · exact ⟨d, d, ha, hb, h.shaped, h.shaped, by simpa [h.refl] using q⟩
mutual
theorem toP_frz : ∀ t : T, toP (frz t) = toP t
  | .leaf _ => by simp [frz]
  | .pin _ _ => by simp [frz]
  | .node o s k => by
    cases s <;> simp [frz, toP, toPL_frz k]
theorem toPL_frz : ∀ ts : List T, toPL (frzL ts) = toPL ts
  | [] => by simp [frzL]
  | t :: ts => by simp [frzL, toPL, toP_frz t, toPL_frz ts]
end
theorem toPL_ints : ∀ ns : List Int, toPL (intsT ns) = some (ns.map PyData.int)
  | [] => by simp [toPL]
  | n :: ns => by
    have := toPL_ints ns
    simp only [intsT, List.map_cons, toPL, toP] at this ⊢
    rw [this]
    rfl
theorem smallL_ints : ∀ {ns : List Int}, (∀ n ∈ ns, n.natAbs < 2 ^ 1800) → smallL (ns.map PyData.int)
  | [], _ => by simp [smallL]
  | n :: ns, h => by
    simp only [List.map_cons, smallL, smallD]
    exact ⟨h n List.mem_cons_self, smallL_ints fun m hm => h m (List.mem_cons_of_mem _ hm)⟩
theorem szL_ints : ∀ ns : List Int, szL (ns.map PyData.int) = ns.length
  | [] => by simp [szL]
  | n :: ns => by
    simp only [List.map_cons, szL, szD, List.length_cons, szL_ints ns]
    omega
theorem depthAll_ints : ∀ ns : List Int, PyData.depthAll (ns.map PyData.int) = 0
  | [] => by simp [PyData.depthAll]
  | n :: ns => by simp [PyData.depthAll, PyData.depth, depthAll_ints ns]
theorem small_of_abs {i : Int} (h : i.natAbs < 2 ^ 200) : i.natAbs < 2 ^ 1800 := Nat.lt_of_lt_of_le h (Nat.pow_le_pow_right (by decide) (by decide))
theorem good_ints {ns : List Int} (h : ∀ n ∈ ns, n.natAbs < 2 ^ 1800) (hl : ns.length ≤ 7000) : GoodD (.list (ns.map .int)) := ⟨by simpa [smallD] using smallL_ints h, by simp [PyData.depth, depthAll_ints], by simp [szD, szL_ints]; omega⟩
theorem ixN_nat (n k : Nat) : ixN n (k : Int) = if k < n then some k else none := by
  unfold ixN
  rw [if_pos (by omega), Int.toNat_natCast]
  by_cases h : k < n
  · rw [if_pos h, if_pos (by omega)]
  · rw [if_neg h, if_neg (by omega)]
theorem at_first (ns : List Int) (k : Option Int) : ∃ x : Int, atI (cutA (intsT ns) k none ++ [.leaf (.int 0)]) 0 = some (.leaf (.int x)) ∧ (x = 0 ∨ x ∈ ns) := by
  have sub : ∀ t ∈ cutA (intsT ns) k none, ∃ x ∈ ns, t = .leaf (.int x) := fun t ht => by
    have := (cutA_sub _ _ _).subset ht
    obtain ⟨x, hx, e⟩ := List.mem_map.mp this
    exact ⟨x, hx, e.symm⟩
  cases h : cutA (intsT ns) k none with
  | nil => exact ⟨0, rfl, .inl rfl⟩
  | cons t r =>
    obtain ⟨x, hx, e⟩ := sub t (by rw [h]; exact List.mem_cons_self)
    subst e
    refine ⟨x, ?_, .inr hx⟩
    rw [List.cons_append]
    unfold atI
    have : ixN (T.leaf (V.int x) :: (r ++ [T.leaf (V.int 0)])).length 0 = some 0 := by
      unfold ixN
      simp
      omega
    rw [this]
    rfl
theorem cutA_ints (ns : List Int) (lo hi : Option Int) : cutA (intsT ns) lo hi = intsT (cutA ns lo hi) := by
  unfold cutA
  simp only [intsT, List.length_map, List.map_take, List.map_drop]
theorem at_first' (ns : List Int) (k : Option Int) : ∃ x : Int, atI (frzL (cutA (frzL (frzL (intsT ns))) k none) ++ frzL [.leaf (.int 0)]) 0 = some (.leaf (.int x)) ∧ (x = 0 ∨ x ∈ ns) := by
  rw [intsT_frz, intsT_frz, cutA_ints, intsT_frz]
  have := at_first ns k
  rw [cutA_ints] at this
  exact this
theorem cutA_length_le {α : Type} (xs : List α) (lo hi : Option Int) : (cutA xs lo hi).length ≤ xs.length := (cutA_sub xs lo hi).length_le
end DL
set_option Elab.async false
set_option linter.all false
set_option maxRecDepth 100000
set_option maxHeartbeats 4000000
namespace DL
open PySem PySem.Spec PyProof.Rows
open Sem (wp)
theorem meets_enum_new {v : Value} {o : Obj} {H : Heap → Prop} (B : Begins v o H) :
    Meets (Builtin.«enumerate.__new__» ⟨[.type "enumerate", v], []⟩) (fun _ R s => H s.heap ∧
      R (.ok (.ret (.ref (s.heap.push o).objs.size))) { s with heap := (s.heap.push o).push { cls := .type "enumerate", data := .fields #[.none, .bool false, .ref s.heap.objs.size, rawInt 0, .none, .none] } }) :=
  .of_wp fun prog w A R s h => by
    obtain ⟨hp, g, d, tk, os⟩ := s; obtain ⟨h1, h⟩ := h
    have hsub := sub_enumerate
    have q1 : ∀ {A' : Around} {E : Value → Shared → Prop} {Q : Value → Shared → Prop}, Q (.ref hp.objs.size) ⟨hp.push o, g, d, tk, os⟩ → wpAny (model prog w) A' (pyIter v) Q E ⟨hp, g, d, tk, os⟩ :=
      fun q => B.iter prog w _ _ ⟨hp, g, d, tk, os⟩ _ h1 q
    wp_walk using q1
    refine wpAny_stack_any fun st => wpAny_pure ?_
    split
    · rename_i c _ _ _ _ _
      cases (c == Value.type "enumerate")
      · wp_walk using q1
        exact ⟨_, rfl, h⟩
      · wp_walk using q1
        exact ⟨_, rfl, h⟩
    · wp_walk using q1
      exact ⟨_, rfl, h⟩
section
variable {prog : Program} {w : World} {A : Around} {E : Value → Shared → Prop} {s : Shared}
theorem call_enum_new {v : Value} {o : Obj} {H : Heap → Prop} {Q : Value → Shared → Prop} (B : Begins v o H) (h1 : H s.heap)
    (h : ∀ h', IsEnum h' (s.heap.objs.size + 1) s.heap.objs.size 0 .none → h'.get? s.heap.objs.size = some o → h'.objs.size = s.heap.objs.size + 2 →
      (∀ b o, s.heap.get? b = some o → h'.get? b = some o) → Q (.ref (s.heap.objs.size + 1)) { s with heap := h' }) :
    wpAny (model prog w) A (call (.type "enumerate") [v]) Q E s := by
  refine callType_new F.called_enumerate (by decide) (F.typeCall_enumerate_1 _) (F.newCall_enumerate_1 _) (fun obj => F.args_object_init_2 obj _) F.entry_enumerate_new
    (meets_enum_new B) ⟨h1, ?_⟩
  have hz : (s.heap.push o).objs.size = s.heap.objs.size + 1 := Heap.size_push ..
  show _ ∧ _
  rw [hz]
  have he : IsEnum ((s.heap.push o).push { cls := .type "enumerate", data := .fields #[.none, .bool false, .ref s.heap.objs.size, rawInt 0, .none, .none] }) (s.heap.objs.size + 1) s.heap.objs.size 0 .none := by
    have := Heap.get?_push_size (s.heap.push o) (o := { cls := .type "enumerate", data := .fields #[.none, .bool false, .ref s.heap.objs.size, rawInt 0, .none, .none] }) rfl
    rw [hz] at this; exact this
  refine ⟨⟨_, he, rfl⟩, h _ he (Heap.get?_push_of_some _ (Heap.get?_push_size _ B.free)) (by rw [Heap.size_push, hz]) fun b o x => Heap.get?_push_of_some _ (Heap.get?_push_of_some _ x)⟩
theorem enum_endT {e it a : Addr} {k : Int} {i : Nat} {items : Array Value} {old : Value} {Q : Option Value → Shared → Prop} (hh : A.handled = none) (he : IsEnum s.heap e it k old) (hit : s.heap.IsTupleIter it a i) (ht : s.heap.IsTuple a items) (hx : items[i]? = none)
    (hQ : ∀ h', Heap.ExtBut it s.heap h' → Q none { s with heap := h' }) : wpAny (model prog w) A (pyNext (.ref e)) Q E s := by
  have hT : s.TypeIs (.ref e) "enumerate" := ⟨_, he, rfl⟩
  unfold pyNext
  refine wpAny_bind (wpAny_attempt (wpAny_callSpecial?_slot (name := Str.ofString "__next__") hT F.slot_enumerate_next
    (wpAny_call_entry F.slot_enumerate_next hT F.entry_enumerate_next ?_ (F.args_enumerate_next_1 _))))
  show wpAny _ _ (field (.ref e) 2 >>= _) _ _ _
  refine wpAny_bind (wpAny_field he rfl (x := .ref it) rfl ?_)
  refine wpAny_bind (wpAny_nextOf_tuple_end (show A.in1.handled = none from hh) hit ht hx fun h' x he' hx' => ?_)
  obtain ⟨o, ho, hc⟩ := hx'
  refine wpAny_bind (wpAny_isInstance (T := "StopIteration") (b := true) ⟨o, ho, hc⟩ isSubtype_stop ?_)
  exact wpAny_pure (hQ _ he')
end
open L2
def IteT (K : PySem.W.Frag) (a : Addr) : It :=
  ⟨fun i H => ∃ (xs : List V) (x : V), SqT K H a xs ∧ xs[i]? = some x, fun i H v H' => ∃ T x, v = .ref T ∧ H T = none ∧ H' = upd H T (.tup [.int (i : Nat), x]) ∧ ∀ xs, SqT K H a xs → xs[i]? = some x, fun i H => ∃ xs : List V, SqT K H a xs ∧ xs.length ≤ i⟩
theorem turn_enumT {P : Program} {w : World} {K : PySem.W.Frag} {elts : List Expr} {kk : Nat} {tpos : Pos} (a e it : Addr) (hai : a ≠ it) (hae : a ≠ e) :
    Turn P w K (.Tuple elts kk tpos) (IteT K a) [e, it] e (fun i h => (∃ old, IsEnum h e it ((i : Nat) : Int) old) ∧ h.IsTupleIter it a i ∧ e ≠ it) where
  mem := by simp
  obj := fun i h st b hb => by
    obtain ⟨⟨old, he⟩, ⟨o, ho, hc, hd⟩, _⟩ := st
    have e' : b = e ∨ b = it := by simpa using hb
    rcases e' with z | z
    · rw [z]; exact ⟨_, he, fun v q => nomatch q⟩
    · rw [z]; exact ⟨o, ho, fun v q => by rw [hd] at q; cases q⟩
  keep := fun i h h' st k => let ⟨⟨old, he⟩, hi, hne⟩ := st; ⟨⟨old, k e (by simp) _ he⟩, hi.at fun o q => k it (by simp) o q, hne⟩
  item := by
    intro X hP hw hK hc i pins s σ H E I hf st hg
    subst hP hw hK
    obtain ⟨⟨old, he⟩, hit, hne⟩ := st
    obtain ⟨xs, x, hq, hx⟩ := hg
    obtain ⟨its, rv, p, hz⟩ := I.tuple hq
    obtain ⟨u, hu, ru⟩ := rv.get hx
    have hel : e < s.heap.objs.size := Heap.lt_size he
    have hil : it < s.heap.objs.size := by obtain ⟨_, q, _⟩ := hit; exact Heap.lt_size q
    have hlt : i < its.toArray.size := by
      rw [List.getElem?_eq_some_iff] at hu
      simpa using hu.1
    refine wpAny_pyNext_enum_itemD (Draws.tuple (show X.A.in1.handled = none from I.ok.hd hc) it a hai its.toArray) he ⟨hit, p⟩ hlt hne (by simp [hne, hae.symm]) fun y h' tk hy ho hit' hT hsz hk => ?_
    have hy' : its.toArray[i]? = some y := hy
    have ey : y = u := by
      have h2 : its.toArray[i]? = some u := by simpa using hu
      rw [h2] at hy'
      exact (Option.some.inj hy').symm
    subst ey
    refine ⟨_, rfl, wpAny_letOwnedTupleGo_enum (s := { s with heap := h', toks := tk + 1 }) ho fun h'' he' sb => ?_⟩
    have hT2 : h''.get? s.heap.objs.size = some { cls := .type "tuple", data := .seq #[.int i tk, y] } := (sb.2 _ (Nat.ne_of_gt hel)).trans hT
    have new : ObjOk X.prog X.w (upd H s.heap.objs.size (.tup [.int (i : Nat), x])) h'' s.heap.objs.size (.tup [.int (i : Nat), x]) :=
      ⟨by show 2 ≤ sizeLine; decide, [.int i tk, y], .cons ⟨_, rfl⟩ (.cons ru .nil), ⟨_, hT2, rfl, _, rfl⟩⟩
    have I1 : Inv X pins σ (upd H s.heap.objs.size (.tup [.int (i : Nat), x])) { s with heap := h'', toks := tk + 1 } :=
      I.turnedNew (ch := [e, it]) (fun b ob hb q => (sb.2 b (fun z => hb (by simp [z]))).trans (hk b ob (fun z => hb (by simp [z])) (fun z => hb (by simp [z])) q)) hf (Nat.le_refl _) new
    refine ⟨.ref s.heap.objs.size, _, I1, rfl, ⟨_, x, rfl, I.hok.fresh (Nat.le_refl _), rfl, fun ys hy => by rw [I.tuple_inj hy hq]; exact hx⟩, ⟨⟨y, ?_⟩, hit'.1.at fun o q => (sb.2 it (Ne.symm hne)).trans q, hne⟩, fun b hb => ?_⟩
    · have e1 : ((i + 1 : Nat) : Int) = (i : Int) + 1 := by omega
      rw [e1]; exact he'
    · have hb' : b < s.heap.objs.size := by
        have e' : b = e ∨ b = it := by simpa using hb
        rcases e' with z | z
        · rw [z]; exact hel
        · rw [z]; exact hil
      rw [upd_ne (Nat.ne_of_lt hb')]
      exact (hf b hb).1
  done := by
    intro X hP hw hK hc i pins s σ H E I hf st hg
    subst hP hw hK
    obtain ⟨⟨old, he⟩, hit, hne⟩ := st
    obtain ⟨xs, hq, hx⟩ := hg
    obtain ⟨its, rv, p, hz⟩ := I.tuple hq
    obtain ⟨f0, f1, f2, f3, f4, f5⟩ := hf it (by simp)
    have hl := rv.length
    exact enum_endT (I.ok.hd hc) he hit p (by simp; omega) fun h' eb => ⟨rfl, I.turned (t' := s.toks) (fun b o hb q => eb b o hb q) f0 f1 f3 f4 f5⟩
  self := fun A i s Q E st h => let ⟨⟨_, he⟩, _⟩ := st; wpAny_pyIter_enum he h
def iEnumA (K : PySem.W.Frag) (ta : TA) : TI := fun σ H R => ta σ H fun vs H1 => ∃ a xs, vs = [.ref a] ∧ ((SqL K H1 a xs ∧ R (Ite K a) H1) ∨ (SqT K H1 a xs ∧ R (IteT K a) H1))
theorem pi_enumA {X : Cx} {e : Expr} {ta : TA} {p pos tpos : Pos} {elts : List Expr} {kk : Nat} (hg : Gl X "enumerate") (hm : X.mg "enumerate" = none) (ha : PA X [e] ta) (hs : starEach [e] X.env = [(false, eval e X.env)] := by rfl) :
    PI X (.Tuple elts kk tpos) (.Call (.Name "enumerate" p) [e] [] pos) (iEnumA X.K ta) := by
  refine ⟨fun pins s σ H R I h => ?_⟩
  refine Call_ (ld_blt I hg hm boot_enumerate (PyProof.Rows.callWith_type1 (thn (ha.run pos pins s σ H _ I h) fun us s1 ⟨vs, H1, I1, r1, q1⟩ => ?_) hs rfl))
  obtain ⟨a, xs, ex, q1⟩ := q1
  subst ex
  cases r1 with
  | cons r rr =>
    cases rr
    cases r
    have fresh : ∀ b, b ∈ [s1.heap.objs.size + 1, s1.heap.objs.size] → FpOk X pins H1 b := fun b hb => by
      have e' : b = s1.heap.objs.size + 1 ∨ b = s1.heap.objs.size := by simpa using hb
      have hle : s1.heap.objs.size ≤ b := by
        rcases e' with z | z
        · rw [z]; exact Nat.le_add_right _ _
        · rw [z]; exact Nat.le_refl _
      exact I1.fpOk hle (I1.hok.fresh hle)
    rcases q1 with ⟨hq, q⟩ | ⟨hq, q⟩
    · obtain ⟨its, rv, p', hz⟩ := I1.list hq
      refine call_enumerate_list p'.isList fun h' he hit hsz hk => wpAny_pyIter_enum he ?_
      have I2 : Inv X pins σ H1 { s1 with heap := h' } := I1.kept (t' := s1.toks) hk
      exact ⟨s1.heap.objs.size + 1, [s1.heap.objs.size + 1, s1.heap.objs.size], _, _, H1, rfl, I2, turn_enum a (s1.heap.objs.size + 1) s1.heap.objs.size, ⟨⟨.none, he⟩, hit, Nat.succ_ne_self _⟩, fresh, q⟩
    · obtain ⟨its, rv, p', hz⟩ := I1.tuple hq
      have pt : s1.heap.IsTuple a its.toArray := p'
      have hal : a < s1.heap.objs.size := by
        obtain ⟨o, ho, _⟩ := pt
        exact Heap.lt_size ho
      refine call_enum_new (begins_tuple a its.toArray) pt fun h' he hit hsz hk => wpAny_pyIter_enum he ?_
      have I2 : Inv X pins σ H1 { s1 with heap := h' } := I1.kept (t' := s1.toks) hk
      exact ⟨s1.heap.objs.size + 1, [s1.heap.objs.size + 1, s1.heap.objs.size], _, _, H1, rfl, I2, turn_enumT a (s1.heap.objs.size + 1) s1.heap.objs.size (Nat.ne_of_lt hal) (Nat.ne_of_lt (Nat.lt_succ_of_lt hal)), ⟨⟨.none, he⟩, ⟨_, hit, rfl, rfl⟩, Nat.succ_ne_self _⟩, fresh, q⟩
def repS (z : Str) (n : Int) : Str := ⟨(List.replicate n.toNat z.cps.toList).flatten.toArray⟩
def rRepS : R2 := fun x y H Q => ∃ z n, x = .str z ∧ y = .int n ∧ -(2 ^ 62) ≤ n ∧ n < 2 ^ 62 ∧ z.length * n.toNat ≤ sizeLine ∧ Q (.str (repS z n)) H
theorem foldl_app (l : List (Array Nat)) : ∀ acc : Array Nat, (l.foldl (· ++ ·) acc).toList = acc.toList ++ (l.map Array.toList).flatten := by
  induction l with
  | nil => intro acc; simp
  | cons a l ih =>
    intro acc
    rw [List.foldl_cons, ih]
    simp
theorem op_repS {X : Cx} : OpR X (binaryOp .Mult) rRepS := by
  intro pins s σ H x y v u Q I rx ry h
  obtain ⟨z, n, rfl, rfl, h1, h2, hz, q⟩ := h
  obtain ⟨t, rfl⟩ := rx
  obtain ⟨t', rfl⟩ := ry
  have e1 : ∀ h : n < 1, repS z n = Str.empty := fun h => by
    unfold repS
    rw [show n.toNat = 0 by omega]
    rfl
  have e3 : (⟨(List.replicate n.toNat z.cps).foldl (· ++ ·) #[]⟩ : Str) = repS z n := by
    unfold repS
    congr 1
    apply Array.toList_inj.mp
    rw [foldl_app]
    simp
  have e2 : (n == 1 || z.length == 0) = true → ¬ n < 1 → z = repS z n := fun h hn => by
    have : z.cps = (List.replicate n.toNat z.cps.toList).flatten.toArray := by
      rw [Bool.or_eq_true] at h
      rcases h with h | h
      · have : n = 1 := by simpa using h
        subst this
        simp
      · have h0 : z.cps.size = 0 := by
          have : z.length = 0 := by simpa using h
          exact this
        have : z.cps = #[] := Array.eq_empty_of_size_eq_zero h0
        rw [this]
        simp
    unfold repS
    rw [← this]
  have e4 : (⟨(List.replicate n.toNat z.cps).foldl (· ++ ·) #[]⟩ : Str).cps.size ≤ sizeLine := by
    rw [e3]
    unfold repS
    have : (List.replicate n.toNat z.cps.toList).flatten.toArray.size = z.length * n.toNat := by
      rw [List.size_toArray, List.length_flatten, List.map_replicate, List.sum_replicate_nat, Nat.mul_comm]
      rfl
    show (List.replicate n.toNat z.cps.toList).flatten.toArray.size ≤ _
    rw [this]
    exact hz
  refine PySem.P.mul_str (by
      have a1 : ¬ n < -(2 ^ 63 : Int) := by omega
      have a2 : ¬ n ≥ 2 ^ 63 := by omega
      rw [decide_eq_false a1, decide_eq_false a2]; rfl) (fun hn hb => ?_) (fun hn hb => ?_) ?_
  · have hm : ((z.length : Nat) : Int) * n ≤ 2 ^ 63 - 1 := by
      have e : ((z.length * n.toNat : Nat) : Int) = (z.length : Int) * n := by
        rw [Int.natCast_mul, Int.toNat_of_nonneg (by omega)]
      rw [← e]
      have : z.length * n.toNat ≤ 2 ^ 24 := hz
      omega
    have := Int.le_ediv_of_mul_le (by omega : 0 < n) hm
    omega
  · unfold Builtin.Str.tooLong
    exact decide_eq_false (by omega)
  · by_cases hn : n < 1
    · rw [if_pos hn]
      refine ⟨by decide, ?_⟩
      exact ⟨.str (repS z n), H, I.tok _, ⟨_, by rw [e1 hn]⟩, q⟩
    · rw [if_neg hn]
      by_cases hb : (n == 1 || z.length == 0) = true
      · rw [if_pos hb]
        refine ⟨.str (repS z n), H, I, ⟨_, by rw [← e2 hb hn]⟩, q⟩
      · rw [if_neg hb]
        refine ⟨e4, ?_⟩
        exact ⟨.str (repS z n), H, I.tok _, ⟨_, by rw [e3]⟩, q⟩
end DL
set_option Elab.async false
set_option linter.all false
set_option maxRecDepth 100000
set_option maxHeartbeats 4000000
namespace DL
open PySem L2
def enumT (ts : List T) : List T := ts.mapIdx fun i t => .node true .tup [.leaf (.int (i : Nat)), t]
theorem enumT_get {ts : List T} {i : Nat} {t : T} (h : (enumT ts)[i]? = some t) : ∃ u, ts[i]? = some u ∧ t = .node true .tup [.leaf (.int (i : Nat)), u] := by
  unfold enumT at h
  rw [List.getElem?_mapIdx] at h
  cases e : ts[i]? with
  | none => rw [e] at h; cases h
  | some u =>
    rw [e] at h
    cases h
    exact ⟨u, rfl, rfl⟩
theorem enumT_len (ts : List T) : (enumT ts).length = ts.length := by simp [enumT]
section
variable {K : PySem.W.Frag} {B : Bs} {lim : List Addr} {σ : St} {H : Hp} {g : Ev} {Φ : Its}
theorem make_pair {x y : V} {t u : T} (r : RepG K B lim σ H g ((x, t) :: (y, u) :: Φ)) {p : Addr} (hp : H p = none) : RepG K B lim σ (upd H p (.tup [x, y])) g ((.ref p, .node true .tup [t, u]) :: Φ) :=
  RepG.make (s := .tup) (zs := [(x, t), (y, u)]) r hp
theorem walks_enumL {a : Addr} {vs : List V} {ts : List T} (hl : vs.length = ts.length) (hf : ∀ (i : Nat) (t : T), ts[i]? = some t → frz t = t) : Walks K B lim (Ite K a) ((.ref a, .pin .lst vs) :: vs.zip ts) (enumT ts) := by
  intro σ H g Φ i r
  have sq : SqL K H a vs := by
    obtain ⟨b, e, hr⟩ := RepG.pinAt (Φ := vs.zip ts ++ Φ) r
    cases e
    exact seqL hr
  refine ⟨fun t ht => ?_, fun hi => ⟨vs, sq, by rw [enumT_len] at hi; omega⟩⟩
  obtain ⟨u, hu, rfl⟩ := enumT_get ht
  obtain ⟨v, hv, hz⟩ := zip_get hl hu
  refine ⟨⟨vs, v, sq, hv⟩, fun x H' y => ?_⟩
  obtain ⟨T0, x', rfl, hn, rfl, y⟩ := y
  have hx := y vs sq
  rw [hv] at hx
  cases hx
  exact make_pair (RepG.addLeaf (RepG.dupAt (zs := (.ref a, .pin .lst vs) :: vs.zip ts) (i := i + 1) r (by simpa using hz) (hf i u hu))) hn
theorem walks_enumT {a : Addr} {vs : List V} {ts : List T} (hl : vs.length = ts.length) (hf : ∀ (i : Nat) (t : T), ts[i]? = some t → frz t = t) : Walks K B lim (IteT K a) ((.ref a, .pin .tup vs) :: vs.zip ts) (enumT ts) := by
  intro σ H g Φ i r
  have sq : SqT K H a vs := by
    obtain ⟨b, e, hr⟩ := RepG.pinAt (Φ := vs.zip ts ++ Φ) r
    cases e
    exact seqT hr
  refine ⟨fun t ht => ?_, fun hi => ⟨vs, sq, by rw [enumT_len] at hi; omega⟩⟩
  obtain ⟨u, hu, rfl⟩ := enumT_get ht
  obtain ⟨v, hv, hz⟩ := zip_get hl hu
  refine ⟨⟨vs, v, sq, hv⟩, fun x H' y => ?_⟩
  obtain ⟨T0, x', rfl, hn, rfl, y⟩ := y
  have hx := y vs sq
  rw [hv] at hx
  cases hx
  exact make_pair (RepG.addLeaf (RepG.dupAt (zs := (.ref a, .pin .tup vs) :: vs.zip ts) (i := i + 1) r (by simpa using hz) (hf i u hu))) hn
end
section
variable {X : Cx} {W : WX} {m : Nat → Bool} {tg e a b c : Expr} {es : List Expr} {te ta tb tc : DTE} {t : DTA} {bs : List (Option Nat)} {pos p tpos : Pos}
def iEn (t : DTA) : DTI := fun g Q E => t g (fun τs g1 => match τs with
  | [.node _ .lst ts] => Q (enumT (frzL ts)) g1
  | [.node _ .tup ts] => Q (enumT (frzL ts)) g1
  | _ => False) E
theorem di_enum {elts : List Expr} {kk : Nat} (hg : Gl X "enumerate") (hm : X.mg "enumerate" = none) (ha : DA X W [e] bs t) (hs : starEach [e] X.env = [(false, eval e X.env)] := by rfl) :
    DI X W (.Tuple elts kk tpos) (.Call (.Name "enumerate" p) [e] [] pos) (iEn t) := by
  refine ⟨fun B => PI.imp (pi_enumA hg hm (ha.run B) hs) fun σ H R ⟨Φ, lim, g, E, r, hx, q⟩ => ?_, fun g Q Q' E E' hq hE q => ha.mono _ _ _ _ _ (fun τs g1 q1 => ?_) hE q⟩
  · refine ⟨Φ, lim, g, E, r, hx, ha.mono _ _ _ _ _ (fun τs g1 q1 vs H1 hl _ r1 => ?_) (fun _ _ _ z => z) q⟩
    split at q1
    · rename_i o ts
      match vs, hl with
      | [v], _ =>
        obtain ⟨a, us, rfl, hl', r2⟩ := RepG.pinned (Φ := Φ) (v := v) (o := o) (s := .lst) (ts := ts) r1
        have sq : SqL X.K H1 a us := by
          obtain ⟨b, e, hr⟩ := RepG.pinAt (Φ := us.zip (frzL ts) ++ Φ) r2
          cases e
          exact seqL hr
        exact ⟨a, us, rfl, .inl ⟨sq, q1 _ _ H1 r2 (walks_enumL (by rw [hl', frzL_length]) fun i t ht => frzL_get ht)⟩⟩
    · rename_i o ts
      match vs, hl with
      | [v], _ =>
        obtain ⟨a, us, rfl, hl', r2⟩ := RepG.pinned (Φ := Φ) (v := v) (o := o) (s := .tup) (ts := ts) r1
        have sq : SqT X.K H1 a us := by
          obtain ⟨b, e, hr⟩ := RepG.pinAt (Φ := us.zip (frzL ts) ++ Φ) r2
          cases e
          exact seqT hr
        exact ⟨a, us, rfl, .inr ⟨sq, q1 _ _ H1 r2 (walks_enumT (by rw [hl', frzL_length]) fun i t ht => frzL_get ht)⟩⟩
    · exact q1.elim
  · split at q1
    · exact hq _ _ q1
    · exact hq _ _ q1
    · exact q1.elim
def isBl (τ : T) (P : Bool → Prop) : Prop := match τ with
  | .leaf (.bl b) => P b
  | _ => False
theorem isBl_mono {τ : T} {P P' : Bool → Prop} (h : ∀ b, P b → P' b) (q : isBl τ P) : isBl τ P' := by
  unfold isBl at q ⊢
  split at q
  · exact h _ q
  · exact q.elim
theorem isBl_of {τ : T} {P : Bool → Prop} (q : isBl τ P) : ∃ b, τ = .leaf (.bl b) ∧ P b := by
  unfold isBl at q
  split at q
  · exact ⟨_, rfl, q⟩
  · exact q.elim
theorem ifB_mono {c : Bool} {a a' b b' : Prop} (h1 : a → a') (h2 : b → b') (q : ifB c a b) : ifB c a' b' := by
  cases c with
  | true => exact h1 q
  | false => exact h2 q
def xChain (r1 r2 : R2T) (ta tb tc : DTE) : DTE := fun g Q E => ta g (fun τ1 g1 => tb g1 (fun τ2 g2 => r1 τ1 (frz τ2) fun τ => isBl τ fun k => ifB k (tc g2 (fun τ3 g3 => r2 (frz τ2) τ3 fun τ' => Q τ' g3) E) (Q (.leaf (.bl false)) g2)) E) E
theorem xChain_mono {r1 r2 : R2T} (h1 : ∀ τ1 τ2 Q Q', (∀ τ, Q τ → Q' τ) → r1 τ1 τ2 Q → r1 τ1 τ2 Q') (h2 : ∀ τ1 τ2 Q Q', (∀ τ, Q τ → Q' τ) → r2 τ1 τ2 Q → r2 τ1 τ2 Q') (ha : DE X W a ta) (hb : DE X W b tb) (hc : DE X W c tc) :
    ∀ g Q Q' E E', (∀ τ g', Q τ g' → Q' τ g') → (∀ c fs g', E c fs g' → E' c fs g') → xChain r1 r2 ta tb tc g Q E → xChain r1 r2 ta tb tc g Q' E' := fun g Q Q' E E' hq he q =>
  ha.mono _ _ _ _ _ (fun τ1 g1 q1 => hb.mono _ _ _ _ _ (fun τ2 g2 q2 => h1 _ _ _ _ (fun τ q3 => isBl_mono (fun k q4 => ifB_mono (fun q5 => hc.mono _ _ _ _ _ (fun τ3 g3 q6 => h2 _ _ _ _ (fun τ' z => hq _ _ z) q6) he q5) (fun z => hq _ _ z) q4) q3) q2) he q1) he q
theorem chain_reads {op op' : CmpOp} {rr rr' : R2} {r1 r2 : R2T} (hr1 : Op2 X.K rr r1) (hr2 : Op2 X.K rr' r2) (ha : DE X W a ta) (hb : DE X W b tb) (hc : DE X W c tc) {B : Bs} {σ : St} {H : Hp} {Q : VK} (h : liftE X.K B W (xChain r1 r2 ta tb tc) σ H Q) :
    tChain rr rr' (liftE X.K B W ta) (liftE X.K B W tb) (liftE X.K B W tc) σ H Q := by
  obtain ⟨Φ, lim, g, E, r, hx, q⟩ := h
  refine ⟨Φ, lim, g, E, r, hx, ha.mono _ _ _ _ _ (fun τ1 g1 q1 v1 H1 k1 => ?_) (fun _ _ _ z => z) q⟩
  refine ⟨(v1, τ1) :: Φ, lim, g1, E, k1, hx, hb.mono _ _ _ _ _ (fun τ2 g2 q2 v2 H2 k2 => ?_) (fun _ _ _ z => z) q1⟩
  have k3 := k2.freezeT.dup (frz_frz τ2)
  have k4 : RepG X.K B lim σ H2 g2 ((v2, frz τ2) :: (v1, τ1) :: (v2, frz τ2) :: Φ) := k3.perm (List.Perm.cons _ (List.Perm.swap _ _ _))
  refine hr1.1 B lim σ H2 g2 ((v2, frz τ2) :: Φ) v1 v2 τ1 (frz τ2) _ k4 (hr1.2 _ _ _ _ (fun τ q3 v3 H3 k5 => ?_) q2)
  obtain ⟨k, rfl, q4⟩ := isBl_of q3
  obtain rfl := k5.leaf
  refine ⟨k, rfl, ?_⟩
  cases k with
  | false => exact q4 _ _ k5.dropT.dropT.addLeaf
  | true =>
    refine ⟨(v2, frz τ2) :: Φ, lim, g2, E, k5.dropT, hx, hc.mono _ _ _ _ _ (fun τ3 g3 q5 v4 H4 k6 => ?_) (fun _ _ _ z => z) q4⟩
    exact hr2.1 B lim σ H4 g3 Φ v2 v4 (frz τ2) τ3 _ k6 (hr2.2 _ _ _ _ (fun τ' z v5 H5 k7 => z v5 H5 k7) q5)
theorem dt_chain {op op' : CmpOp} {rr rr' : R2} {r1 r2 : R2T} (ho : OpR X (compareOp op) rr) (hr1 : Op2 X.K rr r1) (ho' : OpR X (compareOp op') rr') (hr2 : Op2 X.K rr' r2) (ha : DE X W a ta) (hb : DE X W b tb) (hc : DE X W c tc)
    (hm : lastMarks [op, op'] [b, c] = false := by with_unfolding_all rfl) : DT X W (.Compare a [op, op'] [b, c] pos) (xB (xChain r1 r2 ta tb tc)) := by
  refine ⟨fun B => PT.imp (pt_chain ho ho' (ha.run B) (hb.run B) (hc.run B) hm) fun σ H Q ⟨Φ, lim, g, E, r, hx, q⟩ => ?_, fun g Q Q' E E' hq hE q => ?_⟩
  · refine chain_reads (op := op) (op' := op') hr1 hr2 ha hb hc ⟨Φ, lim, g, E, r, hx, xChain_mono hr1.2 hr2.2 ha hb hc _ _ _ _ _ (fun τ g1 q1 v H1 k1 => ?_) (fun _ _ _ z => z) q⟩
    split at q1
    · obtain rfl := k1.leaf
      exact ⟨_, rfl, q1 _ k1.dropT⟩
    · exact q1.elim
  · exact xChain_mono hr1.2 hr2.2 ha hb hc _ _ _ _ _ (fun τ g1 q1 => m_bl hq q1) hE q
end
end DL
set_option Elab.async false
set_option linter.all false
set_option maxRecDepth 100000
set_option maxHeartbeats 4000000
namespace DL
open PySem L2
inductive Ty where
  | non | int | bl | str | lst | tup | dct | exc
deriving DecidableEq
def Ty.name : Ty → String
  | .non => "NoneType"
  | .int => "int"
  | .bl => "bool"
  | .str => "str"
  | .lst => "list"
  | .tup => "tuple"
  | .dct => "dict"
  | .exc => "BaseException"
def tyT : T → Option Ty
  | .leaf .non => some .non
  | .leaf (.bl _) => some .bl
  | .leaf (.int _) => some .int
  | .leaf (.str _) => some .str
  | .node _ .lst _ => some .lst
  | .node _ .tup _ => some .tup
  | .node _ (.dK _) _ => some .dct
  | .node _ (.dT _) _ => some .dct
  | .pin .lst _ => some .lst
  | .pin .tup _ => some .tup
  | .pin (.exc _) _ => some .exc
  | _ => none
def Ty.isa : Ty → Ty → Bool
  | .bl, .int => true
  | a, b => decide (a = b)
theorem isa_ok (a b : Ty) (h : b ≠ .non ∧ b ≠ .exc) (ha : a ≠ .exc) : kitB a.name b.name = some (a.isa b) := by
  cases a <;> cases b <;> first | exact absurd rfl h.1 | exact absurd rfl h.2 | exact absurd rfl ha | decide +kernel
theorem RepG.tyx {K : PySem.W.Frag} {B : Bs} {lim : List Addr} {σ : St} {H : Hp} {g : Ev} {Φ : Its} {v : V} {τ : T} {ty : Ty} (r : RepG K B lim σ H g ((v, τ) :: Φ)) (e : tyT τ = some ty) (hne : ty ≠ .exc) : TyX K H v (.type ty.name) := by
  unfold tyT at e
  split at e
  · cases e
    obtain rfl := r.leaf
    exact .base .non
  · cases e
    obtain rfl := r.leaf
    exact .base (.bl _)
  · cases e
    obtain rfl := r.leaf
    exact .base (.int _)
  · cases e
    obtain rfl := r.leaf
    exact .base (.str _)
  · cases e
    obtain ⟨a, vs, rfl, _, ha⟩ := r.nodeH (by nofun)
    exact .base (.lst ha)
  · cases e
    obtain ⟨a, vs, rfl, _, hr⟩ := r.node
    rcases hr with (ha | ⟨o, ha⟩) | ⟨o, its, n, h1, h2, h3, h4, h5⟩
    · exact .base (.tup ha)
    · exact .fTuple ha
    · exact .kTuple h1 h2
  · cases e
    obtain ⟨a, vs, rfl, _, ha⟩ := r.nodeH (by nofun)
    exact .base (.dK ha)
  · cases e
    obtain ⟨a, vs, rfl, _, ha⟩ := r.nodeH (by nofun)
    exact .base (.dT ha)
  · cases e
    obtain ⟨a, rfl, hr⟩ := r.pinAt
    rcases hr with (ha | ⟨o, ha⟩) | ⟨o, its, n, h1, h2, h3, h4, h5⟩
    · exact .base (.lst ha)
    · exact .base (.frz ha)
    · exact .kList h1 h2
  · cases e
    obtain ⟨a, rfl, hr⟩ := r.pinAt
    rcases hr with (ha | ⟨o, ha⟩) | ⟨o, its, n, h1, h2, h3, h4, h5⟩
    · exact .base (.tup ha)
    · exact .fTuple ha
    · exact .kTuple h1 h2
  · cases e
    exact absurd rfl hne
  · cases e
theorem excKit {K : PySem.W.Frag} {D : Addr} (hv : ExcV K D) (c : Ty) (hc : c ≠ .non ∧ c ≠ .exc) : PySem.W.kitOne K (.ref D) (.type c.name) = some (Ty.exc.isa c) := by
  have := hv.kit c.name (by cases c <;> first | exact absurd rfl hc.1 | exact absurd rfl hc.2 | decide)
  rw [this]
  cases c <;> first | rfl | exact absurd rfl hc.2
theorem exc_inst {X : Cx} {pins : List (Addr × Obj)} {σ : St} {H : Hp} {s : Shared} {a : Addr} (I : Inv X pins σ H s) (ha : ExcIn X.K H a) : ∃ (D : Addr) (oe : Obj), ExcV X.K D ∧ PySem.W.InstAt s.heap a oe D none := by
  rcases ha with ⟨D, ha, hv⟩ | ha | ⟨o, ha⟩
  · obtain ⟨⟨oe, vs, e, z, d, _⟩, _, _⟩ := I.hok a _ ha
    refine ⟨D, oe, hv, ?_⟩
    obtain ⟨oc, od, oda, osl⟩ := oe
    obtain ⟨h1, h2⟩ := z
    dsimp only at h1 h2 d
    subst h1 h2 d
    exact ⟨e, rfl, rfl, trivial⟩
  · obtain ⟨z, _⟩ := I.hok a _ ha
    exact z.elim
  · have z := I.hok a _ ha
    exact z.2.1.elim
def rIsiV (K : PySem.W.Frag) : List V → Hp → VK → Prop := fun xs H Q => ∃ (a : Addr) (c : Ty), (c ≠ .non ∧ c ≠ .exc) ∧ xs = [.ref a, .ty c.name] ∧ ExcIn K H a ∧ Q (.bl (Ty.exc.isa c)) H
theorem call_isV {X : Cx} : CallR X (.builtin "isinstance") (fun xs H Q => rIsi X.K xs H Q ∨ rIsiV X.K xs H Q) := by
  intro pins s σ H xs us Q I r h
  rcases h with h | ⟨a, c, hc, rfl, ha, q⟩
  · exact call_isi pins s σ H xs us Q I r h
  · obtain ⟨u1, u2, rfl, r1, r2⟩ := vals2 r
    cases (show u1 = Value.ref a from r1)
    cases (show u2 = Value.type c.name from r2)
    obtain ⟨D, oe, hv, J⟩ := exc_inst I ha
    exact PySem.W.kia_one (PySem.W.handS_kitx_exc hv.ex.hg hv.ex.hk hv.ex.hs hv.ex.hd hv.ex.ha hv.ex.hn hv.ex.ht hv.ex.hm) I.kIn J (excKit hv c hc) (fun z => nomatch z) fun tk => ⟨.bl _, H, I.kept (t' := tk) fun _ _ z => z, rfl, q⟩
theorem exc_of {τ : T} (e : tyT τ = some .exc) : ∃ n vs, τ = .pin (.exc n) vs := by
  unfold tyT at e
  split at e <;> first | cases e; done | exact ⟨_, _, rfl⟩ | (cases e)
def tyQ (τ : T) (P : Ty → Prop) : Prop := match tyT τ with
  | some ty => P ty
  | none => False
theorem tyQ_of {τ : T} {P : Ty → Prop} (q : tyQ τ P) : ∃ ty, tyT τ = some ty ∧ P ty := by
  unfold tyQ at q
  split at q
  · rename_i ty h
    exact ⟨ty, h, q⟩
  · exact q.elim
theorem tyQ_mono {τ : T} {P P' : Ty → Prop} (h : ∀ t, P t → P' t) (q : tyQ τ P) : tyQ τ P' := by
  unfold tyQ at q ⊢
  split at q
  · rename_i ty e
    exact h _ q
  · exact q.elim
section
variable {X : Cx} {W : WX} {m : Nat → Bool} {tg e a b c : Expr} {es : List Expr} {te ta tb tc : DTE} {t : DTA} {bs : List (Option Nat)} {pos p tpos : Pos} {x : Str}
theorem d_ty {n : String} (hg : Gl X x) (hm : X.mg x = none) (hv : bootBuiltins x = some (.type n)) (hn : x ≠ "__name__" := by decide) (hd : (x == ("__debug__" : Str)) = false := by decide) : DE X W (.Name x pos) (xC (.ty n)) := d_c (pe_bltn hg hm hv rfl hn hd)
def rnIsi (c : Ty) : RNT := fun τs Q => match τs with
  | [τ, .leaf (.ty n)] => n = c.name ∧ tyQ τ fun ty => Q (.leaf (.bl (ty.isa c)))
  | _ => False
theorem n_isi (c : Ty) (hc : c ≠ .non ∧ c ≠ .exc := by decide) : CallN X (.builtin "isinstance") (fun xs H Q => rIsi X.K xs H Q ∨ rIsiV X.K xs H Q) (rnIsi c) := by
  refine ⟨call_isV, fun B lim σ H g Φ vs τs Q hl r q => ?_, fun τs Q Q' h q => ?_⟩
  · unfold rnIsi at q
    split at q
    · rename_i τ n
      obtain ⟨rfl, q⟩ := q
      obtain ⟨ty, ht, q⟩ := tyQ_of q
      match vs, hl with
      | [v, w], _ =>
        have r2 : RepG X.K B lim σ H g ((v, τ) :: (w, .leaf (.ty c.name)) :: Φ) := r
        obtain rfl := r2.dropT.leaf
        by_cases hx : ty = .exc
        · subst hx
          obtain ⟨k, us, rfl⟩ := exc_of ht
          obtain ⟨a, rfl, ha⟩ := r2.excAt
          exact .inr ⟨a, c, hc, rfl, ha, q _ _ r2.dropT.dropT.addLeaf⟩
        · exact .inl ⟨v, _, _, _, _, rfl, .ty _, r2.tyx ht hx, kit_ty (isa_ok ty c hc hx), q _ _ r2.dropT.dropT.addLeaf⟩
    · exact q.elim
  · unfold rnIsi at q
    split at q
    · exact ⟨q.1, tyQ_mono (fun _ z => h _ z) q.2⟩
    · exact q.elim
def rnDivmod : RNT := fun τs Q => match τs with
  | [.leaf (.int i), .leaf (.int j)] => CDivP i j ∧ Q (.node true .tup [.leaf (.int (i / j)), .leaf (.int (i % j))])
  | _ => False
theorem n_divmod : CallN X (.builtin "divmod") (fun xs H Q => ∃ i j, xs = [.int i, .int j] ∧ CDivP i j ∧ ∀ p, H p = none → Q (.ref p) (upd H p (.tup [.int (i / j), .int (i % j)]))) rnDivmod := by
  refine ⟨call_divmodW, fun B lim σ H g Φ vs τs Q hl r q => ?_, fun τs Q Q' h q => ?_⟩
  · unfold rnDivmod at q
    split at q
    · obtain ⟨rfl, r'⟩ := two_leaf hl r
      exact ⟨_, _, rfl, q.1, fun p hp => q.2 _ _ (make_pair r'.addLeaf.addLeaf hp)⟩
    · exact q.elim
  · unfold rnDivmod at q
    split at q
    · exact ⟨q.1, h _ q.2⟩
    · exact q.elim
def rnTuple : RNT := fun τs Q => match τs with
  | [.node _ .lst ts] => Q (.node true .tup (frzL ts))
  | [.node _ .tup ts] => Q (.node false .tup (frzL ts))
  | _ => False
theorem parts_only {K : PySem.W.Frag} {B : Bs} {lim : List Addr} {σ : St} {H : Hp} {g : Ev} {Φ : Its} {v : V} {o : Bool} {s : Sh} {ts : List T} (r : RepG K B lim σ H g ((v, .node o s ts) :: Φ)) :
    ∃ a vs, v = .ref a ∧ vs.length = (frzL ts).length ∧ (Rd H a (s.mk a vs) ∨ Konst K a vs s) ∧ RepG K B lim σ H g (vs.zip (frzL ts) ++ Φ) := by
  obtain ⟨a, vs, e, hl, hr, r2⟩ := r.parts
  refine ⟨a, vs, e, by rw [hl, frzL_length], hr, ?_⟩
  exact ((r2.perm (List.perm_append_comm (l₁ := vs.zip (frzL ts)) (l₂ := (v, T.node false s (frzL ts)) :: Φ))).dropT.perm List.perm_append_comm)
theorem n_tuple : CallN X (.type "tuple") (fun xs H Q => ∃ p ys, xs = [.ref p] ∧ ((SqL X.K H p ys ∧ ∀ l, H l = none → Q (.ref l) (upd H l (.tup ys))) ∨ (SqT X.K H p ys ∧ Q (.ref p) H))) rnTuple := by
  refine ⟨call_tuple_of, fun B lim σ H g Φ vs τs Q hl r q => ?_, fun τs Q Q' h q => ?_⟩
  · unfold rnTuple at q
    split at q
    · rename_i o ts
      match vs, hl with
      | [v], _ =>
        have r2 : RepG X.K B lim σ H g ((v, .node o .lst ts) :: Φ) := r
        obtain ⟨a, us, rfl, hl', hr, r3⟩ := parts_only r2
        exact ⟨a, us, rfl, .inl ⟨seqL hr, fun l hn => q _ _ (make_of .tup hl' r3 hn)⟩⟩
    · rename_i o ts
      match vs, hl with
      | [v], _ =>
        have r2 : RepG X.K B lim σ H g ((v, .node o .tup ts) :: Φ) := r
        obtain ⟨a, us, rfl, hl', hr, r3⟩ := r2.parts
        have r4 := r2.freezeT
        rw [frz_node] at r4
        exact ⟨a, us, rfl, .inr ⟨seqT hr, q _ _ r4⟩⟩
    · exact q.elim
  · unfold rnTuple at q
    split at q
    · exact h _ q
    · exact h _ q
    · exact q.elim
def rnList : RNT := fun τs Q => match τs with
  | [.node _ .lst ts] => Q (.node true .lst (frzL ts))
  | [.node _ .tup ts] => Q (.node true .lst (frzL ts))
  | _ => False
theorem n_list : CallN X (.type "list") (fun xs H Q => ∃ p ys, xs = [.ref p] ∧ (SqL X.K H p ys ∨ SqT X.K H p ys) ∧ ∀ l, H l = none → Q (.ref l) (upd H l (.lst ys))) rnList := by
  refine ⟨call_list_of, fun B lim σ H g Φ vs τs Q hl r q => ?_, fun τs Q Q' h q => ?_⟩
  · unfold rnList at q
    split at q
    · rename_i o ts
      match vs, hl with
      | [v], _ =>
        have r2 : RepG X.K B lim σ H g ((v, .node o .lst ts) :: Φ) := r
        obtain ⟨a, us, rfl, hl', hr, r3⟩ := parts_only r2
        exact ⟨a, us, rfl, .inl (seqL hr), fun l hn => q _ _ (make_of .lst hl' r3 hn)⟩
    · rename_i o ts
      match vs, hl with
      | [v], _ =>
        have r2 : RepG X.K B lim σ H g ((v, .node o .tup ts) :: Φ) := r
        obtain ⟨a, us, rfl, hl', hr, r3⟩ := parts_only r2
        exact ⟨a, us, rfl, .inr (seqT hr), fun l hn => q _ _ (make_of .lst hl' r3 hn)⟩
    · exact q.elim
  · unfold rnList at q
    split at q
    · exact h _ q
    · exact h _ q
    · exact q.elim
def rnInt2 : RNT := fun τs Q => match τs with
  | [.leaf (.int i)] => Q (.leaf (.int i))
  | [.leaf (.bl k)] => Q (.leaf (.int (if k then 1 else 0)))
  | [.leaf (.str a)] => ∃ n, PySem.intText? a = some n ∧ a.length ≤ 640 ∧ Q (.leaf (.int n))
  | _ => False
theorem n_int2 : CallN X (.type "int") (fun xs H Q => ((∃ i, xs = [.int i] ∧ Q (.int i) H) ∨ ∃ k, xs = [.bl k] ∧ Q (.int (if k then 1 else 0)) H) ∨ ∃ a n, xs = [.str a] ∧ PySem.intText? a = some n ∧ a.length ≤ 640 ∧ Q (.int n) H) rnInt2 := by
  refine ⟨call_int1.or call_int_str, fun B lim σ H g Φ vs τs Q hl r q => ?_, fun τs Q Q' h q => ?_⟩
  · unfold rnInt2 at q
    split at q
    · obtain ⟨rfl, r'⟩ := one_leaf hl r
      exact .inl (.inl ⟨_, rfl, q _ _ r'.addLeaf⟩)
    · obtain ⟨rfl, r'⟩ := one_leaf hl r
      exact .inl (.inr ⟨_, rfl, q _ _ r'.addLeaf⟩)
    · obtain ⟨rfl, r'⟩ := one_leaf hl r
      obtain ⟨n, h1, h2, q⟩ := q
      exact .inr ⟨_, n, rfl, h1, h2, q _ _ r'.addLeaf⟩
    · exact q.elim
  · unfold rnInt2 at q
    split at q
    · exact h _ q
    · exact h _ q
    · obtain ⟨n, h1, h2, q⟩ := q
      exact ⟨n, h1, h2, h _ q⟩
    · exact q.elim
def truT : T → (Bool → Prop) → Prop
  | .leaf .non, P => P false
  | .leaf (.bl b), P => P b
  | .leaf (.int i), P => P (i != 0)
  | .leaf (.str y), P => y.length ≤ sizeLine ∧ P ((y.length : Int) != 0)
  | .node _ .lst ts, P => P (!ts.isEmpty)
  | .node _ .tup ts, P => P (!ts.isEmpty)
  | _, _ => False
theorem truT_mono {τ : T} {P P' : Bool → Prop} (h : ∀ b, P b → P' b) (q : truT τ P) : truT τ P' := by
  unfold truT at q
  split at q
  · exact h _ q
  · exact h _ q
  · exact h _ q
  · exact ⟨q.1, h _ q.2⟩
  · exact h _ q
  · exact h _ q
  · exact q.elim
theorem isEmpty_len {α β : Type} {xs : List α} {ys : List β} (h : xs.length = ys.length) : xs.isEmpty = ys.isEmpty := by
  cases xs <;> cases ys <;> first | rfl | simp at h
def xTru (te : DTE) : DTT := fun g Q E => te g (fun τ g1 => truT τ fun b => Q b g1) E
theorem dt_truth (ha : DE X W a ta) (he : ∀ whole, isTrue a X.env whole = (do let v ← whole; standAt a.pos; holding [v] (truthy v)) := by intro _; rfl) : DT X W a (xTru ta) := by
  refine ⟨fun B => PT.imp (pt_truth (ha.run B) he) fun σ H Q ⟨Φ, lim, g, E, r, hx, q⟩ => ?_, fun g Q Q' E E' hq hE q => ha.mono _ _ _ _ _ (fun τ g1 q1 => truT_mono (fun b z => hq _ _ z) q1) hE q⟩
  refine ⟨Φ, lim, g, E, r, hx, ha.mono _ _ _ _ _ (fun τ g1 q1 v H1 r1 => ?_) (fun _ _ _ z => z) q⟩
  unfold truT at q1
  split at q1
  · obtain rfl := r1.leaf
    exact ⟨false, rfl, q1 _ r1.dropT⟩
  · obtain rfl := r1.leaf
    exact ⟨_, rfl, q1 _ r1.dropT⟩
  · obtain rfl := r1.leaf
    exact ⟨_, rfl, q1 _ r1.dropT⟩
  · obtain rfl := r1.leaf
    exact ⟨_, ⟨q1.1, rfl⟩, q1.2 _ r1.dropT⟩
  · rename_i o ts
    obtain ⟨ad, us, rfl, hl, hr⟩ := r1.node
    exact ⟨_, .inl ⟨us, seqL hr, rfl⟩, by rw [isEmpty_len hl]; exact q1 _ r1.dropT⟩
  · rename_i o ts
    obtain ⟨ad, us, rfl, hl, hr⟩ := r1.node
    exact ⟨_, .inr (.inl ⟨us, seqT hr, rfl⟩), by rw [isEmpty_len hl]; exact q1 _ r1.dropT⟩
  · exact q1.elim
def rtAdd : R2T := fun τ1 τ2 Q => match τ1, τ2 with
  | .node _ .lst ts, .node _ .lst us => ts.length + us.length ≤ sizeLine ∧ Q (.node true .lst (frzL ts ++ frzL us))
  | .leaf (.int i), .leaf (.int j) => Q (.leaf (.int (i + j)))
  | .leaf (.str i), .leaf (.str j) => i.length + j.length ≤ sizeLine ∧ Q (.leaf (.str (i ++ j)))
  | .node _ .tup ts, .node _ .tup us => ts.length + us.length ≤ sizeLine ∧ Q (.node false .tup (frzL ts ++ frzL us))
  | _, _ => False
theorem rtAdd_mono : ∀ τ1 τ2 Q Q', (∀ τ, Q τ → Q' τ) → rtAdd τ1 τ2 Q → rtAdd τ1 τ2 Q' := by
  intro τ1 τ2 Q Q' hq q
  unfold rtAdd at q
  split at q
  · exact ⟨q.1, hq _ q.2⟩
  · exact hq _ q
  · exact ⟨q.1, hq _ q.2⟩
  · exact ⟨q.1, hq _ q.2⟩
  · exact q.elim
def rCatSs : R2 := fun x y H Q => ∃ i j, x = .str i ∧ y = .str j ∧ i.length + j.length ≤ sizeLine ∧ Q (.str (i ++ j)) H
def rAdd4 (K : PySem.W.Frag) : R2 := fun x y H Q => (rCat x y H Q ∨ rI0 (fun i j => .int (i + j)) x y H Q) ∨ (rCatSs x y H Q ∨ rCatA K x y H Q)
theorem op_add4 : OpR X (binaryOp .Add) (rAdd4 X.K) := fun pins s σ H x y v u Q I rx ry h => by
  rcases h with (h | h) | (h | h)
  · exact op_cat pins s σ H x y v u Q I rx ry h
  · exact op_add pins s σ H x y v u Q I rx ry h
  · exact op_add_str pins s σ H x y v u Q I rx ry h
  · exact op_catA pins s σ H x y v u Q I rx ry h
theorem op2_add4 {K : PySem.W.Frag} : Op2 K (rAdd4 K) rtAdd := by
  refine ⟨fun B lim σ H g Φ v1 v2 τ1 τ2 Q r q => ?_, rtAdd_mono⟩
  unfold rtAdd at q
  split at q
  · rename_i o ts o' us
    exact .inl (op2_cat.1 B lim σ H g Φ v1 v2 (.node o .lst ts) (.node o' .lst us) Q r q)
  · obtain rfl := r.leaf
    obtain rfl := r.dropT.leaf
    exact .inl (.inr ⟨_, _, rfl, rfl, q _ _ r.dropT.dropT.addLeaf⟩)
  · obtain rfl := r.leaf
    obtain rfl := r.dropT.leaf
    exact .inr (.inl ⟨_, _, rfl, rfl, q.1, q.2 _ _ r.dropT.dropT.addLeaf⟩)
  · rename_i o ts o' us
    have r0 := r.freezeT
    rw [frz_node] at r0
    have r1 := (r0.perm (List.Perm.swap _ _ _)).freezeT
    rw [frz_node] at r1
    obtain ⟨a1, vs1, rfl, hl1, hr1, r2⟩ := r1.kids
    have r3 := r2.perm (Ψ := (v2, .node false .tup (frzL us)) :: (vs1.zip (frzL ts) ++ (V.ref a1, T.node false .tup (frzL ts)) :: Φ)) (by
      have e := List.perm_middle (a := (v2, T.node false .tup (frzL us))) (l₁ := vs1.zip (frzL ts) ++ [(V.ref a1, T.node false .tup (frzL ts))]) (l₂ := Φ)
      simpa using e)
    obtain ⟨a2, vs2, rfl, hl2, hr2, r4⟩ := r3.kids
    refine .inr (.inr ⟨a1, a2, vs1, vs2, rfl, rfl, seqT hr1, seqT hr2, by rw [hl1, hl2, frzL_length, frzL_length]; exact q.1, fun e => ?_, fun e1 e2 => ?_, fun _ _ p hp => ?_⟩)
    · subst e
      have : frzL ts = [] := List.eq_nil_of_length_eq_zero (by rw [← hl1]; rfl)
      rw [this, List.nil_append] at q
      refine q.2 _ _ ?_
      exact (r1.perm (List.Perm.swap _ _ _)).perm (List.Perm.swap _ _ _) |>.dropT
    · subst e2
      have : frzL us = [] := List.eq_nil_of_length_eq_zero (by rw [← hl2]; rfl)
      rw [this, List.append_nil] at q
      refine q.2 _ _ ?_
      exact (r1.perm (List.Perm.swap _ _ _)).dropT
    · have r5 : RepG K B lim σ H g ((vs1 ++ vs2).zip (frzL ts ++ frzL us) ++ Φ) := by
        rw [zip_app hl1]
        have r6 := r4.perm (Ψ := (V.ref a2, T.node false .tup (frzL us)) :: (V.ref a1, T.node false .tup (frzL ts)) :: (vs1.zip (frzL ts) ++ vs2.zip (frzL us) ++ Φ)) (by
          refine (List.perm_middle).trans (List.Perm.cons _ ?_)
          have e1 : (vs2.zip (frzL us) ++ (vs1.zip (frzL ts) ++ (V.ref a1, T.node false .tup (frzL ts)) :: Φ)).Perm ((V.ref a1, T.node false .tup (frzL ts)) :: (vs2.zip (frzL us) ++ (vs1.zip (frzL ts) ++ Φ))) := by
            rw [← List.append_assoc, ← List.append_assoc]
            exact List.perm_middle
          refine e1.trans (List.Perm.cons _ ?_)
          rw [← List.append_assoc]
          exact List.Perm.append_right _ List.perm_append_comm)
        exact r6.dropT.dropT
      have hl : (vs1 ++ vs2).length = (frzL ts ++ frzL us).length := by rw [List.length_append, List.length_append, hl1, hl2]
      have r7 := (make_of .tup hl r5 hp).freezeT
      rw [frz_node] at r7
      have e : frzL (frzL ts ++ frzL us) = frzL ts ++ frzL us := by
        rw [frzL_map, List.map_append, ← frzL_map, ← frzL_map, frzL_frzL, frzL_frzL]
      rw [e] at r7
      exact q.2 _ _ r7
  · exact q.elim
theorem d_add4 (ha : DE X W a ta) (hb : DE X W b tb) : DE X W (.BinOp a .Add b pos) (xOp rtAdd ta tb) := d_op2 op_add4 op2_add4 ha hb
def repL (ts : List T) (n : Int) : List T := (List.replicate n.toNat ts).flatten
def rtMul : R2T := fun τ1 τ2 Q => match τ1, τ2 with
  | .leaf (.int i), .leaf (.int j) => CMulA i j ∧ Q (.leaf (.int (i * j)))
  | .leaf (.str z), .leaf (.int n) => (-(2 ^ 62) ≤ n ∧ n < 2 ^ 62 ∧ z.length * n.toNat ≤ sizeLine) ∧ Q (.leaf (.str (repS z n)))
  | .node _ .lst ts, .leaf (.int n) => (-(2 ^ 62) ≤ n ∧ n < 2 ^ 62 ∧ ts.length * n.toNat ≤ sizeLine) ∧ Q (.node true .lst (repL (frzL ts) n))
  | _, _ => False
theorem rtMul_mono : ∀ τ1 τ2 Q Q', (∀ τ, Q τ → Q' τ) → rtMul τ1 τ2 Q → rtMul τ1 τ2 Q' := by
  intro τ1 τ2 Q Q' hq q
  unfold rtMul at q
  split at q
  · exact ⟨q.1, hq _ q.2⟩
  · exact ⟨q.1, hq _ q.2⟩
  · exact ⟨q.1, hq _ q.2⟩
  · exact q.elim
def rMul3 : R2 := fun x y H Q => (rI CMulA (fun i j => .int (i * j)) x y H Q ∨ rRepS x y H Q) ∨ rRep x y H Q
theorem op_mul3 : OpR X (binaryOp .Mult) rMul3 := fun pins s σ H x y v u Q I rx ry h => by
  rcases h with (h | h) | h
  · exact op_mulA pins s σ H x y v u Q I rx ry h
  · exact op_repS pins s σ H x y v u Q I rx ry h
  · exact op_rep pins s σ H x y v u Q I rx ry h
theorem rep_times {K : PySem.W.Frag} {B : Bs} {lim : List Addr} {σ : St} {H : Hp} {g : Ev} {Φ : Its} {vs : List V} {ts : List T} (hl : vs.length = ts.length) (hf : frzL ts = ts) (r : RepG K B lim σ H g (vs.zip ts ++ Φ)) : ∀ n : Nat,
    (List.replicate n vs).flatten.length = (List.replicate n ts).flatten.length ∧ RepG K B lim σ H g ((List.replicate n vs).flatten.zip (List.replicate n ts).flatten ++ (vs.zip ts ++ Φ))
  | 0 => ⟨rfl, r⟩
  | n + 1 => by
    obtain ⟨e, r1⟩ := rep_times hl hf r n
    have dupAll : ∀ (ws : List V) (us : List T) {Ψ : Its}, (∀ u ∈ us, frz u = u) → RepG K B lim σ H g (ws.zip us ++ Ψ) → RepG K B lim σ H g (ws.zip us ++ (ws.zip us ++ Ψ)) := fun ws => by
      induction ws with
      | nil => intro us Ψ _ h; simpa using h
      | cons w ws ih =>
        intro us Ψ hu h
        cases us with
        | nil => simpa using h
        | cons u us =>
          have h1 : RepG K B lim σ H g ((w, u) :: (ws.zip us ++ Ψ)) := h
          have h2 := h1.dup (hu u List.mem_cons_self)
          have h3 : RepG K B lim σ H g (ws.zip us ++ ((w, u) :: (w, u) :: Ψ)) := h2.perm (by
            have e1 := List.perm_middle (a := (w, u)) (l₁ := ws.zip us) (l₂ := Ψ)
            have e2 := List.perm_middle (a := (w, u)) (l₁ := ws.zip us) (l₂ := (w, u) :: Ψ)
            exact (List.Perm.cons _ e1.symm).trans e2.symm)
          have h4 := ih us (fun u' hu' => hu u' (List.mem_cons_of_mem _ hu')) h3
          refine h4.perm ?_
          show (ws.zip us ++ (ws.zip us ++ ((w, u) :: (w, u) :: Ψ))).Perm ((w, u) :: (ws.zip us ++ ((w, u) :: (ws.zip us ++ Ψ))))
          have e2 : (ws.zip us ++ ((w, u) :: (w, u) :: Ψ)).Perm ((w, u) :: (w, u) :: (ws.zip us ++ Ψ)) := List.perm_middle.trans (List.Perm.cons _ List.perm_middle)
          refine (List.Perm.append_left _ e2).trans ?_
          refine List.perm_middle.trans (List.Perm.cons _ ?_)
          exact .refl _
    have fz : ∀ u ∈ ts, frz u = u := fun u hu => by
      obtain ⟨i, hi, rfl⟩ := List.mem_iff_getElem.mp hu
      have := congrArg (·[i]?) hf
      simp only [frzL_map, List.getElem?_map, List.getElem?_eq_getElem hi] at this
      exact Option.some.inj this
    have r2 : RepG K B lim σ H g (vs.zip ts ++ (vs.zip ts ++ ((List.replicate n vs).flatten.zip (List.replicate n ts).flatten ++ Φ))) := dupAll vs ts fz (r1.perm (by
      rw [← List.append_assoc, ← List.append_assoc]
      exact List.Perm.append_right _ List.perm_append_comm))
    refine ⟨by rw [List.replicate_succ, List.replicate_succ, List.flatten_cons, List.flatten_cons, List.length_append, List.length_append, hl, e], ?_⟩
    rw [List.replicate_succ, List.replicate_succ, List.flatten_cons, List.flatten_cons, zip_app hl, List.append_assoc]
    refine r2.perm (List.Perm.append_left _ ?_)
    rw [← List.append_assoc, ← List.append_assoc]
    exact List.Perm.append_right _ List.perm_append_comm
theorem op2_mul3 {K : PySem.W.Frag} : Op2 K rMul3 rtMul := by
  refine ⟨fun B lim σ H g Φ v1 v2 τ1 τ2 Q r q => ?_, rtMul_mono⟩
  unfold rtMul at q
  split at q
  · obtain rfl := r.leaf
    obtain rfl := r.dropT.leaf
    exact .inl (.inl ⟨_, _, rfl, rfl, q.1, q.2 _ _ r.dropT.dropT.addLeaf⟩)
  · obtain rfl := r.leaf
    obtain rfl := r.dropT.leaf
    exact .inl (.inr ⟨_, _, rfl, rfl, q.1.1, q.1.2.1, q.1.2.2, q.2 _ _ r.dropT.dropT.addLeaf⟩)
  · rename_i o ts n
    obtain rfl := r.leaf
    have r1 := r.dropT.freezeT
    rw [frz_node] at r1
    obtain ⟨a1, vs1, rfl, hl1, hr1, r2⟩ := r1.kidsH (by nofun)
    obtain ⟨e, r3⟩ := rep_times hl1 (frzL_frzL ts) r2 n.toNat
    refine .inr ⟨a1, n, vs1, rfl, rfl, hr1, by omega, by omega, by rw [hl1, frzL_length]; exact q.1.2.2, fun p hp => q.2 _ _ ?_⟩
    refine make_of .lst e ?_ hp
    have r4 := RepG.perm (Ψ := (vs1.zip (frzL ts) ++ [(V.ref a1, T.node false .lst (frzL ts))]) ++ ((List.replicate n.toNat vs1).flatten.zip (List.replicate n.toNat (frzL ts)).flatten ++ Φ)) r3 (by
      have e1 : ∀ (A B : Its) (c : V × T) (D : Its), (A ++ (B ++ c :: D)).Perm ((B ++ [c]) ++ (A ++ D)) := fun A B c D => by
        have h1 : A ++ (B ++ c :: D) = (A ++ (B ++ [c])) ++ D := by simp
        have h2 : (B ++ [c]) ++ (A ++ D) = ((B ++ [c]) ++ A) ++ D := by simp
        rw [h1, h2]
        exact List.Perm.append_right _ List.perm_append_comm
      exact e1 _ _ _ _)
    exact r4.dropTs
  · exact q.elim
theorem d_mul3 (ha : DE X W a ta) (hb : DE X W b tb) : DE X W (.BinOp a .Mult b pos) (xOp rtMul ta tb) := d_op2 op_mul3 op2_mul3 ha hb
def gSq (n : Nat) (u : DTGs) : DTG := fun τ g Q => match τ with
  | .node _ .tup ts => ts.length = n ∧ u (frzL ts) g Q
  | .node _ .lst ts => ts.length = n ∧ u (frzL ts) g Q
  | _ => False
theorem dg_seq {k n : Nat} {u : DTGs} (hc : X.calm = true) (h : DGs X m es u) (hn : (assignEach es X.env).length = n := by rfl) (hst : (assignEach es X.env).findIdx? (·.1) = none := by rfl) : DG X m (.Tuple es k pos) (gSq n u) := by
  refine ⟨fun B σ0 => ⟨fun pins s σ H v w Q I rv ⟨Φ, lim, g, τ, r, hk, q⟩ => ?_⟩, fun τ g Q Q' hq q => ?_⟩
  · unfold gSq at q
    split at q
    · rename_i o ts
      obtain ⟨a, vs, rfl, hl, hr, r'⟩ := r.parts
      exact (pg_tup hc (h.run B σ0) hn hst).run pins s σ H _ w Q I rv ⟨a, vs, rfl, seqT hr, by rw [hl]; exact q.1, _, lim, g, frzL ts, by rw [hl, frzL_length], r', hk, h.mono _ _ _ _ (fun g' q' σ' H' r2 hk' => q' σ' H' r2.dropT hk') q.2⟩
    · rename_i o ts
      obtain ⟨a, vs, rfl, hl, hr, r'⟩ := r.parts
      exact (pg_lst hc (h.run B σ0) hn hst).run pins s σ H _ w Q I rv ⟨a, vs, rfl, seqL hr, by rw [hl]; exact q.1, _, lim, g, frzL ts, by rw [hl, frzL_length], r', hk, h.mono _ _ _ _ (fun g' q' σ' H' r2 hk' => q' σ' H' r2.dropT hk') q.2⟩
    · exact q.elim
  · unfold gSq at q
    split at q
    · exact ⟨q.1, h.mono _ _ _ _ hq q.2⟩
    · exact ⟨q.1, h.mono _ _ _ _ hq q.2⟩
    · exact q.elim
end
end DL
set_option Elab.async false
set_option linter.all false
set_option maxRecDepth 100000
set_option maxHeartbeats 4000000
namespace DL
open PySem PySem.Spec PyProof.Rows L2
section
variable {P : Program} {w : World} {A : Around} {E : Value → Shared → Prop} {s : Shared}
set_option maxRecDepth 100000 in
set_option maxHeartbeats 3200000 in
theorem call_set_lstI {l : Addr} {items : Array Value} (ns : List Int) {Q : Value → Shared → Prop} (hh : A.handled = none) (hl : s.heap.IsList l items) (hit : IntsAre items.toList ns) (hb : ns.length + 1 < scanBound)
    (h : ∀ (h' : Heap) (tk c : Nat), SetR w h' s.heap.objs.size (fun j => decide (j ∈ ns)) c → c ≤ ns.length → (∀ b o, s.heap.get? b = some o → h'.get? b = some o) → Q (.ref s.heap.objs.size) { s with heap := h', toks := tk }) :
    wpAny (model P w) A (call (.type "set") [.ref l]) Q E s := by
  have hisz : items.size = ns.length := by
    have q := IntsAre.length hit
    rw [Array.length_toList] at q
    exact q
  obtain ⟨c, tl, hmro⟩ := F.called_set.mro
  have hmade := F.called_set.made
  have hsub := F.called_set.sub
  refine wpAny_call (codeAny_of_tree ?_)
  show wpAny _ _ (callAny (.type "set") _) _ _ _
  refine wpAny_pure ⟨Code.quiet_builtin _ (by decide +kernel), codeAny_builtin F.entry_type_call ?_⟩
  rw [Around.under_plain (weight_type_call_type "set" [.ref l] []) rfl]
  have h1 := F.called_set.notType
  have h2 := F.called_set.canCreate
  have hct := F.typeCall_set_1 (.ref l)
  repeat (any_goals (first | assumption | wp_step))
  refine codeAny_mono (code_set_led1 (.ref l) (E := E) (Q₁ := fun obj s₁ => obj = .ref s.heap.objs.size ∧ s₁ = { s with heap := s.heap.push { cls := .type "set", dict := none, data := .set #[] 0 (.fresh 0 0 (!w.params.followText "set-order")) } }) ⟨rfl, rfl⟩) fun r s₁ hr => ?_
  cases r with
  | error e => exact hr
  | ok fl =>
    cases fl with
    | ret obj =>
      obtain ⟨rfl, rfl⟩ := hr
      have hS : (s.heap.push { cls := .type "set", dict := none, data := .set #[] 0 (.fresh 0 0 (!w.params.followText "set-order")) }).get? s.heap.objs.size = some { cls := .type "set", dict := none, data := .set #[] 0 (.fresh 0 0 (!w.params.followText "set-order")) } := Heap.get?_push_size _ rfl
      have hT : Shared.TypeIs { s with heap := s.heap.push { cls := .type "set", dict := none, data := .set #[] 0 (.fresh 0 0 (!w.params.followText "set-order")) } } (.ref s.heap.objs.size) "set" := ⟨_, hS, rfl⟩
      have hli := F.called_set.init.lookup
      have hbi := F.called_set.init.bind (.ref s.heap.objs.size)
      repeat (any_goals (first | assumption | wp_step))
      refine codeAny_mono (codeAny_call_builtin (R := wants (fun r s₂ => r = .none ∧ ∃ h' tk c, s₂ = { s with heap := h', toks := tk } ∧ SetR w h' s.heap.objs.size (fun j => decide (j ∈ ns)) c ∧ c ≤ ns.length ∧
          (∀ b o, s.heap.get? b = some o → h'.get? b = some o)) E) F.called_set.init.plain F.entry_set_init (check_set_init_1 hT ?_)) fun r₂ s₂ hr₂ => ?_
      · obtain ⟨ol, hol, hcl, nl, hdl⟩ := hl
        obtain ⟨ocls, odict, odata, oslots⟩ := ol
        simp only at hcl hdl
        subst hcl; subst hdl
        have hol' : (s.heap.push { cls := .type "set", dict := none, data := .set #[] 0 (.fresh 0 0 (!w.params.followText "set-order")) }).get? l = some { cls := .type "list", dict := odict, data := .seq items nl, slots := oslots } := Heap.get?_push_of_some _ hol
        have hsls := F.sub_list_set
        have hslf := F.sub_list_frozenset
        have hne : (Value.type "list" == Value.type "dict") = false := by decide
        have hl1 : (s.heap.push { cls := .type "set", dict := none, data := .set #[] 0 (.fresh 0 0 (!w.params.followText "set-order")) }).IsList l items := ⟨_, hol', rfl, nl, rfl⟩
        unfold Builtin.«set.__init__» noKeywords Builtin.Frozenset.updateFrom
        generalize hPI : pyIter = PI
        wp_walk
        subst hPI
        refine wpAny_pyIter_list hl1 ?_
        refine wpAny_bind (wpAny_runValue ?_)
        have hlS : l < s.heap.objs.size := Heap.lt_size hol
        have hh3 : A.in1.in1.in1.handled = none := by simp [hh]
        have hz1 : (s.heap.push { cls := .type "set", dict := none, data := .set #[] 0 (.fresh 0 0 (!w.params.followText "set-order")) }).objs.size = s.heap.objs.size + 1 := Heap.size_push ..
        have hneI : l ≠ (s.heap.push { cls := .type "set", dict := none, data := .set #[] 0 (.fresh 0 0 (!w.params.followText "set-order")) }).objs.size := by
          rw [Heap.size_push]; exact Nat.ne_of_lt (Nat.lt_succ_of_lt hlS)
        have hSf : s.heap.objs.size ∉ [(s.heap.push { cls := .type "set", dict := none, data := .set #[] 0 (.fresh 0 0 (!w.params.followText "set-order")) }).objs.size, l] := by
          rw [Heap.size_push]; simp only [List.mem_cons, List.mem_singleton, List.not_mem_nil, or_false, not_or]
          exact ⟨Nat.ne_of_lt (Nat.lt_succ_self _), Nat.ne_of_gt hlS⟩
        have hval : ∀ (i : Nat) (v : Value), items[i]? = some v → ∃ k t, ns[i]? = some k ∧ v = .int k t := fun i v hv => by
          have hi : i < ns.length := by rw [← hisz]; exact (Array.getElem?_eq_some_iff.mp hv).1
          obtain ⟨t, e⟩ := PyProof.Rows.IntsAre.int_at hit i v (by rw [Array.getElem?_toList]; exact hv)
          refine ⟨ns[i], t, List.getElem?_eq_getElem hi, ?_⟩
          rw [e, List.getD_eq_getElem?_getD, List.getElem?_eq_getElem hi] <;> rfl
        refine set_update_ints ((Walks.list hh3 _ l hneI items).toS) s.heap.objs.size
          hSf ns hisz hb hval (items.size - 0) 0 _ (by omega) (Nat.zero_le _)
          ⟨⟨_, Heap.get?_push_size _ rfl, rfl, rfl⟩, (hl1.push _)⟩ ?hS0 ?hR
        case hS0 =>
          have hget : ((s.heap.push { cls := .type "set", dict := none, data := .set #[] 0 (.fresh 0 0 (!w.params.followText "set-order")) }).push { cls := .type "list_iterator", data := .fields #[.ref l, .int 0 0] }).get? s.heap.objs.size
              = some { cls := .type "set", dict := none, data := .set #[] 0 (.fresh 0 0 (!w.params.followText "set-order")) } := Heap.get?_push_of_some _ hS
          exact ⟨0, Nat.le_refl 0, setR_new_at hget⟩
        case hR =>
          intro s' c' hm hc' hS'
          obtain ⟨h', g2, d', tk', os'⟩ := s'
          have eg : g2 = s.gens := hm.gens
          have ed : d' = s.drawn := hm.drawn
          have eo : os' = s.os := hm.os
          subst eg; subst ed; subst eo
          show wpAny _ _ _ _ _ _
          refine wpAny_pure ?_
          show wpAny _ _ (ret Value.none) _ _ _
          rw [hisz] at hc'
          refine wpAny_pure ⟨rfl, h', tk', c', rfl, hS', hc', fun b o e => ?_⟩
          have hb0 : b < s.heap.objs.size := Heap.lt_size e
          have hb1 : b ≠ s.heap.objs.size := Nat.ne_of_lt hb0
          have hb2 : b ≠ (s.heap.push { cls := .type "set", dict := none, data := .set #[] 0 (.fresh 0 0 (!w.params.followText "set-order")) }).objs.size := by
            rw [Heap.size_push]; exact Nat.ne_of_lt (Nat.lt_succ_of_lt hb0)
          exact hm.heap b o (by simp only [List.mem_cons, List.mem_singleton, List.not_mem_nil, or_false, not_or]; exact ⟨hb1, hb2⟩) (Heap.get?_push_of_some _ (Heap.get?_push_of_some _ e))
      · cases r₂ with
        | error e => exact hr₂
        | ok fl₂ =>
          cases fl₂ with
          | ret r =>
            obtain ⟨rfl, h', tk, c', rfl, hS', hc', hk'⟩ := hr₂
            repeat (any_goals (first | assumption | wp_step))
            exact h _ _ _ hS' hc' hk'
          | _ => exact hr₂.elim
    | _ => exact hr.elim
end
end DL
set_option Elab.async false
set_option linter.all false
set_option maxRecDepth 100000
set_option maxHeartbeats 4000000
namespace DL
open PySem PySem.Spec PyProof.Rows L2
section
variable {X : Cx} {W : WX} {m : Nat → Bool} {a e : Expr} {ta : TE} {p p2 q pos : Pos}
def tSortSet (K : PySem.W.Frag) (ta : TE) : TE := fun σ H Q => ta σ H fun x H1 => ∃ (l : Addr) (ns : List Int), x = V.ref l ∧ SqL K H1 l (ns.map V.int) ∧ ns.length < 64 ∧
  ∀ (ns' : List Int) (p : Addr), ns'.Pairwise (· < ·) → (∀ k : Int, k ∈ ns' ↔ k ∈ ns) → H1 p = none → Q (.ref p) (upd H1 p (.lst (ns'.map V.int)))
theorem pe_sortSet (hg : Gl X "sorted") (hm : X.mg "sorted" = none) (hg2 : Gl X "set") (hm2 : X.mg "set" = none) (ha : PE X a ta) (hc : X.calm = true := by rfl)
    (na : starEach [a] X.env = (false, eval a X.env) :: starEach [] X.env := by rfl) : PE X (.Call (.Name "sorted" p) [.Call (.Name "set" p2) [a] [] q] [] pos) (tSortSet X.K ta) := by
  refine ⟨fun pins s σ H Q I h => ?_⟩
  refine Call_ (ld_blt I hg hm boot_sorted ?_)
  refine PyProof.Rows.callWith_builtin1 (PyProof.Rows.args_cons ?_ rfl) rfl rfl
  refine Call_ (ld_blt I hg2 hm2 boot_set ?_)
  refine PyProof.Rows.callWith_type1 (PyProof.Rows.args_cons (thn (ha.run pins s σ H _ I h) fun v s1 ⟨x, H1, I1, r1, q1⟩ => PyProof.Rows.args_nil ?_) na) na rfl
  obtain ⟨l, ns, rfl, hq, hl, q1⟩ := q1
  cases r1
  obtain ⟨its, r, pl, hz⟩ := I1.list hq
  have hlen : its.toArray.size = ns.length := by rw [List.size_toArray, ← r.length, List.length_map]
  refine call_set_lstI ns (I1.ok.hd hc) pl.isList (by simpa using RZ.intsAre_vals r) (by unfold scanBound; omega) fun h' tk c hS hc2 hk => ?_
  refine PyProof.Rows.args_nil ?_
  have I2 : Inv X pins σ H1 { s1 with heap := h', toks := tk } := I1.kept fun b o e => hk b o e
  obtain ⟨s2, es2⟩ : ∃ s2 : Shared, s2 = { s1 with heap := h', toks := tk } := ⟨_, rfl⟩
  have hS2 : SetR X.w s2.heap s1.heap.objs.size (fun j => decide (j ∈ ns)) c := by rw [es2]; exact hS
  rw [← es2] at I2 ⊢
  refine sorted_set hS2 (I2.ok.hd hc) (by omega) fun s' p out c ns' k g o hp hg hi hs hm hl => ?_
  have hlen : (ns'.map V.int).length ≤ sizeLine := by rw [List.length_map, hl, sizeLine_eq]; omega
  have hn : H1 p = none := I2.hok.fresh hp
  have J : Inv X pins σ (upd H1 p (.lst (ns'.map V.int))) { s2 with heap := s'.heap, gens := s'.gens, drawn := s'.drawn, toks := s'.toks } :=
    I2.call (ch := []) (Un.laid k hp hn) (I2.hok.laid k hp ⟨hlen, out.toList, c, vals_of_ints hi, hg⟩) (by rw [g]; exact I2.bare) (fun _ z => nomatch z)
  have e : s' = { s2 with heap := s'.heap, gens := s'.gens, drawn := s'.drawn, toks := s'.toks } := by
    cases s'
    cases s2
    cases o
    rfl
  rw [e]
  exact ⟨.ref p, _, J, rfl, q1 ns' p hs (fun k => by rw [hm]; simp) hn⟩
end
section
variable {X : Cx} {W : WX} {m : Nat → Bool} {a e : Expr} {ta : DTE} {p p2 q pos : Pos}
def xSortSet (ta : DTE) : DTE := fun g Q E => ta g (fun τ g1 => match τ with
  | .node _ .lst ts => ∃ ns : List Int, ts = intsT ns ∧ ns.length < 64 ∧ ∀ ns' : List Int, ns'.Pairwise (· < ·) → (∀ k : Int, k ∈ ns' ↔ k ∈ ns) → Q (.node true .lst (intsT ns')) g1
  | _ => False) E
theorem d_sortSet (hg : Gl X "sorted") (hm : X.mg "sorted" = none) (hg2 : Gl X "set") (hm2 : X.mg "set" = none) (ha : DE X W a ta) (hc : X.calm = true := by rfl)
    (na : starEach [a] X.env = (false, eval a X.env) :: starEach [] X.env := by rfl) : DE X W (.Call (.Name "sorted" p) [.Call (.Name "set" p2) [a] [] q] [] pos) (xSortSet ta) := by
  refine ⟨fun B => PE.imp (pe_sortSet hg hm hg2 hm2 (ha.run B) hc na) fun σ H Q ⟨Φ, lim, g, E, r, hx, q⟩ => ?_, fun g Q Q' E E' hq hE q => ha.mono _ _ _ _ _ (fun τ g1 q1 => ?_) hE q⟩
  · refine ⟨Φ, lim, g, E, r, hx, ha.mono _ _ _ _ _ (fun τ g1 q1 v H1 r1 => ?_) (fun _ _ _ z => z) q⟩
    split at q1
    · rename_i o ts
      obtain ⟨ns, rfl, hl, q1⟩ := q1
      have r2 : RepG X.K B lim σ H1 g1 ((v, .node o .lst ((ns.map V.int).map T.leaf)) :: Φ) := by
        rw [← intsT_eq]
        exact r1
      obtain ⟨ad, rfl, hr⟩ := r2.flats
      refine ⟨ad, ns, rfl, seqL hr, hl, fun ns' p h1 h2 hp => q1 ns' h1 h2 _ _ ?_⟩
      rw [intsT_eq]
      exact make_of .lst (by simp) (leavesR r2.dropT (ns'.map V.int)) hp
    · exact q1.elim
  · split at q1
    · obtain ⟨ns, e, hl, q1⟩ := q1
      exact ⟨ns, e, hl, fun ns' h1 h2 => hq _ _ (q1 ns' h1 h2)⟩
    · exact q1.elim
end
end DL
set_option Elab.async false
set_option linter.all false
set_option maxRecDepth 100000
set_option maxHeartbeats 4000000
namespace DL
open PySem L2 PyProof PyProof.Rows
section
variable {X : Cx} {W : WX} {m : Nat → Bool} {a b c e : Expr} {es : List Expr} {ta tb tc te : DTE} {pos p : Pos} {x : Str}
def sNever : DTS := fun _ _ => False
theorem ds_never {st : Stmt} : DS X W m st sNever := ⟨fun B σ0 => ⟨fun _ _ _ _ _ _ ⟨_, _, _, _, _, _, _, q⟩ => q.elim⟩, fun _ _ _ _ q => q.elim⟩
structure GK (K : PySem.W.Frag) (mg : Str → Option Value) (x : Str) (t : T) : Prop where
  out : ∃ (u : Value) (v : V), mg x = some u ∧ RelV v u ∧ ∀ (F : Addr → Prop) (H : Hp), OwnP K F H v t []
theorem GK.leaf {K : PySem.W.Frag} {mg : Str → Option Value} {u : Value} (v : V) (g : mg x = some u) (r : RelV v u) : GK K mg x (.leaf v) := ⟨⟨u, v, g, r, fun _ _ => .leaf _⟩⟩
theorem GK.tup {K : PySem.W.Frag} {mg : Str → Option Value} {c : Addr} {vs : List V} {ts : List T} (g : mg x = some (.ref c)) (k : Konst K c vs .tup) (hz : KzOk vs) (h : ∀ (F : Addr → Prop) (H : Hp), OwnL K F H vs ts []) : GK K mg x (.node false .tup ts) := ⟨⟨.ref c, .ref c, g, rfl, fun F H => .kz k hz (h F H)⟩⟩
def xG (t : T) : DTE := fun g Q _ => Q t g
theorem d_glob {t : T} (hg : Gl X x) (k : GK X.K X.mg x t) (hd : (x == ("__debug__" : Str)) = false := by decide) : DE X W (.Name x pos) (xG t) := by
  obtain ⟨u, v, hm, hr, ho⟩ := k.out
  refine ⟨fun B => PE.imp (pe_glob hg hm hr hd) fun σ H Q ⟨Φ, lim, g, E, r, hx, q⟩ => ?_, fun g Q Q' E E' hq he q => hq _ _ q⟩
  refine q v H ?_
  obtain ⟨F, zs, fp, en, o, f, hl⟩ := r
  have o' : OwnZ X.K F H ((v, t) :: (zs ++ Φ)) ([] ++ fp) := OwnZ.cons (ho F H) o
  exact rep_items (ds := []) en o' f hl List.perm_middle.symm
def CDivS (_ j : Int) : Prop := j ≠ 0 ∧ j.natAbs.log2 < 9000
end
end DL
set_option Elab.async false
set_option linter.all false
set_option maxRecDepth 100000
set_option maxHeartbeats 4000000
namespace DL
open PySem L2 PySem.NumText
end DL
set_option Elab.async false
set_option linter.all false
set_option maxRecDepth 100000
set_option maxHeartbeats 4000000
namespace DL
open PySem L2
end DL
set_option Elab.async false
set_option linter.all false
set_option maxRecDepth 100000
set_option maxHeartbeats 4000000
namespace DL
open PySem L2
theorem frame_in {K : PySem.W.Frag} {B : Bs} {lim : List Addr} {σ : St} {H : Hp} {g : Ev} {Φ : Its} (r : RepG K B lim σ H g Φ) :
    ∃ B', RepG K B' [] σ H g [] ∧ ∀ σ' H' g' Ψ, RepG K B' [] σ' H' g' Ψ → RepG K B lim σ' H' g' (Ψ ++ Φ) := by
  obtain ⟨F, zs, fp, en, o, f, hl⟩ := r
  obtain ⟨f1, f2, rfl, o1, o2⟩ := o.split
  refine ⟨⟨H, F, f1⟩, ⟨F, zs, f1, en, by rw [List.append_nil]; exact o1, ?_, fun _ z => nomatch z⟩, fun σ' H' g' Ψ r' => ?_⟩
  · have nd := (List.nodup_append.mp (List.nodup_append.mp f.nd).2.1).1
    exact ⟨nd, fun a z => f.off a (List.mem_append_right _ (List.mem_append_left _ z)), f.trk, fun _ z => z, fun _ _ z _ => z, fun _ z => .inl z, fun _ z => .inl z, fun _ _ e => e⟩
  · obtain ⟨F', zs', fp', en', o', fn, _⟩ := r'
    have r2 := call_frame (B := B) (lim := lim) (σ := []) (g := []) (zs := []) (Φ := Φ) .nil (show OwnZ K F H ([] ++ Φ) f2 from o2) f hl o' fn
    obtain ⟨F2, zs2, fp2, en2, oz2, f2', hl2⟩ := r2
    cases en2
    refine rep_items (ds := []) en' oz2 f2' hl2 ?_
    rw [List.nil_append, List.nil_append, List.append_assoc]
def subN (n m : Nat) : Bool := m == 0 || n == m
theorem Le.rf (D : DEnds) : DEnds.Le D D := ⟨fun _ z => z, fun _ _ z => z, fun _ _ _ z => z, fun _ z => z, fun _ z => z⟩
theorem Le.tr {D D' D2 : DEnds} (h : D.Le D') (h' : D'.Le D2) : D.Le D2 := ⟨fun _ z => h'.nx _ (h.nx _ z), fun _ _ z => h'.rt _ _ (h.rt _ _ z), fun _ _ _ z => h'.ex _ _ _ (h.ex _ _ _ z), fun _ z => h'.bk _ (h.bk _ z), fun _ z => h'.ct _ (h.ct _ z)⟩
def upc (t : DTS) : DTS := fun D g => ∃ D0, DEnds.Le D0 D ∧ t D0 g
theorem upc_mono {t : DTS} {D D' : DEnds} {g : Ev} (h : D.Le D') : upc t D g → upc t D' g := fun ⟨D0, h0, q⟩ => ⟨D0, Le.tr h0 h, q⟩
abbrev goneE (i : Nat) (D : DEnds) : DEnds := { nx := fun g2 => D.nx (g2.set i none), rt := D.rt, ex := noX, bk := fun g2 => D.bk (g2.set i none), ct := fun g2 => D.ct (g2.set i none) }
def sTryAs (i m : Nat) (tb : DTS) (ts : Nat → Addr → DTS) : DTS := fun D g =>
  upc tb { D with ex := fun x fs g' => ∃ n, x = cxN n ∧ ifB (subN n m) (fs = [] ∧ ∀ a, upc (ts n a) (goneE i D) (g'.set i (some (.leaf (.ref a))))) (D.ex x fs g') } g
def symOf (mg : Str → Option Value) (W : WX) : WX := fun x d σ H => ∀ c, sym mg x c → W c d σ H
theorem up_sym {mg : Str → Option Value} {W : WX} : ∀ c d σ H, upW mg (symOf mg W) c d σ H → W c d σ H := fun c d σ H ⟨x, hs, w⟩ => w c hs
section
variable {X : Cx} {W : WX} {m : Nat → Bool} {x n : Str} {c : Value} {i k k' : Nat} {body suite : List Stmt} {b₀ : Stmt} {np pos pos' p p2 p3 : Pos} {tb : DTS}
theorem tryK {K : PySem.W.Frag} {B B' : Bs} {m : Nat → Bool} {σ0 : St} {lim : List Addr} {Φ : Its} {D : Ends} {E E' : XP}
    (back : ∀ σ' H' g' Ψ, RepG K B' [] σ' H' g' Ψ → RepG K B lim σ' H' g' (Ψ ++ Φ)) : DEnds.Le { low K B m σ0 lim Φ D E with ex := E' } (low K B' m σ0 [] [] D E') :=
  ⟨fun g q σ' H' r hk => q σ' H' (by have := back _ _ _ _ r; exact this) hk, fun τ g q v σ' H' r hk => q v σ' H' (back _ _ _ _ r).ret hk, fun _ _ _ z => z,
   fun g q σ' H' r hk => q σ' H' (by have := back _ _ _ _ r; exact this) hk, fun g q σ' H' r hk => q σ' H' (by have := back _ _ _ _ r; exact this) hk⟩
theorem ds_tryAs {ts : Nat → Addr → DTS} (hs : X.stack = X.env :: X.outer) (hf : X.env.frame = some X.env.locals) (hN : X.N.Nodup) (hi : X.N[i]? = some n) (hln : X.env.kindOf n = some .local) (hc : Names X x c) (tk : Takes X (upW X.mg W)) (hm : m i = false)
    (hex : ∀ n cv, X.mg (ckN n) = some cv → PySem.W.exmOne X.K cv c = some (subN n k))
    (hb : ∀ (W' : WX) (pn : List (Addr × Obj)) (xe : Value → Shared → Prop), Takes (X.tr pn xe) (upW X.mg W') → PassesOwn (model X.prog X.w) X.A X.env xe → DSs (X.tr pn xe) W' m body tb)
    (hsu : ∀ (n : Nat) (a : Addr) (oe : Obj) (cls : Value) (pn : List (Addr × Obj)), X.mg (ckN n) = some cls → Zc cls none oe → (∃ vs, oe.data = .fields vs) → DSs (X.suite a ((a, oe) :: pn)) W0 m (b₀ :: suite) (ts n a)) :
    DS X W m (.Try body [.ExceptHandler (some (.Name x np)) (some n) (b₀ :: suite) pos'] [] [] pos) (sTryAs i k tb ts) := by
  refine .mk' (fun B σ0 => ps_try_as (i := i) (tb := fun Wr => fun D σ H => ∃ (B' : Bs) (σ1 : St), liftS X.K B' (symOf X.mg Wr) m σ1 (upc tb) D σ H) (ts := fun a cls d => fun D σ H => ∃ (B' : Bs) (σ1 : St) (n : Nat), X.mg (ckN n) = some cls ∧ d = none ∧ liftS X.K B' W0 m σ1 (upc (ts n a)) D σ H)
    (Wout := upW X.mg W) hs hf hN hi hln hc tk (fun Wr pn xe tk' po => ?_) (fun a oe cls d pn hz hd => ?_)) (fun B σ0 D σ H Φ lim g E r hk hX q => ?_) fun D D' g h q => ?_
  · refine ⟨fun pins s σ H D I ⟨B', σ1, Φ, lim, g, E, r, hk, hX, D0, hle, h⟩ => ?_⟩
    have hd := hb (symOf X.mg Wr) pn xe (tk'.imp up_sym) po
    exact (hd.run B' σ1).run pins s σ H D I ⟨Φ, lim, g, E, r, hk, hX, hd.mono _ _ _ hle h⟩
  · refine ⟨fun pins s σ H D I ⟨B', σ1, n, hn, hd0, Φ, lim, g, E, r, hk, hX, D0, hle, h⟩ => ?_⟩
    subst hd0
    have hdd := hsu n a oe cls pn hn hz hd
    exact (hdd.run B' σ1).run pins s σ H D I ⟨Φ, lim, g, E, r, hk, hX, hdd.mono _ _ _ hle h⟩
  · obtain ⟨B', r', back⟩ := frame_in r
    refine ⟨B', σ0, [], [], g, _, r', hk, ?_, upc_mono (tryK back) q⟩
    intro σ' hk' cx fs g' d H' r2 xd q2 cv hcv
    obtain ⟨n, rfl, q2⟩ := q2
    obtain ⟨n', e, hmg⟩ := hcv
    have e' : n = n' := by
      injection e with e1 e2
      exact Int.ofNat.inj e1
    subst e'
    refine ⟨_, hex n cv hmg, fun hb1 a na => ?_, fun hb0 => ?_⟩
    · rw [hb1] at q2
      obtain ⟨hfs, q3⟩ := q2
      subst hfs
      have hd : d = none := xd
      refine ⟨B, σ0, n, hmg, hd, Φ, lim, _, noX, RepG.put' (t := .leaf (.ref a)) (RepG.addLeaf (back _ _ _ [] r2)), hk'.set hm, fun _ _ => liftX0, upc_mono ?_ (q3 a)⟩
      exact ⟨fun g2 q σ6 H6 r6 hk6 => q _ _ (r6.clear i none) (hk6.set hm), fun τ g2 q v σ6 H6 r6 hk6 => q v σ6 H6 r6 hk6, fun _ _ _ z => z, fun g2 q σ6 H6 r6 hk6 => q _ _ (r6.clear i none) (hk6.set hm), fun g2 q σ6 H6 r6 hk6 => q _ _ (r6.clear i none) (hk6.set hm)⟩
    · rw [hb0] at q2
      exact ⟨cxN n, ⟨n, rfl, hmg⟩, hX σ' hk' _ _ _ _ _ (back _ _ _ [] r2).only xd q2⟩
  · unfold sTryAs at q ⊢
    refine upc_mono ?_ q
    refine ⟨h.nx, h.rt, fun x fs g' hq => ?_, h.bk, h.ct⟩
    obtain ⟨n, e, q⟩ := hq
    refine ⟨n, e, ifB_mono (fun ⟨hfs, q3⟩ => ⟨hfs, fun a => upc_mono ?_ (q3 a)⟩) (h.ex _ _ _) q⟩
    exact ⟨fun g q => h.nx _ q, h.rt, fun _ _ _ z => z, fun g q => h.bk _ q, fun g q => h.ct _ q⟩
def xIsE (i n k : Nat) (a : Addr) : DTE := fun g Q _ => g[i]? = some (some (.leaf (.ref a))) ∧ Q (.leaf (.bl (subN n k))) g
theorem d_isE {a Ck : Addr} {cls : Value} {oe : Obj} {pn : List (Addr × Obj)} {y z : Str} (hv : PE (X.suite a ((a, oe) :: pn)) (.Name z np) (tVar i)) (hz : Zc cls none oe) (hd : ∃ vs, oe.data = .fields vs) (hcl : ∃ D, cls = .ref D ∧ ExcC X.K D) (hkit : PySem.W.kitOne X.K cls (.ref Ck) = some (subN k' k))
    (hgi : Gl (X.suite a ((a, oe) :: pn)) "isinstance") (hmi : X.mg "isinstance" = none) (hvi : bootBuiltins "isinstance" = some (.builtin "isinstance")) (hgy : Gl (X.suite a ((a, oe) :: pn)) y) (hmy : X.mg y = some (.ref Ck))
    (hdb : (y == ("__debug__" : Str)) = false := by decide) :
    DE (X.suite a ((a, oe) :: pn)) W (.Call (.Name "isinstance" p) [.Name z np, .Name y p2] [] p3) (xIsE i k' k a) := by
  obtain ⟨D, rfl, hC⟩ := hcl
  refine ⟨fun B => PE.imp (pe_callB (call_isE hC hz hd) hgi hmi hvi (pa_cons hv (pa_cons (pe_glob hgy hmy (v := .ref Ck) rfl hdb) pa_nil))) fun σ H Q ⟨Φ, lim, g, E, r, hx, hg, q⟩ => ?_, fun g Q Q' E E' hq _ q => ⟨q.1, hq _ _ q.2⟩⟩
  obtain ⟨v, hv', r'⟩ := r.look hg rfl
  have hv2 := r'.leaf
  subst hv2
  exact ⟨_, hv', .ref Ck, .ref Ck, _, rfl, fun u hu => hu, hkit, q _ _ (r'.dropT.addLeaf)⟩
end
theorem subN_big {n m : Nat} (hn : 20 ≤ n) (hm : m < 20) : subN n m = subN 0 m := by
  unfold subN
  have h1 : (n == m) = false := by
    rw [beq_eq_false_iff_ne]
    omega
  rw [h1]
  cases m with
  | zero => rfl
  | succ m => rfl
theorem excC_of {K : PySem.W.Frag} {C : Addr} (ga : PySem.W.findIn K (.ref C) "__getattribute__" = some (some (.builtin "BaseException.__getattribute__"))) (gg : PySem.W.findIn K (.ref C) "__getattr__" = some none) (e : PySem.W.subIn K (.ref C) (.type "BaseException") = some true) (h : PySem.W.hasDictIn K C = true)
    (ca : PySem.W.findIn K (.ref C) "__class__" = some (some (.builtin "object.__class__"))) (mo : PySem.W.mroIn K C (.type "object") = some true) (sn : PySem.W.specialIn K (.builtin "object.__class__") "__get__" = some (some (.builtin "getset_descriptor.__get__"))) (tk : PySem.W.takesIn K (.builtin "object.__class__") = some true) : ExcC K C := ⟨ga, gg, e, h, ca, sn, tk, mo⟩
theorem excV_of {K : PySem.W.Frag} {C : Addr} (ex : ExcC K C) (h1 : PySem.W.subIn K (.ref C) (.type "int") = some false) (h2 : PySem.W.subIn K (.ref C) (.type "bool") = some false) (h3 : PySem.W.subIn K (.ref C) (.type "str") = some false) (h4 : PySem.W.subIn K (.ref C) (.type "list") = some false)
    (h5 : PySem.W.subIn K (.ref C) (.type "tuple") = some false) (h6 : PySem.W.subIn K (.ref C) (.type "dict") = some false) : ExcV K C := by
  have key : ∀ c : String, PySem.W.kitMeta c = true → PySem.W.subIn K (.ref C) (.type c) = some false → PySem.W.kitOne K (.ref C) (.type c) = some false := fun c hm hs => by
    have e0 : (Value.ref C == Value.type c) = false := by
      rw [beq_eq_false_iff_ne]
      intro z
      cases z
    unfold PySem.W.kitOne PySem.W.kitCls
    rw [if_neg (by rw [e0]; exact Bool.false_ne_true)]
    show (if PySem.W.kitMeta c = true then _ else _) = _
    rw [if_pos hm]
    exact hs
  refine ⟨ex, fun c hc => ?_⟩
  simp only [List.mem_cons, List.not_mem_nil, or_false] at hc
  rcases hc with rfl | rfl | rfl | rfl | rfl | rfl
  · exact key _ (by decide +kernel) h1
  · exact key _ (by decide +kernel) h2
  · exact key _ (by decide +kernel) h3
  · exact key _ (by decide +kernel) h4
  · exact key _ (by decide +kernel) h5
  · exact key _ (by decide +kernel) h6
theorem kit_cls {K : PySem.W.Frag} {D C : Addr} {b : Bool} (hd : PySem.W.hasDictIn K C = true) (ht : PySem.W.typeIn K (.ref C) = some (.type "type")) (hs : PySem.W.subIn K (.ref D) (.ref C) = some b) (self : PySem.W.subIn K (.ref C) (.ref C) = some true) : PySem.W.kitOne K (.ref D) (.ref C) = some b := by
  unfold PySem.W.kitOne
  by_cases e : D = C
  · subst e
    rw [self] at hs
    rw [if_pos (beq_self_eq_true _)]
    exact hs
  · have e0 : (Value.ref D == Value.ref C) = false := by
      rw [beq_eq_false_iff_ne]
      intro z
      cases z
      exact e rfl
    rw [if_neg (by rw [e0]; exact Bool.false_ne_true)]
    obtain ⟨cd, hc, _⟩ := PySem.W.any_some hd
    have e2 : ((PySem.W.clsIn K C).isSome && PySem.W.typeIn K (.ref C) == some (.type "type")) = true := by rw [hc, ht] <;> rfl
    show (if ((PySem.W.clsIn K C).isSome && PySem.W.typeIn K (.ref C) == some (.type "type")) = true then PySem.W.subIn K (.ref D) (.ref C) else none) = some b
    rw [if_pos e2]
    exact hs
end DL
set_option Elab.async false
set_option linter.all false
set_option maxRecDepth 100000
set_option maxHeartbeats 4000000
namespace DL
open PySem L2 PyProof.Rows
section
variable {X : Cx} {W : WX} {x : Str} {pos p1 p2 : Pos} {K : PySem.W.Frag}
def keyD : Key → PyData
  | .inl i => .int i
  | .inr x => .str x
def flatD : V → Option PyData
  | .non => some .none
  | .bl b => some (.bool b)
  | .int i => some (.int i)
  | .str x => some (.str x)
  | _ => none
def flatDs : List (Key × V) → Option (List (PyData × PyData))
  | [] => some []
  | (k, v) :: r => match flatD v with
    | some d => (flatDs r).map ((keyD k, d) :: ·)
    | none => none
theorem flatD_reads {h : Heap} {v : V} {u : Value} {d : PyData} (e : flatD v = some d) (r : RelV v u) : Reads h u d [] := by
  cases v <;> simp only [flatD, Option.some.injEq, reduceCtorEq] at e
  · subst e
    cases (show u = Value.none from r)
    exact .none
  · subst e
    cases (show u = Value.bool _ from r)
    exact .bool _
  · subst e
    obtain ⟨t, rfl⟩ := (show ∃ t, u = Value.int _ t from r)
    exact .int _ _
  · subst e
    obtain ⟨t, rfl⟩ := (show ∃ t, u = Value.str _ t from r)
    exact .str _ _
theorem flatDs_reads {P : Program} {w : World} {h : Heap} : ∀ {kvs : List (Key × V)} {ds : List (PyData × PyData)} {vs : List (Key × Value)} {es : List DictEntry}, flatDs kvs = some ds → KV kvs vs → Pairs (mixKind P w) es vs →
    ReadsAll h (es.map (·.key)) (ds.map (·.1)) [] ∧ ReadsAll h (es.map (·.val)) (ds.map (·.2)) []
  | [], ds, vs, es, e, kv, p => by
    cases kv
    cases p
    simp only [flatDs, Option.some.injEq] at e
    subst e
    exact ⟨.nil, .nil⟩
  | (k, v) :: r, ds, vs, es, e, kv, p => by
    cases kv with
    | cons hk hr =>
      cases p with
      | cons pk pv pr =>
        simp only [flatDs] at e
        cases q : flatD v with
        | none => rw [q] at e; cases e
        | some d =>
          rw [q] at e
          cases q2 : flatDs r with
          | none => rw [q2] at e; cases e
          | some ds' =>
            rw [q2] at e
            cases e
            obtain ⟨i1, i2⟩ := flatDs_reads (h := h) q2 hr pr
            obtain ⟨h1, h2⟩ := hk
            refine ⟨.cons (as := []) (bs := []) ?_ i1, .cons (as := []) (bs := []) (flatD_reads q (by dsimp only; rw [pv]; exact h2)) i2⟩
            dsimp only
            rw [mixKind_is] at pk
            rcases keyIs_shape pk with ⟨i, t, e1, e2⟩ | ⟨y, t, e1, e2⟩
            · have : k = .inl i := by rw [← e1]; exact h1
              rw [e2, this]
              exact .int _ _
            · have : k = .inr y := by rw [← e1]; exact h1
              rw [e2, this]
              exact .str _ _
def rReprK : List V → Hp → VK → Prop := fun xs H Q => ∃ (a : Addr) (kvs : List (Key × V)) (ds : List (PyData × PyData)), xs = [.ref a] ∧ H a = some (.dK kvs) ∧ flatDs kvs = some ds ∧ (PyData.dict ds).showable = true ∧ (PyData.dict ds).depth ≤ 60 ∧ (PyData.dict ds).shown.length ≤ sizeLine ∧ Q (.str (PyData.dict ds).shown) H
theorem call_reprK (hgd : X.A.guards = some []) (hu : X.A.units + 64 < cLine) : CallR X (.builtin "repr") (fun xs H Q => rRepr X.K xs H Q ∨ rReprK xs H Q) := by
  intro pins s σ H xs us Q I r h
  rcases h with h | ⟨a, kvs, ds, rfl, ha, hf, hs, hdep, hsz, q⟩
  · exact call_reprD hgd hu pins s σ H xs us Q I r h
  · obtain ⟨u, rfl, ru⟩ := Vals.one r
    cases (show u = Value.ref a from ru)
    obtain ⟨hl, hsm, vs, kv, o, es, ep, ho, hx, hd, hko, hp, hnd⟩ := I.hok a _ ha
    obtain ⟨r1, r2⟩ := flatDs_reads (h := s.heap) hf kv hp
    have rd : Reads s.heap (.ref a) (.dict ds) (a :: [] ++ []) := .dict ho hx.1 hd r1 r2
    refine repr_of_reads' rd hs (fun _ hm => ?_) hgd (by omega) (fun _ _ z => z) (fun h' u tk k => ⟨.str _, H, I.kept k, ⟨u, rfl⟩, q⟩) hsz
    have : sysModules = a := by simpa using hm
    rw [← this, beq_self_eq_true] at hsm
    cases hsm
def flatT : List T → Option (List V)
  | [] => some []
  | .leaf v :: r => (flatT r).map (v :: ·)
  | _ :: _ => none
theorem flatT_eq : ∀ {ts : List T} {vs : List V}, flatT ts = some vs → ts = vs.map .leaf
  | [], vs, e => by
    simp only [flatT, Option.some.injEq] at e
    subst e
    rfl
  | t :: r, vs, e => by
    cases t with
    | leaf v =>
      simp only [flatT] at e
      cases q : flatT r with
      | none => rw [q] at e; cases e
      | some ws =>
        rw [q] at e
        cases e
        rw [flatT_eq q]
        rfl
    | node _ _ _ => simp [flatT] at e
    | pin _ _ => simp [flatT] at e
def ReprS (τ : T) (s : Str) : Prop := (∃ d, toP τ = some d ∧ d.showable = true ∧ d.hasDict = false ∧ d.depth ≤ 60 ∧ d.shown.length ≤ sizeLine ∧ s = d.shown) ∨
  ∃ o ks ts vs ds, τ = .node o (.dK ks) ts ∧ flatT ts = some vs ∧ flatDs (ks.zip vs) = some ds ∧ (PyData.dict ds).showable = true ∧ (PyData.dict ds).depth ≤ 60 ∧ (PyData.dict ds).shown.length ≤ sizeLine ∧ s = (PyData.dict ds).shown
theorem ReprS.of {τ : T} {d : PyData} (h : toP τ = some d) (g : GoodD d) : ReprS τ d.shown := .inl ⟨d, h, g.show, g.nodict, g.dp, g.len, rfl⟩
def rnRepr2 : RNT := fun τs Q => match τs with
  | [τ] => ∃ s, ReprS τ s ∧ Q (.leaf (.str s))
  | _ => False
theorem n_repr2 (hgd : X.A.guards = some []) (hu : X.A.units + 64 < cLine) : CallN X (.builtin "repr") (fun xs H Q => rRepr X.K xs H Q ∨ rReprK xs H Q) rnRepr2 := by
  refine ⟨call_reprK hgd hu, fun B lim σ H g Φ vs τs Q hl r q => ?_, fun τs Q Q' h q => ?_⟩
  · unfold rnRepr2 at q
    split at q
    · rename_i τ
      obtain ⟨s, hs, q⟩ := q
      rcases hs with ⟨d, h1, h2, h3, h4, h5, rfl⟩ | ⟨o, ks, ts, ws, ds, rfl, h1, h2, h3, h4, h5, rfl⟩
      · exact .inl ((n_repr hgd hu).2.1 B lim σ H g Φ vs [τ] Q hl r ⟨d, h1, h2, h3, h4, h5, q⟩)
      match vs, hl with
      | [v], _ =>
        have r2 : RepG X.K B lim σ H g ((v, .node o (.dK ks) ts) :: Φ) := r
        have e := flatT_eq h1
        subst e
        obtain ⟨a, us, rfl, hl2, ha, hu⟩ : ∃ a us, v = .ref a ∧ us.length = (ws.map T.leaf).length ∧ H a = some (.dK (ks.zip us)) ∧ us = ws := by
          obtain ⟨F, zs, fp, en, oz, f, hl⟩ := r2
          obtain ⟨fp', pf, o'⟩ := oz.perm (List.perm_middle (a := (v, T.node o (.dK ks) (ws.map .leaf))))
          obtain ⟨f1, f2, rfl, p1, o2⟩ := OwnZ.uncons (zs := zs ++ Φ) o'
          have flat : ∀ {F : Addr → Prop} {us : List V} {ws : List V} {fp : List Addr}, OwnL X.K F H us (ws.map .leaf) fp → us = ws := by
            intro F us ws
            induction ws generalizing us with
            | nil => intro fp h; cases h; rfl
            | cons w ws ih =>
              intro fp h
              cases h with
              | cons h1 h2 =>
                cases h1
                rw [ih h2]
          cases p1 with
          | fz hf hr hk => exact ⟨_, _, rfl, hk.length, hr, flat hk⟩
          | own hr hk => exact ⟨_, _, rfl, hk.length, hr, flat hk⟩
        subst hu
        exact .inr ⟨a, _, ds, rfl, ha, h2, h3, h4, h5, q _ _ r2.dropT.addLeaf⟩
    · exact q.elim
  · unfold rnRepr2 at q ⊢
    split at q
    · obtain ⟨s, hs, q⟩ := q
      exact ⟨s, hs, h _ q⟩
    · exact q.elim
end
theorem nr_none {g : Ev} {bs : List (Option Nat)} {us : List T} : restore g (none :: bs) us = restore g bs us := rfl
theorem nr_some {g : Ev} {j : Nat} {bs : List (Option Nat)} {u : T} {us : List T} : restore g (some j :: bs) (u :: us) = restore (g.set j (some u)) bs us := rfl
theorem nr_nil {g : Ev} {us : List T} : restore g [] us = g := rfl
theorem nf_leaf {v : V} : frz (.leaf v) = .leaf v := rfl
theorem nf_pin {s : Sh} {vs : List V} : frz (.pin s vs) = .pin s vs := rfl
theorem nf_node {o : Bool} {s : Sh} {ts : List T} : frz (.node o s ts) = .node false s (frzL ts) := rfl
theorem nf_nil : frzL [] = [] := rfl
theorem nf_cons {t : T} {ts : List T} : frzL (t :: ts) = frz t :: frzL ts := rfl
theorem ni_f {α : Type} {a b : α} : (if false = true then a else b) = b := rfl
theorem ni_t {α : Type} {a b : α} : (if true = true then a else b) = a := rfl
theorem nw_nil {g : Ev} : wipeE g [] = g := rfl
theorem nw_cons {g : Ev} {i : Nat} {is : List Nat} : wipeE g (i :: is) = (wipeE g is).set i none := rfl
theorem ns_0 {a b : Option T} {g : Ev} : List.set (a :: g) 0 b = b :: g := rfl
theorem ns_s {a b : Option T} {g : Ev} {n : Nat} : List.set (a :: g) (n + 1) b = a :: List.set g n b := rfl
theorem frz_nf (s : Sh) (ts : List T) : frz (.node false s (frzL ts)) = .node false s (frzL ts) := by
  rw [nf_node, frzL_frzL]
theorem ne_c {n : Nat} {t : T} {ts : List T} : startE (n + 1) (t :: ts) = some t :: startE n ts := by simp [startE]
theorem ne_n {n : Nat} : startE (n + 1) [] = none :: startE n [] := by simp [startE, List.replicate_succ]
theorem ne_0 : startE 0 [] = [] := rfl
theorem np_t {bs : List Bool} {t : T} {ts : List T} : frzP (true :: bs) (t :: ts) = t :: frzP bs ts := rfl
theorem np_f {bs : List Bool} {t : T} {ts : List T} : frzP (false :: bs) (t :: ts) = frz t :: frzP bs ts := rfl
theorem np_n {ts : List T} : frzP [] ts = ts := rfl
end DL
set_option Elab.async false
set_option linter.all false
set_option maxRecDepth 100000
set_option maxHeartbeats 4000000
namespace DL
open PySem L2
section
variable {X : Cx} {W : WX} {m : Nat → Bool} {e : Expr} {te t1 t2 : DTE} {pos : Pos}
theorem RepG.frzIf {K : PySem.W.Frag} {B : Bs} {lim : List Addr} {σ : St} {H : Hp} {g : Ev} {Φ : Its} {v : V} {t : T} (o : Bool) (h : RepG K B lim σ H g ((v, t) :: Φ)) : RepG K B lim σ H g ((v, if o = true then t else frz t) :: Φ) := by
  cases o with
  | true => exact h
  | false => exact h.freezeT
def sParO (oi oj : Bool) (i j : Nat) (t : DTA) : DTS := fun D g => t g (fun τs g1 => match τs with
  | [x, y] => D.nx ((g1.set i (some (if oi = true then x else frz x))).set j (some (if oj = true then y else frz y)))
  | _ => False) D.ex
theorem ds_parO (oi oj : Bool) {i j : Nat} {x y : Str} {a b : Expr} {t : DTA} {bs : List (Option Nat)} {px py pt : Pos} {kt k2 pt2} (hc : X.calm = true) (hN : X.N.Nodup) (hi : X.N[i]? = some x) (hj : X.N[j]? = some y) (hij : i ≠ j) (hmi : m i = false) (hmj : m j = false)
    (hx : X.env.scope.names.lookup x = some .local) (hy : X.env.scope.names.lookup y = some .local) (ha : DA X W [a, b] bs t)
    (hw : swappedStores [.Tuple [.Name x px, .Name y py] kt pt] (.Tuple [a, b] k2 pt2) X.env = pure (some [x, y]))
    (hs : swapsWithSole [.Tuple [.Name x px, .Name y py] kt pt] (.Tuple [a, b] k2 pt2) pos.line X.env = pure false := by rfl) :
    DS X W m (.Assign [.Tuple [.Name x px, .Name y py] kt pt] (.Tuple [a, b] k2 pt2) pos) (sParO oi oj i j t) := by
  refine .mk' (fun B σ0 => ps_par hc hN hi hj hij hx hy (ha.run B) hw hs) (fun B σ0 D σ H Φ lim g E r hk hX q => ?_) fun D D' g h q => ha.mono _ _ _ _ _ (fun τs g1 q1 => ?_) h.ex q
  · refine ⟨Φ, lim, g, E, r, hX σ hk, ha.mono _ _ _ _ _ (fun τs g1 q1 vs H1 hl _ r1 => ?_) (fun _ _ _ z => z) q⟩
    split at q1
    · rename_i x' y'
      obtain ⟨v, w, rfl⟩ : ∃ v w, vs = [v, w] := by
        match vs, hl with
        | [v, w], _ => exact ⟨v, w, rfl⟩
      refine ⟨v, w, rfl, q1 _ _ ?_ ((hk.set hmi).set hmj)⟩
      have r2 : RepG X.K B lim σ H1 g1 ((v, x') :: (w, y') :: Φ) := r1
      have r3 := ((r2.frzIf oi).perm (List.Perm.swap _ _ _)).frzIf oj
      exact (r3.perm (List.Perm.swap _ _ _)).put'.put'
    · exact q1.elim
  · split at q1
    · exact h.nx _ q1
    · exact q1.elim
def xIns (i : Nat) (t1 t2 : DTE) : DTE := fun g Q E => atSlot i g fun t0 => ownL t0 fun _ => t1 g (fun τ1 g1 => t2 g1 (fun τ2 g2 => isI τ1 fun k => atSlot i g2 fun t3 => ownL t3 fun ts => (ts.length < sizeLine ∧ 0 ≤ k ∧ k < 2 ^ 63) ∧ Q (.leaf .non) (g2.set i (some (.node true .lst (ts.take k.toNat ++ [τ2] ++ ts.drop k.toNat))))) E) E
theorem d_ins {o e1 e2 : Expr} {apos cpos : Pos} (i : Nat) (ho : PE X o (tVar i)) (h1 : DE X W e1 t1) (h2 : DE X W e2 t2) (hbase : attributeBase o "insert" X.env (eval o X.env) = eval o X.env := by rfl)
    (hfew : ((backTo cpos (starEach [e1, e2] X.env)).all (fun x => !x.1) && (backToKw cpos (keywordEach [] X.env)).all (fun x => x.1.isSome) && decide ([e1, e2].length + ([] : List Keyword).length + (if ([] : List Keyword).isEmpty then 0 else 1) < 30)) = true := by rfl)
    (hline : (apos.endLine == cpos.line) = true := by rfl) (hs : starEach [e1, e2] X.env = (false, eval e1 X.env) :: starEach [e2] X.env := by rfl) (hs2 : starEach [e2] X.env = (false, eval e2 X.env) :: starEach [] X.env := by rfl) (hplain : (backTo cpos (starEach [e2] X.env)).any (·.1) = false := by rfl) :
    DE X W (.Call (.Attribute o "insert" apos) [e1, e2] [] cpos) (xIns i t1 t2) := by
  refine ⟨fun B => PE.imp (pe_bm PySem.F.plainAttrs_list PySem.F.slot_list_insert PySem.F.type_list_insert mt_insert ho (pa_cons (h1.run B) (pa_cons (h2.run B) pa_nil hs2) hs) hbase hfew hline hs hplain) fun σ H Q ⟨Φ, lim, g, E, r, hx, q⟩ => ?_, fun g Q Q' E E' hq hE q => ?_⟩
  · obtain ⟨t0, h0, q⟩ := atSlot_of q
    obtain ⟨ts0, rfl, q⟩ := ownL_of q
    obtain ⟨ad, us, hv, hl, hH, _⟩ := r.renew (s' := .lst) h0
    refine ⟨.ref ad, hv, .inl ⟨rfl, us, SqL.of hH⟩, Φ, lim, g, E, r, hx, h1.mono _ _ _ _ _ (fun τ1 g1 q1 w1 H1 r1 => ?_) (fun _ _ _ z => z) q⟩
    refine ⟨(w1, τ1) :: Φ, lim, g1, E, r1, hx, h2.mono _ _ _ _ _ (fun τ2 g2 q2 w2 H2 r2 => ?_) (fun _ _ _ z => z) q1⟩
    obtain ⟨k, rfl, q2⟩ := isI_of q2
    obtain ⟨t3, h3, q2⟩ := atSlot_of q2
    obtain ⟨ts, rfl, ⟨hlt, k0, k1⟩, q2⟩ := ownL_of q2
    have r3 : RepG X.K B lim σ H2 g2 ((w1, .leaf (.int k)) :: (w2, τ2) :: Φ) := r2.perm (List.Perm.swap _ _ _)
    have ew := r3.leaf
    subst ew
    have r4 : RepG X.K B lim σ H2 g2 ((w2, τ2) :: Φ) := r3.dropT
    obtain ⟨ad2, us2, hv2, hl2, hH2, kk⟩ := r4.renew (s' := .lst) h3
    rw [hv] at hv2
    cases hv2
    refine ⟨ad, us2, k, w2, rfl, rfl, hH2, by omega, k0, k1, ?_⟩
    have hz : (us2.zip ts).length = us2.length := by rw [List.length_zip]; omega
    have r5 := kk ((us2.zip ts).take k.toNat ++ [(w2, τ2)] ++ (us2.zip ts).drop k.toNat) Φ (by
      have p1 : ((us2.zip ts).take k.toNat ++ [(w2, τ2)] ++ (us2.zip ts).drop k.toNat).Perm ((w2, τ2) :: us2.zip ts) := by
        rw [List.append_assoc, List.singleton_append]
        refine List.perm_middle.trans ?_
        rw [List.take_append_drop]
      have p2 := List.Perm.append_right Φ p1
      refine p2.trans ?_
      rw [List.cons_append]
      exact List.perm_middle.symm)
    have e1 : (((us2.zip ts).take k.toNat ++ [(w2, τ2)] ++ (us2.zip ts).drop k.toNat).map (·.1)) = us2.take k.toNat ++ [w2] ++ us2.drop k.toNat := by
      rw [List.map_append, List.map_append, List.map_take, List.map_drop, List.map_fst_zip (by omega)]
      rfl
    have e2 : (((us2.zip ts).take k.toNat ++ [(w2, τ2)] ++ (us2.zip ts).drop k.toNat).map (·.2)) = ts.take k.toNat ++ [τ2] ++ ts.drop k.toNat := by
      rw [List.map_append, List.map_append, List.map_take, List.map_drop, List.map_snd_zip (by omega)]
      rfl
    rw [e1, e2] at r5
    exact q2 _ _ r5.addLeaf
  · exact atSlot_mono (fun t0 q => ownL_mono (fun _ q => h1.mono _ _ _ _ _ (fun τ1 g1 q1 => h2.mono _ _ _ _ _ (fun τ2 g2 q2 => isI_mono (fun k q3 => atSlot_mono (fun t1 q4 => ownL_mono (fun ts q5 => ⟨q5.1, hq _ _ q5.2⟩) q4) q3) q2) hE q1) hE q) q) q
end
end DL
set_option Elab.async false
set_option linter.all false
set_option maxRecDepth 100000
set_option maxHeartbeats 4000000
namespace DL
open PySem L2 PySem.W
section
open PyProof.Rows SeqAt
def Sortable2 (ds : List PyData) : Prop := (∀ d, d ∈ ds → ∃ xs, d = .tuple xs) ∨ ∀ d, d ∈ ds → d ≠ .none ∧ ∀ xs, d ≠ .tuple xs
variable {prog : Program} {w : World} {A : Around} {E : Value → Shared → Prop} {s : Shared} {M : Model}
theorem kdl_general (x y : Value) : keyLt' general' x y = oneLt' false x y := rfl
theorem firsts_any : ∀ {vs : List Value} {ds : List PyData} {Q : List (Option Value) → Shared → Prop}, EachIs (fun v d => ∃ as, Reads s.heap v d as) vs ds → (∀ d, d ∈ ds → ∃ xs, d = .tuple xs) →
    (∀ os : List (Option Value), EachIs (fun (o : Option Value) d => o.isSome = true ↔ ∃ x r, d = .tuple (x :: r)) os ds → Q os s) → wpAny M A (vs.mapM firstOfTuple') Q E s
  | _, _, _, .nil, _, h => by
    rw [List.mapM_nil]
    exact wpAny_pure (h [] .nil)
  | _, _, Q, .cons (a := v) (b := d) (as := vs) ⟨as, r⟩ t, ht, h => by
    obtain ⟨xs, rfl⟩ := ht _ (List.mem_cons_self ..)
    rw [List.mapM_cons]
    refine wpAny_bind ?_
    rw [kas_first_eq]
    cases r with
    | @tuple l o its n _ _ ho hc hd hr =>
      refine wpAny_bind (Looks.here (show Looks M s.heap (typeOf (.ref l)) o.cls from (Looks.ld ho).andThen .now) ?_)
      rw [hc, if_neg (by first | decide | simp)]
      refine wpAny_bind (listItems_at ho hd (wpAny_pure ?_))
      refine wpAny_bind (firsts_any (Q := fun bs s' => wpAny M A (pure (its[0]? :: bs)) Q E s') t (fun d hd => ht d (List.mem_cons_of_mem _ hd)) fun os ho => wpAny_pure (h _ (.cons ⟨fun hs => ?_, fun hs => ?_⟩ ho)))
      · cases hr' : its.toList with
        | nil =>
          rw [← Array.getElem?_toList, hr'] at hs
          cases hs
        | cons f fr =>
          rw [hr'] at hr
          cases hr with
          | cons r1 r2 => exact ⟨_, _, rfl⟩
      · obtain ⟨x, r, e⟩ := hs
        cases e
        cases hr' : its.toList with
        | nil =>
          rw [hr'] at hr
          cases hr
        | cons f fr =>
          rw [← Array.getElem?_toList, hr']
          rfl
theorem oneLt_tup {f : Bool} {xs ys : List PyData} {a b : Value} {as bs : List Addr} {Q : Bool → Shared → Prop} (ra : Reads s.heap a (.tuple xs) as) (rb : Reads s.heap b (.tuple ys) bs) (h : alike (.tuple xs) (.tuple ys) = true)
    (hu : A.units + min (PyData.tuple xs).depth (PyData.tuple ys).depth < cLine) (hq : Q (dataLt (.tuple xs) (.tuple ys)) s) : wpAny (model prog w) A (oneLt' f a b) Q E s := by
  cases f with
  | false => exact oneLt_alike (fun z => nomatch z) ra rb h (fun z => nomatch z) hu hq
  | true =>
    have hal : alikeAll xs ys = true := by simpa [alike] using h
    cases ra with
    | @tuple l o vs n _ as₁ h1 h2 h3 h4 =>
      cases rb with
      | @tuple l' o' vs' n' _ bs₁ k1 k2 k3 k4 =>
        have n1 : vs.size = xs.length := by simpa using ReadsAll.length _ _ _ h4
        have n2 : vs'.size = ys.length := by simpa using ReadsAll.length _ _ _ k4
        rw [dataLt_tuple, ← firstLt_toks xs ys hal, ← n1, ← n2] at hq
        rw [oneLt'_eq]
        simp only [if_true]
        refine wpAny_bind (wpAny_cRoomFor (room_here hu) ?_)
        obtain ⟨⟨cls, dd, data, sl⟩, ho⟩ : ∃ o' : Obj, o' = o := ⟨o, rfl⟩
        subst ho
        obtain ⟨⟨cls2, dd2, data2, sl2⟩, ho2⟩ : ∃ o'' : Obj, o'' = o' := ⟨o', rfl⟩
        subst ho2
        simp only at h2 h3 k2 k3
        subst h2 h3 k2 k3
        refine wpAny_bind (wpAny_callSpecialIfBound?_slot (T := "tuple") ⟨_, h1, rfl⟩ F.slot_tuple_lt (call_meets F.slot_tuple_lt ⟨_, h1, rfl⟩ F.entry_tuple_lt (F.args_tuple_lt_2 _ _)
          (SeqAt.tuple_ltAt l l' vs vs' n n' dd dd2 sl sl2 (pairEq xs ys) (fun j => dataLt (xs.getD j .none) (ys.getD j .none))) ⟨h1, k1, fun j j1 j2 => ?_, fun j j1 j2 hj => ?_, ?_⟩))
        · have := eqAt_alikeAll xs ys A.in1 s vs.toList vs'.toList _ _ h4 k4 hal (room_in hu) j (by simpa using j1) (by simpa using j2)
          simpa using this
        · have := rcLt_alikeAll xs ys A.in1 s vs.toList vs'.toList _ _ h4 k4 hal (room_in hu) j (by simpa using j1) (by simpa using j2) hj
          simpa using this
        · exact wpAny_truthy_bool hq
theorem sortsAt2 {vs : List Value} {ds : List PyData} (e : EachIs (fun v d => ∃ as, Reads s.heap v d as) vs ds) (hal : AllAlike ds) (hk : Sortable2 ds) (hu : ∀ d, d ∈ ds → A.units + d.depth < cLine) : SortsAt prog w A s (dataKind s.heap ds) vs := by
  rcases hk with ht | hn
  · by_cases hne : ∀ d, d ∈ ds → ∃ x r, d = .tuple (x :: r)
    · exact SortsAt.data e hal (.inl hne) hu
    · have room : ∀ {d d' : PyData}, d ∈ ds → A.units + min d.depth d'.depth < cLine := fun {d d'} hd => Nat.lt_of_le_of_lt (Nat.add_le_add_left (Nat.min_le_left _ _) _) (hu d hd)
      have lt : ∀ f : Bool, ∀ (E : Value → Shared → Prop) (x y : Value) (a b : (dataKind s.heap ds).α) {Q : Bool → Shared → Prop},
          (dataKind s.heap ds).keyOf x = some a → (dataKind s.heap ds).keyOf y = some b → Q ((dataKind s.heap ds).blt a b) s → wpAny (model prog w) A (oneLt' f x y) Q E s := by
        intro f E x y a b Q ha hb hq
        obtain ⟨d, as, hd, ra, rfl⟩ := dataKind_inv ha
        obtain ⟨d', as', hd', rb, rfl⟩ := dataKind_inv hb
        have hdd := hal d hd d' hd'
        have hroom := room (d' := d') hd
        obtain ⟨x1, rfl⟩ := ht d hd
        obtain ⟨x2, rfl⟩ := ht d' hd'
        exact oneLt_tup ra rb hdd hroom hq
      have hkeys : ∀ v, v ∈ vs → ∃ a, (dataKind s.heap ds).keyOf v = some a := fun v hv => by
        obtain ⟨d, hd, as, r⟩ := e.left v hv
        exact ⟨_, dataKind_some hal hd r⟩
      have hT : ∀ (M : Model), ∀ v ∈ vs, Looks M s.heap (typeOf v) (.type "tuple") := fun M v hv => by
        obtain ⟨d, hd, as, r⟩ := e.left v hv
        obtain ⟨xs, rfl⟩ := ht d hd
        exact looks_reads r
      refine ⟨hkeys, ?_⟩
      match vs, ds, e with
      | [], [], _ => exact absurd (fun d hd => nomatch hd) hne
      | v0 :: vs, d0 :: ds, e =>
        have two : ∀ (M : Model) (A : Around) (κ : SortKind) (E : Value → Shared → Prop) {Q : SortKind → Shared → Prop}, ((∃ x r, d0 = .tuple (x :: r)) → κ = general') → ((¬ ∃ x r, d0 = .tuple (x :: r)) → κ = oneType') → Q κ s → wpAny M A (keyKind' (v0 :: vs).toArray) Q E s := by
          intro M A κ E Q k1 k2 hq
          rw [kat_kind_eq, List.mapM_toArray, map_eq_pure_bind]
          refine wpAny_bind (wpAny_bind (firsts_any e ht fun os ho => wpAny_pure ?_))
          have hall : ¬ ((os.toArray.all fun x => x.isSome) = true) := fun z => hne fun d hd => by
            obtain ⟨i, hi⟩ := List.getElem?_of_mem hd
            have hl := ho.length
            have hio : i < os.length := by
              rw [hl]
              exact (List.getElem?_eq_some_iff.mp hi).1
            have hz : (os[i], d) ∈ os.zip (d0 :: ds) := by
              refine List.mem_of_getElem? (i := i) ?_
              rw [List.getElem?_zip_eq_some]
              exact ⟨List.getElem?_eq_getElem hio, hi⟩
            refine (ho.zip _ hz).mp ?_
            simp only [List.all_toArray, List.all_eq_true] at z
            exact z _ (List.getElem_mem hio)
          rw [if_neg hall]
          cases ho with
          | @cons o d os' ds' h1 h2 =>
            by_cases hd0 : ∃ x r, d0 = .tuple (x :: r)
            · have hs : o.isSome = true := h1.mpr hd0
              have h0 : ((List.toArray (o :: os'))[0]?.bind id).isSome = true := by simpa using hs
              rw [if_pos h0]
              rw [k1 hd0] at hq
              exact wpAny_pure hq
            · have hs : ¬ o.isSome = true := fun z => hd0 (h1.mp z)
              have h0 : ¬ ((List.toArray (o :: os'))[0]?.bind id).isSome = true := by simpa using hs
              rw [if_neg h0]
              rw [oneTypeOnly'_eq, List.mapM_toArray, map_eq_pure_bind]
              refine wpAny_bind (wpAny_bind (wpAny_bind (kas_mapM (r := Value.type "tuple") _ (fun v hv Q' hq => (hT M v hv).here hq) (wpAny_pure ?_))))
              have hall2 : ((List.map (fun _ => Value.type "tuple") (v0 :: vs)).toArray.all fun x => x == Value.type "tuple") = true := by
                simp only [List.all_toArray, List.all_map, List.all_eq_true]
                intro _ _
                rfl
              have h02 : (List.map (fun _ => Value.type "tuple") (v0 :: vs)).toArray[0]? = some (Value.type "tuple") := by simp
              rw [h02]
              simp only [hall2, if_true]
              rw [k2 hd0] at hq
              exact wpAny_pure (wpAny_pure hq)
        by_cases hd0 : ∃ x r, d0 = .tuple (x :: r)
        · refine ⟨general', fun E x y a b Q ha hb hq => ?_, fun h2 E Q hq => two _ _ general' E (fun _ => rfl) (fun z => absurd hd0 z) hq⟩
          rw [kdl_general]
          exact lt false E x y a b ha hb hq
        · refine ⟨oneType', fun E x y a b Q ha hb hq => ?_, fun h2 E Q hq => two _ _ oneType' E (fun z => absurd z hd0) (fun _ => rfl) hq⟩
          rw [keyLt'_oneType]
          exact lt true E x y a b ha hb hq
  · exact SortsAt.data e hal (.inr hn) hu
theorem bound_map2 {β : Type} {enc : β → PyData} {bs : List β} {n : Nat} (hu : ∀ b, b ∈ bs → n + (enc b).depth < cLine) : ∀ d, d ∈ bs.map enc → n + d.depth < cLine := by
  intro d hd
  obtain ⟨b, hb, rfl⟩ := List.mem_map.mp hd
  exact hu b hb
theorem list_sort_data2 {β : Type} {R : Value → β → Prop} {enc : β → PyData} {bs : List β} {vs : List Value} {a : Addr} {n : Nat} {Q : Value → Shared → Prop} (ho : s.heap.get? a = some (seqObj "list" vs.toArray n)) (e : EachIs R vs bs) (er : EachIs (fun v b => ∃ as, Reads s.heap v (enc b) as ∧ a ∉ as) vs bs) (hal : AllAlike (bs.map enc)) (hk : Sortable2 (bs.map enc)) (hL : bs.length ≤ sizeLine)
    (hu : ∀ b, b ∈ bs → A.units + 1 + (enc b).depth < cLine) (h : ∀ out, out.length = bs.length → EachIs R out (bs.mergeSort (dataLe false enc)) → Q .none { s with heap := sortedHeap s.heap a vs (List.toArray out) }) :
    wpAny (model prog w) A (call (.builtin "list.sort") [.ref a]) Q E s := by
  have er' : EachIs (fun v b => ∃ as, Reads (sortingHeap s.heap a vs) v (enc b) as) vs bs := each_keepBut (h' := sortingHeap s.heap a vs) (fun _ _ hb q => sortingHeap_old hb q) (fun o q => by rw [ho] at q; rw [← Option.some.inj q]) hal er
  refine wpAny_call_entry slot_list_sort ⟨_, ho, rfl⟩ entry_list_sort (list_sort_vals (κ := dataKind (sortingHeap s.heap a vs) (bs.map enc)) ho (sortsAt2 (s := { s with heap := sortingHeap s.heap a vs }) (each_map (R := fun v d => ∃ as, Reads (sortingHeap s.heap a vs) v d as) enc er') hal hk (bound_map2 hu)) (by rw [e.length]; exact hL) ⟨.none, rfl, ?_⟩) (args_list_sort _)
  exact h _ (by rw [sortVals_length false rfl]; exact e.length) (sortVals_data false e er' hal)
end
section
variable {X : Cx} {K : PySem.W.Frag} {B : Bs} {lim : List Addr} {σ : St} {H : Hp} {g : Ev} {Φ : Its}
theorem zip_maps {α β γ : Type} (f : β → α) (h : β → γ) : ∀ (bs : List β), (bs.map f).zip (bs.map h) = bs.map fun b => (f b, h b)
  | [] => rfl
  | b :: bs => by simp [zip_maps f h bs]
end
end DL
set_option Elab.async false
set_option linter.all false
set_option maxRecDepth 100000
set_option maxHeartbeats 4000000
namespace DL
open PySem L2
def flatI : List T → Option (List Int)
  | [] => some []
  | .leaf (.int i) :: r => (flatI r).map (i :: ·)
  | _ => none
theorem flatI_eq : ∀ {us : List T} {ns : List Int}, flatI us = some ns → us = intsT ns
  | [], _, e => by
    simp only [flatI, Option.some.injEq] at e
    subst e
    rfl
  | .leaf (.int i) :: r, ns, e => by
    simp only [flatI] at e
    cases h : flatI r with
    | none => rw [h] at e; cases e
    | some ms =>
      rw [h] at e
      cases e
      rw [flatI_eq h]
      rfl
  | .leaf .non :: _, _, e => by simp [flatI] at e
  | .leaf (.bl _) :: _, _, e => by simp [flatI] at e
  | .leaf (.str _) :: _, _, e => by simp [flatI] at e
  | .leaf (.ref _) :: _, _, e => by simp [flatI] at e
  | .leaf (.ty _) :: _, _, e => by simp [flatI] at e
  | .node _ _ _ :: _, _, e => by simp [flatI] at e
  | .pin _ _ :: _, _, e => by simp [flatI] at e
theorem flatI_ints : ∀ ns : List Int, flatI (intsT ns) = some ns
  | [] => rfl
  | n :: ns => by
    show (flatI (intsT ns)).map (n :: ·) = _
    rw [flatI_ints ns]
    rfl
abbrev ik (ns : List Int) : List Key := ns.map Sum.inl
theorem ik_kV (ns : List Int) : (ik ns).map kV = ns.map V.int := by
  rw [List.map_map]
  rfl
theorem ik_inj {a b : List Int} (h : ik a = ik b) : a = b := by
  have := congrArg (List.map fun k : Key => match k with | .inl i => i | .inr _ => 0) h
  simpa [ik, List.map_map, Function.comp_def] using this
section
variable {κ : Type} [DecidableEq κ]
def ixK : List κ → κ → Option Nat
  | [], _ => none
  | x :: ks, k => if x = k then some 0 else (ixK ks k).map (· + 1)
theorem ixK_lt : ∀ {ks : List κ} {k : κ} {j : Nat}, ixK ks k = some j → j < ks.length ∧ ks[j]? = some k
  | x :: ks, k, j, e => by
    unfold ixK at e
    split at e
    · cases e
      rename_i h
      exact ⟨Nat.succ_pos _, by simp [h]⟩
    · cases h : ixK ks k with
      | none => rw [h] at e; cases e
      | some i =>
        rw [h] at e
        cases e
        have := ixK_lt h
        exact ⟨Nat.succ_lt_succ this.1, by simpa using this.2⟩
theorem ixK_none : ∀ {ks : List κ} {k : κ}, ixK ks k = none ↔ k ∉ ks
  | [], k => by simp [ixK]
  | x :: ks, k => by
    unfold ixK
    by_cases h : x = k
    · rw [if_pos h]
      simp [h]
    · rw [if_neg h, Option.map_eq_none_iff, ixK_none, List.mem_cons]
      constructor
      · rintro a (b | b)
        · exact h b.symm
        · exact a b
      · exact fun a b => a (.inr b)
theorem val_ix : ∀ {ks : List κ} {vs : List V} {k : κ}, vs.length = ks.length → valV (ks.zip vs) k = (ixK ks k).bind (vs[·]?)
  | [], vs, k, _ => rfl
  | x :: ks, [], k, h => by simp at h
  | x :: ks, v :: vs, k, h => by
    rw [List.zip_cons_cons]
    unfold ixK
    by_cases e : x = k
    · rw [valV_pos (p := (x, v)) e, if_pos e]
      rfl
    · rw [valV_neg (p := (x, v)) e, if_neg e, val_ix (by simpa using h)]
      cases ixK ks k <;> rfl
theorem map_zip_set : ∀ {ks : List κ} {vs : List V} {k : κ} {v : V} {j : Nat}, vs.length = ks.length → ks.Nodup → ixK ks k = some j →
    (ks.zip vs).map (fun kv => if kv.1 = k then (kv.1, v) else kv) = ks.zip (vs.set j v)
  | x :: ks, [], _, _, _, h, _, _ => by simp at h
  | x :: ks, u :: vs, k, v, j, h, hn, e => by
    rw [List.nodup_cons] at hn
    unfold ixK at e
    by_cases c : x = k
    · rw [if_pos c] at e
      cases e
      rw [List.zip_cons_cons, List.map_cons, if_pos c, List.set_cons_zero, List.zip_cons_cons]
      congr 1
      have : ∀ p ∈ ks.zip vs, (if p.1 = k then (p.1, v) else p) = p := fun p hp => if_neg fun z => hn.1 (by
        rw [c, ← z]
        exact (List.of_mem_zip hp).1)
      rw [List.map_congr_left this, List.map_id']
    · rw [if_neg c] at e
      cases h2 : ixK ks k with
      | none => rw [h2] at e; cases e
      | some i =>
        rw [h2] at e
        cases e
        rw [List.zip_cons_cons, List.map_cons, if_neg c, List.set_cons_succ, List.zip_cons_cons, map_zip_set (by simpa using h) hn.2 h2]
theorem put_ix {ks : List κ} {vs : List V} {k : κ} {v : V} (h : vs.length = ks.length) (hn : ks.Nodup) :
    putK (ks.zip vs) k v = match ixK ks k with | some j => ks.zip (vs.set j v) | none => (ks ++ [k]).zip (vs ++ [v]) := by
  have hv := val_ix (k := k) h
  cases e : ixK ks k with
  | none =>
    rw [e] at hv
    rw [putK_new v hv]
    show _ = (ks ++ [k]).zip (vs ++ [v])
    rw [List.zip_append h.symm]
    rfl
  | some j =>
    rw [e] at hv
    have hj := (ixK_lt e).1
    have hs : valV (ks.zip vs) k = some (vs[j]'(by omega)) := by
      rw [hv]
      simp [show j < vs.length by omega]
    unfold putK
    rw [valV_any, hs, if_pos (show (some _).isSome = true from rfl)]
    exact map_zip_set h hn e
end
section
variable {K : PySem.W.Frag} {B : Bs} {lim : List Addr} {σ : St} {H : Hp} {g : Ev} {Φ : Its}
theorem ownL_flat {F : Addr → Prop} : ∀ {ws us : List V} {fp : List Addr}, OwnL K F H us (ws.map .leaf) fp → us = ws
  | [], _, _, h => by cases h; rfl
  | w :: ws, _, _, h => by
    cases h with
    | cons h1 h2 =>
      cases h1
      rw [ownL_flat h2]
theorem RepG.keyH {v : V} {o : Bool} {us : List T} {ns : List Int} (h : RepG K B lim σ H g ((v, .node o .tup us) :: Φ)) (e : flatI us = some ns) (hz : ns ≠ [0, 1]) : ∃ b, v = .ref b ∧ H b = some (.tup ((ik ns).map kV)) := by
  obtain rfl := flatI_eq e
  rw [intsT_eq] at h
  rw [ik_kV]
  obtain ⟨F, zs, fp, en, oz, f, hl⟩ := h
  obtain ⟨fp', pf, o'⟩ := oz.perm (List.perm_middle (a := (v, T.node o .tup ((ns.map V.int).map .leaf))))
  obtain ⟨f1, f2, rfl, p1, o2⟩ := OwnZ.uncons (zs := zs ++ Φ) o'
  cases p1 with
  | fz hf hr hk =>
    obtain rfl := ownL_flat hk
    exact ⟨_, rfl, hr⟩
  | own hr hk =>
    obtain rfl := ownL_flat hk
    exact ⟨_, rfl, hr⟩
  | tk hr hk =>
    obtain rfl := ownL_flat hk
    exact ⟨_, rfl, hr⟩
  | kz hc hok hk =>
    obtain rfl := ownL_flat hk
    rcases hok with z | ⟨x, r, z⟩
    · refine absurd ?_ hz
      have h2 : ns.map V.int = ([0, 1] : List Int).map V.int := z
      exact List.map_inj_right (fun a b h => V.int.inj h) |>.mp h2
    · cases ns with
      | nil => cases z
      | cons n ns => cases z
def rtDGet (τd τk : T) (Q : Option T → Prop) : Prop := match τd, τk with
  | .node _ (.dT ks) ts, .node _ .tup us => ∃ ns, flatI us = some ns ∧ ns ≠ [0, 1] ∧ ts.length = ks.length ∧ Q ((ixK ks (ik ns)).bind (ts[·]?))
  | .node _ (.dK ks) ts, .leaf (.int i) => ts.length = ks.length ∧ Q ((ixK ks (.inl i)).bind (ts[·]?))
  | .node _ (.dK ks) ts, .leaf (.str x) => ts.length = ks.length ∧ Q ((ixK ks (.inr x)).bind (ts[·]?))
  | _, _ => False
theorem rtDGet_mono {τd τk : T} {Q Q' : Option T → Prop} (h : ∀ r, Q r → Q' r) (q : rtDGet τd τk Q) : rtDGet τd τk Q' := by
  unfold rtDGet at q ⊢
  split at q
  · obtain ⟨ns, e, z, l, q⟩ := q
    exact ⟨ns, e, z, l, h _ q⟩
  · exact ⟨q.1, h _ q.2⟩
  · exact ⟨q.1, h _ q.2⟩
  · exact q.elim
theorem dget_of {a : Addr} {y : V} {o : Bool} {s : Sh} {ts : List T} {τk : T} {Q : Option T → Prop} (rk : RepG K B lim σ H g ((y, τk) :: Φ)) (q : rtDGet (.node o s ts) τk Q) :
    ∃ r : Option Nat, (∀ us : List V, us.length = ts.length → Rd H a (s.mk a us) → DGet H a y (r.bind (us[·]?))) ∧ (∀ j, r = some j → j < ts.length) ∧ Q (r.bind (ts[·]?)) := by
  unfold rtDGet at q
  split at q
  · rename_i ks ts' us' e1
    cases e1
    obtain ⟨ns, e, hz, l, q⟩ := q
    obtain ⟨b, rfl, hb⟩ := rk.keyH e hz
    refine ⟨_, fun us hl ha => ?_, fun j e => by rw [l]; exact (ixK_lt e).1, q⟩
    rw [← val_ix (by rw [hl, l])]
    exact .inr ⟨_, _, b, ha, rfl, hb, rfl⟩
  · rename_i ks ts' i e1
    cases e1
    obtain rfl := rk.leaf
    refine ⟨_, fun us hl ha => ?_, fun j e => by rw [q.1]; exact (ixK_lt e).1, q.2⟩
    rw [← val_ix (by rw [hl, q.1])]
    exact .inl ⟨_, .inl i, ha, rfl, rfl⟩
  · rename_i ks ts' z e1
    cases e1
    obtain rfl := rk.leaf
    refine ⟨_, fun us hl ha => ?_, fun j e => by rw [q.1]; exact (ixK_lt e).1, q.2⟩
    rw [← val_ix (by rw [hl, q.1])]
    exact .inl ⟨_, .inr z, ha, rfl, rfl⟩
  · exact q.elim
end
section
variable {X : Cx} {W : WX} {m : Nat → Bool} {o e f value : Expr} {td tk tx tv : DTE} {pos pos' apos cpos : Pos}
def isDctO : T → Prop
  | .node true (.dT _) _ => True
  | .node true (.dK _) _ => True
  | _ => False
theorem isDctO_of {τ : T} (h : isDctO τ) : ∃ s ts, τ = .node true s ts ∧ s ≠ .tup ∧ ∀ H a us, Rd H a (s.mk a us) → IsD H a := by
  unfold isDctO at h
  split at h
  · exact ⟨_, _, rfl, (fun z => by cases z), fun H a us h => .inr ⟨_, h⟩⟩
  · exact ⟨_, _, rfl, (fun z => by cases z), fun H a us h => .inl ⟨_, h⟩⟩
  · exact h.elim
theorem dget_slot {K : PySem.W.Frag} {B : Bs} {lim : List Addr} {σ : St} {H : Hp} {g : Ev} {Φ : Its} {y : V} {t0 τk : T} {i : Nat} {Q : Option T → Prop} (r : RepG K B lim σ H g ((y, τk) :: Φ)) (h0 : g[i]? = some (some t0)) (hd : isDctO t0) (q : rtDGet t0 τk Q) :
    ∃ (a : Addr) (ro : Option V) (rt : Option T), σ[i]? = some (some (.ref a)) ∧ DGet H a y ro ∧ Q rt ∧ (∀ t, rt = some t → frz t = t → ∃ v, ro = some v ∧ RepG K B lim σ H g ((v, t) :: (y, τk) :: Φ)) ∧ (rt = none → ro = none) := by
  obtain ⟨s, ts, rfl, hs, hI⟩ := isDctO_of hd
  obtain ⟨a, us, hv, hl, ha, _⟩ := r.renew (s' := s) h0 hs
  obtain ⟨j, hg, hj, q⟩ := dget_of (a := a) r q
  cases j with
  | none => exact ⟨a, none, none, hv, hg us hl (.inl ha), q, (fun t ht => nomatch ht), fun _ => rfl⟩
  | some j =>
    have hlt := hj j rfl
    obtain ⟨a2, us2, x, hv2, hl2, ha2, hx, r2⟩ := r.partO h0 (List.getElem?_eq_getElem hlt)
    rw [hv] at hv2
    cases hv2
    refine ⟨a, _, _, hv, hg us2 hl2 (.inl ha2), q, fun t ht hf => ?_, fun hn => ?_⟩
    · have htj : ts[j]? = some t := ht
      have e0 : ts[j] = t := by
        rw [List.getElem?_eq_getElem hlt] at htj
        exact Option.some.inj htj
      refine ⟨x, hx, ?_⟩
      rw [e0, hf] at r2
      have e1 : g.set i (some (.node true s (ts.set j t))) = g := by
        rw [set_at htj, set_at h0]
      rw [e1] at r2
      exact r2
    · have hn : ts[j]? = none := hn
      rw [List.getElem?_eq_none_iff] at hn
      omega
def xDGet2O (i : Nat) (tk tx : DTE) : DTE := fun g Q E => atSlot i g fun t => isDctO t ∧ tk g (fun τk g1 => tx g1 (fun τx g2 => atSlot i g2 fun t0 => isDctO t0 ∧ rtDGet t0 τk fun r => match r with | some t => frz t = t ∧ Q t g2 | none => Q τx g2) E) E
theorem d_dget2O (i : Nat) (hu : X.A.units + 1 < cLine) (ho : PE X o (tVar i)) (he : DE X W e tk) (hf : DE X W f tx) (m : M2 X o "get" apos e f cpos) : DE X W (.Call (.Attribute o "get" apos) [e, f] [] cpos) (xDGet2O i tk tx) := by
  refine ⟨fun B => PE.imp (pe_dget2 hu ho (he.run B) (hf.run B) m) fun σ H Q ⟨Φ, lim, g, E, r, hx, q⟩ => ?_, fun g Q Q' E E' hq hE q => ?_⟩
  · obtain ⟨t0, h0, hd0, q⟩ := atSlot_of q
    obtain ⟨s, ts, rfl, hs, hI⟩ := isDctO_of hd0
    obtain ⟨a, us, hv0, hl, ha, _⟩ := r.renew (s' := s) h0 hs
    refine ⟨_, hv0, a, rfl, hI _ _ _ (.inl ha), Φ, lim, g, E, r, hx, he.mono _ _ _ _ _ (fun τk g1 q1 y H1 r1 => ?_) (fun _ _ _ z => z) q⟩
    refine ⟨_, lim, g1, E, r1, hx, hf.mono _ _ _ _ _ (fun τx g2 q2 z H2 r2 => ?_) (fun _ _ _ z => z) q1⟩
    obtain ⟨t1, h1, hd, q2⟩ := atSlot_of q2
    have r3 : RepG X.K B lim σ H2 g2 ((y, τk) :: (z, τx) :: Φ) := r2.perm (List.Perm.swap _ _ _)
    obtain ⟨a', ro, rt, hv, hg, q3, e1, e2⟩ := dget_slot r3 h1 hd q2
    rw [hv0] at hv
    cases hv
    refine ⟨ro, hg, ?_⟩
    cases rt with
    | none =>
      rw [e2 rfl]
      exact q3 z H2 r3.dropT
    | some t =>
      obtain ⟨v, rfl, r4⟩ := e1 t rfl q3.1
      exact q3.2 v H2 (RepG.subs (zs := [(v, t), (y, τk), (z, τx)]) (ys := [(v, t)]) (List.Sublist.cons_cons _ (List.nil_sublist _)) r4)
  · exact atSlot_mono (fun _ q => ⟨q.1, he.mono _ _ _ _ _ (fun τk g1 q1 => hf.mono _ _ _ _ _ (fun τx g2 q2 => atSlot_mono (fun t0 q3 => ⟨q3.1, rtDGet_mono (fun r z => by
      cases r with
      | none => exact hq _ _ z
      | some t => exact ⟨z.1, hq _ _ z.2⟩) q3.2⟩) q2) hE q1) hE q.2⟩) q
def putT {κ : Type} [DecidableEq κ] (mk : List κ → Sh) (ks : List κ) (ts : List T) (k : κ) (τ : T) : T := match ixK ks k with
  | some j => .node true (mk ks) (ts.set j τ)
  | none => .node true (mk (ks ++ [k])) (ts ++ [τ])
def rtDPut (τd τk τ : T) (Q : T → Prop) : Prop := match τd, τk with
  | .node true (.dT ks) ts, .node _ .tup us => ∃ ns, flatI us = some ns ∧ ns ≠ [0, 1] ∧ ks.Nodup ∧ ts.length = ks.length ∧ ks.length < sizeLine ∧ Q (putT .dT ks ts (ik ns) τ)
  | .node true (.dK ks) ts, .leaf (.int i) => ks.Nodup ∧ ts.length = ks.length ∧ ks.length < sizeLine ∧ Q (putT .dK ks ts (.inl i) τ)
  | .node true (.dK ks) ts, .leaf (.str x) => ks.Nodup ∧ ts.length = ks.length ∧ ks.length < sizeLine ∧ Q (putT .dK ks ts (.inr x) τ)
  | _, _ => False
theorem rtDPut_mono {τd τk τ : T} {Q Q' : T → Prop} (h : ∀ r, Q r → Q' r) (q : rtDPut τd τk τ Q) : rtDPut τd τk τ Q' := by
  unfold rtDPut at q ⊢
  split at q
  · obtain ⟨ns, e, z, n, l, s, q⟩ := q
    exact ⟨ns, e, z, n, l, s, h _ q⟩
  · exact ⟨q.1, q.2.1, q.2.2.1, h _ q.2.2.2⟩
  · exact ⟨q.1, q.2.1, q.2.2.1, h _ q.2.2.2⟩
  · exact q.elim
theorem put_slot {κ : Type} [DecidableEq κ] {K : PySem.W.Frag} {B : Bs} {lim : List Addr} {σ : St} {H : Hp} {g : Ev} {Φ : Its} {mk : List κ → Sh} {hk : List (κ × V) → HO} {ks : List κ} {ts : List T} {i : Nat} {k : κ} {w : V} {τ : T} (hm : ∀ ks a vs, (mk ks).mk a vs = hk (ks.zip vs)) (hnt : ∀ ks, mk ks ≠ .tup)
    (h : RepG K B lim σ H g ((w, τ) :: Φ)) (h0 : g[i]? = some (some (.node true (mk ks) ts))) (hn : ks.Nodup) (hl : ts.length = ks.length) :
    ∃ (a : Addr) (us : List V), σ[i]? = some (some (.ref a)) ∧ us.length = ks.length ∧ H a = some (hk (ks.zip us)) ∧ RepG K B lim σ (upd H a (hk (putK (ks.zip us) k w))) (g.set i (some (putT mk ks ts k τ))) Φ := by
  cases e : ixK ks k with
  | none =>
    obtain ⟨ad, us, hv, hl2, hH, kk⟩ := h.renew (s' := mk (ks ++ [k])) h0 (hnt ks)
    have hlu : us.length = ks.length := by rw [hl2, hl]
    refine ⟨ad, us, hv, hlu, by rw [hH, hm], ?_⟩
    rw [put_ix hlu hn]
    unfold putT
    rw [e]
    have r5 := kk (us.zip ts ++ [(w, τ)]) Φ (by rw [List.append_assoc]; exact List.Perm.refl _)
    have e1 : ((us.zip ts ++ [(w, τ)]).map (·.1)) = us ++ [w] := by
      rw [List.map_append, List.map_fst_zip (by omega)]
      rfl
    have e2 : ((us.zip ts ++ [(w, τ)]).map (·.2)) = ts ++ [τ] := by
      rw [List.map_append, List.map_snd_zip (by omega)]
      rfl
    rw [e1, e2, hm] at r5
    exact r5
  | some j =>
    have hj := (ixK_lt e).1
    obtain ⟨ad, us, hv, hl2, hH, r⟩ := h.setO h0 (j := j) (by omega) (hnt ks)
    have hlu : us.length = ks.length := by rw [hl2, hl]
    refine ⟨ad, us, hv, hlu, by rw [hH, hm], ?_⟩
    rw [put_ix hlu hn]
    unfold putT
    rw [e]
    rw [hm] at r
    exact r
def sDPutO (i : Nat) (tk tv : DTE) : DTS := fun D g => tv g (fun τv g1 => atSlot i g1 fun _ => tk g1 (fun τk g2 => atSlot i g2 fun t0 => rtDPut t0 τk τv fun t1 => D.nx (g2.set i (some t1))) D.ex) D.ex
theorem ds_dput (i : Nat) (hu : X.A.units + 1 < cLine) (ho : PE X o (tVar i)) (hi : DE X W e tk) (hv : DE X W value tv) (hs : swapsWith value (some (.Subscript o e pos')) pos.line X.env = pure false := by rfl) :
    DS X W m (.Assign [.Subscript o e pos'] value pos) (sDPutO i tk tv) := by
  refine .mk' (fun B σ0 => ps_dput hu ho (hi.run B) (hv.run B) hs) (fun B σ0 D σ H Φ lim g E r hk hX q => ?_) fun D D' g h q => ?_
  · refine ⟨Φ, lim, g, E, r, hX σ hk, hv.mono _ _ _ _ _ (fun τv g1 q1 w H1 r1 => ?_) (fun _ _ _ z => z) q⟩
    obtain ⟨t0, h0, q1⟩ := atSlot_of q1
    obtain ⟨v0, hv0⟩ := r1.slot h0
    refine ⟨v0, hv0, _, lim, g1, E, r1, hX σ hk, hi.mono _ _ _ _ _ (fun τk g2 q2 y H2 r2 => ?_) (fun _ _ _ z => z) q1⟩
    obtain ⟨t1, h1, q2⟩ := atSlot_of q2
    have rv : RepG X.K B lim σ H2 g2 ((w, τv) :: Φ) := r2.dropT
    unfold rtDPut at q2
    split at q2
    · obtain ⟨ns, e, z, n, l, sz, q2⟩ := q2
      obtain ⟨b, rfl, hb⟩ := r2.keyH e z
      obtain ⟨a, us, ha, hlu, hH, r3⟩ := put_slot (hk := HO.dT) (fun _ _ _ => rfl) (fun _ z => by cases z) rv h1 (k := ik ns) n l
      rw [hv0] at ha
      cases ha
      exact ⟨a, _, rfl, .inr ⟨_, ik ns, b, hH, rfl, hb, by rw [List.length_zip]; omega, rfl⟩, q2 _ _ r3 hk⟩
    · rename_i ks ts j _
      obtain rfl := r2.leaf
      obtain ⟨a, us, ha, hlu, hH, r3⟩ := put_slot (hk := HO.dK) (fun _ _ _ => rfl) (fun _ z => by cases z) rv h1 (k := .inl j) q2.1 q2.2.1
      rw [hv0] at ha
      cases ha
      exact ⟨a, _, rfl, .inl ⟨_, .inl j, hH, rfl, by rw [List.length_zip]; omega, rfl⟩, q2.2.2.2 _ _ r3 hk⟩
    · rename_i ks ts z _
      obtain rfl := r2.leaf
      obtain ⟨a, us, ha, hlu, hH, r3⟩ := put_slot (hk := HO.dK) (fun _ _ _ => rfl) (fun _ z => by cases z) rv h1 (k := .inr z) q2.1 q2.2.1
      rw [hv0] at ha
      cases ha
      exact ⟨a, _, rfl, .inl ⟨_, .inr z, hH, rfl, by rw [List.length_zip]; omega, rfl⟩, q2.2.2.2 _ _ r3 hk⟩
    · exact q2.elim
  · exact hv.mono _ _ _ _ _ (fun τv g1 q1 => atSlot_mono (fun _ q2 => hi.mono _ _ _ _ _ (fun τk g2 q3 => atSlot_mono (fun t0 q4 => rtDPut_mono (fun t1 q5 => h.nx _ q5) q4) q3) h.ex q2) q1) h.ex q
def xDictT0 : DTE := fun g Q _ => Q (.node true (.dT []) []) g
theorem d_dictT0 : DE X W (.Dict [] [] pos) xDictT0 := by
  refine ⟨fun B => PE.imp pe_dnewT fun σ H Q ⟨Φ, lim, g, E, r, hx, q⟩ => ?_, fun g Q Q' E E' hq hE q => hq _ _ q⟩
  exact fun d hd => q _ _ (make_of (.dT []) (vs := []) (τs := []) rfl r hd)
end
end DL
set_option Elab.async false
set_option linter.all false
set_option maxRecDepth 100000
set_option maxHeartbeats 4000000
namespace DL
open PySem L2
section
variable {X : Cx} {pins : List (Addr × Obj)} {σ : L2.St} {H : Hp} {s : Shared}
theorem pairs_laid {hf : Heap} {tk : Nat} {l : Addr} {n : Nat} {ps : List (Addr × Addr × V)} (I : Inv X pins σ H s) (hk : ∀ b o, s.heap.get? b = some o → hf.get? b = some o) (hl : s.heap.objs.size ≤ l) (nd : (ps.map (·.1)).Nodup) (hz : ps.length ≤ sizeLine)
    (hp : ∀ p ∈ ps, s.heap.objs.size ≤ p.1 ∧ p.1 ≠ l ∧ ∃ u, RelV p.2.2 u ∧ hf.get? p.1 = some { cls := .type "tuple", data := .seq #[.ref p.2.1, u] })
    (ho : hf.get? l = some { cls := .type "list", data := .seq (ps.map fun p => Value.ref p.1).toArray n }) :
    ∃ H2, Inv X pins σ H2 { s with heap := hf, toks := tk } ∧ (∀ b o, H b = some o → H2 b = some o) ∧ H l = none ∧ H2 l = some (.lst (ps.map fun p => V.ref p.1)) ∧ ∀ p ∈ ps, H2 p.1 = some (.tup [.ref p.2.1, p.2.2]) := by
  have I1 : Inv X pins σ H { s with heap := hf, toks := tk } := I.kept (t' := tk) hk
  have hn0 : H l = none := I.hok.fresh hl
  have rv : Vals (ps.map fun p => V.ref p.1) (ps.map fun p => Value.ref p.1) := by
    clear nd hz hp ho
    induction ps with
    | nil => exact .nil
    | cons p ps ih => exact .cons rfl ih
  have I2 : Inv X pins σ (upd H l (.lst (ps.map fun p => V.ref p.1))) { s with heap := hf, toks := tk } :=
    I1.take (h' := hf) (t' := tk) (fun b ob _ e => e) (I.fpOk hl hn0) ⟨by rw [List.length_map]; exact hz, _, n, rv, ho⟩
  obtain ⟨H2, I3, g, qt⟩ := DX.takeT (P := fun b vs => ∃ p ∈ ps, p.1 = b ∧ vs = [.ref p.2.1, p.2.2]) I (ps.map (·.1)) _ I2 nd fun b hb => by
    obtain ⟨p, hm, rfl⟩ := List.mem_map.mp hb
    obtain ⟨h1, h2, u, ru, hg⟩ := hp p hm
    refine ⟨h1, ?_, _, ⟨p, hm, rfl, rfl⟩, fun H3 => ⟨(by show 2 ≤ 16777216; omega), [Value.ref p.2.1, u], .cons rfl (.cons ru .nil), ⟨_, hg, rfl, 0, rfl⟩⟩⟩
    rw [upd_ne h2]
    exact I.hok.fresh h1
  have gr : ∀ b o, H b = some o → H2 b = some o := fun b o e => g b o (by rw [upd_ne (ne_of_none e hn0)]; exact e)
  refine ⟨H2, I3, gr, hn0, g _ _ upd_same, fun p hm => ?_⟩
  obtain ⟨vs, ⟨p', hm', e, rfl⟩, hH⟩ := qt p.1 (List.mem_map_of_mem hm)
  have : p' = p := by
    obtain ⟨i, hi⟩ := List.getElem?_of_mem hm
    obtain ⟨j, hj⟩ := List.getElem?_of_mem hm'
    have h1 : (ps.map (·.1))[i]? = some p.1 := by rw [List.getElem?_map, hi]; rfl
    have h2 : (ps.map (·.1))[j]? = some p.1 := by rw [List.getElem?_map, hj]; exact congrArg some e
    have hij : i = j := (List.getElem?_inj (List.getElem?_eq_some_iff.mp h1).1 nd).mp (h1.trans h2.symm)
    subst hij
    rw [hi] at hj
    exact (Option.some.inj hj).symm
  rw [this] at hH
  exact hH
def PairsOut (H : Hp) (bs : List (List Int × V)) (Q : VK) : Prop := ∀ (H2 : Hp) (l : Addr) (ps : List (Addr × Addr)), (∀ b o, H b = some o → H2 b = some o) → H l = none → ps.length = bs.length → H2 l = some (.lst (ps.map fun z => V.ref z.1)) →
  (∀ (i : Nat) (z : Addr × Addr) (b : List Int × V), ps[i]? = some z → bs[i]? = some b → H2 z.1 = some (.tup [.ref z.2, b.2]) ∧ H2 z.2 = some (.tup ((ik b.1).map kV))) → Q (.ref l) H2
theorem dt_entries {a : Addr} {bs : List (List Int × V)} (I : Inv X pins σ H s) (e : Rd H a (.dT (bs.map fun b => (ik b.1, b.2)))) :
    bs.length ≤ sizeLine ∧ (a == sysModules) = false ∧ ∃ (es : Array DictEntry) (ep : Nat), _root_.DT.Raw s.heap a es ep ∧ es.size = bs.length ∧ s.TypeIs (.ref a) "dict" ∧
      ∀ (j : Nat) (b : List Int × V), bs[j]? = some b → ∃ (en : DictEntry) (q : Addr) (u : Value), es[j]? = some en ∧ en.key = .ref q ∧ en.val = u ∧ RelV b.2 u ∧ H q = some (.tup ((ik b.1).map kV)) := by
  obtain ⟨z, hd, xs', rel, o, es, ep, ho, hx, hdat, hes, his, hn⟩ := dt_rd I.hok e
  have l1 : (bs.map fun b => (ik b.1, b.2)).length = xs'.length := Paired.length rel
  rw [List.length_map] at l1 z
  have l2 : es.size = xs'.length := PySem.size_of_entries hes
  refine ⟨z, hd, es, ep, ⟨o, ho, hx, hdat⟩, by omega, ⟨o, ho, hx.1⟩, fun j b hj => ?_⟩
  obtain ⟨x, hxj⟩ : ∃ x, xs'[j]? = some x := ⟨xs'[j]'(by have := (List.getElem?_eq_some_iff.mp hj).1; omega), List.getElem?_eq_getElem _⟩
  obtain ⟨e0, he0, r1, r2, r3⟩ := DX.pget rel hxj
  rw [List.getElem?_map, hj] at he0
  have ee : (ik b.1, b.2) = e0 := Option.some.inj he0
  rw [← ee] at r2 r3
  refine ⟨entryOfKey (tupleKind (mixKind X.prog X.w)) x, x.2.1, x.2.2, ?_, rfl, rfl, r3, r2⟩
  have := PySem.entry_at hes j
  rw [hxj] at this
  exact this
theorem pairs_list {h' : Heap} {es : Array DictEntry} {lo : Addr} {as : List Addr} {bs : List (List Int × V)} (hG : _root_.DT.Made es lo h' as) (hl : as.length = bs.length)
    (en : ∀ (j : Nat) (b : List Int × V), bs[j]? = some b → ∃ (en : DictEntry) (q : Addr) (u : Value), es[j]? = some en ∧ en.key = .ref q ∧ en.val = u ∧ RelV b.2 u ∧ H q = some (.tup ((ik b.1).map kV))) :
    ∃ ps : List (Addr × Addr × V), ps.map (·.1) = as ∧ ps.length = bs.length ∧ ∀ (j : Nat) (p : Addr × Addr × V) (b : List Int × V), ps[j]? = some p → bs[j]? = some b → p.2.2 = b.2 ∧ H p.2.1 = some (.tup ((ik b.1).map kV)) ∧ lo < p.1 ∧ ∃ u, RelV b.2 u ∧ h'.get? p.1 = some { cls := .type "tuple", data := .seq #[.ref p.2.1, u] } := by
  have key : ∀ (as : List Addr) (bs : List (List Int × V)), as.length = bs.length → (∀ (j : Nat) (b : List Int × V), bs[j]? = some b → ∃ t q u, as[j]? = some t ∧ H q = some (.tup ((ik b.1).map kV)) ∧ lo < t ∧ RelV b.2 u ∧ h'.get? t = some { cls := .type "tuple", data := .seq #[.ref q, u] }) →
      ∃ ps : List (Addr × Addr × V), ps.map (·.1) = as ∧ ps.length = bs.length ∧ ∀ (j : Nat) (p : Addr × Addr × V) (b : List Int × V), ps[j]? = some p → bs[j]? = some b → p.2.2 = b.2 ∧ H p.2.1 = some (.tup ((ik b.1).map kV)) ∧ lo < p.1 ∧ ∃ u, RelV b.2 u ∧ h'.get? p.1 = some { cls := .type "tuple", data := .seq #[.ref p.2.1, u] } := by
    intro as
    induction as with
    | nil =>
      intro bs hl h
      cases bs with
      | nil => exact ⟨[], rfl, rfl, fun j p b hj => by simp at hj⟩
      | cons _ _ => simp at hl
    | cons t as ih =>
      intro bs hl h
      cases bs with
      | nil => simp at hl
      | cons b bs =>
        obtain ⟨t', q, u, e1, e2, e3, e4, e5⟩ := h 0 b rfl
        obtain rfl : t = t' := Option.some.inj e1
        obtain ⟨ps, p1, p0, p2⟩ := ih bs (by simpa using hl) fun j b hj => by simpa using h (j + 1) b (by simpa using hj)
        refine ⟨(t, q, b.2) :: ps, by rw [List.map_cons, p1], by simp [p0], fun j p' b' hp hj => ?_⟩
        cases j with
        | zero =>
          have : b = b' := Option.some.inj hj
          subst this
          have : (t, q, b.2) = p' := Option.some.inj hp
          subst this
          exact ⟨rfl, e2, e3, u, e4, e5⟩
        | succ j => exact p2 j p' b' (by simpa using hp) (by simpa using hj)
  refine key as bs hl fun j b hj => ?_
  obtain ⟨en', q', u, e1, e2, e3, e4, e5⟩ := en j b hj
  have hjl : j < as.length := by have := (List.getElem?_eq_some_iff.mp hj).1; omega
  obtain ⟨en2, f1, f2⟩ := hG.pairs j as[j] (List.getElem?_eq_getElem hjl)
  rw [e1] at f1
  cases f1
  rw [e2, e3] at f2
  exact ⟨_, q', u, List.getElem?_eq_getElem hjl, e5, hG.above _ (List.getElem_mem hjl), e4, f2⟩
theorem each_eq {β : Type} {f : β → Value} : ∀ {out : List Value} {ys : List β}, W.EachIs (fun v z => v = f z) out ys → out = ys.map f
  | _, _, .nil => rfl
  | _, _, .cons h t => congr (congrArg List.cons h) (each_eq t)
mutual
theorem reads_lt {h : Heap} : ∀ (d : PyData) (v : Value) (as : List Addr), W.alike d d = true → Reads h v d as → ∀ a ∈ as, a < h.objs.size
  | .none, _, _, _, r => by cases r; exact fun _ z => nomatch z
  | .bool _, _, _, _, r => by cases r; exact fun _ z => nomatch z
  | .int _, _, _, _, r => by cases r; exact fun _ z => nomatch z
  | .str _, _, _, _, r => by cases r; exact fun _ z => nomatch z
  | .list xs, _, _, h, r => by
    cases r with
    | list h1 h2 h3 h4 =>
      intro a ha
      rcases List.mem_cons.mp ha with rfl | ha
      · exact Heap.lt_size h1
      · exact readsAll_lt xs _ _ (by simpa [W.alike] using h) h4 a ha
  | .tuple xs, _, _, h, r => by
    cases r with
    | tuple h1 h2 h3 h4 => exact readsAll_lt xs _ _ (by simpa [W.alike] using h) h4
  | .dict _, _, _, h, r => by simp [W.alike] at h
theorem readsAll_lt {h : Heap} : ∀ (ds : List PyData) (vs : List Value) (as : List Addr), W.alikeAll ds ds = true → ReadsAll h vs ds as → ∀ a ∈ as, a < h.objs.size
  | [], _, _, _, r => by cases r; exact fun _ z => nomatch z
  | d :: ds, _, _, h, r => by
    cases r with
    | cons r1 r2 =>
      obtain ⟨h1, h2⟩ := W.alike_all_cons h
      intro a ha
      rcases List.mem_append.mp ha with ha | ha
      · exact reads_lt d _ _ h1 r1 a ha
      · exact readsAll_lt ds _ _ h2 r2 a ha
end
theorem reads_ints {h : Heap} : ∀ {ns : List Int} {its : List Value}, Vals (ns.map V.int) its → ReadsAll h its (ns.map .int) []
  | [], _, r => by cases r; exact .nil
  | n :: ns, _, r => by
    cases r with
    | cons r1 r2 =>
      obtain ⟨t, rfl⟩ := r1
      exact .cons (as := []) (.int _ _) (reads_ints r2)
theorem reads_key {q : Addr} {ns : List Int} (I : Inv X pins σ H s) (e : H q = some (.tup ((ik ns).map kV))) : Reads s.heap (.ref q) (.tuple (ns.map .int)) [] := by
  rw [ik_kV] at e
  obtain ⟨_, its, rv, o, ho, hc, n, hd⟩ := (show ObjOk X.prog X.w H s.heap q (.tup (ns.map V.int)) from I.hok q _ e)
  exact .tuple (as := []) ho hc hd (by simpa using reads_ints rv)
abbrev itD (b : List Int × V × PyData) : PyData := .tuple [.tuple (b.1.map .int), b.2.2]
theorem alike_it {a b : List Int × V × PyData} (h : W.alike a.2.2 b.2.2 = true) : W.alike (itD a) (itD b) = true := by
  have h1 : W.alike (.tuple (a.1.map .int)) (.tuple (b.1.map .int)) = true := by
    simp only [W.alike]
    exact W.alike_ints _ _
  simp only [itD, W.alike, W.alikeAll] at h1 ⊢
  rw [h1, h]
  rfl
theorem cr_sortIt (hc : X.calm = true) (hu : X.A.units + 64 < cLine) : CallR X (.builtin "sorted") (fun vs H Q => ∃ (p a : Addr) (bs : List (List Int × V × PyData)), vs = [.ref p] ∧ H p = some (DX.itemsO p a) ∧ Rd H a (.dT (bs.map fun b => (ik b.1, b.2.1))) ∧
    DpAll X.K H (bs.map (·.2.1)) (bs.map (·.2.2)) ∧ W.AllAlike (bs.map (·.2.2)) ∧ (∀ b ∈ bs, b.2.2.depth ≤ 40) ∧ PairsOut H ((bs.mergeSort (W.dataLe false itD)).map fun b => (b.1, b.2.1)) Q) := by
  intro pins s σ H xs us Q I r h
  obtain ⟨p, a, bs, rfl, hp, ha, hD, hal, hdp, q⟩ := h
  obtain rfl := Vals.ref1 r
  have view : s.heap.IsItemsView p a := (show ObjOk X.prog X.w H s.heap p (DX.itemsO p a) from I.hok p _ hp).1
  have e2 : (bs.map fun b => (ik b.1, b.2.1)) = (bs.map fun b => (b.1, b.2.1)).map fun b => (ik b.1, b.2) := by rw [List.map_map]; rfl
  rw [e2] at ha
  obtain ⟨z, hd, es, ep, raw, les, _, en⟩ := dt_entries I ha
  rw [List.length_map] at z les
  refine _root_.DT.sortedI (es := es) (ep := ep) (I.ok.hd hc) view raw (by omega) fun h' tk as hk hlt hl hG => ?_
  have nd : as.Nodup := List.Pairwise.imp (fun h => Nat.ne_of_lt h) hG.rise
  obtain ⟨ps, hps1, lps, hps2⟩ := pairs_list hG (by rw [List.length_map]; omega) en
  rw [List.length_map] at lps
  obtain ⟨zs, hzs⟩ : ∃ zs : List ((Addr × Addr × V) × (List Int × V × PyData)), zs = ps.zip bs := ⟨_, rfl⟩
  have hz1 : zs.map (·.1) = ps := by rw [hzs]; exact List.map_fst_zip (by omega)
  have hz2 : zs.map (·.2) = bs := by rw [hzs]; exact List.map_snd_zip (by omega)
  have lzs : zs.length = bs.length := by rw [← hz2, List.length_map]
  have idx : ∀ z ∈ zs, ∃ j : Nat, ps[j]? = some z.1 ∧ bs[j]? = some z.2 := fun z hm => by
    rw [hzs] at hm
    obtain ⟨j, hj⟩ := List.getElem?_of_mem hm
    exact ⟨j, List.getElem?_zip_eq_some.mp hj⟩
  have inf : ∀ z ∈ zs, z.1.2.2 = z.2.2.1 ∧ H z.1.2.1 = some (.tup ((ik z.2.1).map kV)) ∧ s.heap.objs.size < z.1.1 ∧ ∃ u, RelV z.2.2.1 u ∧ h'.get? z.1.1 = some { cls := .type "tuple", data := .seq #[.ref z.1.2.1, u] } := fun z hm => by
    obtain ⟨j, j1, j2⟩ := idx z hm
    exact hps2 j z.1 (z.2.1, z.2.2.1) j1 (by rw [List.getElem?_map, j2]; rfl)
  have hob : (h'.push { cls := .type "list", data := .seq (as.map Value.ref).toArray }).get? h'.objs.size = some (PyProof.Rows.seqObj "list" (as.map Value.ref).toArray 0) := Heap.get?_push_size _ rfl
  have kb : ∀ b o, h'.get? b = some o → (h'.push { cls := .type "list", data := .seq (as.map Value.ref).toArray }).get? b = some o := fun b o e => Heap.get?_push_of_some _ e
  have ne0 : ∀ b o, h'.get? b = some o → b ≠ h'.objs.size := fun b o e => Nat.ne_of_lt (Heap.lt_size e)
  generalize h'.push { cls := .type "list", data := .seq (as.map Value.ref).toArray } = h2 at hob kb ⊢
  have vas : as.map Value.ref = zs.map fun z => Value.ref z.1.1 := by
    rw [← hps1, ← hz1, List.map_map, List.map_map]
    rfl
  have each : ∀ {R : Value → (Addr × Addr × V) × (List Int × V × PyData) → Prop}, (∀ z ∈ zs, R (.ref z.1.1) z) → W.EachIs R (as.map Value.ref) zs := fun {R} h => by
    rw [vas]
    have : ∀ l : List ((Addr × Addr × V) × (List Int × V × PyData)), (∀ z ∈ l, R (.ref z.1.1) z) → W.EachIs R (l.map fun z => Value.ref z.1.1) l := fun l => by
      induction l with
      | nil => exact fun _ => .nil
      | cons x l ih => exact fun h => .cons (h x List.mem_cons_self) (ih fun z hz => h z (List.mem_cons_of_mem _ hz))
    exact this zs h
  have hDz : ∀ z ∈ zs, Dp X.K H z.2.2.1 z.2.2.2 := fun z hm => by
    have : ∀ l : List (List Int × V × PyData), DpAll X.K H (l.map (·.2.1)) (l.map (·.2.2)) → ∀ b ∈ l, Dp X.K H b.2.1 b.2.2 := fun l => by
      induction l with
      | nil => exact fun _ _ z => nomatch z
      | cons x l ih =>
        intro h b hb
        cases h with
        | cons h1 h2 =>
          rcases List.mem_cons.mp hb with rfl | hb
          · exact h1
          · exact ih h2 b hb
    exact this bs hD _ (by rw [← hz2]; exact List.mem_map_of_mem hm)
  have hself : ∀ z ∈ zs, W.alike z.2.2.2 z.2.2.2 = true := fun z hm => by
    have : z.2.2.2 ∈ bs.map (·.2.2) := by
      rw [← hz2, List.map_map]
      exact List.mem_map.mpr ⟨z, hm, rfl⟩
    exact hal _ this _ this
  refine list_sort_data2 (s := { s with heap := h2, toks := tk }) (R := fun v z => v = .ref z.1.1) (enc := fun z => itD z.2) (bs := zs) (n := 0) hob (each fun _ _ => rfl) (each fun z hm => ?_) ?_ ?_ (by omega) (fun z hm => ?_) fun out ho he => ?_
  · obtain ⟨i1, i2, i3, u, i4, i5⟩ := inf z hm
    obtain ⟨as', rd⟩ := Dp.reads I _ _ _ (hDz z hm) i4
    have rk := reads_key I i2
    have lt1 := reads_lt _ _ _ (hself z hm) rd
    have kS : ∀ b o, s.heap.get? b = some o → h2.get? b = some o := fun b o e => kb b o (hk b o e)
    refine ⟨[] ++ (as' ++ []), .tuple (kb _ _ i5) rfl rfl (.cons (PyProof.Rows.Reads.keeps kS rk) (.cons (PyProof.Rows.Reads.keeps kS rd) .nil)), fun hin => ?_⟩
    rw [List.nil_append, List.append_nil] at hin
    exact absurd (lt1 _ hin) (Nat.not_lt.mpr (Nat.le_of_lt hlt))
  · intro d hd d' hd'
    obtain ⟨x, hx, rfl⟩ := List.mem_map.mp hd
    obtain ⟨y, hy, rfl⟩ := List.mem_map.mp hd'
    refine alike_it (hal _ ?_ _ ?_)
    · rw [← hz2, List.map_map]
      exact List.mem_map.mpr ⟨x, hx, rfl⟩
    · rw [← hz2, List.map_map]
      exact List.mem_map.mpr ⟨y, hy, rfl⟩
  · exact .inl fun d hd => by
      obtain ⟨x, hx, rfl⟩ := List.mem_map.mp hd
      exact ⟨_, rfl⟩
  · have h1 := hdp z.2 (by rw [← hz2]; exact List.mem_map_of_mem hm)
    have h2 : (itD z.2).depth ≤ 42 := by
      simp only [itD, PyData.depth, PyData.depthAll, depthAll_ints]
      omega
    show X.A.in1.units + 1 + (itD z.2).depth < cLine
    have : X.A.in1.units = X.A.units + 1 := rfl
    omega
  · -- behind the sort
    obtain ⟨n, heF⟩ := PyProof.Rows.sortedHeap_at (vs := as.map Value.ref) (out := out.toArray) hob
    obtain ⟨ys, hys⟩ : ∃ ys, ys = zs.mergeSort (W.dataLe false fun z => itD z.2) := ⟨_, rfl⟩
    rw [← hys] at he
    have hp : ys.Perm zs := by rw [hys]; exact List.mergeSort_perm _ _
    have hout : out = (ys.map (·.1)).map fun p => Value.ref p.1 := by
      rw [List.map_map]
      exact each_eq he
    have kF : ∀ b o, h'.get? b = some o → (PyProof.Rows.sortedHeap h2 h'.objs.size (as.map Value.ref) out.toArray).get? b = some o := fun b o e => (PyProof.Rows.sortedHeap_old (ne0 b o e) (Heap.lt_size (kb b o e))).trans (kb b o e)
    have hmem : ∀ p ∈ ys.map (·.1), ∃ z ∈ zs, z.1 = p := fun p hm => by
      obtain ⟨z, hz, rfl⟩ := List.mem_map.mp hm
      exact ⟨z, hp.mem_iff.mp hz, rfl⟩
    obtain ⟨H2, I3, gr, hn0, hL, hT⟩ := pairs_laid (tk := tk) (ps := ys.map (·.1)) (hf := PyProof.Rows.sortedHeap h2 h'.objs.size (as.map Value.ref) out.toArray) (l := h'.objs.size) (n := n) I (fun b o e => kF b o (hk b o e)) (Nat.le_of_lt hlt)
      (by
        have h1 : ((ys.map (·.1)).map (·.1)).Perm as := by
          rw [← hps1, ← hz1]
          exact (hp.map _).map _
        exact h1.nodup_iff.mpr nd)
      (by rw [List.length_map, hp.length_eq]; omega)
      (fun p hm => by
        obtain ⟨z, hz, rfl⟩ := hmem p hm
        obtain ⟨i1, i2, i3, u, i4, i5⟩ := inf z hz
        exact ⟨Nat.le_of_lt i3, ne0 _ _ i5, u, by rw [i1]; exact i4, kF _ _ i5⟩)
      (by rw [← hout]; exact heF)
    refine ⟨.ref h'.objs.size, H2, I3, rfl, q H2 _ ((ys.map (·.1)).map fun p => (p.1, p.2.1)) gr hn0 ?_ (by rw [hL]; simp only [List.map_map, Function.comp_def]) fun i z b hz hb => ?_⟩
    · rw [List.length_map, List.length_map, List.length_map, List.length_mergeSort, hp.length_eq, lzs]
    · have s2 : ys.map (·.2) = bs.mergeSort (W.dataLe false itD) := by
        rw [hys, ← hz2]
        exact W.sort_maps _ fun x hx y hy => rfl
      rw [← s2, List.map_map, List.getElem?_map] at hb
      rw [List.map_map, List.getElem?_map] at hz
      cases hyi : ys[i]? with
      | none => rw [hyi] at hz; cases hz
      | some y =>
        rw [hyi] at hz hb
        cases hz
        cases hb
        have hy : y ∈ zs := hp.mem_iff.mp (List.mem_of_getElem? hyi)
        obtain ⟨i1, i2, i3, u, i4, i5⟩ := inf y hy
        have h1 := hT y.1 (List.mem_map_of_mem (List.mem_of_getElem? hyi))
        rw [i1] at h1
        exact ⟨h1, gr _ _ i2⟩
abbrev tupD (k : List Int) : PyData := .tuple (k.map .int)
theorem alike_tupD (a b : List Int) : W.alike (tupD a) (tupD b) = true := by
  simp only [tupD, W.alike]
  exact W.alike_ints _ _
end
end DL
set_option Elab.async false
set_option linter.all false
set_option maxRecDepth 100000
set_option maxHeartbeats 4000000
namespace DL
open PySem L2
abbrev dI (o : Bool) (kvs : List (List Int × Int)) : T := .node o (.dT (kvs.map fun p => ik p.1)) (kvs.map fun p => .leaf (.int p.2))
abbrev keyT (k : List Int) : T := .node false .tup (intsT k)
abbrev lineT (p : List Int × Int) : T := .node false .tup [keyT p.1, .leaf (.int p.2)]
abbrev leL (a b : List Int) : Bool := decide (a ≤ b)
abbrev leK (p q : List Int × Int) : Bool := decide (p.1 ≤ q.1)
theorem toks_inj : ∀ {a b : List Int}, W.keyToksAll (a.map .int) = W.keyToksAll (b.map .int) → a = b
  | [], [], _ => rfl
  | [], y :: b, h => by simp [W.keyToksAll] at h
  | x :: a, [], h => by simp [W.keyToksAll] at h
  | x :: a, y :: b, h => by
    simp only [List.map_cons, W.keyToksAll, W.keyToks, List.cons_append, List.nil_append, List.cons.injEq, Sum.inl.injEq, true_and] at h
    rw [h.1, toks_inj h.2]
theorem eqv_tupD {a b : List Int} : PyData.eqv (tupD a) (tupD b) = decide (a = b) := by
  by_cases h : a = b
  · subst h
    rw [decide_eq_true rfl]
    exact W.eqv_refl_alike _ (alike_tupD a a)
  · rw [decide_eq_false h]
    cases e : PyData.eqv (tupD a) (tupD b) with
    | false => rfl
    | true =>
      refine absurd (toks_inj ?_) h
      have := (W.toks_eqv _ _ (alike_tupD a b)).1 e
      simpa [tupD, W.keyToks] using this
theorem lt_tupD (a b : List Int) : W.dataLt (tupD a) (tupD b) = decide (a < b) := by
  rw [tupD, tupD, W.dataLt_tuple]
  exact W.dataLt_ints a b
theorem le_itD {a b : List Int × Int} (h : a.1 = b.1 → a = b) : leK a b = W.dataLe false itD (a.1, V.int a.2, PyData.int a.2) (b.1, V.int b.2, PyData.int b.2) := by
  rw [W.dataLe_eq]
  show decide (a.1 ≤ b.1) = !W.dataLt (.tuple [tupD b.1, .int b.2]) (.tuple [tupD a.1, .int a.2])
  rw [W.dataLt_pair (alike_tupD _ _) (by simp [W.alike]), eqv_tupD]
  by_cases e : b.1 = a.1
  · rw [decide_eq_true e, if_pos rfl]
    have := h e.symm
    subst this
    rw [if_pos (W.eqv_refl_alike _ (by simp [W.alike])), decide_eq_true (List.le_refl _)]
    rfl
  · rw [decide_eq_false e, if_neg (by simp), lt_tupD]
    by_cases hl : b.1 < a.1
    · rw [decide_eq_true hl, decide_eq_false (List.not_le.mpr hl)]
      rfl
    · rw [decide_eq_false hl, decide_eq_true (List.not_lt.mp hl)]
      rfl
section
variable {K : PySem.W.Frag} {B : Bs} {lim : List Addr} {σ : St} {H H2 : Hp} {g : Ev} {Φ : Its}
theorem RepG.addP {v : V} {t : T} (h : RepG K B lim σ H g Φ) (hp : ∀ F, OwnP K F H v t []) : RepG K B lim σ H g ((v, t) :: Φ) := by
  obtain ⟨F, zs, fp, en, oz, f, hl⟩ := h
  exact rep_items (ds := []) en (OwnZ.cons (fp := []) (hp F) oz) f hl List.perm_middle.symm
theorem RepG.listAt {l : Addr} {vs : List V} {ts : List T} (r : RepG K B lim σ H g Φ) (gr : ∀ b o, H b = some o → H2 b = some o) (hl : H l = none) (hL : H2 l = some (.lst vs)) (hlen : vs.length = ts.length)
    (hP : ∀ (H' : Hp), (∀ a xs, H2 a = some (.tup xs) → H' a = some (.tup xs)) → ∀ (i : Nat) (v : V) (t : T), vs[i]? = some v → ts[i]? = some t → ∀ F, OwnP K F H' v t []) :
    RepG K B lim σ H2 g ((.ref l, .node true .lst ts) :: Φ) := by
  obtain ⟨H', hH⟩ : ∃ H' : Hp, H' = fun b => if b = l then none else H2 b := ⟨_, rfl⟩
  have e0 : H' l = none := by rw [hH]; simp
  have e1 : ∀ a, a ≠ l → H' a = H2 a := fun a h => by rw [hH]; simp [h]
  have e2 : upd H' l (.lst vs) = H2 := by
    funext b
    by_cases hb : b = l
    · subst hb
      rw [upd_same, hL]
    · rw [upd_ne hb, e1 b hb]
  have r1 : RepG K B lim σ H' g Φ := r.grow fun a o e => by
    rw [e1 a (fun z => by rw [z, hl] at e; cases e)]
    exact gr a o e
  have hT : ∀ a xs, H2 a = some (.tup xs) → H' a = some (.tup xs) := fun a xs e => by
    rw [e1 a (fun z => by subst z; rw [hL] at e; cases e)]
    exact e
  have key : ∀ (vs : List V) (ts : List T), (∀ (i : Nat) (v : V) (t : T), vs[i]? = some v → ts[i]? = some t → ∀ F, OwnP K F H' v t []) → vs.length = ts.length → RepG K B lim σ H' g (vs.zip ts ++ Φ) := by
    intro vs
    induction vs with
    | nil => intro ts _ _; exact r1
    | cons v vs ih =>
      intro ts hp hl
      cases ts with
      | nil => simp at hl
      | cons t ts => exact (ih ts (fun i v t a b => hp (i + 1) v t (by simpa using a) (by simpa using b)) (by simpa using hl)).addP (hp 0 v t rfl rfl)
  have r2 := make_of .lst hlen (key vs ts (hP H' hT) hlen) e0
  have : upd H' l (Sh.lst.mk l vs) = H2 := e2
  rw [this] at r2
  exact r2
theorem ownP_key {F : Addr → Prop} {q : Addr} {k : List Int} (h : H q = some (.tup ((ik k).map kV))) : OwnP K F H (.ref q) (keyT k) [] := .tk h (by rw [ik_kV, intsT_eq]; exact ownL_leaves _)
theorem ownP_pair {F : Addr → Prop} {t q : Addr} {b : List Int × Int} (h1 : H t = some (.tup [.ref q, .int b.2])) (h2 : H q = some (.tup ((ik b.1).map kV))) : OwnP K F H (.ref t) (lineT b) [] :=
  .tk h1 (.cons (fp := []) (ownP_key h2) (.cons (fp := []) (.leaf _) .nil))
theorem RepG.dictI {x : V} {τ : T} {kvs : List (List Int × Int)} (r : RepG K B lim σ H g ((x, τ) :: Φ)) (e : frz τ = dI false kvs) :
    ∃ a, x = .ref a ∧ H a = some (.dT (kvs.map fun b => (ik b.1, V.int b.2))) ∧ RepG K B lim σ H g Φ := by
  have r1 := r.freezeT
  rw [e] at r1
  obtain ⟨a, us, rfl, hl, ha, r2⟩ := r1.kidsH (fun z => by cases z)
  have el : (kvs.map fun p => T.leaf (.int p.2)) = (kvs.map fun p => V.int p.2).map T.leaf := by rw [List.map_map]; rfl
  rw [el] at hl r2
  obtain rfl := RepG.leaves hl r2
  refine ⟨a, rfl, ?_, r.dropT⟩
  rw [ha]
  show some (HO.dT ((kvs.map fun p => ik p.1).zip (kvs.map fun p => V.int p.2))) = _
  rw [zip_maps]
end
section
variable {X : Cx} {W : WX} {e : Expr} {td : DTE} {p pos apos cpos : Pos}
theorem dp_ints {K : PySem.W.Frag} {H : Hp} : ∀ {β : Type} (f : β → Int) (bs : List β), DpAll K H (bs.map fun b => V.int (f b)) (bs.map fun b => PyData.int (f b))
  | _, _, [] => .nil
  | _, f, b :: bs => .cons (.int _) (dp_ints f bs)
def xSortIt (td : DTE) : DTE := fun g Q E => td g (fun τ g1 => ∃ kvs, frz τ = dI false kvs ∧ (kvs.map (·.1)).Nodup ∧ Q (.node true .lst ((kvs.mergeSort leK).map lineT)) g1) E
theorem d_sortIt (hc : X.calm = true) (hu : X.A.units + 64 < cLine) (hg : Gl X "sorted") (hm : X.mg "sorted" = none) (he : DE X W e td) (hbase : attributeBase e "items" X.env (eval e X.env) = eval e X.env := by rfl) (hline : (apos.endLine == cpos.line) = true := by rfl)
    (hs : starEach [.Call (.Attribute e "items" apos) [] [] cpos] X.env = (false, eval (.Call (.Attribute e "items" apos) [] [] cpos) X.env) :: starEach [] X.env := by rfl) :
    DE X W (.Call (.Name "sorted" p) [.Call (.Attribute e "items" apos) [] [] cpos] [] pos) (xSortIt td) := by
  refine ⟨fun B => PE.imp (pe_callB (cr_sortIt hc hu) hg hm (by decide +kernel) (pa_cons (pe_bm0 PySem.F.plainAttrs_dict PySem.F.slot_dict_items PySem.F.type_dict_items DX.mt_itemsT (he.run B) hbase hline) pa_nil hs)) fun σ H Q ⟨Φ, lim, g, E, r, hx, q⟩ => ?_, fun g Q Q' E E' hq hE q => he.mono _ _ _ _ _ (fun τ g1 ⟨k, e, n, z⟩ => ⟨k, e, n, hq _ _ z⟩) hE q⟩
  refine ⟨Φ, lim, g, E, r, hx, he.mono _ _ _ _ _ (fun τ g1 ⟨kvs, e1, nd, q1⟩ x H1 r1 => ?_) (fun _ _ _ z => z) q⟩
  obtain ⟨a, rfl, ha, r2⟩ := r1.dictI e1
  refine ⟨.inr (.inr (.inl ⟨rfl, .inr ⟨_, ha⟩⟩)), a, _, rfl, rfl, ha, fun pv hp => ?_⟩
  have hpa : a ≠ pv := ne_of_none ha hp
  have inj : ∀ x ∈ kvs, ∀ y ∈ kvs, x.1 = y.1 → x = y := fun x hx y hy hxy => by
    obtain ⟨i, hi⟩ := List.getElem?_of_mem hx
    obtain ⟨j, hj⟩ := List.getElem?_of_mem hy
    have h1 : (kvs.map (·.1))[i]? = some x.1 := by rw [List.getElem?_map, hi]; rfl
    have h2 : (kvs.map (·.1))[j]? = some x.1 := by rw [List.getElem?_map, hj]; exact congrArg some hxy.symm
    have hij : i = j := (List.getElem?_inj (List.getElem?_eq_some_iff.mp h1).1 nd).mp (h1.trans h2.symm)
    subst hij
    rw [hi] at hj
    exact Option.some.inj hj
  have ha2 : upd H1 pv (DX.itemsO pv a) a = some (.dT (kvs.map fun b => (ik b.1, V.int b.2))) := by rw [upd_ne hpa]; exact ha
  refine ⟨pv, a, kvs.map fun b => (b.1, V.int b.2, PyData.int b.2), rfl, upd_same, .inl (by rw [ha2, List.map_map]; rfl), ?_, ?_, fun b hb => ?_, fun H2 l ps gr hl hlen hL hP => q1 _ _ ?_⟩
  · rw [List.map_map, List.map_map]
    exact dp_ints (fun b : List Int × Int => b.2) kvs
  · intro d hd d' hd'
    rw [List.map_map] at hd hd'
    obtain ⟨x, _, rfl⟩ := List.mem_map.mp hd
    obtain ⟨y, _, rfl⟩ := List.mem_map.mp hd'
    simp [PySem.W.alike]
  · obtain ⟨x, _, rfl⟩ := List.mem_map.mp hb
    simp [PyData.depth]
  · have es : ((kvs.map fun b => (b.1, V.int b.2, PyData.int b.2)).mergeSort (PySem.W.dataLe false itD)) = (kvs.mergeSort leK).map fun b => (b.1, V.int b.2, PyData.int b.2) :=
      (PySem.W.sort_maps (r := leK) (s := PySem.W.dataLe false itD) (fun b : List Int × Int => (b.1, V.int b.2, PyData.int b.2)) (l := kvs) fun x hx y hy => le_itD (inj x hx y hy)).symm
    rw [es, List.map_map] at hlen hP
    have r3 : RepG X.K B lim σ (upd H1 pv (DX.itemsO pv a)) g1 Φ := r2.grow fun b o e => by rw [upd_ne (ne_of_none e hp)]; exact e
    refine r3.listAt gr hl hL (by rw [List.length_map, List.length_map, hlen, List.length_map]) fun H' hT i v t hv ht F => ?_
    rw [List.getElem?_map] at hv ht
    cases hz : ps[i]? with
    | none => rw [hz] at hv; cases hv
    | some z =>
      cases hb : (kvs.mergeSort leK)[i]? with
      | none => rw [hb] at ht; cases ht
      | some b =>
        rw [hz] at hv
        rw [hb] at ht
        cases hv
        cases ht
        obtain ⟨h1, h2⟩ := hP i z (b.1, V.int b.2) hz (by rw [List.getElem?_map, hb]; rfl)
        exact ownP_pair (hT _ _ h1) (hT _ _ h2)
end
end DL
set_option Elab.async false
set_option linter.all false
set_option maxRecDepth 100000
set_option maxHeartbeats 4000000
namespace DL
open PySem L2
theorem du1 {a b : Nat} (h : a + 64 < b) : a + 1 < b := by omega
section
variable {X : Cx} {W : WX} {e : Expr} {te : DTE} {pos : Pos}
def xExt (i : Nat) (te : DTE) : DTE := fun g Q E => atSlot i g fun t0 => ownL t0 fun _ => te g (fun τ g1 => ∃ us, frz τ = .node false .lst us ∧ atSlot i g1 fun t1 => ownL t1 fun ts => ts.length + us.length ≤ sizeLine ∧ Q (.leaf .non) (g1.set i (some (.node true .lst (ts ++ us))))) E
theorem d_ext {o : Expr} {apos cpos : Pos} (i : Nat) (ho : PE X o (tVar i)) (he : DE X W e te) (hbase : attributeBase o "extend" X.env (eval o X.env) = eval o X.env := by rfl)
    (hfew : ((backTo cpos (starEach [e] X.env)).all (fun x => !x.1) && (backToKw cpos (keywordEach [] X.env)).all (fun x => x.1.isSome) && decide ([e].length + ([] : List Keyword).length + (if ([] : List Keyword).isEmpty then 0 else 1) < 30)) = true := by rfl)
    (hline : (apos.endLine == cpos.line) = true := by rfl) (hs : starEach [e] X.env = (false, eval e X.env) :: starEach [] X.env := by rfl) (hplain : (backTo cpos (starEach [] X.env)).any (·.1) = false := by rfl) : DE X W (.Call (.Attribute o "extend" apos) [e] [] cpos) (xExt i te) := by
  refine ⟨fun B => PE.imp (pe_bm PySem.F.plainAttrs_list PySem.F.slot_list_extend PySem.F.type_list_extend mt_extend ho (pa_cons (he.run B) pa_nil hs) hbase hfew hline hs hplain) fun σ H Q ⟨Φ, lim, g, E, r, hx, q⟩ => ?_, fun g Q Q' E E' hq hE q => ?_⟩
  · obtain ⟨t0, h0, q⟩ := atSlot_of q
    obtain ⟨ts0, rfl, q⟩ := ownL_of q
    obtain ⟨ad, us, hv, hl, hH, _⟩ := r.renew (s' := .lst) h0
    refine ⟨.ref ad, hv, .inl ⟨rfl, us, SqL.of hH⟩, Φ, lim, g, E, r, hx, he.mono _ _ _ _ _ (fun τ g1 ⟨ws, ew, q1⟩ w H1 r1 => ?_) (fun _ _ _ z => z) q⟩
    obtain ⟨t1, h1, q1⟩ := atSlot_of q1
    obtain ⟨ts, rfl, hlt, q1⟩ := ownL_of q1
    have r2 := r1.freezeT
    rw [ew] at r2
    obtain ⟨b, vs, rfl, hlv, hb, r3⟩ := r2.kidsH (fun z => by cases z)
    have r4 : RepG X.K B lim σ H1 g1 (vs.zip ws ++ Φ) := (r3.perm List.perm_middle).dropT
    obtain ⟨ad2, us2, hv2, hl2, hH2, k⟩ := r4.renew (s' := .lst) h1
    rw [hv] at hv2
    cases hv2
    refine ⟨ad, b, us2, vs, rfl, rfl, hH2, hb, by omega, ?_⟩
    have e1 : ((us2.zip ts ++ vs.zip ws).map (·.1)) = us2 ++ vs := by
      rw [List.map_append, List.map_fst_zip (by omega), List.map_fst_zip (by omega)]
    have e2 : ((us2.zip ts ++ vs.zip ws).map (·.2)) = ts ++ ws := by
      rw [List.map_append, List.map_snd_zip (by omega), List.map_snd_zip (by omega)]
    have r5 := k (us2.zip ts ++ vs.zip ws) Φ (by rw [List.append_assoc])
    rw [e1, e2] at r5
    exact q1 _ _ r5.addLeaf
  · exact atSlot_mono (fun t0 q => ownL_mono (fun _ q => he.mono _ _ _ _ _ (fun τ g1 ⟨us, e, q1⟩ => ⟨us, e, atSlot_mono (fun t1 q2 => ownL_mono (fun ts q3 => ⟨q3.1, hq _ _ q3.2⟩) q2) q1⟩) hE q) q) q
end
end DL
set_option Elab.async false
set_option linter.all false
set_option maxRecDepth 100000
set_option maxHeartbeats 4000000
namespace DL
end DL
set_option Elab.async false
set_option linter.all false
set_option maxRecDepth 100000
set_option maxHeartbeats 4000000
namespace DL
open PySem L2
def Fits : List (Option (Option T)) → Ev → Prop
  | [], g => g = []
  | some x :: ps, g => ∃ r, g = x :: r ∧ Fits ps r
  | none :: ps, g => ∃ y r, g = y :: r ∧ Fits ps r
theorem Fits.e : Fits [] [] := rfl
theorem Fits.s {x y : Option T} {ps : List (Option (Option T))} {r : Ev} (e : y = x) (h : Fits ps r) : Fits (some x :: ps) (y :: r) := ⟨r, by rw [e], h⟩
theorem Fits.n {y : Option T} {ps : List (Option (Option T))} {r : Ev} (h : Fits ps r) : Fits (none :: ps) (y :: r) := ⟨y, r, rfl, h⟩
theorem Loop.fit {gt : DTG} {body : DTS} {D : DEnds} {ts : List T} {g : Ev} {α β : Type} (xs : List β) (enc : β → T) (e : ts = xs.map enc) (st : α → List (Option (Option T))) (I : Nat → α → Prop) (a0 : α) (h0 : I 0 a0) (e0 : Fits (st a0) g)
    (hs : ∀ (i : Nat) (x : β) (a : α) (g : Ev), xs[i]? = some x → I i a → Fits (st a) g → ∀ R : Ev → Prop, (∀ a' g', I (i + 1) a' → Fits (st a') g' → R g') → gt (enc x) g fun g1 => body (lpE R D) g1)
    (he : ∀ a g, I xs.length a → Fits (st a) g → D.nx g) : Loop gt body D ts g := by
  subst e
  refine Loop.ind (fun i g => ∃ a, I i a ∧ Fits (st a) g) ⟨a0, h0, e0⟩ (fun i t g ht ⟨a, hI, hF⟩ R hR => ?_) fun g ⟨a, hI, hF⟩ => he a g (by rw [List.length_map] at hI; exact hI) hF
  rw [List.getElem?_map] at ht
  cases hx : xs[i]? with
  | none => rw [hx] at ht; cases ht
  | some x =>
    rw [hx] at ht
    cases ht
    exact hs i x a g hx hI hF R fun a' g' h1 h2 => hR g' ⟨a', h1, h2⟩
theorem Loop.rg {gt : DTG} {body : DTS} {D : DEnds} {g : Ev} {α : Type} {lo : Int} {n : Nat} (st : α → List (Option (Option T))) (I : Nat → α → Prop) (a0 : α) (h0 : I 0 a0) (e0 : Fits (st a0) g)
    (hs : ∀ (i : Nat) (a : α) (g : Ev), i < n → I i a → Fits (st a) g → ∀ R : Ev → Prop, (∀ a' g', I (i + 1) a' → Fits (st a') g' → R g') → gt (.leaf (.int (lo + (i : Nat)))) g fun g1 => body (lpE R D) g1)
    (he : ∀ a g, I n a → Fits (st a) g → D.nx g) : Loop gt body D (rangeT lo n) g := by
  refine Loop.fit (List.range n) (fun k => .leaf (.int (lo + (k : Nat)))) rfl st I a0 h0 e0 (fun i x a g hx hI hF R hR => ?_) fun a g hI hF => he a g (by rw [List.length_range] at hI; exact hI) hF
  have hlt : i < n := by
    have := (List.getElem?_eq_some_iff.mp hx).1
    rwa [List.length_range] at this
  rw [List.getElem?_range hlt] at hx
  cases hx
  exact hs i a g hlt hI hF R hR
theorem Lc.fit {gt : DTG} {tt : DTT} {te : DTE} {vs : List Nat} {ts : List T} {g : Ev} {R : List T → Ev → Prop} {α β : Type} (xs : List β) (enc : β → T) (e : ts = xs.map enc) (st : α → List (Option (Option T))) (I : Nat → α → List T → Prop) (a0 : α) (h0 : I 0 a0 []) (e0 : Fits (st a0) g)
    (hs : ∀ (i : Nat) (x : β) (a : α) (g : Ev) (acc : List T), xs[i]? = some x → I i a acc → Fits (st a) g → ∀ R' : Ev → List T → Prop, (∀ a' g' acc', I (i + 1) a' acc' → Fits (st a') g' → R' g' acc') →
      gt (enc x) g fun g1 => tt g1 (fun b g2 => ifB b (te g2 (fun τ g3 => acc.length < sizeLine ∧ R' (wipeE g3 vs) (acc ++ [τ])) noX) (R' (wipeE g2 vs) acc)) noX)
    (he : ∀ a g acc, I xs.length a acc → Fits (st a) g → R acc g) : Lc gt tt te vs ts g [] R := by
  subst e
  refine Lc.ind (fun i g acc => ∃ a, I i a acc ∧ Fits (st a) g) ⟨a0, h0, e0⟩ (fun i t g acc ht ⟨a, hI, hF⟩ R' hR => ?_) fun g acc ⟨a, hI, hF⟩ => he a g acc (by rw [List.length_map] at hI; exact hI) hF
  rw [List.getElem?_map] at ht
  cases hx : xs[i]? with
  | none => rw [hx] at ht; cases ht
  | some x =>
    rw [hx] at ht
    cases ht
    exact hs i x a g acc hx hI hF R' fun a' g' acc' h1 h2 => hR g' acc' ⟨a', h1, h2⟩
theorem Lc.fx {gt : DTG} {tt : DTT} {te : DTE} {vs : List Nat} {ts : List T} {g : Ev} {R : List T → Ev → Prop} {β : Type} (xs : List β) (enc : β → T) (e : ts = xs.map enc) (F : β → Option T) (hl : xs.length ≤ sizeLine)
    (hs : ∀ x ∈ xs, ∀ (acc : List T) (R' : Ev → List T → Prop), acc.length < sizeLine → (∀ τ, F x = some τ → R' g (acc ++ [τ])) → (F x = none → R' g acc) →
      gt (enc x) g fun g1 => tt g1 (fun b g2 => ifB b (te g2 (fun τ g3 => acc.length < sizeLine ∧ R' (wipeE g3 vs) (acc ++ [τ])) noX) (R' (wipeE g2 vs) acc)) noX)
    (he : R (xs.filterMap F) g) : Lc gt tt te vs ts g [] R := by
  subst e
  refine Lc.ind (fun i g' acc => g' = g ∧ acc = (xs.take i).filterMap F ∧ i ≤ xs.length) ⟨rfl, by simp, Nat.zero_le _⟩ (fun i t g' acc ht h R' hR => ?_) fun g' acc h => ?_
  · obtain ⟨rfl, rfl, hi⟩ := h
    rw [List.getElem?_map] at ht
    cases hx : xs[i]? with
    | none => rw [hx] at ht; cases ht
    | some x =>
      rw [hx] at ht
      cases ht
      have hlt : i < xs.length := (List.getElem?_eq_some_iff.mp hx).1
      have e1 : xs.take (i + 1) = xs.take i ++ [x] := by
        rw [List.take_add_one, hx]
        rfl
      refine hs x (List.mem_of_getElem? hx) _ R' ?_ (fun τ hτ => hR _ _ ⟨rfl, ?_, hlt⟩) (fun hn => hR _ _ ⟨rfl, ?_, hlt⟩)
      · have h1 := List.length_filterMap_le F (xs.take i)
        rw [List.length_take] at h1
        omega
      · rw [e1, List.filterMap_append]
        simp [hτ]
      · rw [e1, List.filterMap_append]
        simp [hn]
  · obtain ⟨rfl, rfl, _⟩ := h
    rw [List.length_map, List.take_length]
    exact he
theorem eqv_intsL (a b : List Int) : PyData.eqv (.list (a.map .int)) (.list (b.map .int)) = decide (a = b) := by
  have al : W.alike (.list (a.map .int)) (.list (b.map .int)) = true := by
    simp only [W.alike]
    exact W.alike_ints _ _
  by_cases h : a = b
  · subst h
    rw [decide_eq_true rfl]
    exact W.eqv_refl_alike _ al
  · rw [decide_eq_false h]
    cases e : PyData.eqv (.list (a.map .int)) (.list (b.map .int)) with
    | false => rfl
    | true =>
      refine absurd (toks_inj ?_) h
      have := (W.toks_eqv _ _ al).1 e
      simpa [W.keyToks] using this
theorem toP_tints (o : Bool) (ns : List Int) : toP (.node o .tup (intsT ns)) = some (.tuple (ns.map .int)) := by
  simp only [toP, toPL_ints]
  rfl
theorem toP_lints (o : Bool) (ns : List Int) : toP (.node o .lst (intsT ns)) = some (.list (ns.map .int)) := by
  simp only [toP, toPL_ints]
  rfl
theorem good_tints {ns : List Int} (h : ∀ n ∈ ns, n.natAbs < 2 ^ 1800) (hl : ns.length ≤ 7000) : GoodD (.tuple (ns.map .int)) := ⟨by simpa [smallD] using smallL_ints h, by simp [PyData.depth, depthAll_ints], by simp [szD, szL_ints]; omega⟩
theorem rtEq_l {neg o p : Bool} {a b : List Int} {Q : T → Prop} (ha : GoodD (.list (a.map .int))) (hb : GoodD (.list (b.map .int))) (q : Q (.leaf (.bl (if neg then !decide (a = b) else decide (a = b))))) : rtEq neg (.node o .lst (intsT a)) (.node p .lst (intsT b)) Q := by
  refine ⟨_, _, toP_lints o a, toP_lints p b, ha.shaped, hb.shaped, ?_⟩
  rw [eqv_intsL]
  exact q
theorem pure_ints' (ns : List Int) : pureT (.node true .tup (intsT ns)) = true := by
  show (true && pureL (intsT ns)) = true
  induction ns with
  | nil => rfl
  | cons n ns ih =>
    simp only [intsT, List.map_cons, pureL, pureT, Bool.true_and] at ih ⊢
    exact ih
theorem small62 {i : Int} (h : i.natAbs < 2 ^ 62) : i.natAbs < 2 ^ 1800 := small_of_abs (Nat.lt_of_lt_of_le h (by decide))
end DL
set_option Elab.async false
set_option linter.all false
set_option maxRecDepth 100000
set_option maxHeartbeats 4000000
namespace DL
open PySem L2
section
variable {K : PySem.W.Frag} {B : Bs} {lim : List Addr} {σ : St} {H : Hp} {g : Ev} {Φ : Its}
theorem RepG.limNd (h : RepG K B lim σ H g Φ) : lim.Nodup := by
  obtain ⟨F, zs, fp, en, o, f, hl⟩ := h
  exact f.nd.sublist (List.sublist_append_left _ _)
end
section
variable {X : Cx}
theorem call_divmodS : CallR X (.builtin "divmod") (fun xs H Q => ∃ i j, xs = [.int i, .int j] ∧ CDivS i j ∧ ∀ p, H p = none → Q (.ref p) (upd H p (.tup [.int (i.fdiv j), .int (i.fmod j)]))) := by
  intro pins s σ H xs us Q I r h
  obtain ⟨i, j, rfl, ⟨h1, h2⟩, q⟩ := h
  obtain ⟨u, w', rfl, ⟨t, rfl⟩, ⟨t', rfl⟩⟩ := vals2 r
  refine PyProof.Rows.divmod_int h1 ?_ (.inl (PyProof.noPylong_of_log2 h2))
  have hn : H s.heap.objs.size = none := I.hok.fresh (Nat.le_refl _)
  refine ⟨.ref s.heap.objs.size, _, ?_, rfl, q _ hn⟩
  refine I.laid (fun b o e => Heap.get?_push_of_some _ e) (Nat.le_refl _) ⟨by simp only [List.length_cons, List.length_nil]; rw [sizeLine_eq]; decide, [.int (i.fdiv j) s.toks, .int (i.fmod j) (s.toks + 1)], .cons ⟨_, rfl⟩ (.cons ⟨_, rfl⟩ .nil), ?_⟩
  exact ⟨_, Heap.get?_push_size s.heap rfl, rfl, 0, rfl⟩
def rnDivmodS : RNT := fun τs Q => match τs with
  | [.leaf (.int i), .leaf (.int j)] => CDivS i j ∧ Q (.node true .tup [.leaf (.int (i.fdiv j)), .leaf (.int (i.fmod j))])
  | _ => False
theorem n_divmodS : CallN X (.builtin "divmod") (fun xs H Q => ∃ i j, xs = [.int i, .int j] ∧ CDivS i j ∧ ∀ p, H p = none → Q (.ref p) (upd H p (.tup [.int (i.fdiv j), .int (i.fmod j)]))) rnDivmodS := by
  refine ⟨call_divmodS, fun B lim σ H g Φ vs τs Q hl r q => ?_, fun τs Q Q' h q => ?_⟩
  · unfold rnDivmodS at q
    split at q
    · obtain ⟨rfl, r'⟩ := two_leaf hl r
      exact ⟨_, _, rfl, q.1, fun p hp => q.2 _ _ (make_pair r'.addLeaf.addLeaf hp)⟩
    · exact q.elim
  · unfold rnDivmodS at q
    split at q
    · exact ⟨q.1, h _ q.2⟩
    · exact q.elim
end
end DL
set_option Elab.async false
set_option linter.all false
set_option maxRecDepth 100000
set_option maxHeartbeats 4000000
namespace DL
open PySem L2
end DL
set_option Elab.async false
set_option linter.all false
set_option maxRecDepth 100000
set_option maxHeartbeats 4000000
namespace DL
open PySem L2
end DL
set_option Elab.async false
set_option linter.all false
set_option maxRecDepth 100000
set_option maxHeartbeats 4000000
namespace DL
open PySem L2
def rtSlA : T → Option Int → Option Int → (T → Prop) → Prop := fun τ lo hi Q => match τ with
  | .node _ .lst ts => Q (.node true .lst (cutA (frzL ts) lo hi))
  | .node _ .tup ts => Q (.node false .tup (cutA (frzL ts) lo hi))
  | .pin .lst vs => Q (.node true .lst ((cutA vs lo hi).map .leaf))
  | .leaf (.str z) => z.length ≤ sizeLine ∧ Q (.leaf (.str (cutS z lo hi)))
  | _ => False
theorem rtSlA_mono {τ : T} {lo hi : Option Int} {Q Q' : T → Prop} (h : ∀ τ, Q τ → Q' τ) (q : rtSlA τ lo hi Q) : rtSlA τ lo hi Q' := by
  unfold rtSlA at q ⊢
  split at q
  · exact h _ q
  · exact h _ q
  · exact h _ q
  · exact ⟨q.1, h _ q.2⟩
  · exact q.elim
def xSlA (te : DTE) (tl th : DTO) : DTE := fun g Q E => te g (fun τ g1 => tl g1 (fun l g2 => th g2 (fun u g3 => rtSlA τ l u fun τ' => Q τ' g3) E) E) E
section
variable {X : Cx} {W : WX} {e : Expr} {lo hi : Option Expr} {te : DTE} {tl th : DTO} {pos p2 : Pos}
theorem cutA_frz (ts : List T) (lo hi : Option Int) : frzL (cutA (frzL ts) lo hi) = cutA (frzL ts) lo hi := by
  unfold cutA
  rw [frzL_map, List.map_take, List.map_drop, ← frzL_map, frzL_frzL]
theorem d_sliceA (he : DE X W e te) (hl : DO X W lo tl) (hu : DO X W hi th) : DE X W (.Subscript e (.Slice lo hi none p2) pos) (xSlA te tl th) := by
  refine ⟨fun B => PE.imp (pe_slice ((SlR.or (sl_list (X := X)) (sl_tupA (X := X))).or sl_str) (he.run B) (hl.run B) (hu.run B)) fun σ H Q ⟨Φ, lim, g, E, r, hx, q⟩ => ?_, fun g Q Q' E E' hq hE q => he.mono _ _ _ _ _ (fun τ g1 q1 => hl.mono _ _ _ _ _ (fun l g2 q2 => hu.mono _ _ _ _ _ (fun u g3 q3 => rtSlA_mono (fun τ z => hq _ _ z) q3) hE q2) hE q1) hE q⟩
  refine ⟨Φ, lim, g, E, r, hx, he.mono _ _ _ _ _ (fun τ g1 q1 v H1 r1 => ?_) (fun _ _ _ z => z) q⟩
  refine ⟨(v, τ) :: Φ, lim, g1, E, r1, hx, hl.mono _ _ _ _ _ (fun l g2 q2 H2 r2 => ?_) (fun _ _ _ z => z) q1⟩
  refine ⟨(v, τ) :: Φ, lim, g2, E, r2, hx, hu.mono _ _ _ _ _ (fun u g3 q3 H3 r3 => ?_) (fun _ _ _ z => z) q2⟩
  unfold rtSlA at q3
  split at q3
  · rename_i o ts
    obtain ⟨ad, us, rfl, hlen, hr, r4⟩ := r3.parts
    refine .inl (.inl ⟨ad, us, rfl, seqL hr, fun q hq => q3 _ _ ?_⟩)
    exact make_cut .lst (ts := frzL ts) (by rw [hlen, frzL_length]) ((r4.perm (List.perm_append_comm (l₁ := us.zip (frzL ts)) (l₂ := (V.ref ad, T.node false .lst (frzL ts)) :: Φ))).dropT.perm List.perm_append_comm) hq
  · rename_i o ts
    obtain ⟨ad, us, rfl, hlen, hr, r4⟩ := r3.parts
    have hlu : us.length = (frzL ts).length := by rw [hlen, frzL_length]
    refine .inl (.inr ⟨ad, us, rfl, seqT hr, fun hw => q3 _ _ ?_, fun hw q hq => q3 _ _ ?_⟩)
    · have e1 : cutA (frzL ts) l u = frzL ts := by
        unfold cutA
        rw [← hlu, hw.1, hw.2, List.drop_zero, Nat.sub_zero, hlu, List.take_length]
      rw [e1]
      exact (r4.perm (List.perm_middle)).one (i := 0) (zs := (V.ref ad, T.node false .tup (frzL ts)) :: us.zip (frzL ts)) rfl
    · have r5 := make_cut .tup (ts := frzL ts) (lo := l) (hi := u) (by rw [hlen, frzL_length]) ((r4.perm (List.perm_append_comm (l₁ := us.zip (frzL ts)) (l₂ := (V.ref ad, T.node false .tup (frzL ts)) :: Φ))).dropT.perm List.perm_append_comm) hq
      have r6 := r5.freezeT
      rw [frz_node, cutA_frz] at r6
      exact r6
  · rename_i vs
    obtain ⟨ad, rfl, hr⟩ := r3.pinAt
    refine .inl (.inl ⟨ad, vs, rfl, seqL hr, fun q hq => q3 _ _ ?_⟩)
    exact make_of .lst (by simp) (leavesR r3.dropT (cutV vs l u)) hq
  · rename_i z
    obtain rfl := r3.leaf
    exact .inr ⟨z, rfl, q3.1, q3.2 _ _ r3.dropT.addLeaf⟩
  · exact q3.elim
end
end DL
set_option Elab.async false
set_option linter.all false
set_option maxRecDepth 100000
set_option maxHeartbeats 4000000
namespace DL
open PySem L2
section
variable {K : PySem.W.Frag} {B : Bs} {lim : List Addr} {σ : St} {H : Hp} {g : Ev} {Φ : Its}
theorem RepG.rebase (r : RepG K B lim σ H g Φ) : ∃ B', RepG K B' [] σ H g Φ ∧ ∀ σ1 H1 g1 Ψ, RepG K B' [] σ1 H1 g1 Ψ → RepG K B lim σ1 H1 g1 Ψ ∧ ∀ a ∈ lim, H1 a = H a := by
  obtain ⟨F, zs, fp, en, o, f, hl⟩ := r
  have trk : ∀ a ∈ fp, H a ≠ none := fun a ha => o.tracked a ha
  have ndl := (List.nodup_append.mp f.nd)
  refine ⟨⟨H, F, fp⟩, ⟨F, zs, fp, en, o, ⟨ndl.2.1, fun a z => f.off a (List.mem_append_right _ z), f.trk, fun _ z => z, fun _ _ e _ => e, fun _ z => .inl z, fun _ z => .inl z, fun _ _ e => e⟩, fun _ z => nomatch z⟩, fun σ1 H1 g1 Ψ r1 => ?_⟩
  obtain ⟨F1, zs1, fp1, en1, o1, f1, _⟩ := r1
  rw [List.nil_append] at f1
  have notfp : ∀ a ∈ lim, a ∉ fp := fun a ha hb => ndl.2.2 a ha a hb rfl
  have same : ∀ a ∈ lim, H1 a = H a := fun a ha => by
    cases q : H a with
    | none => exact absurd q (hl a ha)
    | some u => exact f1.keep a u q (notfp a ha)
  have b0 : ∀ a, H a = none → a ∈ B.fp0 ∨ B.H0 a = none := fun a ha => by
    by_cases hb : a ∈ B.fp0
    · exact .inl hb
    · refine .inr ?_
      cases q : B.H0 a with
      | none => rfl
      | some u => rw [f.keep a u q hb] at ha; cases ha
  refine ⟨⟨F1, zs1, fp1, en1, o1, ⟨?_, fun a z => ?_, f1.trk, fun a z => f1.inc a (f.inc a z), fun a u e n => ?_, fun a z => ?_, fun a z => ?_, fun a vs e => f1.keepT a vs (f.keepT a vs e)⟩, fun a ha => by rw [same a ha]; exact hl a ha⟩, same⟩
  · refine List.nodup_append.mpr ⟨ndl.1, f1.nd, fun a ha b hb e => ?_⟩
    subst e
    rcases f1.newO a hb with z | z
    · exact notfp a ha z
    · exact hl a ha z
  · rcases List.mem_append.mp z with z | z
    · intro q
      rcases f1.newF a q with y | y | y
      · exact f.off a (List.mem_append_left _ z) y
      · exact notfp a z y
      · exact hl a z y
    · exact f1.off a z
  · have e1 := f.keep a u e n
    refine f1.keep a u e1 fun z => ?_
    rcases f.newO a (List.mem_append_right _ z) with y | y
    · exact n y
    · rw [e] at y; cases y
  · rcases f1.newF a z with y | y | y
    · exact f.newF a y
    · rcases f.newO a (List.mem_append_right _ y) with q | q
      · exact .inr (.inl q)
      · exact .inr (.inr q)
    · exact .inr (b0 a y)
  · rcases List.mem_append.mp z with z | z
    · exact f.newO a (List.mem_append_left _ z)
    · rcases f1.newO a z with y | y
      · exact f.newO a (List.mem_append_right _ y)
      · exact b0 a y
end
abbrev endO (v i : Nat) (ts : List T) (R : List T → Ev → Prop) (D : DEnds) : DEnds :=
  { nx := fun g' => atSlot v g' fun t' => R (ts.set i t') (g'.set v none), ct := fun g' => atSlot v g' fun t' => R (ts.set i t') (g'.set v none), bk := fun _ => False, rt := D.rt, ex := D.ex }
def loopO (d v : Nat) (tb : DTS) (D : DEnds) : Nat → List T → Ev → Prop
  | 0, ts, g => D.nx (g.set d (some (.node true .lst ts)))
  | k + 1, ts, g => ∃ t, ts[ts.length - (k + 1)]? = some t ∧ tb (endO v (ts.length - (k + 1)) ts (loopO d v tb D k) D) (g.set v (some t))
inductive LoopO (d v : Nat) (tb : DTS) (D : DEnds) (ts : List T) (g : Ev) : Prop where
  | mk (h : loopO d v tb D ts.length ts g) : LoopO d v tb D ts g
theorem LoopO.out {d v : Nat} {tb : DTS} {D : DEnds} {ts : List T} {g : Ev} : LoopO d v tb D ts g → loopO d v tb D ts.length ts g
  | ⟨h⟩ => h
def sForO (d v : Nat) (tb : DTS) : DTS := fun D g => atSlot d g fun t0 => ownL t0 fun ts => LoopO d v tb D ts (g.set d none)
theorem LoopO.ind {d v : Nat} {tb : DTS} {D : DEnds} {ts : List T} {g : Ev} (I : Nat → List T → Ev → Prop) (h0 : I 0 ts g)
    (hs : ∀ (i : Nat) (us : List T) (g : Ev), us.length = ts.length → i < ts.length → I i us g → ∀ R : List T → Ev → Prop, (∀ us' g', us'.length = ts.length → I (i + 1) us' g' → R us' g') → ∃ t, us[i]? = some t ∧ tb (endO v i us R D) (g.set v (some t)))
    (he : ∀ us g, us.length = ts.length → I ts.length us g → D.nx (g.set d (some (.node true .lst us)))) : LoopO d v tb D ts g := by
  refine ⟨?_⟩
  have key : ∀ (k : Nat) (us : List T) (g : Ev), us.length = ts.length → k ≤ ts.length → I (ts.length - k) us g → loopO d v tb D k us g := by
    intro k
    induction k with
    | zero => exact fun us g hl _ h => he us g hl h
    | succ k ih =>
      intro us g hl hk h
      have e1 : ts.length - (k + 1) + 1 = ts.length - k := by omega
      obtain ⟨t, ht, q⟩ := hs (ts.length - (k + 1)) us g hl (by omega) h (loopO d v tb D k) fun us' g' h1 h2 => ih us' g' h1 (by omega) (by rw [← e1]; exact h2)
      refine ⟨t, by rw [hl]; exact ht, ?_⟩
      rw [hl]
      exact q
  exact key ts.length ts g rfl (Nat.le_refl _) (by rw [Nat.sub_self]; exact h0)
theorem loopO_mono {d v : Nat} {tb : DTS} {D D' : DEnds} (hb : ∀ D D' g, D.Le D' → tb D g → tb D' g) (h : D.Le D') : ∀ k ts g, loopO d v tb D k ts g → loopO d v tb D' k ts g
  | 0, ts, g, q => h.nx _ q
  | k + 1, ts, g, ⟨t, e, q⟩ => ⟨t, e, hb (endO v (ts.length - (k + 1)) ts (loopO d v tb D k) D) _ _ ⟨fun _ z => atSlot_mono (fun _ z => loopO_mono hb h k _ _ z) z, h.rt, h.ex, fun _ z => z, fun _ z => atSlot_mono (fun _ z => loopO_mono hb h k _ _ z) z⟩ q⟩
section
variable {X : Cx} {W : WX} {m : Nat → Bool} {pos p1 p2 : Pos}
theorem ds_forO {x y : Str} {body : List Stmt} {tb : DTS} (d v : Nat) (hdv : d ≠ v) (hp : PassesOwn (model X.prog X.w) X.A X.env X.xe) (hc : X.calm = true) (ho : PE X (.Name x p1) (tVar d))
    (hN : X.N.Nodup) (hi : X.N[v]? = some y) (hy : Loc X.env.scope y) (hm : m v = false) (hb : DSs X W (fun i => m i || i == d || i == v) body tb)
    (hs : ∀ z, foldedSetIterable (.Name x p1) X.env z = pure z := by intro _; rfl) (hf : X.fn y = true ∨ X.env.scope.names.lookup y = some .local := by first | exact .inl rfl | exact .inr rfl | assumption) :
    DS X W m (.For (.Name y p2) (.Name x p1) body [] pos) (sForO d v tb) := by
  let m' : Nat → Bool := fun i => m i || i == d || i == v
  have hbx : ∀ B0 : Bs, PSs X body (fun D σ H => ∃ B' σ1, liftS X.K B' W m' σ1 tb D σ H) := fun _ => ⟨fun pins s σ H D I ⟨B', σ1, h⟩ => (hb.run B' σ1).run pins s σ H D I h⟩
  refine .mk' (fun B σ0 => ps_for hp hc (pi_list ho) (pg_name hN hi hy hf) (hbx B) hs) (fun B σ0 D σ H Φ lim g E r hk hX q => ?_) fun D D' g h q => atSlot_mono (fun t0 q => ownL_mono (fun ts q => ⟨loopO_mono hb.mono h _ _ _ q.out⟩) q) q
  obtain ⟨t0, h0, q⟩ := atSlot_of q
  obtain ⟨ts0, rfl, q⟩ := ownL_of q
  obtain ⟨v0, hv, r1⟩ := r.move h0
  obtain ⟨a1, us, rfl, hl, ha, r2⟩ := r1.open_
  refine ⟨_, hv, a1, rfl, ⟨us, SqL.of ha⟩, fun i n σ H => n = ts0.length - i ∧ i ≤ ts0.length ∧ ∃ g ts, ts.length = ts0.length ∧ RepG X.K B (a1 :: lim) σ H g (us.zip ts ++ Φ) ∧ H a1 = some (.lst us) ∧ σ[d]? = some (some (.ref a1)) ∧ Kept m σ0 σ ∧ loopO d v tb (low X.K B m σ0 lim Φ D E) (ts0.length - i) ts g, ⟨ts0.length, by simp, Nat.zero_le _, _, ts0, rfl, r2, ha, hv, hk, q.out⟩, ?_⟩
  rintro i n σ H ⟨rfl, hi', g2, ts, hlt, r3, ha3, hd3, hk3, q3⟩
  by_cases hlt2 : i < ts0.length
  · obtain ⟨k, ek⟩ : ∃ k, ts0.length - i = k + 1 := ⟨ts0.length - i - 1, by omega⟩
    rw [ek] at q3
    obtain ⟨t, ht, q3⟩ := q3
    have ei : ts.length - (k + 1) = i := by omega
    rw [ei] at ht q3
    obtain ⟨x0, hx0, hz⟩ := zip_get (l := us) (r := ts) (by omega) ht
    refine .inr ⟨⟨us, x0, SqL.of ha3, hx0⟩, fun σ' H' => ∃ g ts, ts.length = ts0.length ∧ RepG X.K B (a1 :: lim) σ' H' g (us.zip ts ++ Φ) ∧ H' a1 = some (.lst us) ∧ σ'[d]? = some (some (.ref a1)) ∧ Kept m σ0 σ' ∧ loopO d v tb (low X.K B m σ0 lim Φ D E) k ts g, fun σ' H' z => ⟨ts0.length - (i + 1), by omega, rfl, hlt2, ?_⟩, fun x H' y => ?_⟩
    · rw [show ts0.length - (i + 1) = k by omega]
      exact z
    obtain ⟨e1, e2⟩ := y
    have e1 := e1.symm
    subst e1
    have e3 := e2 us (SqL.of ha3)
    rw [hx0] at e3
    cases e3
    obtain ⟨rr, pm1, _⟩ := set_perm (x0, t) hz
    have r4 : RepG X.K B (a1 :: lim) σ H g2 ((x0, t) :: (rr ++ Φ)) := r3.perm (Ψ := (x0, t) :: (rr ++ Φ)) (List.Perm.append_right Φ pm1)
    have r5 := r4.put' (i := v)
    obtain ⟨B', r6, back⟩ := r5.rebase
    have hk4 : Kept m σ0 (σ.set v (some x0)) := hk3.set hm
    have up : ∀ {s1 s2 : St}, Kept m' s1 s2 → Kept m s1 s2 := fun h => ⟨h.1, fun j hj => h.2 j (by show (m j || j == d || j == v) = true; rw [hj]; rfl)⟩
    refine ⟨B', σ.set v (some x0), rr ++ Φ, [], _, E, r6, ⟨rfl, fun _ _ => rfl⟩, fun σ' hk' => fun c fs g' dd H' rg hd he => hX σ' (hk4.trans (up hk')) c fs g' dd H' (back _ _ _ _ rg).1.lim0 hd he, ?_⟩
    have fin : ∀ g', (atSlot v g' fun t' => loopO d v tb (low X.K B m σ0 lim Φ D E) k (ts.set i t') (g'.set v none)) → ∀ σ' H', RepG X.K B' [] σ' H' g' (rr ++ Φ) → Kept m' (σ.set v (some x0)) σ' → ∃ g ts, ts.length = ts0.length ∧ RepG X.K B (a1 :: lim) σ' H' g (us.zip ts ++ Φ) ∧ H' a1 = some (.lst us) ∧ σ'[d]? = some (some (.ref a1)) ∧ Kept m σ0 σ' ∧ loopO d v tb (low X.K B m σ0 lim Φ D E) k ts g := fun g' qq σ' H' rq hkq => by
      obtain ⟨t', ht', qq⟩ := atSlot_of qq
      obtain ⟨w, hw, rq2⟩ := rq.move ht'
      have e4 := hkq.2 v (by show (m v || v == d || v == v) = true; simp)
      rw [hw] at e4
      have e5 : w = x0 := by
        rw [List.getElem?_set] at e4
        simp only [if_true] at e4
        split at e4
        · cases e4; rfl
        · cases e4
      subst e5
      obtain ⟨rq3, kp⟩ := back _ _ _ _ rq2
      obtain ⟨rr', pm1', pm2'⟩ := set_perm (w, t') hz
      have pr : rr.Perm rr' := List.Perm.cons_inv (pm1.symm.trans pm1')
      have e6 : (us.zip ts).set i (w, t') = us.zip (ts.set i t') := by rw [zip_set, set_at hx0]
      rw [e6] at pm2'
      refine ⟨g'.set v none, ts.set i t', by rw [List.length_set]; exact hlt, rq3.perm (((List.Perm.cons _ (List.Perm.append_right _ pr))).trans (List.Perm.append_right Φ pm2'.symm)), by rw [kp a1 List.mem_cons_self]; exact ha3, ?_, hk4.trans (up hkq), qq⟩
      have e7 := hkq.2 d (by show (m d || d == d || d == v) = true; simp)
      rw [e7, List.getElem?_set_ne (fun e => hdv e.symm)]
      exact hd3
    refine hb.mono (endO v i ts (loopO d v tb (low X.K B m σ0 lim Φ D E) k) (low X.K B m σ0 lim Φ D E)) _ _ ⟨fun g' qq σ' H' rq hkq => fin g' qq σ' H' rq hkq, fun τ g' qq vv σ' H' rq hkq => ?_, fun _ _ _ z => z, fun g' z => z.elim, fun g' qq σ' H' rq hkq => fin g' qq σ' H' rq hkq⟩ q3
    exact qq vv σ' H' (back _ _ _ _ rq).1.lim0 (hk4.trans (up hkq))
  · have ei : ts0.length - i = 0 := by omega
    rw [ei] at q3
    refine .inl ⟨⟨us, SqL.of ha3, by omega⟩, ?_⟩
    have r7 := r3.close (s := .lst) (fun vs e => nomatch (show HO.lst us = HO.tup vs from Option.some.inj (ha3.symm.trans e)))
    have f1 : (us.zip ts).map (·.1) = us := List.map_fst_zip (by omega)
    have f2 : (us.zip ts).map (·.2) = ts := List.map_snd_zip (by omega)
    rw [f1, f2, show Sh.lst.mk a1 us = HO.lst us from rfl, upd_self ha3] at r7
    exact q3 σ H (r7.back hd3) hk3
end
end DL
set_option Elab.async false
set_option linter.all false
set_option maxRecDepth 100000
set_option maxHeartbeats 4000000
namespace DL
open PySem L2 PySem.Spec PyProof.Rows
end DL
set_option Elab.async false
set_option linter.all false
set_option maxRecDepth 100000
set_option maxHeartbeats 4000000
namespace DL
open PySem L2
end DL
set_option Elab.async false
set_option linter.all false
set_option maxRecDepth 100000
set_option maxHeartbeats 4000000
namespace DL
open PySem PySem.Spec PyProof.Rows L2 W
end DL
set_option Elab.async false
set_option linter.all false
set_option maxRecDepth 100000
set_option maxHeartbeats 4000000
namespace DL
open PySem L2
end DL
set_option Elab.async false
set_option linter.all false
set_option maxRecDepth 100000
set_option maxHeartbeats 4000000
namespace DL
open PySem PySem.Spec PyProof.Rows L2 W
end DL
set_option Elab.async false
set_option linter.all false
set_option maxRecDepth 100000
set_option maxHeartbeats 4000000
namespace DL
open PySem PySem.Spec PyProof.Rows L2 W
section
variable {X : Cx} {W : WX} {bs : List (Option Nat)} {t : DTA} {fe e : Expr} {es : List Expr} {pos : Pos}
structure CalN (X : Cx) (fl : List Bool) (f : Addr) (sp : DSp) : Prop where
  ex : ∃ (k : Nat) (fd : FuncData) (ps : List Str), FnG X.prog X.w X.K X.mg X.base k f fd ps (spD X.K X.mg fl sp) ∧ MonoD sp ∧ Room k X.A ∧ PySem.W.keepIn X.K (.ref f) = true ∧ Binds X.K fd ps []
end
section
variable {X : Cx} {W : WX} {bs : List (Option Nat)} {t : DTA} {ix e : Expr} {es es0 : List Expr} {pos lp sp1 : Pos} {ti : DTE} {fl : List Bool}
inductive FnsL (X : Cx) (fl : List Bool) : List Expr → List Addr → List DSp → Prop
  | nil : FnsL X fl [] [] []
  | cons {x : Str} {p : Pos} {f : Addr} {sp : DSp} {es : List Expr} {fs : List Addr} {sps : List DSp} : Gl X x → X.mg x = some (.ref f) → (x == ("__debug__" : Str)) = false → CalN X fl f sp → FnsL X fl es fs sps → FnsL X fl (.Name x p :: es) (f :: fs) (sp :: sps)
theorem FnsL.at {es : List Expr} {fs : List Addr} {sps : List DSp} (h : FnsL X fl es fs sps) : fs.length = sps.length ∧ ∀ (j : Nat) (sp : DSp), sps[j]? = some sp → ∃ f : Addr, fs[j]? = some f ∧ CalN X fl f sp := by
  induction h with
  | nil => exact ⟨rfl, nofun⟩
  | cons _ _ _ c _ ih =>
    refine ⟨by rw [List.length_cons, List.length_cons, ih.1], fun j sp hj => ?_⟩
    cases j with
    | zero =>
      cases hj
      exact ⟨_, rfl, c⟩
    | succ j => exact ih.2 j sp hj
end
end DL
set_option Elab.async false
set_option linter.all false
set_option maxRecDepth 100000
set_option maxHeartbeats 4000000
namespace DL
open PySem PySem.Spec PyProof.Rows L2 W
end DL
set_option Elab.async false
set_option linter.all false
set_option maxRecDepth 100000
set_option maxHeartbeats 4000000
namespace DL
open PySem PySem.Spec PyProof.Rows L2 W
section
variable {K : PySem.W.Frag} {B : Bs} {lim : List Addr} {σ : L2.St} {H : Hp} {g : Ev} {Φ : Its}
theorem RepG.appChild {i c n : Nat} {s : Sh} {ts l : List T} {tc : T} (r : RepG K B lim σ H g Φ) (h0 : g[i]? = some (some (.node true s ts))) (hs : s ≠ .tup) (hn : ts[n]? = some (.node true .lst l)) (hc : g[c]? = some (some tc)) (hf : frz tc = tc) :
    ∃ a us a3 us3 w, σ[i]? = some (some (.ref a)) ∧ us.length = ts.length ∧ H a = some (s.mk a us) ∧ us[n]? = some (.ref a3) ∧ H a3 = some (.lst us3) ∧ us3.length = l.length ∧ σ[c]? = some (some w) ∧ (∀ ds, toPL l = some ds → Dp K H (.ref a3) (.list ds)) ∧ (∀ d, toP tc = some d → Dp K H w d) ∧
      RepG K B lim σ (upd H a3 (.lst (us3 ++ [w]))) (g.set i (some (.node true s (ts.set n (.node true .lst (l ++ [tc])))))) Φ := by
  obtain ⟨w, hw, r0⟩ := r.look hc hf
  obtain ⟨v0, hv, rm⟩ := RepG.move r0 h0
  obtain ⟨a, us, rfl, hl, ha, r2⟩ := rm.open_
  obtain ⟨u, hu, hz⟩ := zip_get (l := us) (r := ts) hl hn
  obtain ⟨rr, pr, pn⟩ := set_perm (u, T.node true .lst (l ++ [tc])) hz
  have rc : RepG K B (a :: lim) σ H (g.set i none) ((u, .node true .lst l) :: (rr ++ ((w, tc) :: Φ))) := r2.perm (List.Perm.append_right _ pr)
  have hdp : ∀ ds, toPL l = some ds → Dp K H u (.list ds) := fun ds e => rc.dp (by simp only [toP, e]; rfl)
  have hdc : ∀ d, toP tc = some d → Dp K H w d := fun d e => r0.dp e
  obtain ⟨a3, us3, rfl, hl3, ha3, r6⟩ := rc.open_
  have nd := r6.limNd
  have n31 : a ≠ a3 := fun e => by subst e; simp at nd
  have r7 : RepG K B (a3 :: a :: lim) σ H (g.set i none) ((us3.zip l ++ [(w, tc)]) ++ (rr ++ Φ)) := r6.perm (by
    rw [List.append_assoc]
    exact List.Perm.append_left _ List.perm_middle)
  have f1 : ((us3.zip l ++ [(w, tc)]).map (·.1)) = us3 ++ [w] := by
    rw [List.map_append, List.map_fst_zip (by omega)]
    rfl
  have f2 : ((us3.zip l ++ [(w, tc)]).map (·.2)) = l ++ [tc] := by
    rw [List.map_append, List.map_snd_zip (by omega)]
    rfl
  have r8 := r7.close (s := .lst) (fun vs e => nomatch (show HO.lst us3 = HO.tup vs from Option.some.inj (ha3.symm.trans e)))
  rw [f1, f2] at r8
  have e6 : (us.zip ts).set n (V.ref a3, T.node true .lst (l ++ [tc])) = us.zip (ts.set n (T.node true .lst (l ++ [tc]))) := by rw [zip_set, set_at hu]
  rw [e6] at pn
  have r9 : RepG K B (a :: lim) σ (upd H a3 (.lst (us3 ++ [w]))) (g.set i none) (us.zip (ts.set n (T.node true .lst (l ++ [tc]))) ++ Φ) := r8.perm (List.Perm.append_right Φ pn.symm)
  have k2 : (upd H a3 (.lst (us3 ++ [w]))) a = some (s.mk a us) := by rw [upd_ne n31]; exact ha
  have r10 := r9.close (s := s) (fun vs e => absurd (Sh.mk_tup (Option.some.inj (k2.symm.trans e))).1 hs)
  rw [List.map_fst_zip (by rw [List.length_set]; omega), List.map_snd_zip (by rw [List.length_set]; omega), upd_self k2] at r10
  have r11 := r10.back hv
  rw [List.set_set] at r11
  exact ⟨a, us, a3, us3, w, hv, hl, ha, hu, ha3, hl3, hw, hdp, hdc, r11⟩
end
end DL
set_option Elab.async false
set_option linter.all false
set_option maxRecDepth 100000
set_option maxHeartbeats 4000000
namespace DL
open PySem PySem.Spec PyProof.Rows L2 W
end DL
set_option Elab.async false
set_option linter.all false
set_option maxRecDepth 100000
set_option maxHeartbeats 4000000
namespace DL
open PySem PySem.Spec PyProof.Rows L2 W
def Grow (H H' : Hp) : Prop := ∀ b o, H b = some o → H' b = some o
theorem Grow.rd {H H' : Hp} (h : Grow H H') {a : Addr} {o : HO} (r : Rd H a o) : Rd H' a o := r.elim (fun e => .inl (h _ _ e)) fun ⟨k, e⟩ => .inr ⟨k, h _ _ e⟩
section
variable {K : PySem.W.Frag} {H H' : Hp}
theorem Grow.sqL (h : Grow H H') {a : Addr} {vs : List V} (r : SqL K H a vs) : SqL K H' a vs := r.elim (fun e => .inl (h.rd e)) .inr
theorem Grow.sqT (h : Grow H H') {a : Addr} {vs : List V} (r : SqT K H a vs) : SqT K H' a vs := r.elim (fun e => .inl (h.rd e)) .inr
mutual
theorem Grow.dp (h : Grow H H') : ∀ (d : PyData) {v : V}, Dp K H v d → Dp K H' v d
  | .none, _, q => by cases q; exact .non
  | .bool _, _, q => by cases q; exact .bl _
  | .int _, _, q => by cases q; exact .int _
  | .str _, _, q => by cases q; exact .str _
  | .list ds, _, q => by
    cases q with
    | lst hs ha => exact .lst (h.sqL hs) (Grow.dps h ds ha)
  | .tuple ds, _, q => by
    cases q with
    | tup hs ha => exact .tup (h.sqT hs) (Grow.dps h ds ha)
  | .dict _, _, q => by cases q
theorem Grow.dps (h : Grow H H') : ∀ (ds : List PyData) {vs : List V}, DpAll K H vs ds → DpAll K H' vs ds
  | [], _, q => by cases q; exact .nil
  | d :: ds, _, q => by
    cases q with
    | cons a b => exact .cons (Grow.dp h d a) (Grow.dps h ds b)
end
end
end DL
set_option Elab.async false
set_option linter.all false
set_option maxRecDepth 100000
set_option maxHeartbeats 4000000
namespace DL
open PySem PySem.Spec PyProof.Rows L2 W
end DL
namespace DL
open PySem PySem.Spec PyProof.Rows L2 W
end DL
set_option Elab.async false
set_option linter.all false
set_option maxRecDepth 100000
set_option maxHeartbeats 4000000
namespace DL
open PySem PySem.Spec PyProof.Rows L2
class Kls where
  a : Nat → Addr
theorem lookup_zip {ns : List Str} {f : Str} : ∀ {vs : List V} {j : Nat} {v : V}, ns.idxOf? f = some j → vs[j]? = some v → (ns.zip vs).lookup f = some v := by
  induction ns with
  | nil => intro vs j v h _; simp at h
  | cons n ns ih =>
    intro vs j v h hv
    cases vs with
    | nil => cases hv
    | cons w vs =>
      by_cases hn : n = f
      · subst hn
        rw [List.idxOf?_cons] at h
        simp at h
        subst h
        cases hv
        simp [List.lookup]
      · rw [List.idxOf?_cons] at h
        simp [hn] at h
        obtain ⟨i, hi, rfl⟩ := h
        have := ih (vs := vs) (j := i) (v := v) hi (by simpa using hv)
        rw [List.zip_cons_cons, List.lookup_cons]
        have hne : (f == n) = false := by simp; exact fun z => hn z.symm
        rw [hne]
        exact this
theorem lookup_zip_none {ns : List Str} {f : Str} : ∀ {vs : List V}, ns.contains f = false → (ns.zip vs).lookup f = none := by
  induction ns with
  | nil => intro vs _; rfl
  | cons n ns ih =>
    intro vs h
    cases vs with
    | nil => rfl
    | cons w vs =>
      rw [List.contains_cons, Bool.or_eq_false_iff] at h
      rw [List.zip_cons_cons, List.lookup_cons, h.1]
      exact ih h.2
theorem putF_new {ns : List Str} {f : Str} {v : V} : ∀ {vs : List V}, ns.length = vs.length → ns.contains f = false → putF f v (ns.zip vs) = (ns ++ [f]).zip (vs ++ [v]) := by
  induction ns with
  | nil => intro vs hl _; cases vs with | nil => rfl | cons => cases hl
  | cons n ns ih =>
    intro vs hl h
    cases vs with
    | nil => cases hl
    | cons w vs =>
      rw [List.contains_cons, Bool.or_eq_false_iff] at h
      have hn : ¬ n = f := fun z => by rw [z] at h; simp at h
      show (if n = f then _ else _) = _
      rw [if_neg hn]
      show (n, w) :: putF f v (ns.zip vs) = _
      rw [ih (by simpa using hl) h.2]
      rfl
section
variable {X : Cx} {W : WX} {m : Nat → Bool} {e o : Expr} {te : DTE} {t : DTA} {bs : List (Option Nat)} {pos apos p : Pos} {f : Str}
def fldT (C0 : Addr) (ns0 : List Str) (j : Nat) (τ : T) (Q : T → Prop) : Prop := match τ with
  | .node false (.ins C _ ns) ts => C = C0 ∧ ns = ns0 ∧ ∃ t, ts[j]? = some t ∧ Q t
  | _ => False
theorem fldT_mono {C0 : Addr} {ns0 : List Str} {j : Nat} {τ : T} {Q Q' : T → Prop} (h : ∀ t, Q t → Q' t) (q : fldT C0 ns0 j τ Q) : fldT C0 ns0 j τ Q' := by
  unfold fldT at q ⊢
  split at q
  · obtain ⟨a, b, t, ht, q⟩ := q
    exact ⟨a, b, t, ht, h _ q⟩
  · exact q.elim
theorem fldT_of {C0 : Addr} {ns0 : List Str} {j : Nat} {τ : T} {Q : T → Prop} (q : fldT C0 ns0 j τ Q) : ∃ dx ts t, τ = .node false (.ins C0 dx ns0) ts ∧ ts[j]? = some t ∧ Q t := by
  unfold fldT at q
  split at q
  · obtain ⟨rfl, rfl, t, ht, q⟩ := q
    exact ⟨_, _, t, rfl, ht, q⟩
  · exact q.elim
def xFld (C0 : Addr) (ns0 : List Str) (j : Nat) (te : DTE) : DTE := fun g Q E => te g (fun τ g1 => fldT C0 ns0 j τ fun t => Q t g1) E
theorem d_fld {C0 : Addr} {ns0 : List Str} {j : Nat} (he : DE X W e te) (c : Cls X.K C0) (n : NoAttr X.K C0 f) (hj : ns0.idxOf? f = some j) (hb : attributeBase e f X.env (eval e X.env) = eval e X.env := by rfl) : DE X W (.Attribute e f pos) (xFld C0 ns0 j te) := by
  refine ⟨fun B => PE.imp (pe_fld (he.run B) hb) fun σ H Q ⟨Φ, lim, g, E, r, hx, q⟩ => ?_, fun g Q Q' E E' hq hE q => he.mono _ _ _ _ _ (fun τ g1 q1 => fldT_mono (fun t z => hq _ _ z) q1) hE q⟩
  refine ⟨Φ, lim, g, E, r, hx, he.mono _ _ _ _ _ (fun τ g1 q1 v H1 r1 => ?_) (fun _ _ _ z => z) q⟩
  obtain ⟨dx, ts, t, rfl, ht, q1⟩ := fldT_of q1
  obtain ⟨a, vs, rfl, hl, hH, r2⟩ := RepG.kidsH (s := .ins C0 dx ns0) (by intro z; cases z) r1
  obtain ⟨x, hx2, hz⟩ := zip_get (l := vs) (r := ts) hl ht
  exact ⟨a, C0, dx, _, x, rfl, hH, c, n, lookup_zip hj hx2, q1 _ _ ((r2.one hz).perm (List.Perm.swap _ _ _)).dropT⟩
def ownI (C0 : Addr) (ns0 : List Str) (τ : T) (P : Addr → List T → Prop) : Prop := match τ with
  | .node true (.ins C dx ns) ts => C = C0 ∧ ns = ns0 ∧ P dx ts
  | _ => False
theorem ownI_mono {C0 : Addr} {ns0 : List Str} {τ : T} {P P' : Addr → List T → Prop} (h : ∀ dx ts, P dx ts → P' dx ts) (q : ownI C0 ns0 τ P) : ownI C0 ns0 τ P' := by
  unfold ownI at q ⊢
  split at q
  · exact ⟨q.1, q.2.1, h _ _ q.2.2⟩
  · exact q.elim
theorem ownI_of {C0 : Addr} {ns0 : List Str} {τ : T} {P : Addr → List T → Prop} (q : ownI C0 ns0 τ P) : ∃ dx ts, τ = .node true (.ins C0 dx ns0) ts ∧ P dx ts := by
  unfold ownI at q
  split at q
  · obtain ⟨rfl, rfl, q⟩ := q
    exact ⟨_, _, rfl, q⟩
  · exact q.elim
def xFldO (k : Nat) (C0 : Addr) (ns0 : List Str) (j : Nat) : DTE := fun g Q _ => atSlot k g fun t0 => ownI C0 ns0 t0 fun dx ts => ∃ t, ts[j]? = some t ∧ Q (frz t) (g.set k (some (.node true (.ins C0 dx ns0) (ts.set j (frz t)))))
theorem d_fldO {C0 : Addr} {ns0 : List Str} {j : Nat} (k : Nat) (he : PE X e (tVar k)) (c : Cls X.K C0) (n : NoAttr X.K C0 f) (hj : ns0.idxOf? f = some j) (hb : attributeBase e f X.env (eval e X.env) = eval e X.env := by rfl) : DE X W (.Attribute e f pos) (xFldO k C0 ns0 j) := by
  refine ⟨fun B => PE.imp (pe_fld he hb) fun σ H Q ⟨Φ, lim, g, E, r, hx, q⟩ => ?_, fun g Q Q' E E' hq hE q => atSlot_mono (fun t0 q => ownI_mono (fun dx ts ⟨t, ht, q⟩ => ⟨t, ht, hq _ _ q⟩) q) q⟩
  obtain ⟨t0, h0, q⟩ := atSlot_of q
  obtain ⟨dx, ts, rfl, t, ht, q⟩ := ownI_of q
  obtain ⟨a, us, x, hv, hl, hH, hy, r3⟩ := r.partO h0 ht
  exact ⟨_, hv, a, C0, dx, _, x, rfl, hH, c, n, lookup_zip hj hy, q _ _ r3⟩
def sFldN (k : Nat) (C0 : Addr) (ns0 : List Str) (f : Str) (te : DTE) : DTS := fun D g => te g (fun τ g1 => atSlot k g1 fun t0 => ownI C0 ns0 t0 fun dx ts => ns0.length = ts.length ∧ D.nx (g1.set k (some (.node true (.ins C0 dx (ns0 ++ [f])) (ts ++ [τ]))))) D.ex
theorem ds_fldN {C0 : Addr} {ns0 : List Str} (k : Nat) (ho : PE X o (tVar k)) (he : DE X W e te) (c : Cls X.K C0) (n : NoAttr X.K C0 f) (hn : ns0.contains f = false) (hlt : ns0.length < 1000) {p1 : Pos}
    (hs : swapsWith e (some (.Attribute o f p1)) pos.line X.env = pure false := by rfl) : DS X W m (.Assign [.Attribute o f p1] e pos) (sFldN k C0 ns0 f te) := by
  refine .mk' (fun B σ0 => ps_fld ho (he.run B) hs) (fun B σ0 D σ H Φ lim g E r hk hX q => ?_) fun D D' g h q => he.mono _ _ _ _ _ (fun τ g1 q1 => atSlot_mono (fun t0 q => ownI_mono (fun dx ts ⟨hl, q⟩ => ⟨hl, h.nx _ q⟩) q) q1) h.ex q
  refine ⟨Φ, lim, g, E, r, hX σ hk, he.mono _ _ _ _ _ (fun τ g1 q1 v H1 r1 => ?_) (fun _ _ _ z => z) q⟩
  obtain ⟨t0, h0, q1⟩ := atSlot_of q1
  obtain ⟨dx, ts, rfl, hl0, q1⟩ := ownI_of q1
  obtain ⟨a, us, hv, hl, hH, rn⟩ := r1.renew (s' := .ins C0 dx (ns0 ++ [f])) h0 (by intro z; cases z)
  refine ⟨_, hv, a, C0, dx, _, rfl, hH, c, n, by simp; omega, ?_⟩
  have r2 := rn (us.zip ts ++ [(v, τ)]) Φ (by rw [List.append_assoc]; exact List.Perm.refl _)
  rw [List.map_append, List.map_append, List.map_fst_zip (by omega), List.map_snd_zip (by omega)] at r2
  have e1 : putF f v (ns0.zip us) = (ns0 ++ [f]).zip (us ++ [v]) := putF_new (by omega) hn
  rw [e1]
  exact q1 σ _ r2 hk
end
section
variable {X : Cx} {k : Nat} {C f : Addr} {fd : FuncData} {ps : List Str} {sp : Sp} {E : L2.St → XK} {m : Str} {pos apos : Pos} {o e : Expr} {es : List Expr} {ta : TE} {t : TA} {pl : Sem Bool}
def tMethS (C : Addr) (m : Str) (sp : Sp) (E : L2.St → XK) (ta : TE) (t : TA) : TE := fun σ H Q => ta σ H fun x H1 => ∃ a dx fs, x = .ref a ∧ H1 a = some (.ins C dx fs) ∧ fs.lookup m = none ∧ t σ H1 fun vs H2 => sp (x :: vs) H2 Q (E σ)
theorem pe_methG (he : PE X o ta) (c : Cls X.K C) (hm : Meth X.K C m f) (F : FnG X.prog X.w X.K X.mg X.base k f fd ps sp) (hr : Room k X.A) (hgd : X.A.guards = some []) (hb : Binds X.K fd ps []) (hx : ∀ σ, PassesAt (L2.CX X.prog X.w) X σ (E σ)) (ha : PA X (e :: es) t)
    (hst : starEach (e :: es) X.env = (false, eval e X.env) :: starEach es X.env := by rfl) (hpl : (backTo pos (starEach es X.env)).any (·.1) = false := by rfl)
    (ht : eval (.Call (.Attribute o m apos) (e :: es) [] pos) X.env = (do
      let ov ← eval o X.env
      standAt apos.atName
      let (f, first) ← holding [ov] (getMethod ov m pl)
      callWith pos f first (backTo pos (starEach (e :: es) X.env)) (backToKw pos (keywordEach [] X.env))) := by rfl) :
    PE X (.Call (.Attribute o m apos) (e :: es) [] pos) (tMethS C m sp E ta t) := by
  refine ⟨fun pins s σ H Q I h => ?_⟩
  refine PySem.W.methodCall_KW (pl := pl) (thn (he.run pins s σ H _ I h) fun u s1 ⟨x, H1, I1, rx, a, dx, fs, ex, ea, l, q⟩ => ?_) ht
  subst ex
  obtain rfl : u = Value.ref a := rx
  refine getmeth_ok I1 ea c hm l ?_
  refine PySem.W.callWith_K (first := [.ref a]) (h₀ := X.base) I.ok.mod.kin hm.kp (thn (ha.run pos pins s1 σ H1 _ I1 q) fun us s2 ⟨vs, H2, I2, r, q2⟩ => ⟨I2.kIn, ?_⟩) hst hpl
  exact run_fnG (us := .ref a :: us) (vs := .ref a :: vs) F hr hgd hb (hx σ) I2 (.cons rfl r) q2
theorem pe_methG0 (he : PE X o ta) (c : Cls X.K C) (hm : Meth X.K C m f) (F : FnG X.prog X.w X.K X.mg X.base k f fd ps sp) (hr : Room k X.A) (hgd : X.A.guards = some []) (hb : Binds X.K fd ps []) (hx : ∀ σ, PassesAt (L2.CX X.prog X.w) X σ (E σ))
    (ht : eval (.Call (.Attribute o m apos) [] [] pos) X.env = (do
      let ov ← eval o X.env
      standAt apos.atName
      let (f, first) ← holding [ov] (getMethod ov m pl)
      callWith pos f first (backTo pos (starEach [] X.env)) (backToKw pos (keywordEach [] X.env))) := by rfl) :
    PE X (.Call (.Attribute o m apos) [] [] pos) (tMethS C m sp E ta tNil) := by
  refine ⟨fun pins s σ H Q I h => ?_⟩
  refine PySem.W.methodCall_KW (pl := pl) (thn (he.run pins s σ H _ I h) fun u s1 ⟨x, H1, I1, rx, a, dx, fs, ex, ea, l, q⟩ => ?_) ht
  subst ex
  obtain rfl : u = Value.ref a := rx
  refine getmeth_ok I1 ea c hm l ?_
  exact PySem.W.callWith_K0 (first := [.ref a]) I1.kIn hm.kp (run_fnG (us := [.ref a]) (vs := [.ref a]) F hr hgd hb (hx σ) I1 (.cons rfl .nil) q)
structure MethG (X : Cx) (W : WX) (k : Nat) (C : Addr) (m : Str) (fl : List Bool) (sp : DSp) : Prop where
  ex : ∃ (f : Addr) (fd : FuncData) (ps : List Str), FnG X.prog X.w X.K X.mg X.base k f fd ps (spD X.K X.mg fl sp) ∧ Meth X.K C m f ∧ Binds X.K fd ps []
  cls : Cls X.K C
  mono : MonoD sp
  room : Room k X.A
  gd : X.A.guards = some []
  tk : Takes X (upW X.mg W)
end
section
variable {X : Cx} {W : WX} {e o : Expr} {es : List Expr} {te : DTE} {t : DTA} {bs : List (Option Nat)} {pos apos : Pos} {m : Str} {k : Nat} {C0 : Addr} {sp : DSp} {fl : List Bool}
def insT (C0 : Addr) (ns0 : List Str) (τ : T) (P : Prop) : Prop := match τ with
  | .node _ (.ins C _ ns) _ => C = C0 ∧ ns = ns0 ∧ P
  | _ => False
theorem insT_mono {ns0 : List Str} {τ : T} {P P' : Prop} (h : P → P') (q : insT C0 ns0 τ P) : insT C0 ns0 τ P' := by
  unfold insT at q ⊢
  split at q
  · exact ⟨q.1, q.2.1, h q.2.2⟩
  · exact q.elim
theorem insT_of {ns0 : List Str} {τ : T} {P : Prop} (q : insT C0 ns0 τ P) : (∃ o dx ts, τ = .node o (.ins C0 dx ns0) ts) ∧ P := by
  unfold insT at q
  split at q
  · obtain ⟨rfl, rfl, q⟩ := q
    exact ⟨⟨_, _, _, rfl⟩, q⟩
  · exact q.elim
def xMethL (j : Nat) (C0 : Addr) (ns0 : List Str) (sp : DSp) (bs : List (Option Nat)) (t : DTA) : DTE := fun g Q E => atSlot j g fun τ0 => insT C0 ns0 τ0 (t g (fun τs g2 => atSlot j g2 fun τ => sp (τ :: τs) (fun τ' us => Q τ' (restore (g2.set j none) (some j :: bs) us)) (fun c fs us => E c fs (restore (g2.set j none) (some j :: bs) us))) E)
theorem xMethL_mono {ns0 : List Str} {j : Nat} (hm : MonoD sp) (ht : ∀ g Q Q' E E', (∀ τs g', Q τs g' → Q' τs g') → (∀ c fs g', E c fs g' → E' c fs g') → t g Q E → t g Q' E') :
    ∀ g Q Q' E E', (∀ τ g', Q τ g' → Q' τ g') → (∀ c fs g', E c fs g' → E' c fs g') → xMethL j C0 ns0 sp bs t g Q E → xMethL j C0 ns0 sp bs t g Q' E' := fun g Q Q' E E' hq he q =>
  atSlot_mono (fun τ0 q => insT_mono (fun q => ht _ _ _ _ _ (fun τs g1 q1 => atSlot_mono (fun τ z => hm _ _ _ _ _ (fun τ us z => hq _ _ z) (fun c fs us z => he _ _ _ z) z) q1) he q) q) q
theorem methL_run {ns0 : List Str} {j : Nat} {B : Bs} {σ : L2.St} {H : Hp} {Q : VK} {tt : TA} (hm : MonoD sp) (hn : ns0.contains m = false) (hr : ∀ (H1 : Hp) (Qa : List V → Hp → Prop), liftA X.K B W bs t σ H1 Qa → tt σ H1 Qa)
    (ht : ∀ g Q Q' E E', (∀ τs g', Q τs g' → Q' τs g') → (∀ c fs g', E c fs g' → E' c fs g') → t g Q E → t g Q' E') (q : liftE X.K B W (xMethL j C0 ns0 sp bs t) σ H Q) :
    tMethS C0 m (spD X.K X.mg (true :: bs.map Option.isSome) sp) (WE (upW X.mg W)) (tVar j) tt σ H Q := by
  obtain ⟨Φ, lim, g, E, r, hx, q⟩ := q
  obtain ⟨t0, h0, q⟩ := atSlot_of q
  obtain ⟨⟨o0, dx, ts, rfl⟩, q3⟩ := insT_of q
  obtain ⟨v, hv, r1⟩ := r.move h0
  obtain ⟨a, us, rfl, hl, hH⟩ := RepG.nodeH (s := .ins C0 dx ns0) r1 (by intro z; cases z)
  refine ⟨_, hv, a, dx, _, rfl, hH, lookup_zip_none hn, hr _ _ ⟨Φ, lim, g, E, r, hx, ht _ _ _ _ _ (fun τs g1 q1 vs H1 hl hb r1 => ?_) (fun _ _ _ z => z) q3⟩⟩
  obtain ⟨τ, h2, q1⟩ := atSlot_of q1
  obtain ⟨v', hv', r2⟩ := r1.move h2
  rw [hv] at hv'
  cases hv'
  exact call_sp (bs := some j :: bs) (vs := .ref a :: vs) (τs := τ :: τs) hm hx (by simp [hl]) ⟨hv, hb⟩ r2 (hm _ _ _ _ _ (fun τ us z => z) (fun _ _ _ z => z) q1)
theorem d_methL {ns0 : List Str} (j : Nat) (he : PE X o (tVar j)) (M : MethG X W k C0 m fl sp) (hn : ns0.contains m = false) (ha : DA X W (e :: es) bs t) (hfl : true :: bs.map Option.isSome = fl := by rfl)
    {pl : Sem Bool} (hst : starEach (e :: es) X.env = (false, eval e X.env) :: starEach es X.env := by rfl) (hpl : (backTo pos (starEach es X.env)).any (·.1) = false := by rfl)
    (ht : eval (.Call (.Attribute o m apos) (e :: es) [] pos) X.env = (do
      let ov ← eval o X.env
      standAt apos.atName
      let (f, first) ← holding [ov] (getMethod ov m pl)
      callWith pos f first (backTo pos (starEach (e :: es) X.env)) (backToKw pos (keywordEach [] X.env))) := by rfl) : DE X W (.Call (.Attribute o m apos) (e :: es) [] pos) (xMethL j C0 ns0 sp bs t) := by
  subst hfl
  obtain ⟨f, fd, ps, F, hm, hb⟩ := M.ex
  exact ⟨fun B => PE.imp (pe_methG he M.cls hm F M.room M.gd hb (fun σ => passAt M.tk σ) (ha.run B) hst hpl ht) fun σ H Q q => methL_run M.mono hn (fun _ _ z => z) ha.mono q, xMethL_mono M.mono ha.mono⟩
def xMethV (C0 : Addr) (ns0 : List Str) (sp : DSp) (te : DTE) (bs : List (Option Nat)) (t : DTA) : DTE := fun g Q E => te g (fun τ g1 => insT C0 ns0 τ (t g1 (fun τs g2 => sp (τ :: τs) (fun τ' us => Q τ' (restore g2 bs us)) (fun c fs us => E c fs (restore g2 bs us))) E)) E
theorem xMethV_mono {ns0 : List Str} (hm : MonoD sp) (he0 : ∀ g Q Q' E E', (∀ τs g', Q τs g' → Q' τs g') → (∀ c fs g', E c fs g' → E' c fs g') → te g Q E → te g Q' E') (ht : ∀ g Q Q' E E', (∀ τs g', Q τs g' → Q' τs g') → (∀ c fs g', E c fs g' → E' c fs g') → t g Q E → t g Q' E') :
    ∀ g Q Q' E E', (∀ τ g', Q τ g' → Q' τ g') → (∀ c fs g', E c fs g' → E' c fs g') → xMethV C0 ns0 sp te bs t g Q E → xMethV C0 ns0 sp te bs t g Q' E' := fun g Q Q' E E' hq he q =>
  he0 _ _ _ _ _ (fun τ g1 q1 => insT_mono (fun q => ht _ _ _ _ _ (fun τs g1 q1 => hm _ _ _ _ _ (fun τ us z => hq _ _ z) (fun c fs us z => he _ _ _ z) q1) he q) q1) he q
theorem methV_run {ns0 : List Str} {B : Bs} {σ : L2.St} {H : Hp} {Q : VK} {tt : TA} {ta : TE} (hm : MonoD sp) (hn : ns0.contains m = false) (hta : ∀ (H1 : Hp) (Qa : V → Hp → Prop), liftE X.K B W te σ H1 Qa → ta σ H1 Qa) (hr : ∀ (H1 : Hp) (Qa : List V → Hp → Prop), liftA X.K B W bs t σ H1 Qa → tt σ H1 Qa)
    (he0 : ∀ g Q Q' E E', (∀ τs g', Q τs g' → Q' τs g') → (∀ c fs g', E c fs g' → E' c fs g') → te g Q E → te g Q' E') (ht : ∀ g Q Q' E E', (∀ τs g', Q τs g' → Q' τs g') → (∀ c fs g', E c fs g' → E' c fs g') → t g Q E → t g Q' E') (q : liftE X.K B W (xMethV C0 ns0 sp te bs t) σ H Q) :
    tMethS C0 m (spD X.K X.mg (false :: bs.map Option.isSome) sp) (WE (upW X.mg W)) ta tt σ H Q := by
  obtain ⟨Φ, lim, g, E, r, hx, q⟩ := q
  refine hta _ _ ⟨Φ, lim, g, E, r, hx, he0 _ _ _ _ _ (fun τ g1 q1 v H1 r1 => ?_) (fun _ _ _ z => z) q⟩
  obtain ⟨⟨o0, dx, ts, rfl⟩, q3⟩ := insT_of q1
  obtain ⟨a, us, rfl, hl, hH⟩ := RepG.nodeH (s := .ins C0 dx ns0) r1 (by intro z; cases z)
  refine ⟨a, dx, _, rfl, hH, lookup_zip_none hn, hr _ _ ⟨_, lim, g1, E, r1, hx, ht _ _ _ _ _ (fun τs g1 q1 vs H1 hl hb r2 => ?_) (fun _ _ _ z => z) q3⟩⟩
  exact call_sp (bs := none :: bs) (vs := .ref a :: vs) (τs := .node o0 (.ins C0 dx ns0) ts :: τs) hm hx (by simp [hl]) hb (r2.perm List.perm_middle) (hm _ _ _ _ _ (fun τ us z => z) (fun _ _ _ z => z) q1)
theorem d_methV {ns0 : List Str} (he : DE X W o te) (M : MethG X W k C0 m fl sp) (hn : ns0.contains m = false) (ha : DA X W (e :: es) bs t) (hfl : false :: bs.map Option.isSome = fl := by rfl)
    {pl : Sem Bool} (hst : starEach (e :: es) X.env = (false, eval e X.env) :: starEach es X.env := by rfl) (hpl : (backTo pos (starEach es X.env)).any (·.1) = false := by rfl)
    (ht : eval (.Call (.Attribute o m apos) (e :: es) [] pos) X.env = (do
      let ov ← eval o X.env
      standAt apos.atName
      let (f, first) ← holding [ov] (getMethod ov m pl)
      callWith pos f first (backTo pos (starEach (e :: es) X.env)) (backToKw pos (keywordEach [] X.env))) := by rfl) : DE X W (.Call (.Attribute o m apos) (e :: es) [] pos) (xMethV C0 ns0 sp te bs t) := by
  subst hfl
  obtain ⟨f, fd, ps, F, hm, hb⟩ := M.ex
  exact ⟨fun B => PE.imp (pe_methG (he.run B) M.cls hm F M.room M.gd hb (fun σ => passAt M.tk σ) (ha.run B) hst hpl ht) fun σ H Q q => methV_run M.mono hn (fun _ _ z => z) (fun _ _ z => z) he.mono ha.mono q, xMethV_mono M.mono he.mono ha.mono⟩
theorem d_methV0 {ns0 : List Str} (he : DE X W o te) (M : MethG X W k C0 m fl sp) (hn : ns0.contains m = false) (hfl : [false] = fl := by rfl)
    {pl : Sem Bool}
    (ht : eval (.Call (.Attribute o m apos) [] [] pos) X.env = (do
      let ov ← eval o X.env
      standAt apos.atName
      let (f, first) ← holding [ov] (getMethod ov m pl)
      callWith pos f first (backTo pos (starEach [] X.env)) (backToKw pos (keywordEach [] X.env))) := by rfl) : DE X W (.Call (.Attribute o m apos) [] [] pos) (xMethV C0 ns0 sp te [] aNil) := by
  subst hfl
  obtain ⟨f, fd, ps, F, hm, hb⟩ := M.ex
  refine ⟨fun B => PE.imp (pe_methG0 (he.run B) M.cls hm F M.room M.gd hb (fun σ => passAt M.tk σ) ht) fun σ H Q q => methV_run (bs := []) (t := aNil) M.mono hn (fun _ _ z => z) (fun H1 Qa z => ?_) he.mono (fun g Q Q' E E' hq he q => hq _ _ q) q, xMethV_mono M.mono he.mono (fun g Q Q' E E' hq he q => hq _ _ q)⟩
  obtain ⟨Φ, lim, g, E, r, hx, q⟩ := z
  exact q [] H1 rfl trivial r
end
section
variable {X : Cx} {k : Nat} {C f : Addr} {fd : FuncData} {ps : List Str} {sp : Sp} {E : L2.St → XK} {x : Str} {p pos : Pos} {e : Expr} {es : List Expr} {t : TA}
def tMakeS (C : Addr) (sp : Sp) (E : L2.St → XK) (t : TA) : TE := fun σ H Q => t σ H fun vs H1 => ∀ x dx, H1 x = none → H1 dx = none → dx ≠ x → sp (.ref x :: vs) (upd (upd H1 dx (.own x)) x (.ins C dx [])) (fun v H2 => v = .non ∧ Q (.ref x) H2) (E σ)
theorem run_makeG {pins : List (Addr × Obj)} {σ : L2.St} {H : Hp} {s : Shared} {Q : VK} {us : List Value} {vs : List V} (M : Mk X.K C f) (F : FnG X.prog X.w X.K X.mg X.base k f fd ps sp) (hr : Room (k + 1) X.A) (hgd : X.A.guards = some []) (hb : Binds X.K fd ps [])
    (hx : PassesAt (L2.CX X.prog X.w) X σ (E σ)) (I : Inv X pins σ H s) (r : Vals vs us)
    (h : ∀ x dx, H x = none → H dx = none → dx ≠ x → sp (.ref x :: vs) (upd (upd H dx (.own x)) x (.ins C dx [])) (fun v H2 => v = .non ∧ Q (.ref x) H2) (E σ)) :
    wpAny (model X.prog X.w) X.A (call (.ref C) us) (EP X pins σ Q) X.xe s := by
  have hq := h (s.heap.objs.size + 1) s.heap.objs.size (I.hok.fresh (Nat.le_succ _)) (I.hok.fresh (Nat.le_refl _)) (Nat.ne_of_lt (Nat.lt_succ_self _))
  have I2 := Inv.made (C := C) I
  have r2 : Vals (V.ref (s.heap.objs.size + 1) :: vs) (Value.ref (s.heap.objs.size + 1) :: us) := .cons rfl r
  have hl : (Value.ref (s.heap.objs.size + 1) :: us ++ []).length = ps.length := by
    have e := r2.length
    rw [F.len _ _ _ _ hq] at e
    rw [List.append_nil]
    exact e.symm
  have hb2 := hb _ (Value.ref (s.heap.objs.size + 1) :: us) I2.kIn hl
  rw [List.append_nil] at hb2
  refine wpAny_call (make_map (f := f) I.kIn M.makes M.init (beq_iff_eq.mp M.fn) (codeAny_mono (F.run _ X.stack _ _ ⟨Value.ref (s.heap.objs.size + 1) :: us, []⟩ (Value.ref (s.heap.objs.size + 1) :: us) _ _ (E σ) (hr.make C us []) hgd
    (I2.env0.make C us []) hb2 r2 hq) fun r s' hq' => ?_))
  cases r with
  | error e => exact hx pins _ _ e s' I2 hq'
  | ok fl =>
    cases fl with
    | ret u =>
      obtain ⟨v, H', I3, rv, ev, q3⟩ := I2.after hq'
      subst ev
      exact ⟨rv, ⟨V.ref (s.heap.objs.size + 1), H', I3, rfl, q3⟩⟩
    | next => exact False.elim hq'
    | brk => exact False.elim hq'
    | cont => exact False.elim hq'
theorem pe_makeG (M : Mk X.K C f) (F : FnG X.prog X.w X.K X.mg X.base k f fd ps sp) (hr : Room (k + 1) X.A) (hgd : X.A.guards = some []) (hg : Gl X x) (hm : X.mg x = some (.ref C)) (hb : Binds X.K fd ps []) (hx : ∀ σ, PassesAt (L2.CX X.prog X.w) X σ (E σ))
    (ha : PA X (e :: es) t) (hdb : (x == ("__debug__" : Str)) = false := by decide) (he : starEach (e :: es) X.env = (false, eval e X.env) :: starEach es X.env := by rfl) (hpl : (backTo pos (starEach es X.env)).any (·.1) = false := by rfl) :
    PE X (.Call (.Name x p) (e :: es) [] pos) (tMakeS C sp E t) := by
  refine ⟨fun pins s σ H Q I h => ?_⟩
  refine wpAny_Call_Name_kw (ld_glob I hg hm ?_ hdb)
  refine PySem.W.callWith_K (h₀ := X.base) I.ok.mod.kin M.kp (thn (ha.run pos pins s σ H _ I h) fun us s1 ⟨vs, H1, I1, r, q⟩ => ⟨I1.kIn, ?_⟩) he hpl
  exact run_makeG M F hr hgd hb (hx σ) I1 r q
end
section
variable {X : Cx} {W : WX} {e o : Expr} {es : List Expr} {te : DTE} {t : DTA} {bs : List (Option Nat)} {pos p : Pos} {x : Str} {k : Nat} {C0 : Addr} {sp : DSp} {fl : List Bool}
structure MakeG (X : Cx) (W : WX) (k : Nat) (x : Str) (C : Addr) (fl : List Bool) (sp : DSp) : Prop where
  ex : ∃ (f : Addr) (fd : FuncData) (ps : List Str), FnG X.prog X.w X.K X.mg X.base k f fd ps (spD X.K X.mg fl sp) ∧ Mk X.K C f ∧ Binds X.K fd ps []
  mono : MonoD sp
  room : Room (k + 1) X.A
  gd : X.A.guards = some []
  gl : Gl X x
  mg : X.mg x = some (.ref C)
  tk : Takes X (upW X.mg W)
def headT (us : List T) (P : T → List T → Prop) : Prop := match us with
  | s :: r => P s r
  | [] => False
def xMake (C0 : Addr) (sp : DSp) (bs : List (Option Nat)) (t : DTA) : DTE := fun g Q E => t g (fun τs g1 => ∀ dx, sp (.node true (.ins C0 dx []) [] :: τs) (fun τ us => τ = .leaf .non ∧ headT us fun self us' => Q self (restore g1 bs us')) (fun c fs us => E c fs (restore g1 bs us.tail))) E
theorem xMake_mono (hm : MonoD sp) (ht : ∀ g Q Q' E E', (∀ τs g', Q τs g' → Q' τs g') → (∀ c fs g', E c fs g' → E' c fs g') → t g Q E → t g Q' E') :
    ∀ g Q Q' E E', (∀ τ g', Q τ g' → Q' τ g') → (∀ c fs g', E c fs g' → E' c fs g') → xMake C0 sp bs t g Q E → xMake C0 sp bs t g Q' E' := fun g Q Q' E E' hq he q =>
  ht _ _ _ _ _ (fun τs g1 q1 dx => hm _ _ _ _ _ (fun τ us z => ⟨z.1, by
    cases us with
    | nil => exact z.2
    | cons s us => exact hq _ _ z.2⟩) (fun c fs us z => he _ _ _ z) (q1 dx)) he q
theorem make_sp {B : Bs} {σ : L2.St} {H : Hp} {Φ : Its} {lim : List Addr} {g1 : Ev} {E : XP} {vs : List V} {τs : List T} {v : V} {τ0 : T} {Q : VK} {Q' : T → Ev → Prop} (hm : MonoD sp) (hx : liftX X.K B W σ E) (hl : vs.length = τs.length) (hb : BackOk σ vs bs)
    (r : RepG X.K B lim σ H g1 ((v, τ0) :: (vs.zip τs ++ Φ))) (hq : ∀ self g' w H', Q' self g' → RepG X.K B lim σ H' g' ((v, self) :: (w, .leaf .non) :: Φ) → Q w H')
    (q : sp (τ0 :: τs) (fun τ us => τ = .leaf .non ∧ headT us fun self us' => Q' self (restore g1 bs us')) (fun c fs us => E c fs (restore g1 bs us.tail))) :
    spD X.K X.mg (true :: bs.map Option.isSome) sp (v :: vs) H Q (WE (upW X.mg W) σ) := by
  obtain ⟨F, zs, fp, en, oz, f, hlim⟩ := r
  have p1 : (zs ++ ((v, τ0) :: (vs.zip τs ++ Φ))).Perm (((v :: vs).zip (τ0 :: τs)) ++ (zs ++ Φ)) := by
    have e1 : (zs ++ (((v, τ0) :: vs.zip τs) ++ Φ)).Perm (((v, τ0) :: vs.zip τs) ++ (zs ++ Φ)) := by
      rw [← List.append_assoc, ← List.append_assoc]
      exact List.Perm.append_right _ List.perm_append_comm
    exact e1
  obtain ⟨fp', pf, o'⟩ := oz.perm p1
  obtain ⟨fpA, fpR, rfl, oA, oR⟩ := o'.split
  have f' := f.perm (List.Perm.append_left lim pf)
  have nd := (List.nodup_append.mp f'.nd).2.1
  refine ⟨τ0 :: τs, F, fpA, OwnL.unzip (by simp [hl]) oA, (List.nodup_append.mp nd).1, fun a ha => f'.off a (List.mem_append_right _ (List.mem_append_left _ ha)), f'.trk, by rw [List.length_cons, List.length_cons, List.length_map]; exact congrArg (· + 1) (backOk_len hb), ?_⟩
  refine hm _ _ _ _ _ (fun τ us q1 w H' aft => ?_) (fun c fs us q1 d H' cv hs aft xd => ?_) q
  · obtain ⟨F', f2, hlen, o2, fn⟩ := aft
    obtain ⟨rfl, q1⟩ := q1
    cases us with
    | nil => exact q1.elim
    | cons self us' =>
      have r2 := call_frame en oR f' hlim o2 fn
      have hlen2 : (pick (bs.map Option.isSome) vs).length = us'.length := by simpa [pick] using hlen
      have r3 : RepG X.K B lim σ H' g1 ((pick (bs.map Option.isSome) vs).zip us' ++ ((v, self) :: (w, .leaf .non) :: Φ)) := by
        refine r2.perm ?_
        show (((v, self) :: (pick (bs.map Option.isSome) vs).zip us') ++ [(w, T.leaf .non)] ++ Φ).Perm _
        rw [List.append_assoc, List.cons_append]
        exact List.perm_middle.symm
      exact hq _ _ _ _ q1 (RepG.restore hb hlen2 r3)
  · obtain ⟨F', f2, hlen, o2, fn⟩ := aft
    cases us with
    | nil => simp [pick] at hlen
    | cons self us' =>
      have r2 := call_frame en oR f' hlim o2 fn
      have hlen2 : (pick (bs.map Option.isSome) vs).length = us'.length := by simpa [pick] using hlen
      have r3 : RepG X.K B lim σ H' g1 ((pick (bs.map Option.isSome) vs).zip us' ++ ((v, self) :: Φ)) := by
        refine r2.perm ?_
        show (((v, self) :: (pick (bs.map Option.isSome) vs).zip us') ++ [] ++ Φ).Perm _
        rw [List.append_nil, List.cons_append]
        exact List.perm_middle.symm
      exact ⟨c, hs, hx c fs _ d H' (RepG.restore hb hlen2 r3).only xd q1⟩
theorem make_run {B : Bs} {σ : L2.St} {H : Hp} {Q : VK} {tt : TA} (hm : MonoD sp) (hr : ∀ (H1 : Hp) (Qa : List V → Hp → Prop), liftA X.K B W bs t σ H1 Qa → tt σ H1 Qa)
    (ht : ∀ g Q Q' E E', (∀ τs g', Q τs g' → Q' τs g') → (∀ c fs g', E c fs g' → E' c fs g') → t g Q E → t g Q' E') (q : liftE X.K B W (xMake C0 sp bs t) σ H Q) :
    tMakeS C0 (spD X.K X.mg (true :: bs.map Option.isSome) sp) (WE (upW X.mg W)) tt σ H Q := by
  obtain ⟨Φ, lim, g, E, r, hx, q⟩ := q
  refine hr _ _ ⟨Φ, lim, g, E, r, hx, ht _ _ _ _ _ (fun τs g1 q1 vs H1 hl hb r1 a dx ha hd hne => ?_) (fun _ _ _ z => z) q⟩
  have e1 : ∀ b o, H1 b = some o → upd H1 dx (.own a) b = some o := fun b o e => by
    rw [upd_ne (fun z => by subst z; rw [hd] at e; cases e)]
    exact e
  have r2 := r1.grow e1
  have r3 := RepG.make (s := .ins C0 dx []) (zs := []) (p := a) r2 (by rw [upd_ne (fun z => hne z.symm)]; exact ha)
  exact make_sp (Q' := fun τ g' => ∀ (v : V) (H' : Hp), RepG X.K B lim σ H' g' ((v, τ) :: Φ) → Q v H') (τ0 := .node true (.ins C0 dx []) []) hm hx hl hb r3 (fun self g' w H' q2 r4 => ⟨RepG.leaf (r4.perm (List.Perm.swap _ _ _)), q2 _ _ ((r4.perm (List.Perm.swap _ _ _)).dropT)⟩) (q1 dx)
theorem d_make (M : MakeG X W k x C0 fl sp) (ha : DA X W (e :: es) bs t) (hfl : true :: bs.map Option.isSome = fl := by rfl) (hdb : (x == ("__debug__" : Str)) = false := by decide)
    (he : starEach (e :: es) X.env = (false, eval e X.env) :: starEach es X.env := by rfl) (hpl : (backTo pos (starEach es X.env)).any (·.1) = false := by rfl) : DE X W (.Call (.Name x p) (e :: es) [] pos) (xMake C0 sp bs t) := by
  subst hfl
  obtain ⟨f, fd, ps, F, hm, hb⟩ := M.ex
  exact ⟨fun B => PE.imp (pe_makeG hm F M.room M.gd M.gl M.mg hb (fun σ => passAt M.tk σ) (ha.run B) hdb he hpl) fun σ H Q q => make_run M.mono (fun _ _ z => z) ha.mono q, xMake_mono M.mono ha.mono⟩
end
section
variable {X : Cx} {W : WX} {x o : Expr} {f : Str}
def xAppF (k : Nat) (C0 : Addr) (ns0 : List Str) (j c : Nat) : DTE := fun g Q _ => atSlot k g fun t0 => ownI C0 ns0 t0 fun dx ts => ∃ tc l, c ≠ k ∧ g[c]? = some (some tc) ∧ ts[j]? = some (.node true .lst l) ∧ l.length < sizeLine ∧
  Q (.leaf .non) ((g.set c (some (frz tc))).set k (some (.node true (.ins C0 dx ns0) (ts.set j (.node true .lst (l ++ [frz tc]))))))
theorem d_appF {C0 : Addr} {ns0 : List Str} {j : Nat} {apos cpos p1 : Pos} (k c : Nat) (ho : PE X o (tVar k)) (hx : PE X x (tVar c)) (cl : Cls X.K C0) (n : NoAttr X.K C0 f) (hj : ns0.idxOf? f = some j)
    (hb1 : attributeBase o f X.env (eval o X.env) = eval o X.env := by rfl)
    (hbase : attributeBase (.Attribute o f p1) "append" X.env (eval (.Attribute o f p1) X.env) = eval (.Attribute o f p1) X.env := by rfl)
    (hfew : ((backTo cpos (starEach [x] X.env)).all (fun x => !x.1) && (backToKw cpos (keywordEach [] X.env)).all (fun x => x.1.isSome) && decide ([x].length + ([] : List Keyword).length + (if ([] : List Keyword).isEmpty then 0 else 1) < 30)) = true := by rfl)
    (hline : (apos.endLine == cpos.line) = true := by rfl) (hs : starEach [x] X.env = (false, eval x X.env) :: starEach [] X.env := by rfl) (hplain : (backTo cpos (starEach [] X.env)).any (·.1) = false := by rfl) :
    DE X W (.Call (.Attribute (.Attribute o f p1) "append" apos) [x] [] cpos) (xAppF k C0 ns0 j c) := by
  refine ⟨fun B => PE.imp (pe_bm PySem.F.plainAttrs_list PySem.F.slot_list_append PySem.F.type_list_append mt_append (pe_fld (f := f) ho hb1) (pa_cons hx pa_nil hs) hbase hfew hline hs hplain) fun σ H Q ⟨Φ, lim, g, E, r, hx, q⟩ => ?_, fun g Q Q' E E' hq hE q => atSlot_mono (fun t0 q => ownI_mono (fun dx ts ⟨tc, l, h1, h2, h3, h4, q⟩ => ⟨tc, l, h1, h2, h3, h4, hq _ _ q⟩) q) q⟩
  obtain ⟨t0, h0, q⟩ := atSlot_of q
  obtain ⟨dx, ts, rfl, tc, l, hck, hc, hl, hlen, q⟩ := ownI_of q
  have rf := r.freeze hc
  have h0' : (g.set c (some (frz tc)))[k]? = some (some (.node true (.ins C0 dx ns0) ts)) := by rw [List.getElem?_set_ne hck]; exact h0
  have hcl : c < g.length := (List.getElem?_eq_some_iff.mp hc).1
  obtain ⟨a, us, a3, us3, w, hv, hlu, ha, hun, ha3, hl3, hw, _, _, r3⟩ := RepG.appChild rf h0' (by intro z; cases z) hl (List.getElem?_set_self hcl) (frz_frz tc)
  refine ⟨_, hv, a, C0, dx, _, _, rfl, ha, cl, n, lookup_zip hj hun, .inl ⟨rfl, us3, SqL.of ha3⟩, w, hw, a3, us3, w, rfl, rfl, ha3, by omega, ?_⟩
  exact q _ _ r3.addLeaf
end
end DL
set_option Elab.async false
set_option linter.all false
set_option maxRecDepth 100000
set_option maxHeartbeats 4000000
namespace DL
open PySem PySem.Spec PyProof.Rows L2
end DL
set_option Elab.async false
set_option linter.all false
set_option maxRecDepth 100000
set_option maxHeartbeats 4000000
namespace DL
open PySem PySem.Spec PyProof.Rows L2
end DL
set_option Elab.async false
set_option linter.all false
set_option maxRecDepth 100000
set_option maxHeartbeats 4000000
namespace DL
open PySem PySem.Spec PyProof.Rows L2
structure FunX (K : PySem.W.Frag) (x qual : Str) (st : Stmt) (f : Addr) (fd : FuncData) : Prop where
  ex : ∃ (oc : Value) (od : Option Addr) (dV kV doc pm : Value) (an : Option Addr) (cdv ct : Value) (osl : Array (Option Value)),
    fd = PySem.W.fnOf x qual (defArgs st) (defBody st) (defScope st) dV kV doc pm an cdv ct ∧ K.lookup f = some ⟨oc, od, .func fd, osl⟩ ∧ PySem.W.codeIn K cdv qual = true
  kp : PySem.W.keepIn K (.ref f) = true
theorem FunX.of {K : PySem.W.Frag} {x qual : Str} {st : Stmt} {dvs : List V} {kws : List (Str × V)} {f : Addr} {fd : FuncData} (F : FunD K x qual (defArgs st) (defBody st) (defScope st) dvs kws f fd) : FunX K x qual st f fd := by
  obtain ⟨oc, od, dV, kV, doc, pm, an, cdv, ct, osl, e, lk, hcd, _⟩ := F.ex
  exact ⟨⟨oc, od, dV, kV, doc, pm, an, cdv, ct, osl, e, lk, hcd⟩, F.kp⟩
end DL
set_option Elab.async false
set_option linter.all false
set_option maxRecDepth 100000
set_option maxHeartbeats 4000000
namespace DL
open PySem PySem.Spec PyProof.Rows L2
end DL
set_option Elab.async false
set_option linter.all false
set_option maxRecDepth 100000
set_option maxHeartbeats 4000000
namespace DL
open PySem PySem.Spec PyProof.Rows L2 W
end DL
set_option Elab.async false
set_option linter.all false
set_option maxRecDepth 100000
set_option maxHeartbeats 4000000
namespace DL
open PySem PySem.Spec PyProof.Rows L2 W
end DL
set_option Elab.async false
set_option linter.all false
set_option maxRecDepth 100000
set_option maxHeartbeats 4000000
namespace DL
open PySem L2
def putK2 (acc : List Key × List T) (k : Key) (τ : T) : List Key × List T := match ixK acc.1 k with
  | some j => (acc.1, acc.2.set j τ)
  | none => (acc.1 ++ [k], acc.2 ++ [τ])
def dcL (gt : DTG) (tt : DTT) (tk tv : DTE) (vs : List Nat) : List T → Ev → List Key × List T → (List Key × List T → Ev → Prop) → Prop
  | [], g, acc, R => R acc g
  | t :: ts, g, acc, R => gt t g fun g1 => tt g1 (fun b g2 => ifB b (tk g2 (fun τk g3 => tv g3 (fun τv g4 => ∃ k, τk = .leaf (kV k) ∧ acc.1.Nodup ∧ acc.2.length = acc.1.length ∧ acc.1.length < sizeLine ∧ dcL gt tt tk tv vs ts (wipeE g4 vs) (putK2 acc k τv) R) noX) noX) (dcL gt tt tk tv vs ts (wipeE g2 vs) acc R)) noX
inductive Dc (gt : DTG) (tt : DTT) (tk tv : DTE) (vs : List Nat) (ts : List T) (g : Ev) (acc : List Key × List T) (R : List Key × List T → Ev → Prop) : Prop where
  | mk (h : dcL gt tt tk tv vs ts g acc R) : Dc gt tt tk tv vs ts g acc R
theorem Dc.out {gt : DTG} {tt : DTT} {tk tv : DTE} {vs : List Nat} {ts : List T} {g : Ev} {acc : List Key × List T} {R : List Key × List T → Ev → Prop} : Dc gt tt tk tv vs ts g acc R → dcL gt tt tk tv vs ts g acc R
  | ⟨h⟩ => h
theorem Dc.ind {gt : DTG} {tt : DTT} {tk tv : DTE} {vs : List Nat} {ts : List T} {g : Ev} {acc : List Key × List T} {R : List Key × List T → Ev → Prop} (I : Nat → Ev → List Key × List T → Prop) (h0 : I 0 g acc)
    (hs : ∀ (i : Nat) (t : T) (g : Ev) (acc : List Key × List T), ts[i]? = some t → I i g acc → ∀ R' : Ev → List Key × List T → Prop, (∀ g' acc', I (i + 1) g' acc' → R' g' acc') →
      gt t g fun g1 => tt g1 (fun b g2 => ifB b (tk g2 (fun τk g3 => tv g3 (fun τv g4 => ∃ k, τk = .leaf (kV k) ∧ acc.1.Nodup ∧ acc.2.length = acc.1.length ∧ acc.1.length < sizeLine ∧ R' (wipeE g4 vs) (putK2 acc k τv)) noX) noX) (R' (wipeE g2 vs) acc)) noX)
    (he : ∀ g acc, I ts.length g acc → R acc g) : Dc gt tt tk tv vs ts g acc R := by
  refine ⟨?_⟩
  have key : ∀ (rest : List T) (i : Nat) (g : Ev) (acc : List Key × List T), ts.drop i = rest → i ≤ ts.length → I i g acc → dcL gt tt tk tv vs rest g acc R := by
    intro rest
    induction rest with
    | nil =>
      intro i g acc e hi h
      have : i = ts.length := by
        have := congrArg List.length e
        rw [List.length_drop, List.length_nil] at this
        omega
      subst this
      exact he g acc h
    | cons t rest ih =>
      intro i g acc e hi h
      have ht : ts[i]? = some t := by
        have := congrArg (·[0]?) e
        simpa using this
      have hlt : i < ts.length := by
        have := congrArg List.length e
        rw [List.length_drop, List.length_cons] at this
        omega
      refine hs i t g acc ht h (fun g' acc' => dcL gt tt tk tv vs rest g' acc' R) fun g' acc' h' => ih (i + 1) g' acc' ?_ hlt h'
      have := congrArg (List.drop 1) e
      rw [List.drop_drop] at this
      simpa [Nat.add_comm] using this
  exact key ts 0 g acc rfl (Nat.zero_le _) h0
def addK (ks : List Key) (k : Key) : List Key := match ixK ks k with
  | some _ => ks
  | none => ks ++ [k]
def keysOf (l : List Key) : List Key := l.foldl addK []
theorem keysOf_snoc (l : List Key) (k : Key) : keysOf (l ++ [k]) = addK (keysOf l) k := by
  unfold keysOf
  rw [List.foldl_append]
  rfl
theorem nd_keysOf (l : List Key) : (keysOf l).Nodup := by
  have key : ∀ (l acc : List Key), acc.Nodup → (l.foldl addK acc).Nodup := by
    intro l
    induction l with
    | nil => exact fun _ h => h
    | cons k l ih =>
      intro acc h
      refine ih _ ?_
      unfold addK
      cases e : ixK acc k with
      | some j => exact h
      | none =>
        have hk := ixK_none.mp e
        exact List.nodup_append.mpr ⟨h, by simp, fun x hx y hy e => by
          rw [List.mem_singleton.mp hy] at e
          subst e
          exact hk hx⟩
  exact key l [] .nil
theorem len_keysOf (l : List Key) : (keysOf l).length ≤ l.length := by
  have key : ∀ (l acc : List Key), (l.foldl addK acc).length ≤ acc.length + l.length := by
    intro l
    induction l with
    | nil => exact fun _ => Nat.le_refl _
    | cons k l ih =>
      intro acc
      have h1 := ih (addK acc k)
      have h2 : (addK acc k).length ≤ acc.length + 1 := by
        unfold addK
        cases ixK acc k <;> simp
      rw [List.foldl_cons, List.length_cons]
      omega
  have := key l []
  simpa [keysOf] using this
theorem putK2_rep {ks : List Key} {k : Key} {τ : T} : putK2 (ks, List.replicate ks.length τ) k τ = (addK ks k, List.replicate (addK ks k).length τ) := by
  unfold putK2 addK
  simp only
  cases e : ixK ks k with
  | none => simp [List.replicate_succ']
  | some j =>
    obtain ⟨h1, h2⟩ := ixK_lt e
    simp only
    rw [set_at (by rw [List.getElem?_replicate, if_pos h1])]
theorem Dc.fx {gt : DTG} {tt : DTT} {tk tv : DTE} {vs : List Nat} {ts : List T} {g : Ev} {R : List Key × List T → Ev → Prop} {β : Type} (xs : List β) (enc : β → T) (e : ts = xs.map enc) (F : β → Option Key) (τ : T) (hl : xs.length ≤ sizeLine)
    (hs : ∀ x ∈ xs, ∀ (acc : List Key × List T) (R' : Ev → List Key × List T → Prop), acc.1.Nodup → acc.2.length = acc.1.length → acc.1.length < sizeLine → (∀ k, F x = some k → R' g (putK2 acc k τ)) → (F x = none → R' g acc) →
      gt (enc x) g fun g1 => tt g1 (fun b g2 => ifB b (tk g2 (fun τk g3 => tv g3 (fun τv g4 => ∃ k, τk = .leaf (kV k) ∧ acc.1.Nodup ∧ acc.2.length = acc.1.length ∧ acc.1.length < sizeLine ∧ R' (wipeE g4 vs) (putK2 acc k τv)) noX) noX) (R' (wipeE g2 vs) acc)) noX)
    (he : R (keysOf (xs.filterMap F), List.replicate (keysOf (xs.filterMap F)).length τ) g) : Dc gt tt tk tv vs ts g ([], []) R := by
  subst e
  refine Dc.ind (fun i g' acc => g' = g ∧ acc = (keysOf ((xs.take i).filterMap F), List.replicate (keysOf ((xs.take i).filterMap F)).length τ) ∧ i ≤ xs.length) ⟨rfl, by simp [keysOf], Nat.zero_le _⟩ (fun i t g' acc ht h R' hR => ?_) fun g' acc h => ?_
  · obtain ⟨rfl, rfl, hi⟩ := h
    rw [List.getElem?_map] at ht
    cases hx : xs[i]? with
    | none => rw [hx] at ht; cases ht
    | some x =>
      rw [hx] at ht
      cases ht
      have hlt : i < xs.length := (List.getElem?_eq_some_iff.mp hx).1
      have e1 : xs.take (i + 1) = xs.take i ++ [x] := by
        rw [List.take_add_one, hx]
        rfl
      refine hs x (List.mem_of_getElem? hx) _ R' (nd_keysOf _) (by simp) ?_ (fun k hk => hR _ _ ⟨rfl, ?_, hlt⟩) (fun hn => hR _ _ ⟨rfl, ?_, hlt⟩)
      · have h1 := List.length_filterMap_le F (xs.take i)
        have h2 := len_keysOf ((xs.take i).filterMap F)
        rw [List.length_take] at h1
        show (keysOf _).length < _
        omega
      · rw [e1, List.filterMap_append, putK2_rep]
        simp only [List.filterMap_cons, hk, List.filterMap_nil]
        rw [keysOf_snoc]
      · rw [e1, List.filterMap_append]
        simp [hn]
  · obtain ⟨rfl, rfl, _⟩ := h
    rw [List.length_map, List.take_length]
    exact he
end DL
set_option Elab.async false
set_option linter.all false
set_option maxRecDepth 100000
set_option maxHeartbeats 4000000
namespace DL
open PySem PySem.Spec PyProof.Rows L2 HT
end DL
set_option Elab.async false
set_option linter.all false
set_option maxRecDepth 100000
set_option maxHeartbeats 4000000
namespace DL
open PySem L2 PyProof.Rows
mutual
def wideD : PyData → Prop
  | .none => True
  | .bool _ => True
  | .int i => i.natAbs.log2 < 12000
  | .str x => PyData.canLay0 (.str x) = true ∧ (∀ c ∈ x.cps.toList, c < 16 ^ 8)
  | .list xs => wideL xs
  | .tuple xs => wideL xs
  | .dict _ => False
def wideL : List PyData → Prop
  | [] => True
  | x :: xs => wideD x ∧ wideL xs
end
mutual
theorem wide_len : ∀ d : PyData, wideD d → d.shown.length + 2 ≤ 13000 * szD d
  | .none, _ => by
    have e : (PyData.shown .none).length = 4 := by simp only [PyData.shown]; rfl
    simp only [szD]
    omega
  | .bool b, _ => by
    have e : (PyData.shown (.bool b)).length ≤ 5 := by
      simp only [PyData.shown]
      cases b <;> decide
    simp only [szD]
    omega
  | .int i, h => by
    simp only [wideD] at h
    have e : (PyData.shown (.int i)).length ≤ 12001 := by
      simp only [PyData.shown]
      have := int_text_length_le (a := i) (k := 12000) (by decide) h
      exact Nat.le_trans (Nat.le_of_eq (PySem.ofString_length _)) this
    simp only [szD]
    omega
  | .str x, h => by
    simp only [wideD] at h
    have e := StrLaws.reprText_len x h.2
    simp only [PyData.shown, szD]
    omega
  | .list xs, h => by
    simp only [wideD] at h
    have h1 := wide_lenL xs h
    have h2 := listText_len_le (PyData.shownAll xs)
    have h3 := szL_len xs
    simp only [PyData.shown, szD]
    omega
  | .tuple xs, h => by
    simp only [wideD] at h
    have h1 := wide_lenL xs h
    have h2 := tupleText_len_le (PyData.shownAll xs)
    have h3 := szL_len xs
    simp only [PyData.shown, szD]
    omega
  | .dict _, h => by simp only [wideD] at h
theorem wide_lenL : ∀ xs : List PyData, wideL xs → ((PyData.shownAll xs).map (·.length)).sum + 2 * xs.length ≤ 13000 * szL xs
  | [], _ => by simp [PyData.shownAll, szL]
  | x :: xs, h => by
    simp only [wideL] at h
    have h1 := wide_len x h.1
    have h2 := wide_lenL xs h.2
    simp only [PyData.shownAll, List.map_cons, List.sum_cons, List.length_cons, szL]
    omega
end
mutual
theorem wide_canLay : ∀ d : PyData, wideD d → d.canLay0 = true
  | .none, _ => by simp [PyData.canLay0]
  | .bool _, _ => by simp [PyData.canLay0]
  | .int _, _ => by simp [PyData.canLay0]
  | .str x, h => by
    simp only [wideD] at h
    exact h.1
  | .list xs, h => by
    simp only [wideD] at h
    simp only [PyData.canLay0]
    exact wide_canLayL xs h
  | .tuple xs, h => by
    simp only [wideD] at h
    simp only [PyData.canLay0]
    exact wide_canLayL xs h
  | .dict _, h => by simp only [wideD] at h
theorem wide_canLayL : ∀ xs : List PyData, wideL xs → PyData.canLayAll0 xs = true
  | [], _ => by simp [PyData.canLayAll0]
  | x :: xs, h => by
    simp only [wideL] at h
    simp only [PyData.canLayAll0, Bool.and_eq_true]
    exact ⟨wide_canLay x h.1, wide_canLayL xs h.2⟩
end
structure WideG (ds : List PyData) : Prop where
  sm : wideL ds
  dp : (PyData.list ds).depth ≤ 60
  sz : szD (.list ds) ≤ 1000
theorem WideG.canLay {ds : List PyData} (h : WideG ds) : (PyData.list ds).canLay0 = true := by
  simp only [PyData.canLay0]
  exact wide_canLayL ds h.sm
theorem WideG.shaped {ds : List PyData} (h : WideG ds) : SeqAt.shaped (.list ds) = true := by
  unfold SeqAt.shaped
  rw [Bool.and_eq_true, decide_eq_true_eq]
  exact ⟨h.canLay, Nat.le_trans h.dp (by decide)⟩
theorem WideG.len {ds : List PyData} (h : WideG ds) : (PyData.list ds).shown.length ≤ sizeLine := by
  have h1 := wide_len (.list ds) (by simp only [wideD]; exact h.sm)
  have h2 := h.sz
  show _ ≤ 2 ^ 24
  omega
theorem WideG.refl {ds : List PyData} (h : WideG ds) : PyData.eqv (.list ds) (.list ds) = true := SeqAt.eqv_refl _ h.canLay
end DL
set_option Elab.async false
set_option linter.all false
set_option maxRecDepth 100000
set_option maxHeartbeats 4000000
namespace DL
open PySem PySem.Calls PySem.NumText L2 PyProof.Rows
end DL
set_option Elab.async false
set_option linter.all false
set_option maxRecDepth 100000
set_option maxHeartbeats 4000000
namespace DL
open PySem L2 PyProof.Rows
end DL
set_option Elab.async false
set_option linter.all false
set_option maxRecDepth 100000
set_option maxHeartbeats 4000000
namespace DL
open PySem L2 PyProof.Rows
section
variable {X : Cx} {pins : List (Addr × Obj)} {σ : L2.St} {H : Hp} {s : Shared} {F : Addr → Prop}
theorem zip_snd {ks : List Key} {ds : List PyData} (h : ds.length = ks.length) : ((ks.map keyD).zip ds).map (·.2) = ds := List.map_snd_zip (by rw [List.length_map]; omega)
end
end DL
set_option Elab.async false
set_option linter.all false
set_option maxRecDepth 100000
set_option maxHeartbeats 4000000
namespace DL
open PySem L2
theorem DE.any {X : Cx} {W : WX} {e : Expr} {te : DTE} (h : DE X W e te) : PE X e (fun σ H Q => ∃ B, liftE X.K B W te σ H Q) := ⟨fun pins s σ H Q I ⟨B, q⟩ => (h.run B).run pins s σ H Q I q⟩
end DL
set_option Elab.async false
set_option linter.all false
set_option maxRecDepth 100000
set_option maxHeartbeats 4000000
namespace DL
open PySem L2
end DL
set_option Elab.async false
set_option linter.all false
set_option maxRecDepth 100000
set_option maxHeartbeats 4000000
namespace DL
open PySem L2
theorem frzL_ln (ts : List T) : (frzL ts).length = ts.length := by rw [frzL_map, List.length_map]
end DL
set_option Elab.async false
set_option linter.all false
set_option maxRecDepth 100000
set_option maxHeartbeats 4000000
namespace DL
open PySem L2
inductive PI where
  | c (i : Int) | v (s : Nat)
def piT (g : Ev) : PI → Option Int
  | .c i => some i
  | .v s => match g[s]? with
    | some (some (.leaf (.int i))) => some i
    | _ => none
def rsv (g : Ev) : List PI → Option (List Int)
  | [] => some []
  | p :: ps => match piT g p, rsv g ps with
    | some i, some is => some (i :: is)
    | _, _ => none
def kidsO : T → Option (Sh × List T)
  | .node true .lst ts => some (.lst, ts)
  | .node true .tup ts => some (.tup, ts)
  | _ => none
theorem kidsO_of {t : T} {s : Sh} {ts : List T} (h : kidsO t = some (s, ts)) : t = .node true s ts ∧ (s = .lst ∨ s = .tup) := by
  unfold kidsO at h
  split at h
  · cases h; exact ⟨rfl, .inl rfl⟩
  · cases h; exact ⟨rfl, .inr rfl⟩
  · cases h
def getP (t : T) : List Int → Option T
  | [] => some t
  | i :: is => (getP t is).bind fun x => (kidsO x).bind fun k => (ixN k.2.length i).bind fun j => k.2[j]?
def setP (t : T) : List Int → T → T
  | [], u => u
  | i :: is, u => match (getP t is).bind kidsO with
    | some k => match ixN k.2.length i with
      | some j => setP t is (.node true k.1 (k.2.set j u))
      | none => t
    | none => t
theorem getP_cons {t : T} {i : Int} {is : List Int} {u : T} (h : getP t (i :: is) = some u) : ∃ s ts j, getP t is = some (.node true s ts) ∧ (s = .lst ∨ s = .tup) ∧ ixN ts.length i = some j ∧ ts[j]? = some u ∧ ∀ u', setP t (i :: is) u' = setP t is (.node true s (ts.set j u')) := by
  unfold getP at h
  cases e : getP t is with
  | none => rw [e] at h; cases h
  | some x =>
    rw [e, Option.bind_some] at h
    cases e1 : kidsO x with
    | none => rw [e1] at h; cases h
    | some k =>
      rw [e1, Option.bind_some] at h
      obtain ⟨s, ts⟩ := k
      obtain ⟨rfl, hs⟩ := kidsO_of e1
      change (ixN ts.length i).bind (fun j => ts[j]?) = some u at h
      cases e2 : ixN ts.length i with
      | none => rw [e2] at h; cases h
      | some j =>
        rw [e2, Option.bind_some] at h
        refine ⟨s, ts, j, rfl, hs, e2, h, fun u' => ?_⟩
        conv => lhs; unfold setP
        rw [e, Option.bind_some, e1]
        simp only [e2]
def piV (σ : St) : PI → Int → Prop
  | .c i, j => i = j
  | .v s, j => σ[s]? = some (some (.int j))
inductive PthV (K : PySem.W.Frag) (σ : St) (H : Hp) (v : V) : List PI → V → Prop
  | nil : PthV K σ H v [] v
  | cons {ps : List PI} {a : Addr} {us : List V} {p : PI} {i : Int} {x : V} : PthV K σ H v ps (.ref a) → (SqL K H a us ∨ SqT K H a us) → piV σ p i → atI us i = some x → PthV K σ H v (p :: ps) x
def tPth (K : PySem.W.Frag) (k : Nat) (ps : List PI) : TE := fun σ H Q => ∃ v x, σ[k]? = some (some v) ∧ PthV K σ H v ps x ∧ Q x H
def tPi : PI → TE
  | .c i => tC (.int i)
  | .v s => tVar s
section
variable {X : Cx} {e ie o : Expr} {pos : Pos}
theorem pp_var {k : Nat} (h : PE X e (tVar k)) : PE X e (tPth X.K k []) := PE.imp h fun σ H Q ⟨v, x, hv, hp, q⟩ => by
  cases hp
  exact ⟨v, hv, q⟩
theorem pp_ix {k : Nat} {ps : List PI} {p : PI} (h : PE X e (tPth X.K k ps)) (hi : PE X ie (tPi p)) (hs : PlainIx ie := by intro _ _; rfl) : PE X (.Subscript e ie pos) (tPth X.K k (p :: ps)) := PE.imp (pe_ix (IxR.or ix_list ix_tup) h hi hs) fun σ H Q ⟨v, x, hv, hp, q⟩ => by
  cases hp with
  | cons hp hs hi hx =>
    rename_i a us i
    refine ⟨v, _, hv, hp, ?_⟩
    have fin : (fun x y H Q => rIxL X.K x y H Q ∨ rIxT X.K x y H Q) (.ref a) (.int i) H Q := by
      rcases hs with hs | hs
      · exact .inl ⟨a, us, i, x, rfl, rfl, hs, hx, q⟩
      · exact .inr ⟨a, us, i, x, rfl, rfl, hs, hx, q⟩
    cases p with
    | c j => cases hi; exact fin
    | v s => exact ⟨_, hi, fin⟩
end
section
variable {K : PySem.W.Frag} {B : Bs} {lim : List Addr} {σ : St} {H H' : Hp} {g : Ev} {Φ Ψ : Its}
theorem RepG.slotLeaf {s : Nat} {w : V} (h : RepG K B lim σ H g Φ) (e : g[s]? = some (some (.leaf w))) : σ[s]? = some (some w) := by
  obtain ⟨v, hv, r⟩ := h.move e
  rw [hv, r.leaf]
theorem piV_of {p : PI} {i : Int} (h : RepG K B lim σ H g Φ) (e : piT g p = some i) : piV σ p i := by
  cases p with
  | c j => exact Option.some.inj e
  | v s =>
    have e : (match g[s]? with | some (some (.leaf (.int i))) => some i | _ => none) = some i := e
    split at e
    · rename_i j hj
      cases e
      exact h.slotLeaf hj
    · cases e
theorem RepG.innerX {v : V} {s : Sh} {ts : List T} {j : Nat} {t : T} (h : RepG K B lim σ H g ((v, .node true s ts) :: Φ)) (ht : ts[j]? = some t) :
    ∃ a us x Ψ, v = .ref a ∧ us.length = ts.length ∧ H a = some (s.mk a us) ∧ us[j]? = some x ∧ RepG K B (a :: lim) σ H g ((x, t) :: (Ψ ++ Φ)) ∧
      ∀ H' t' (Φ' : Its), RepG K B (a :: lim) σ H' g ((x, t') :: (Ψ ++ Φ')) → H' a = some (s.mk a us) → RepG K B lim σ H' g ((v, .node true s (ts.set j t')) :: Φ') := by
  obtain ⟨a, us, rfl, hl, ha, r2⟩ := h.open_
  obtain ⟨x, hx, hz⟩ := zip_get (l := us) (r := ts) hl ht
  obtain ⟨r, p1, _⟩ := set_perm (x, t) hz
  refine ⟨a, us, x, r, rfl, hl, ha, hx, r2.perm (List.Perm.append_right _ p1), fun H' t' Φ' h' ha' => ?_⟩
  obtain ⟨r', p1', p2'⟩ := set_perm (x, t') hz
  have pr : r.Perm r' := List.Perm.cons_inv (p1.symm.trans p1')
  have e1 : (us.zip ts).set j (x, t') = us.zip (ts.set j t') := by rw [zip_set, set_at hx]
  rw [e1] at p2'
  have r5 : RepG K B (a :: lim) σ H' g (us.zip (ts.set j t') ++ Φ') := h'.perm (((List.Perm.cons _ (List.Perm.append_right _ pr))).trans (List.Perm.append_right Φ' p2'.symm))
  have hl2 : us.length = (ts.set j t').length := by rw [List.length_set]; exact hl
  have r6 := r5.close (s := s) (fun vs e => by rw [List.map_fst_zip (by omega)]; exact Option.some.inj (ha'.symm.trans e))
  rw [List.map_fst_zip (by omega), List.map_snd_zip (by omega), upd_self ha'] at r6
  exact r6
theorem RepG.path {k : Nat} {t0 : T} (h : RepG K B lim σ H g Φ) (h0 : g[k]? = some (some t0)) : ∀ {ps : List PI} {is : List Int} {u : T}, rsv g ps = some is → getP t0 is = some u →
    ∃ v x lm Ψ, σ[k]? = some (some v) ∧ PthV K σ H v ps x ∧ RepG K B (lm ++ lim) σ H (g.set k none) ((x, u) :: (Ψ ++ Φ)) ∧
      ∀ H' u' (Φ' : Its), RepG K B (lm ++ lim) σ H' (g.set k none) ((x, u') :: (Ψ ++ Φ')) → (∀ a ∈ lm, H' a = H a) → RepG K B lim σ H' (g.set k (some (setP t0 is u'))) Φ'
  | [], is, u, e1, e2 => by
    cases e1
    cases e2
    obtain ⟨v, hv, r⟩ := h.move h0
    refine ⟨v, v, [], [], hv, .nil, r, fun H' u' Φ' r' _ => ?_⟩
    have := r'.back hv
    rwa [List.set_set] at this
  | p :: ps, is, u, e1, e2 => by
    unfold rsv at e1
    split at e1
    · rename_i i is' hi his
      cases e1
      obtain ⟨s, ts, j, g1, hs, g2, g3, g4⟩ := getP_cons e2
      obtain ⟨v, x, lm, Ψ, hv, hp, r, w⟩ := RepG.path h h0 his g1
      obtain ⟨a, us, y, Ψ', rfl, hl, ha, hy, r2, w2⟩ := r.innerX g3
      have hat : atI us i = some y := by
        unfold atI
        rw [hl, g2]
        exact hy
      have fin : ∀ H' u' (Φ' : Its), RepG K B (a :: lm ++ lim) σ H' (g.set k none) ((y, u') :: ((Ψ' ++ Ψ) ++ Φ')) → (∀ b ∈ a :: lm, H' b = H b) → RepG K B lim σ H' (g.set k (some (setP t0 (i :: is') u'))) Φ' := fun H' u' Φ' r' hk => by
        rw [g4]
        rw [List.append_assoc] at r'
        exact w H' _ Φ' (w2 H' u' _ r' (by rw [hk a List.mem_cons_self]; exact ha)) fun b hb => hk b (List.mem_cons_of_mem _ hb)
      have r3 : RepG K B (a :: lm ++ lim) σ H (g.set k none) ((y, u) :: ((Ψ' ++ Ψ) ++ Φ)) := by
        rw [List.append_assoc]
        exact r2
      rcases hs with rfl | rfl
      · exact ⟨v, y, a :: lm, Ψ' ++ Ψ, hv, .cons hp (.inl (SqL.of ha)) (piV_of h hi) hat, r3, fin⟩
      · exact ⟨v, y, a :: lm, Ψ' ++ Ψ, hv, .cons hp (.inr (SqT.of ha)) (piV_of h hi) hat, r3, fin⟩
    · cases e1
end
section
variable {X : Cx} {W : WX} {m : Nat → Bool} {o e ie value : Expr} {te : DTE} {pos pos' apos cpos p1 : Pos}
theorem zpF {us : List V} {ts : List T} (h : us.length = ts.length) : (us.zip ts).map (·.1) = us := List.map_fst_zip (by omega)
theorem zpS {us : List V} {ts : List T} (h : us.length = ts.length) : (us.zip ts).map (·.2) = ts := List.map_snd_zip (by omega)
theorem ps_setP {to ti tv : TE} (ho : PE X o to) (hi : PE X ie ti) (hv : PE X value tv) (hs : swapsWith value (some (.Subscript o ie pos')) pos.line X.env = pure false) :
    PS X (.Assign [.Subscript o ie pos'] value pos) (fun D σ H => tv σ H fun v H1 => to σ H1 fun x H2 => ti σ H2 fun y H3 => rSetL x y v H3 fun H4 => D.nx σ H4) := by
  refine ⟨fun pins s σ H D I h => ?_⟩
  refine wpAny_Assign_Subscript (thn (hv.run pins s σ H _ I h) fun r s1 ⟨v, H1, I1, rv, q1⟩ => thn (ho.run pins s1 σ H1 _ I1 q1) fun u s2 ⟨x, H2, I2, rx, q2⟩ => thn (hi.run pins s2 σ H2 _ I2 q2) fun iv s3 ⟨y, H3, I3, ry, q3⟩ => ?_) hs
  exact thn (set_list pins s3 σ H3 x y v u iv r _ I3 rx ry rv q3) fun _ s6 ⟨H6, I6, q6⟩ => ⟨σ, H6, I6, q6⟩
theorem tPi_of {σ : St} {H : Hp} {p : PI} {i : Int} {Q : VK} (h : piV σ p i) (q : Q (.int i) H) : tPi p σ H Q := by
  cases p with
  | c j => cases h; exact q
  | v s => exact ⟨_, h, q⟩
end
end DL
set_option Elab.async false
set_option linter.all false
set_option maxRecDepth 100000
set_option maxHeartbeats 4000000
namespace DL
open PySem L2
end DL
set_option Elab.async false
set_option linter.all false
set_option maxRecDepth 100000
set_option maxHeartbeats 4000000
namespace DL
open PySem L2
end DL
set_option Elab.async false
set_option linter.all false
set_option maxRecDepth 100000
set_option maxHeartbeats 4000000
namespace DL
open PySem L2
end DL
set_option Elab.async false
set_option linter.all false
set_option maxRecDepth 100000
set_option maxHeartbeats 4000000
namespace DL
open PySem L2
end DL
set_option Elab.async false
set_option linter.all false
set_option maxRecDepth 100000
set_option maxHeartbeats 4000000
namespace DL
open PySem L2
end DL
set_option Elab.async false
set_option linter.all false
set_option maxRecDepth 100000
set_option maxHeartbeats 4000000
namespace DL
open PySem L2
end DL
set_option Elab.async false
set_option linter.all false
set_option maxRecDepth 100000
set_option maxHeartbeats 4000000
namespace DL
open PySem L2
end DL
set_option Elab.async false
set_option linter.all false
set_option maxRecDepth 100000
set_option maxHeartbeats 4000000
namespace DL
open PySem PySem.Spec PyProof.Rows L2
end DL
set_option Elab.async false
set_option linter.all false
set_option maxRecDepth 100000
set_option maxHeartbeats 4000000
namespace DL
open PySem PySem.Spec PyProof.Rows L2
section
variable {X : Cx} {W : WX} {e k v : Expr} {te : DTE} {pos : Pos}
inductive DPs (X : Cx) (W : WX) (pos : Pos) : List (Option Expr) → List Expr → List Key → List DTE → Prop
  | nil : DPs X W pos [] [] [] []
  | cons {k v : Expr} {key : Key} {te : DTE} {ks : List (Option Expr)} {vs : List Expr} {keys : List Key} {ts : List DTE} : PE X k (tC (kV key)) → DE X W v te → DPs X W pos ks vs keys ts → DPs X W pos (some k :: ks) (v :: vs) (key :: keys) (te :: ts)
def tAllE : List DTE → DTA
  | [] => aNil
  | t :: ts => aCons t (tAllE ts)
theorem DPs.mono : ∀ {ks : List (Option Expr)} {vs : List Expr} {keys : List Key} {ts : List DTE}, DPs X W pos ks vs keys ts → ∀ g Q Q' E E', (∀ τs g', Q τs g' → Q' τs g') → (∀ c fs g', E c fs g' → E' c fs g') → tAllE ts g Q E → tAllE ts g Q' E'
  | _, _, _, _, .nil, _, _, _, _, _, hq, _, q => hq _ _ q
  | _, _, _, _, .cons hk hv h, _, _, _, _, _, hq, he, q => hv.mono _ _ _ _ _ (fun τ g1 q1 => h.mono _ _ _ _ _ (fun τs g2 q2 => hq _ _ q2) he q1) he q
theorem DPs.len : ∀ {ks : List (Option Expr)} {vs : List Expr} {keys : List Key} {ts : List DTE}, DPs X W pos ks vs keys ts → ks.all (·.isSome) = true ∧ ks.length = vs.length ∧ ks.length = keys.length
  | _, _, _, _, .nil => ⟨rfl, rfl, rfl⟩
  | _, _, _, _, .cons _ _ h => ⟨by simp [h.len.1], by simp [h.len.2.1], by simp [h.len.2.2]⟩
end
end DL
set_option Elab.async false
set_option linter.all false
set_option maxRecDepth 100000
set_option maxHeartbeats 4000000
namespace DL
open PySem PySem.Spec PyProof.Rows L2
end DL
set_option Elab.async false
set_option linter.all false
set_option maxRecDepth 100000
set_option maxHeartbeats 4000000
namespace DL
open PySem L2
end DL
set_option Elab.async false
set_option linter.all false
set_option maxRecDepth 100000
set_option maxHeartbeats 4000000
namespace DL
open PySem L2
end DL
set_option Elab.async false
set_option linter.all false
set_option maxRecDepth 100000
set_option maxHeartbeats 4000000
namespace DL
open PySem L2
end DL
set_option Elab.async false
set_option linter.all false
set_option maxRecDepth 100000
set_option maxHeartbeats 4000000
namespace DL
open PySem L2
end DL
set_option Elab.async false
set_option linter.all false
set_option maxRecDepth 100000
set_option maxHeartbeats 4000000
namespace DL
open PySem L2
end DL
set_option Elab.async false
set_option linter.all false
set_option maxRecDepth 100000
set_option maxHeartbeats 4000000
namespace DL
open PySem PySem.Spec PyProof.Rows L2 W
end DL
set_option Elab.async false
set_option linter.all false
set_option maxRecDepth 100000
set_option maxHeartbeats 4000000
namespace DL
open PySem PySem.Spec PyProof.Rows L2 W
end DL
set_option Elab.async false
set_option linter.all false
set_option maxRecDepth 100000
set_option maxHeartbeats 4000000
namespace DL
open PySem PySem.Spec PyProof.Rows L2
section
variable {X : Cx} {W : WX} {m : Nat → Bool} {o e e1 e2 e3 ie value : Expr} {te : DTE} {pos pos' p p1 : Pos} {f : Str}
theorem call_spN {B : Bs} {σ : L2.St} {H : Hp} {Φ : Its} {g1 : Ev} {sp : DSp} {vs : List V} {τs : List T} {Q : VK} {fl : List Bool} {Ex : XK} (hm : MonoD sp) (hl : vs.length = τs.length) (hf : vs.length = fl.length)
    (r : RepG X.K B [] σ H g1 (vs.zip τs ++ Φ)) (q : sp τs (fun τ us => ∀ v H', (pick fl vs).length = us.length → RepG X.K B [] σ H' g1 (((pick fl vs).zip us ++ [(v, τ)]) ++ Φ) → Q v H') (fun _ _ _ => False)) :
    spD X.K X.mg fl sp vs H Q Ex := by
  obtain ⟨F, zs, fp, en, oz, f, hlim⟩ := r
  have p1 : (zs ++ (vs.zip τs ++ Φ)).Perm (vs.zip τs ++ (zs ++ Φ)) := by
    rw [← List.append_assoc, ← List.append_assoc]
    exact List.Perm.append_right _ List.perm_append_comm
  obtain ⟨fp', pf, o'⟩ := oz.perm p1
  obtain ⟨fpA, fpR, rfl, oA, oR⟩ := o'.split
  have f' := f.perm (List.Perm.append_left [] pf)
  have nd := (List.nodup_append.mp f'.nd).2.1
  refine ⟨τs, F, fpA, OwnL.unzip hl oA, (List.nodup_append.mp nd).1, fun a ha => f'.off a (List.mem_append_right _ (List.mem_append_left _ ha)), f'.trk, hf, ?_⟩
  refine hm _ _ _ _ _ (fun τ us q1 v H' aft => ?_) (fun c fs us q1 => q1.elim) q
  obtain ⟨F', f2, hlen, o2, fn⟩ := aft
  have r2 := call_frame en oR f' hlim o2 fn
  exact q1 v H' hlen r2
def xCallP (sp : DSp) (i k : Nat) (ps : List PI) (s : Nat) : DTE := fun g Q _ => atSlot i g fun τ1 => atSlot k g fun t0 => ∃ is u n, rsv (g.set i none) ps = some is ∧ getP t0 is = some u ∧ piT g (.v s) = some n ∧
  sp [τ1, u, .leaf (.int n)] (fun τ us => ∃ u1 u2, us = [u1, u2] ∧ Q τ (((g.set i none).set k (some (setP t0 is u2))).set i (some u1))) (fun _ _ _ => False)
theorem d_callP {sp : DSp} {lv : Nat} {fa : Addr} {fd : FuncData} {ns : List Str} {x : Str} {ps : List PI} (i k s : Nat) (hik : i ≠ k) (F : FnG X.prog X.w X.K X.mg X.base lv fa fd ns (spD X.K X.mg [true, true, false] sp)) (hm : MonoD sp) (hr : Room lv X.A) (hgd : X.A.guards = some []) (hg : Gl X x) (hmg : X.mg x = some (.ref fa))
    (hk : PySem.W.keepIn X.K (.ref fa) = true) (hb : Binds X.K fd ns []) (tk : Takes X (upW X.mg W)) (h1 : PE X e1 (tVar i)) (h2 : PE X e2 (tPth X.K k ps)) (h3 : PE X e3 (tVar s)) (hdb : (x == ("__debug__" : Str)) = false := by decide)
    (s1 : starEach [e1, e2, e3] X.env = (false, eval e1 X.env) :: starEach [e2, e3] X.env := by rfl) (s2 : starEach [e2, e3] X.env = (false, eval e2 X.env) :: starEach [e3] X.env := by rfl) (s3 : starEach [e3] X.env = (false, eval e3 X.env) :: starEach [] X.env := by rfl)
    (hpl : (backTo pos (starEach [e2, e3] X.env)).any (·.1) = false := by rfl) : DE X W (.Call (.Name x p) [e1, e2, e3] [] pos) (xCallP sp i k ps s) := by
  refine ⟨fun B => PE.imp (pe_callG F hr hgd hg hmg hk hb (fun σ => passAt tk σ) (pa_cons h1 (pa_cons h2 (pa_cons h3 pa_nil s3) s2) s1) hdb s1 hpl) fun σ H Q ⟨Φ, lim, g, E, r, hx, q⟩ => ?_,
    fun g Q Q' E E' hq hE q => atSlot_mono (fun τ1 q => atSlot_mono (fun t0 ⟨is, u, n, a1, a2, a3, q⟩ => ⟨is, u, n, a1, a2, a3, hm _ _ _ _ _ (fun τ us ⟨u1, u2, b1, b2⟩ => ⟨u1, u2, b1, hq _ _ b2⟩) (fun _ _ _ z => z) q⟩) q) q⟩
  obtain ⟨τ1, g1, q⟩ := atSlot_of q
  obtain ⟨t0, g2, is, u, n, a1, a2, a3, q⟩ := atSlot_of q
  obtain ⟨v1, hv1, r1⟩ := r.move g1
  have g2' : (g.set i none)[k]? = some (some t0) := by rw [List.getElem?_set_ne hik]; exact g2
  have hn : σ[s]? = some (some (.int n)) := piV_of r a3
  obtain ⟨v2, y, lm, Ψ, hv2, hp, r2, back⟩ := r1.path g2' a1 a2
  obtain ⟨B', r3, back3⟩ := r2.rebase
  refine ⟨v1, hv1, v2, y, hv2, hp, .int n, hn, ?_⟩
  have r4 : RepG X.K B' [] σ H ((g.set i none).set k none) ([v1, y, V.int n].zip [τ1, u, T.leaf (.int n)] ++ (Ψ ++ Φ)) := by
    have : RepG X.K B' [] σ H ((g.set i none).set k none) ((v1, τ1) :: (y, u) :: (Ψ ++ Φ)) := r3.perm (by
      refine (List.Perm.cons _ List.perm_middle).trans ?_
      exact List.Perm.swap _ _ _)
    refine (this.addLeaf (v := .int n)).perm ?_
    show List.Perm _ ((v1, τ1) :: (y, u) :: (V.int n, T.leaf (.int n)) :: (Ψ ++ Φ))
    exact (List.Perm.swap _ _ _).trans (List.Perm.cons _ (List.Perm.swap _ _ _))
  refine call_spN hm rfl rfl r4 (hm _ _ _ _ _ (fun τ us z v H' hl r5 => ?_) (fun _ _ _ z => z) q)
  obtain ⟨u1, u2, rfl, q2⟩ := z
  obtain ⟨r6, hk6⟩ := back3 σ H' _ _ r5
  have r7 := back H' u2 ((v1, u1) :: (v, τ) :: Φ) (r6.perm (by
    show List.Perm ((v1, u1) :: (y, u2) :: (v, τ) :: (Ψ ++ Φ)) _
    refine (List.Perm.swap _ _ _).trans (List.Perm.cons _ ?_)
    refine List.Perm.trans ?_ List.perm_middle.symm
    exact List.Perm.cons _ List.perm_middle.symm)) fun a ha => hk6 a (List.mem_append_left _ ha)
  exact q2 _ _ (r7.back hv1)
def sSetF (k : Nat) (C0 : Addr) (ns0 : List Str) (j : Nat) (p : PI) (te : DTE) : DTS := fun D g => te g (fun τ g1 => atSlot k g1 fun t0 => ownI C0 ns0 t0 fun dx ts => ∃ l i jj, ts[j]? = some (.node true .lst l) ∧ piT g1 p = some i ∧ ixN l.length i = some jj ∧
  D.nx (g1.set k (some (.node true (.ins C0 dx ns0) (ts.set j (.node true .lst (l.set jj (frz τ)))))))) D.ex
theorem ds_setF {C0 : Addr} {ns0 : List Str} {j : Nat} {p : PI} (k : Nat) (ho : PE X o (tVar k)) (hi : PE X ie (tPi p)) (hv : DE X W value te) (cl : Cls X.K C0) (n : NoAttr X.K C0 f) (hj : ns0.idxOf? f = some j)
    (hb : attributeBase o f X.env (eval o X.env) = eval o X.env := by rfl)
    (hs : swapsWith value (some (.Subscript (.Attribute o f p1) ie pos')) pos.line X.env = pure false := by rfl) : DS X W m (.Assign [.Subscript (.Attribute o f p1) ie pos'] value pos) (sSetF k C0 ns0 j p te) := by
  refine .mk' (fun B σ0 => ps_setP (pe_fld (f := f) ho hb) hi (hv.run B) hs) (fun B σ0 D σ H Φ lim g E r hk hX q => ?_) fun D D' g h q => hv.mono _ _ _ _ _ (fun τ g1 q1 => atSlot_mono (fun t0 q1 => ownI_mono (fun dx ts ⟨l, i, jj, b1, b2, b3, z⟩ => ⟨l, i, jj, b1, b2, b3, h.nx _ z⟩) q1) q1) h.ex q
  refine ⟨Φ, lim, g, E, r, hX σ hk, hv.mono _ _ _ _ _ (fun τ g1 q1 v H1 r1 => ?_) (fun _ _ _ z => z) q⟩
  obtain ⟨t0, h0, q2⟩ := atSlot_of q1
  obtain ⟨dx, ts, rfl, l, i, jj, hl, h3, h4, q2⟩ := ownI_of q2
  replace r1 := r1.freezeT
  generalize frz τ = τ at r1 q2
  obtain ⟨v0, hv0, r2⟩ := r1.move h0
  obtain ⟨a, us, x, Ψ, rfl, hul, ha, hx, r3, w⟩ := r2.innerX hl
  obtain ⟨a3, us3, rfl, hl3, ha3, r4⟩ := r3.open_
  have nd := r4.limNd
  have n3 : a ≠ a3 := fun e => by subst e; simp at nd
  have hjl : jj < l.length := ixN_lt h4
  obtain ⟨r', p1, p2⟩ := set_perm (v, τ) (l := us3.zip l) (i := jj) (x := (us3.zip l)[jj]'(by rw [List.length_zip]; omega)) (List.getElem?_eq_getElem _)
  have r5 := (r4.perm (Ψ := (us3.zip l).set jj (v, τ) ++ (Ψ ++ ((us3.zip l)[jj]'(by rw [List.length_zip]; omega) :: Φ))) (by
    refine (List.Perm.append_right _ p1).trans (List.Perm.trans ?_ (List.Perm.append_right _ p2.symm))
    simp only [List.cons_append]
    have e : ∀ (x y : V × T) (a b c : Its), (x :: (a ++ (b ++ y :: c))).Perm (y :: (a ++ (b ++ x :: c))) := fun x y a b c => by
      have z : ∀ x y : V × T, (x :: (a ++ (b ++ y :: c))).Perm (x :: y :: (a ++ (b ++ c))) := fun x y => List.Perm.cons x ((List.Perm.append_left a List.perm_middle).trans List.perm_middle)
      exact (z x y).trans ((List.Perm.swap _ _ _).trans (z y x).symm)
    exact e _ _ _ _ _)).close (s := .lst) (fun vs e => nomatch (show HO.lst us3 = HO.tup vs from Option.some.inj (ha3.symm.trans e)))
  rw [show (us3.zip l).set jj (v, τ) = (us3.set jj v).zip (l.set jj τ) by rw [zip_set], zpF (by simp only [List.length_set]; exact hl3), zpS (by simp only [List.length_set]; exact hl3)] at r5
  have r6 := w _ _ _ r5 (by rw [upd_ne n3]; exact ha)
  have r7 := r6.back hv0
  rw [List.set_set] at r7
  exact ⟨_, hv0, a, C0, dx, _, _, rfl, ha, cl, n, lookup_zip hj hx, tPi_of (piV_of r1 h3) ⟨a3, us3, i, jj, rfl, rfl, ha3, by rw [hl3]; exact h4, q2 _ _ r7.dropT hk⟩⟩
theorem get_listN : PGet X (fun o i H Q => ∃ (p : Addr) (xs : List V) (k : Int) (v : V), o = .ref p ∧ i = .int k ∧ k < 0 ∧ 0 ≤ k + (xs.length : Int) ∧ SqL X.K H p xs ∧ xs[(k + (xs.length : Int)).toNat]? = some v ∧ Q v H) := by
  intro pins s σ H o i ov iv Q I ro ri h
  obtain ⟨pa, xs, k, v, rfl, rfl, h0, h1, hs, hv, q⟩ := h
  cases ro
  obtain ⟨t, rfl⟩ := ri
  obtain ⟨its, r, pl, hz⟩ := I.list hs
  obtain ⟨w, ew, rw'⟩ := r.get hv
  have hl := r.length
  have hn := line63
  refine wpAny_getItem_list_neg pl.isList (by omega) (by rw [List.size_toArray] <;> omega) (by omega) ?_ ⟨v, H, I, rw', q⟩
  rw [List.size_toArray, ← hl]
  simpa using ew
def sAugM (i : Nat) (ti : DTE) (rt : R2T) (te : DTE) : DTS := fun D g => atSlot i g fun _ => ti g (fun τ2 g1 => isI τ2 fun k => k < 0 ∧ atSlot i g1 fun t0 => ownL t0 fun ts => ∃ t, 0 ≤ k + (ts.length : Int) ∧ ts[(k + (ts.length : Int)).toNat]? = some t ∧ isLf t fun w => te g1 (fun τe g2 => rt (.leaf w) τe fun τ =>
  atSlot i g2 fun t2 => ownL t2 fun ts2 => ts2.length = ts.length ∧ D.nx (g2.set i (some (.node true .lst (ts2.set (k + (ts.length : Int)).toNat τ))))) D.ex) D.ex
theorem ds_augM {ix : Expr} {ti : DTE} {op : Operator} {rr : R2} {rt : R2T} {tpos : Pos} (i : Nat) (ho : PE X o (tVar i)) (hi : DE X W ix ti) (he : DE X W e te) (hp : OpR X (inplaceOp op) rr) (hr : Op2 X.K rr rt)
    (ha : ∀ ov iv new, augStore ix ov iv new = (do holding [new, ov, iv] (setItem ov iv new); release [new, ov, iv] []; pure .next) := by intros; rfl) : DS X W m (.AugAssign (.Subscript o ix tpos) op e pos) (sAugM i ti rt te) := by
  refine .mk' (fun B σ0 => ps_augS ho (hi.run B) get_listN (he.run B) hp set_list ha) (fun B σ0 D σ H Φ lim g E r hk hX q => ?_) fun D D' g h q => ?_
  · obtain ⟨t0, h0, q⟩ := atSlot_of q
    obtain ⟨v0, hv⟩ := r.slot h0
    refine ⟨v0, hv, Φ, lim, g, E, r, hX σ hk, hi.mono _ _ _ _ _ (fun τ2 g1 q1 v2 H2 r2 => ?_) (fun _ _ _ z => z) q⟩
    obtain ⟨k, rfl, hk0, q1⟩ := isI_of q1
    obtain ⟨t1, h1, q1⟩ := atSlot_of q1
    obtain ⟨ts, rfl, t, hk1, ht, q1⟩ := ownL_of q1
    obtain ⟨w, rfl, q1⟩ := isLf_of q1
    obtain rfl := r2.leaf
    have htl := (List.getElem?_eq_some_iff.mp ht).1
    obtain ⟨ad, us, y, hv2, hl, hH, hy, r3⟩ := r2.dropT.partO h1 ht
    rw [hv] at hv2
    cases hv2
    obtain rfl := r3.leaf
    have r4 : RepG X.K B lim σ H2 g1 ((y, .leaf y) :: Φ) := by
      have e1 : ts.set (k + (ts.length : Int)).toNat (frz (.leaf y)) = ts := by
        show ts.set _ (.leaf y) = ts
        exact set_at ht
      rw [e1, set_at h1] at r3
      exact r3
    refine ⟨ad, us, k, y, rfl, rfl, hk0, by rw [hl]; exact hk1, SqL.of hH, by rw [hl]; exact hy, (y, .leaf y) :: Φ, lim, g1, E, r4, hX σ hk, he.mono _ _ _ _ _ (fun τe g2 q2 v3 H3 r5 => ?_) (fun _ _ _ z => z) q1⟩
    refine hr.1 B lim σ H3 g2 Φ y v3 _ τe _ r5 (hr.2 _ _ _ _ (fun τ q3 v4 H4 r6 => ?_) q2)
    obtain ⟨t2, h2, q3⟩ := atSlot_of q3
    obtain ⟨ts2, rfl, hlt, q3⟩ := ownL_of q3
    obtain ⟨ad2, us2, hv3, hl2, hH2, r7⟩ := r6.setO h2 (show (k + (ts.length : Int)).toNat < ts2.length by omega)
    rw [hv] at hv3
    cases hv3
    refine ⟨_, us2, k, (k + (ts.length : Int)).toNat, rfl, rfl, hH2, ?_, q3 _ _ r7 hk⟩
    unfold ixN
    rw [if_neg (by omega), hl2, hlt, if_pos (by omega)]
  · refine atSlot_mono (fun _ q => hi.mono _ _ _ _ _ (fun τ g1 q1 => isI_mono (fun k q2 => ⟨q2.1, atSlot_mono (fun t0 q3 => ownL_mono (fun ts ⟨t, h0, h1, q4⟩ => ⟨t, h0, h1, isLf_mono (fun w q5 => ?_) q4⟩) q3) q2.2⟩) q1) h.ex q) q
    exact he.mono _ _ _ _ _ (fun τe g2 q6 => hr.2 _ _ _ _ (fun τ q7 => atSlot_mono (fun t2 q8 => ownL_mono (fun ts2 q9 => ⟨q9.1, h.nx _ q9.2⟩) q8) q7) q6) h.ex q5
end
end DL
set_option Elab.async false
set_option linter.all false
set_option maxRecDepth 100000
set_option maxHeartbeats 4000000
namespace L06
open PySem L2 DL
def top (i : Nat) : Stmt := PySem.Challenge.pw_wholepoll_k06_whole_seals_and_recounts.main.body.getD i (.Pass ⟨0, 0, 0, 0⟩)
variable [Kls]
abbrev C_Box : Addr := Kls.a 0
abbrev ns_Box : List Str := ["hands", "bundles"]
abbrev s_holds : Stmt := top 9
def N_holds : List Str := ["mask", "hand"]
theorem sc_holds : FnScope N_holds ["mask", "hand"] (defScope s_holds) := ⟨rfl, rfl, rfl, by decide +kernel, rfl, by decide +kernel, by decide +kernel⟩
abbrev s_with_one : Stmt := top 10
def N_with_one : List Str := ["mask", "hand"]
theorem sc_with_one : FnScope N_with_one ["mask", "hand"] (defScope s_with_one) := ⟨rfl, rfl, rfl, by decide +kernel, rfl, by decide +kernel, by decide +kernel⟩
abbrev s_is_whole : Stmt := top 12
def N_is_whole : List Str := ["thing"]
theorem sc_is_whole : FnScope N_is_whole ["thing"] (defScope s_is_whole) := ⟨rfl, rfl, rfl, by decide +kernel, rfl, by decide +kernel, by decide +kernel⟩
abbrev s_slip_of : Stmt := top 15
def N_slip_of : List Str := ["ranks", "hands", "rank", "slip", "tier", "hand"]
theorem sc_slip_of : FnScope N_slip_of ["ranks", "hands"] (defScope s_slip_of) := ⟨rfl, rfl, rfl, by decide +kernel, rfl, by decide +kernel, by decide +kernel⟩
abbrev s_ranks_of : Stmt := top 16
def N_ranks_of : List Str := ["slip", "hands", "ranks", "at", "tier", "hand"]
theorem sc_ranks_of : FnScope N_ranks_of ["slip", "hands"] (defScope s_ranks_of) := ⟨rfl, rfl, rfl, by decide +kernel, rfl, by decide +kernel, by decide +kernel⟩
abbrev s_code_of : Stmt := top 20
def N_code_of : List Str := ["line", "hands", "slip", "number", "code", "rank"]
theorem sc_code_of : FnScope N_code_of ["line", "hands"] (defScope s_code_of) := ⟨rfl, rfl, rfl, by decide +kernel, rfl, by decide +kernel, by decide +kernel⟩
abbrev s_line_of : Stmt := top 21
def N_line_of : List Str := ["code", "hands", "ranks", "k", "slip", "rank"]
theorem sc_line_of : FnScope N_line_of ["code", "hands"] (defScope s_line_of) := ⟨rfl, rfl, rfl, by decide +kernel, rfl, by decide +kernel, by decide +kernel⟩
abbrev s_seal_of : Stmt := top 23
def N_seal_of : List Str := ["codes", "plain", "once", "twice", "at", "code", "place"]
theorem sc_seal_of : FnScope N_seal_of ["codes"] (defScope s_seal_of) := ⟨rfl, rfl, rfl, by decide +kernel, rfl, by decide +kernel, by decide +kernel⟩
abbrev s_mended : Stmt := top 24
def N_mended : List Str := ["codes", "seal", "many", "plain", "once", "twice", "lacks", "place", "rest", "found"]
theorem sc_mended : FnScope N_mended ["codes", "seal"] (defScope s_mended) := ⟨rfl, rfl, rfl, by decide +kernel, rfl, by decide +kernel, by decide +kernel⟩
abbrev s_put_together : Stmt := top 27
def N_put_together : List Str := ["lines", "many", "slip", "number", "line"]
theorem sc_put_together : FnScope N_put_together ["lines"] (defScope s_put_together) := ⟨rfl, rfl, rfl, by decide +kernel, rfl, by decide +kernel, by decide +kernel⟩
abbrev s_sheet_of : Stmt := top 28
def N_sheet_of : List Str := ["lines", "slip", "number"]
theorem sc_sheet_of : FnScope N_sheet_of ["lines"] (defScope s_sheet_of) := ⟨rfl, rfl, rfl, by decide +kernel, rfl, by decide +kernel, by decide +kernel⟩
abbrev s_joined : Stmt := top 29
def N_joined : List Str := ["sheets", "lines", "sheet"]
theorem sc_joined : FnScope N_joined ["sheets"] (defScope s_joined) := ⟨rfl, rfl, rfl, by decide +kernel, rfl, by decide +kernel, by decide +kernel⟩
abbrev s_ballots_in : Stmt := top 30
def N_ballots_in : List Str := ["sheet", "slip", "number"]
theorem sc_ballots_in : FnScope N_ballots_in ["sheet"] (defScope s_ballots_in) := ⟨rfl, rfl, rfl, by decide +kernel, rfl, by decide +kernel, by decide +kernel⟩
abbrev s_number_of : Stmt := top 31
def N_number_of : List Str := ["sheet", "slip", "other", "number"]
theorem sc_number_of : FnScope N_number_of ["sheet", "slip"] (defScope s_number_of) := ⟨rfl, rfl, rfl, by decide +kernel, rfl, by decide +kernel, by decide +kernel⟩
abbrev s_apart : Stmt := top 32
def N_apart : List Str := ["one", "other", "found", "slip", "number"]
theorem sc_apart : FnScope N_apart ["one", "other"] (defScope s_apart) := ⟨rfl, rfl, rfl, by decide +kernel, rfl, by decide +kernel, by decide +kernel⟩
abbrev s_Box_init : Stmt := inClass (top 35) 0
def N_Box_init : List Str := ["self", "hands"]
theorem sc_Box_init : FnScope N_Box_init ["self", "hands"] (defScope s_Box_init) := ⟨rfl, rfl, rfl, by decide +kernel, rfl, by decide +kernel, by decide +kernel⟩
abbrev s_Box_many : Stmt := inClass (top 35) 1
def N_Box_many : List Str := ["self"]
theorem sc_Box_many : FnScope N_Box_many ["self"] (defScope s_Box_many) := ⟨rfl, rfl, rfl, by decide +kernel, rfl, by decide +kernel, by decide +kernel⟩
abbrev s_Box_lying : Stmt := inClass (top 35) 2
def N_Box_lying : List Str := ["self", "k"]
theorem sc_Box_lying : FnScope N_Box_lying ["self", "k"] (defScope s_Box_lying) := ⟨rfl, rfl, rfl, by decide +kernel, rfl, by decide +kernel, by decide +kernel⟩
abbrev s_Box_take : Stmt := inClass (top 35) 3
def N_Box_take : List Str := ["self", "codes", "seal", "found", "place", "lines", "code"]
theorem sc_Box_take : FnScope N_Box_take ["self", "codes", "seal"] (defScope s_Box_take) := ⟨rfl, rfl, rfl, by decide +kernel, rfl, by decide +kernel, by decide +kernel⟩
abbrev s_Box_lines_at : Stmt := inClass (top 35) 4
def N_Box_lines_at : List Str := ["self", "k"]
theorem sc_Box_lines_at : FnScope N_Box_lines_at ["self", "k"] (defScope s_Box_lines_at) := ⟨rfl, rfl, rfl, by decide +kernel, rfl, by decide +kernel, by decide +kernel⟩
abbrev s_Box_sheet_at : Stmt := inClass (top 35) 5
def N_Box_sheet_at : List Str := ["self", "k"]
theorem sc_Box_sheet_at : FnScope N_Box_sheet_at ["self", "k"] (defScope s_Box_sheet_at) := ⟨rfl, rfl, rfl, by decide +kernel, rfl, by decide +kernel, by decide +kernel⟩
abbrev s_Box_seal_at : Stmt := inClass (top 35) 6
def N_Box_seal_at : List Str := ["self", "k", "line"]
theorem sc_Box_seal_at : FnScope N_Box_seal_at ["self", "k"] (defScope s_Box_seal_at) := ⟨rfl, rfl, rfl, by decide +kernel, rfl, by decide +kernel, by decide +kernel⟩
abbrev s_Box_sheet : Stmt := inClass (top 35) 7
def N_Box_sheet : List Str := ["self", "lines"]
theorem sc_Box_sheet : FnScope N_Box_sheet ["self"] (defScope s_Box_sheet) := ⟨rfl, rfl, rfl, by decide +kernel, rfl, by decide +kernel, by decide +kernel⟩
abbrev s_Box_put_right : Stmt := inClass (top 35) 8
def N_Box_put_right : List Str := ["self", "k", "lines", "old", "new", "wanted", "got"]
theorem sc_Box_put_right : FnScope N_Box_put_right ["self", "k", "lines"] (defScope s_Box_put_right) := ⟨rfl, rfl, rfl, by decide +kernel, rfl, by decide +kernel, by decide +kernel⟩
abbrev s__law_bag : Stmt := top 37
def N__law_bag : List Str := ["_law_script", "_law_cell"]
theorem sc__law_bag : FnScope N__law_bag ["_law_script"] (defScope s__law_bag) := ⟨rfl, rfl, rfl, by decide +kernel, rfl, by decide +kernel, by decide +kernel⟩
abbrev s__law_take : Stmt := top 38
def N__law_take : List Str := ["_law_bag_here", "_law_many", "_law_early", "_law_second", "_law_cell", "_law_mixed_here", "_law_drawn"]
theorem sc__law_take : FnScope N__law_take ["_law_bag_here", "_law_many"] (defScope s__law_take) := ⟨rfl, rfl, rfl, by decide +kernel, rfl, by decide +kernel, by decide +kernel⟩
abbrev s__law_alike : Stmt := top 39
def N__law_alike : List Str := ["_law_found", "_law_due"]
theorem sc__law_alike : FnScope N__law_alike ["_law_found", "_law_due"] (defScope s__law_alike) := ⟨rfl, rfl, rfl, by decide +kernel, rfl, by decide +kernel, by decide +kernel⟩
abbrev s__law_one : Stmt := top 40
def N__law_one : List Str := ["_law_bag_here", "_law_some"]
theorem sc__law_one : FnScope N__law_one ["_law_bag_here", "_law_some"] (defScope s__law_one) := ⟨rfl, rfl, rfl, by decide +kernel, rfl, by decide +kernel, by decide +kernel⟩
abbrev s__law_mixed : Stmt := top 41
def N__law_mixed : List Str := ["_law_bag_here", "_law_things", "_law_found", "_law_thing"]
theorem sc__law_mixed : FnScope N__law_mixed ["_law_bag_here", "_law_things"] (defScope s__law_mixed) := ⟨rfl, rfl, rfl, by decide +kernel, rfl, by decide +kernel, by decide +kernel⟩
abbrev s__law_ranks : Stmt := top 42
def N__law_ranks : List Str := ["_law_bag_here", "_law_hands", "_law_wide", "_law_hand"]
theorem sc__law_ranks : FnScope N__law_ranks ["_law_bag_here", "_law_hands"] (defScope s__law_ranks) := ⟨rfl, rfl, rfl, by decide +kernel, rfl, by decide +kernel, by decide +kernel⟩
abbrev s__law_tiers : Stmt := top 43
def N__law_tiers : List Str := ["_law_ranks_here", "_law_found", "_law_rank", "_law_hand", "_law_one_here"]
theorem sc__law_tiers : FnScope N__law_tiers ["_law_ranks_here"] (defScope s__law_tiers) := ⟨rfl, rfl, rfl, by decide +kernel, rfl, by decide +kernel, by decide +kernel⟩
abbrev s__law_bit : Stmt := top 44
def N__law_bit : List Str := ["_law_hand"]
theorem sc__law_bit : FnScope N__law_bit ["_law_hand"] (defScope s__law_bit) := ⟨rfl, rfl, rfl, by decide +kernel, rfl, by decide +kernel, by decide +kernel⟩
abbrev s__law_slip : Stmt := top 45
def N__law_slip : List Str := ["_law_bag_here", "_law_hands"]
theorem sc__law_slip : FnScope N__law_slip ["_law_bag_here", "_law_hands"] (defScope s__law_slip) := ⟨rfl, rfl, rfl, by decide +kernel, rfl, by decide +kernel, by decide +kernel⟩
abbrev s__law_ballots : Stmt := top 46
def N__law_ballots : List Str := ["_law_bag_here", "_law_most"]
theorem sc__law_ballots : FnScope N__law_ballots ["_law_bag_here", "_law_most"] (defScope s__law_ballots) := ⟨rfl, rfl, rfl, by decide +kernel, rfl, by decide +kernel, by decide +kernel⟩
abbrev s__law_lines : Stmt := top 47
def N__law_lines : List Str := ["_law_bag_here", "_law_hands", "_law_many", "_law_slips", "_law_k"]
theorem sc__law_lines : FnScope N__law_lines ["_law_bag_here", "_law_hands", "_law_many"] (defScope s__law_lines) := ⟨rfl, rfl, rfl, by decide +kernel, rfl, by decide +kernel, by decide +kernel⟩
abbrev s__law_altered : Stmt := top 48
def N__law_altered : List Str := ["_law_bag_here", "_law_codes", "_law_found", "_law_at"]
theorem sc__law_altered : FnScope N__law_altered ["_law_bag_here", "_law_codes"] (defScope s__law_altered) := ⟨rfl, rfl, rfl, by decide +kernel, rfl, by decide +kernel, by decide +kernel⟩
abbrev s__law_is_torn : Stmt := top 49
def N__law_is_torn : List Str := ["_law_box", "_law_codes", "_law_seal", "e"]
theorem sc__law_is_torn : FnScope N__law_is_torn ["_law_box", "_law_codes", "_law_seal"] (defScope s__law_is_torn) := ⟨rfl, rfl, rfl, by decide +kernel, rfl, by decide +kernel, by decide +kernel⟩
abbrev s__law_taken_right : Stmt := top 50
def N__law_taken_right : List Str := ["_law_bag_here", "_law_boxes", "_law_bundles", "_law_hands", "_law_box", "_law_lines_here", "_law_codes", "_law_seal", "_law_row", "_law_place", "_law_line", "_law_code"]
theorem sc__law_taken_right : FnScope N__law_taken_right ["_law_bag_here", "_law_boxes", "_law_bundles", "_law_hands"] (defScope s__law_taken_right) := ⟨rfl, rfl, rfl, by decide +kernel, rfl, by decide +kernel, by decide +kernel⟩
abbrev s__law_recounts_right : Stmt := top 51
def N__law_recounts_right : List Str := ["_law_bag_here", "_law_box", "_law_hands", "_law_whole", "_law_k", "_law_elder", "_law_other", "_law_lines_here", "_law_due", "_law_slip_here", "_law_number", "_law_line"]
theorem sc__law_recounts_right : FnScope N__law_recounts_right ["_law_bag_here", "_law_box", "_law_hands"] (defScope s__law_recounts_right) := ⟨rfl, rfl, rfl, by decide +kernel, rfl, by decide +kernel, by decide +kernel⟩
abbrev s_law : Stmt := top 52
def N_law : List Str := ["_law_script", "_law_bag_here", "_law_turn", "_law_hands", "_law_bundles", "_law_boxes", "_law_k", "_law_lines_here"]
theorem sc_law : FnScope N_law ["_law_script"] (defScope s_law) := ⟨rfl, rfl, rfl, by decide +kernel, rfl, by decide +kernel, by decide +kernel⟩
theorem bo_abs : bootBuiltins "abs" = some (.builtin "abs") := by decide +kernel
theorem bo_bool : bootBuiltins "bool" = some (.type "bool") := by decide +kernel
theorem bo_divmod : bootBuiltins "divmod" = some (.builtin "divmod") := by decide +kernel
theorem bo_int : bootBuiltins "int" = some (.type "int") := by decide +kernel
theorem bo_isinstance : bootBuiltins "isinstance" = some (.builtin "isinstance") := by decide +kernel
theorem bo_len : bootBuiltins "len" = some (.builtin "len") := by decide +kernel
theorem bo_list : bootBuiltins "list" = some (.type "list") := by decide +kernel
theorem bo_max : bootBuiltins "max" = some (.builtin "max") := by decide +kernel
theorem bo_repr : bootBuiltins "repr" = some (.builtin "repr") := by decide +kernel
theorem bo_sum : bootBuiltins "sum" = some (.builtin "sum") := by decide +kernel
theorem bo_tuple : bootBuiltins "tuple" = some (.type "tuple") := by decide +kernel
set_option genInjectivity false in
set_option genSizeOf false in
structure Txt (K : PySem.W.Frag) (mg : Str → Option Value) where
  a_holds : Addr
  d_holds : FuncData
  F_holds : Fun K "holds" "holds" s_holds a_holds d_holds
  b_holds : Binds K d_holds ["mask", "hand"] []
  g_holds : mg "holds" = some (.ref a_holds)
  a_with_one : Addr
  d_with_one : FuncData
  F_with_one : Fun K "with_one" "with_one" s_with_one a_with_one d_with_one
  b_with_one : Binds K d_with_one ["mask", "hand"] []
  g_with_one : mg "with_one" = some (.ref a_with_one)
  a_is_whole : Addr
  d_is_whole : FuncData
  F_is_whole : Fun K "is_whole" "is_whole" s_is_whole a_is_whole d_is_whole
  b_is_whole : Binds K d_is_whole ["thing"] []
  g_is_whole : mg "is_whole" = some (.ref a_is_whole)
  a_slip_of : Addr
  d_slip_of : FuncData
  F_slip_of : Fun K "slip_of" "slip_of" s_slip_of a_slip_of d_slip_of
  b_slip_of : Binds K d_slip_of ["ranks", "hands"] []
  g_slip_of : mg "slip_of" = some (.ref a_slip_of)
  a_ranks_of : Addr
  d_ranks_of : FuncData
  F_ranks_of : Fun K "ranks_of" "ranks_of" s_ranks_of a_ranks_of d_ranks_of
  b_ranks_of : Binds K d_ranks_of ["slip", "hands"] []
  g_ranks_of : mg "ranks_of" = some (.ref a_ranks_of)
  a_code_of : Addr
  d_code_of : FuncData
  F_code_of : Fun K "code_of" "code_of" s_code_of a_code_of d_code_of
  b_code_of : Binds K d_code_of ["line", "hands"] []
  g_code_of : mg "code_of" = some (.ref a_code_of)
  a_line_of : Addr
  d_line_of : FuncData
  F_line_of : Fun K "line_of" "line_of" s_line_of a_line_of d_line_of
  b_line_of : Binds K d_line_of ["code", "hands"] []
  g_line_of : mg "line_of" = some (.ref a_line_of)
  a_seal_of : Addr
  d_seal_of : FuncData
  F_seal_of : Fun K "seal_of" "seal_of" s_seal_of a_seal_of d_seal_of
  b_seal_of : Binds K d_seal_of ["codes"] []
  g_seal_of : mg "seal_of" = some (.ref a_seal_of)
  a_mended : Addr
  d_mended : FuncData
  F_mended : Fun K "mended" "mended" s_mended a_mended d_mended
  b_mended : Binds K d_mended ["codes", "seal"] []
  g_mended : mg "mended" = some (.ref a_mended)
  a_put_together : Addr
  d_put_together : FuncData
  F_put_together : Fun K "put_together" "put_together" s_put_together a_put_together d_put_together
  b_put_together : Binds K d_put_together ["lines"] []
  g_put_together : mg "put_together" = some (.ref a_put_together)
  a_sheet_of : Addr
  d_sheet_of : FuncData
  F_sheet_of : Fun K "sheet_of" "sheet_of" s_sheet_of a_sheet_of d_sheet_of
  b_sheet_of : Binds K d_sheet_of ["lines"] []
  g_sheet_of : mg "sheet_of" = some (.ref a_sheet_of)
  a_joined : Addr
  d_joined : FuncData
  F_joined : Fun K "joined" "joined" s_joined a_joined d_joined
  b_joined : Binds K d_joined ["sheets"] []
  g_joined : mg "joined" = some (.ref a_joined)
  a_ballots_in : Addr
  d_ballots_in : FuncData
  F_ballots_in : Fun K "ballots_in" "ballots_in" s_ballots_in a_ballots_in d_ballots_in
  b_ballots_in : Binds K d_ballots_in ["sheet"] []
  g_ballots_in : mg "ballots_in" = some (.ref a_ballots_in)
  a_number_of : Addr
  d_number_of : FuncData
  F_number_of : Fun K "number_of" "number_of" s_number_of a_number_of d_number_of
  b_number_of : Binds K d_number_of ["sheet", "slip"] []
  g_number_of : mg "number_of" = some (.ref a_number_of)
  a_apart : Addr
  d_apart : FuncData
  F_apart : Fun K "apart" "apart" s_apart a_apart d_apart
  b_apart : Binds K d_apart ["one", "other"] []
  g_apart : mg "apart" = some (.ref a_apart)
  a_Box_init : Addr
  d_Box_init : FuncData
  F_Box_init : Fun K "__init__" "Box.__init__" s_Box_init a_Box_init d_Box_init
  b_Box_init : Binds K d_Box_init ["self", "hands"] []
  mk_Box : Mk K C_Box a_Box_init
  a_Box_many : Addr
  d_Box_many : FuncData
  F_Box_many : Fun K "many" "Box.many" s_Box_many a_Box_many d_Box_many
  b_Box_many : Binds K d_Box_many ["self"] []
  m_Box_Box_many : Meth K C_Box "many" a_Box_many
  a_Box_lying : Addr
  d_Box_lying : FuncData
  F_Box_lying : Fun K "lying" "Box.lying" s_Box_lying a_Box_lying d_Box_lying
  b_Box_lying : Binds K d_Box_lying ["self", "k"] []
  m_Box_Box_lying : Meth K C_Box "lying" a_Box_lying
  a_Box_take : Addr
  d_Box_take : FuncData
  F_Box_take : Fun K "take" "Box.take" s_Box_take a_Box_take d_Box_take
  b_Box_take : Binds K d_Box_take ["self", "codes", "seal"] []
  m_Box_Box_take : Meth K C_Box "take" a_Box_take
  a_Box_lines_at : Addr
  d_Box_lines_at : FuncData
  F_Box_lines_at : Fun K "lines_at" "Box.lines_at" s_Box_lines_at a_Box_lines_at d_Box_lines_at
  b_Box_lines_at : Binds K d_Box_lines_at ["self", "k"] []
  m_Box_Box_lines_at : Meth K C_Box "lines_at" a_Box_lines_at
  a_Box_sheet_at : Addr
  d_Box_sheet_at : FuncData
  F_Box_sheet_at : Fun K "sheet_at" "Box.sheet_at" s_Box_sheet_at a_Box_sheet_at d_Box_sheet_at
  b_Box_sheet_at : Binds K d_Box_sheet_at ["self", "k"] []
  m_Box_Box_sheet_at : Meth K C_Box "sheet_at" a_Box_sheet_at
  a_Box_seal_at : Addr
  d_Box_seal_at : FuncData
  F_Box_seal_at : Fun K "seal_at" "Box.seal_at" s_Box_seal_at a_Box_seal_at d_Box_seal_at
  b_Box_seal_at : Binds K d_Box_seal_at ["self", "k"] []
  m_Box_Box_seal_at : Meth K C_Box "seal_at" a_Box_seal_at
  a_Box_sheet : Addr
  d_Box_sheet : FuncData
  F_Box_sheet : Fun K "sheet" "Box.sheet" s_Box_sheet a_Box_sheet d_Box_sheet
  b_Box_sheet : Binds K d_Box_sheet ["self"] []
  m_Box_Box_sheet : Meth K C_Box "sheet" a_Box_sheet
  a_Box_put_right : Addr
  d_Box_put_right : FuncData
  F_Box_put_right : Fun K "put_right" "Box.put_right" s_Box_put_right a_Box_put_right d_Box_put_right
  b_Box_put_right : Binds K d_Box_put_right ["self", "k", "lines"] []
  m_Box_Box_put_right : Meth K C_Box "put_right" a_Box_put_right
  a__law_bag : Addr
  d__law_bag : FuncData
  F__law_bag : Fun K "_law_bag" "_law_bag" s__law_bag a__law_bag d__law_bag
  b__law_bag : Binds K d__law_bag ["_law_script"] []
  g__law_bag : mg "_law_bag" = some (.ref a__law_bag)
  a__law_take : Addr
  d__law_take : FuncData
  F__law_take : Fun K "_law_take" "_law_take" s__law_take a__law_take d__law_take
  b__law_take : Binds K d__law_take ["_law_bag_here", "_law_many"] []
  g__law_take : mg "_law_take" = some (.ref a__law_take)
  a__law_alike : Addr
  d__law_alike : FuncData
  F__law_alike : Fun K "_law_alike" "_law_alike" s__law_alike a__law_alike d__law_alike
  b__law_alike : Binds K d__law_alike ["_law_found", "_law_due"] []
  g__law_alike : mg "_law_alike" = some (.ref a__law_alike)
  a__law_one : Addr
  d__law_one : FuncData
  F__law_one : Fun K "_law_one" "_law_one" s__law_one a__law_one d__law_one
  b__law_one : Binds K d__law_one ["_law_bag_here", "_law_some"] []
  g__law_one : mg "_law_one" = some (.ref a__law_one)
  a__law_mixed : Addr
  d__law_mixed : FuncData
  F__law_mixed : Fun K "_law_mixed" "_law_mixed" s__law_mixed a__law_mixed d__law_mixed
  b__law_mixed : Binds K d__law_mixed ["_law_bag_here", "_law_things"] []
  g__law_mixed : mg "_law_mixed" = some (.ref a__law_mixed)
  a__law_ranks : Addr
  d__law_ranks : FuncData
  F__law_ranks : Fun K "_law_ranks" "_law_ranks" s__law_ranks a__law_ranks d__law_ranks
  b__law_ranks : Binds K d__law_ranks ["_law_bag_here", "_law_hands"] []
  g__law_ranks : mg "_law_ranks" = some (.ref a__law_ranks)
  a__law_tiers : Addr
  d__law_tiers : FuncData
  F__law_tiers : Fun K "_law_tiers" "_law_tiers" s__law_tiers a__law_tiers d__law_tiers
  b__law_tiers : Binds K d__law_tiers ["_law_ranks_here"] []
  g__law_tiers : mg "_law_tiers" = some (.ref a__law_tiers)
  a__law_bit : Addr
  d__law_bit : FuncData
  F__law_bit : Fun K "_law_bit" "_law_bit" s__law_bit a__law_bit d__law_bit
  b__law_bit : Binds K d__law_bit ["_law_hand"] []
  g__law_bit : mg "_law_bit" = some (.ref a__law_bit)
  a__law_slip : Addr
  d__law_slip : FuncData
  F__law_slip : Fun K "_law_slip" "_law_slip" s__law_slip a__law_slip d__law_slip
  b__law_slip : Binds K d__law_slip ["_law_bag_here", "_law_hands"] []
  g__law_slip : mg "_law_slip" = some (.ref a__law_slip)
  a__law_ballots : Addr
  d__law_ballots : FuncData
  F__law_ballots : Fun K "_law_ballots" "_law_ballots" s__law_ballots a__law_ballots d__law_ballots
  b__law_ballots : Binds K d__law_ballots ["_law_bag_here", "_law_most"] []
  g__law_ballots : mg "_law_ballots" = some (.ref a__law_ballots)
  a__law_lines : Addr
  d__law_lines : FuncData
  F__law_lines : Fun K "_law_lines" "_law_lines" s__law_lines a__law_lines d__law_lines
  b__law_lines : Binds K d__law_lines ["_law_bag_here", "_law_hands", "_law_many"] []
  g__law_lines : mg "_law_lines" = some (.ref a__law_lines)
  a__law_altered : Addr
  d__law_altered : FuncData
  F__law_altered : Fun K "_law_altered" "_law_altered" s__law_altered a__law_altered d__law_altered
  b__law_altered : Binds K d__law_altered ["_law_bag_here", "_law_codes"] []
  g__law_altered : mg "_law_altered" = some (.ref a__law_altered)
  a__law_is_torn : Addr
  d__law_is_torn : FuncData
  F__law_is_torn : Fun K "_law_is_torn" "_law_is_torn" s__law_is_torn a__law_is_torn d__law_is_torn
  b__law_is_torn : Binds K d__law_is_torn ["_law_box", "_law_codes", "_law_seal"] []
  g__law_is_torn : mg "_law_is_torn" = some (.ref a__law_is_torn)
  a__law_taken_right : Addr
  d__law_taken_right : FuncData
  F__law_taken_right : Fun K "_law_taken_right" "_law_taken_right" s__law_taken_right a__law_taken_right d__law_taken_right
  b__law_taken_right : Binds K d__law_taken_right ["_law_bag_here", "_law_boxes", "_law_bundles", "_law_hands"] []
  g__law_taken_right : mg "_law_taken_right" = some (.ref a__law_taken_right)
  a__law_recounts_right : Addr
  d__law_recounts_right : FuncData
  F__law_recounts_right : Fun K "_law_recounts_right" "_law_recounts_right" s__law_recounts_right a__law_recounts_right d__law_recounts_right
  b__law_recounts_right : Binds K d__law_recounts_right ["_law_bag_here", "_law_box", "_law_hands"] []
  g__law_recounts_right : mg "_law_recounts_right" = some (.ref a__law_recounts_right)
  a_law : Addr
  d_law : FuncData
  F_law : Fun K "law" "law" s_law a_law d_law
  b_law : Binds K d_law ["_law_script"] []
  g_law : mg "law" = some (.ref a_law)
  cl_Box : Cls K C_Box
  gC_Box : mg "Box" = some (.ref C_Box)
  na_Box_hands : NoAttr K C_Box "hands"
  na_Box_bundles : NoAttr K C_Box "bundles"
  n_abs : mg "abs" = none
  n_bool : mg "bool" = none
  n_divmod : mg "divmod" = none
  n_enumerate : mg "enumerate" = none
  n_int : mg "int" = none
  n_isinstance : mg "isinstance" = none
  n_len : mg "len" = none
  n_list : mg "list" = none
  n_max : mg "max" = none
  n_range : mg "range" = none
  n_repr : mg "repr" = none
  n_set : mg "set" = none
  n_sorted : mg "sorted" = none
  n_sum : mg "sum" = none
  n_tuple : mg "tuple" = none
  G_MOST_ballots : GK K mg "MOST_ballots" (.leaf (.int 1000000000))
  G_BASE : GK K mg "BASE" (.leaf (.int 13))
  G_MOST_codes : GK K mg "MOST_codes" (.leaf (.int 1000000000))
  G_MOST_sheets : GK K mg "MOST_sheets" (.leaf (.int 1000000000))
  G_MOST_HANDS : GK K mg "MOST_HANDS" (.leaf (.int 12))
  c_PollError : Addr
  g_PollError : mg "PollError" = some (.ref c_PollError)
  k_PollError : PySem.W.keepIn K (.ref c_PollError) = true
  q_PollError : PySem.W.excIn K c_PollError [.type "ValueError", .type "Exception", .type "BaseException", .type "object"] "ValueError.__new__" = true
  b_PollError : PySem.W.subIn K (.ref c_PollError) (.type "BaseException") = some true
  t_PollError : PySem.W.typeIn K (.ref c_PollError) = some (.type "type")
  v_PollError : ExcV K c_PollError
  c_NoBallot : Addr
  g_NoBallot : mg "NoBallot" = some (.ref c_NoBallot)
  k_NoBallot : PySem.W.keepIn K (.ref c_NoBallot) = true
  q_NoBallot : PySem.W.excIn K c_NoBallot [.type "ValueError", .type "Exception", .type "BaseException", .type "object"] "ValueError.__new__" = true
  b_NoBallot : PySem.W.subIn K (.ref c_NoBallot) (.type "BaseException") = some true
  t_NoBallot : PySem.W.typeIn K (.ref c_NoBallot) = some (.type "type")
  v_NoBallot : ExcV K c_NoBallot
  c_NoSheet : Addr
  g_NoSheet : mg "NoSheet" = some (.ref c_NoSheet)
  k_NoSheet : PySem.W.keepIn K (.ref c_NoSheet) = true
  q_NoSheet : PySem.W.excIn K c_NoSheet [.type "ValueError", .type "Exception", .type "BaseException", .type "object"] "ValueError.__new__" = true
  b_NoSheet : PySem.W.subIn K (.ref c_NoSheet) (.type "BaseException") = some true
  t_NoSheet : PySem.W.typeIn K (.ref c_NoSheet) = some (.type "type")
  v_NoSheet : ExcV K c_NoSheet
  c_Torn : Addr
  g_Torn : mg "Torn" = some (.ref c_Torn)
  k_Torn : PySem.W.keepIn K (.ref c_Torn) = true
  q_Torn : PySem.W.excIn K c_Torn [.type "ValueError", .type "Exception", .type "BaseException", .type "object"] "ValueError.__new__" = true
  b_Torn : PySem.W.subIn K (.ref c_Torn) (.type "BaseException") = some true
  t_Torn : PySem.W.typeIn K (.ref c_Torn) = some (.type "type")
  v_Torn : ExcV K c_Torn
  c_NoBundle : Addr
  g_NoBundle : mg "NoBundle" = some (.ref c_NoBundle)
  k_NoBundle : PySem.W.keepIn K (.ref c_NoBundle) = true
  q_NoBundle : PySem.W.excIn K c_NoBundle [.type "ValueError", .type "Exception", .type "BaseException", .type "object"] "ValueError.__new__" = true
  b_NoBundle : PySem.W.subIn K (.ref c_NoBundle) (.type "BaseException") = some true
  t_NoBundle : PySem.W.typeIn K (.ref c_NoBundle) = some (.type "type")
  v_NoBundle : ExcV K c_NoBundle
  c_NoWay : Addr
  g_NoWay : mg "NoWay" = some (.ref c_NoWay)
  k_NoWay : PySem.W.keepIn K (.ref c_NoWay) = true
  q_NoWay : PySem.W.excIn K c_NoWay [.type "ValueError", .type "Exception", .type "BaseException", .type "object"] "ValueError.__new__" = true
  b_NoWay : PySem.W.subIn K (.ref c_NoWay) (.type "BaseException") = some true
  t_NoWay : PySem.W.typeIn K (.ref c_NoWay) = some (.type "type")
  v_NoWay : ExcV K c_NoWay
  em_PollError : ∀ n cv, mg (ckN n) = some cv → PySem.W.exmOne K cv (.ref c_PollError) = some (subN n 0)
  ki_PollError : ∀ n cv, mg (ckN n) = some cv → PySem.W.kitOne K cv (.ref c_PollError) = some (subN n 0)
  em_Torn : ∀ n cv, mg (ckN n) = some cv → PySem.W.exmOne K cv (.ref c_Torn) = some (subN n 5)
  ki_Torn : ∀ n cv, mg (ckN n) = some cv → PySem.W.kitOne K cv (.ref c_Torn) = some (subN n 5)
  ec : ∀ n cv, mg (ckN n) = some cv → ∃ D, cv = .ref D ∧ ExcC K D
def IsBag (t : T) : Prop := ∃ (a b c : Int) (o : Bool) (cells : List Int), t = .node true .lst [.leaf (.int a), .leaf (.int b), .leaf (.int c), .node o .lst (intsT cells)] ∧ 0 ≤ a ∧ 0 ≤ b ∧ b < 2147483647 ∧ 0 ≤ c ∧ cells.length ≤ 63 ∧ ∀ x ∈ cells, 0 ≤ x
def sp__law_bag : DSp := fun ts Q _ => ∃ ns : List Int, ts = [.pin .lst (ns.map V.int)] ∧ ns.length ≤ 63 ∧ ∀ bag, IsBag bag → Q bag []
def sp__law_take : DSp := fun ts Q _ => ∃ (bag : T) (many : Int), ts = [bag, .leaf (.int many)] ∧ IsBag bag ∧ 0 < many ∧ (many < 2 ^ 62 ∨ many.natAbs.log2 < 9000) ∧ ∀ (r : Int) (bag' : T), 0 ≤ r → r < many → IsBag bag' → Q (.leaf (.int r)) [bag']
theorem mono__law_bag : MonoD sp__law_bag := by
  intro ts Q Q' E E' hq he h
  obtain ⟨ns, e, h, q⟩ := h
  exact ⟨ns, e, h, fun b hb => hq _ _ (q b hb)⟩
theorem mono__law_take : MonoD sp__law_take := by
  intro ts Q Q' E E' hq he h
  obtain ⟨b, n, e, h1, h2, h3, q⟩ := h
  exact ⟨b, n, e, h1, h2, h3, fun r b' a1 a2 a3 => hq _ _ (q r b' a1 a2 a3)⟩
def sp__law_alike : DSp := fun ts Q _ => ∃ (a b : T) (d : PyData), ts = [a, b] ∧ toP a = some d ∧ toP b = some d ∧ GoodD d ∧ Q (.leaf (.bl true)) []
theorem mono__law_alike : MonoD sp__law_alike := by
  intro ts Q Q' E E' hq he h
  obtain ⟨a, b, d, e, h1, h2, h3, q⟩ := h
  exact ⟨a, b, d, e, h1, h2, h3, hq _ _ q⟩
def sp__law_one : DSp := fun ts Q _ => ∃ (bag : T) (o : Bool) (its : List T), ts = [bag, .node o .lst its] ∧ IsBag bag ∧ its ≠ [] ∧ its.length < 1000000 ∧ ∀ (t : T) (bag' : T), t ∈ its → IsBag bag' → Q (frz t) [bag']
theorem mono__law_one : MonoD sp__law_one := by
  intro ts Q Q' E E' hq he h
  obtain ⟨b, o, its, e, h1, h2, h3, q⟩ := h
  exact ⟨b, o, its, e, h1, h2, h3, fun t b' a1 a2 => hq _ _ (q t b' a1 a2)⟩
def sp_law : DSp := spLaw
theorem mono_law : MonoD sp_law := spLaw_mono
theorem law_sp (ns : List Int) (h : ns.length ≤ 63) : sp_law [.pin .lst (ns.map V.int)] (fun t _ => t = .leaf (.bl true)) fun _ _ _ => False := ⟨ns, rfl, h, rfl⟩
def bit (m : Int) (k : Nat) : Prop := m / 2 ^ k % 2 = 1
instance (m : Int) (k : Nat) : Decidable (bit m k) := inferInstanceAs (Decidable (_ = _))
def maskN (p : Nat → Bool) : Nat → Nat
  | 0 => 0
  | n + 1 => if p n then 2 ^ n + maskN p n else maskN p n
def sp_holds : DSp := fun ts Q _ => ∃ (m : Int) (k : Nat), ts = [.leaf (.int m), .leaf (.int k)] ∧ 0 ≤ m ∧ k ≤ 64 ∧ Q (.leaf (.bl (decide (bit m k)))) []
theorem mono_holds : MonoD sp_holds := by
  intro ts Q Q' E E' hq he h
  obtain ⟨m, k, e, h1, h2, q⟩ := h
  exact ⟨m, k, e, h1, h2, hq _ _ q⟩
def sp__law_bit : DSp := fun ts Q _ => ∃ k : Nat, ts = [.leaf (.int k)] ∧ k < 12 ∧ Q (.leaf (.int (2 ^ k))) []
theorem mono__law_bit : MonoD sp__law_bit := by
  intro ts Q Q' E E' hq he h
  obtain ⟨k, e, h1, q⟩ := h
  exact ⟨k, e, h1, hq _ _ q⟩
def wholeQ (τ : T) : Option Bool := (tyT τ).map fun ty => ty.isa .int && !ty.isa .bl
def sp_is_whole : DSp := fun ts Q _ => ∃ (τ : T) (b : Bool), ts = [τ] ∧ wholeQ (frz τ) = some b ∧ Q (.leaf (.bl b)) []
theorem mono_is_whole : MonoD sp_is_whole := by
  intro ts Q Q' E E' hq he h
  obtain ⟨a, b, e, h1, q⟩ := h
  exact ⟨a, b, e, h1, hq _ _ q⟩
def sp_with_one : DSp := fun ts Q _ => ∃ (m : Int) (k : Nat), ts = [.leaf (.int m), .leaf (.int k)] ∧ 0 ≤ m ∧ k ≤ 64 ∧ Q (.leaf (.int (if bit m k then m else m + 2 ^ k))) []
theorem mono_with_one : MonoD sp_with_one := by
  intro ts Q Q' E E' hq he h
  obtain ⟨m, k, e, h1, h2, q⟩ := h
  exact ⟨m, k, e, h1, h2, hq _ _ q⟩
def lastP (ss : List Int) : Nat → Nat → Int
  | 0, _ => 0
  | k + 1, h => if bit (ss.getD k 0) h then (k : Int) + 1 else lastP ss k h
def insD (x : Int) : List Int → List Int
  | [] => [x]
  | y :: l => if x < y then x :: y :: l else if x = y then y :: l else y :: insD x l
def sd (ns : List Int) : List Int := ns.foldr insD []
theorem mem_insD {a x : Int} : ∀ {l : List Int}, a ∈ insD x l ↔ a = x ∨ a ∈ l
  | [] => by simp [insD]
  | y :: l => by
    unfold insD
    split
    · simp
    · split
      · rename_i h
        subst h
        simp
      · rw [List.mem_cons, mem_insD, List.mem_cons]
        constructor
        · rintro (h | h | h)
          · exact .inr (.inl h)
          · exact .inl h
          · exact .inr (.inr h)
        · rintro (h | h | h)
          · exact .inr (.inl h)
          · exact .inl h
          · exact .inr (.inr h)
theorem pw_insD {x : Int} : ∀ {l : List Int}, l.Pairwise (· < ·) → (insD x l).Pairwise (· < ·)
  | [], _ => by simp [insD]
  | y :: l, h => by
    have h1 := List.pairwise_cons.mp h
    unfold insD
    split
    · rename_i hx
      refine List.pairwise_cons.mpr ⟨fun z hz => ?_, h⟩
      rcases List.mem_cons.mp hz with rfl | hz
      · exact hx
      · have := h1.1 z hz
        omega
    · split
      · exact h
      · rename_i h2 h3
        refine List.pairwise_cons.mpr ⟨fun z hz => ?_, pw_insD h1.2⟩
        rcases mem_insD.mp hz with rfl | hz
        · omega
        · exact h1.1 z hz
theorem sd_mem {a : Int} : ∀ {l : List Int}, a ∈ sd l ↔ a ∈ l
  | [] => by simp [sd]
  | x :: l => by
    show a ∈ insD x (sd l) ↔ _
    rw [mem_insD, sd_mem, List.mem_cons]
theorem sd_pw : ∀ l : List Int, (sd l).Pairwise (· < ·)
  | [] => by simp [sd]
  | x :: l => pw_insD (sd_pw l)
theorem pw_uniq : ∀ {a b : List Int}, a.Pairwise (· < ·) → b.Pairwise (· < ·) → (∀ k, k ∈ a ↔ k ∈ b) → a = b
  | [], [], _, _, _ => rfl
  | [], y :: b, _, _, h => by
    have := (h y).mpr List.mem_cons_self
    cases this
  | x :: a, [], _, _, h => by
    have := (h x).mp List.mem_cons_self
    cases this
  | x :: a, y :: b, ha, hb, h => by
    have h1 := List.pairwise_cons.mp ha
    have h2 := List.pairwise_cons.mp hb
    have e : x = y := by
      have hx := (h x).mp List.mem_cons_self
      have hy := (h y).mpr List.mem_cons_self
      rcases List.mem_cons.mp hx with z | z
      · exact z
      · rcases List.mem_cons.mp hy with w | w
        · exact w.symm
        · have := h1.1 y w
          have := h2.1 x z
          omega
    subst e
    rw [pw_uniq h1.2 h2.2 fun k => ?_]
    constructor
    · intro hk
      have := h1.1 k hk
      rcases List.mem_cons.mp ((h k).mp (List.mem_cons_of_mem _ hk)) with z | z
      · omega
      · exact z
    · intro hk
      have := h2.1 k hk
      rcases List.mem_cons.mp ((h k).mpr (List.mem_cons_of_mem _ hk)) with z | z
      · omega
      · exact z
def maskR (rs : List Int) (r : Int) : Int := (maskN (fun h => decide (rs[h]? = some r)) 12 : Nat)
def tiersR (rs : List Int) : List Int := ((sd rs).filter (fun r => decide (0 < r))).map (maskR rs)
def plainR (ss : List Int) (n : Nat) : List Int := (List.range n).map (lastP ss ss.length)
def sp__law_ranks : DSp := fun ts Q _ => ∃ (bag : T) (n : Nat), ts = [bag, .leaf (.int n)] ∧ IsBag bag ∧ 1 ≤ n ∧ n ≤ 12 ∧ ∀ (rs : List Int) (bag' : T), rs.length = n → (∀ r ∈ rs, 0 ≤ r ∧ r ≤ 10 ^ 9) → IsBag bag' → Q (.node true .lst (intsT rs)) [bag']
def sp__law_tiers : DSp := fun ts Q _ => ∃ (o : Bool) (rs : List Int), ts = [.node o .lst (intsT rs)] ∧ rs.length ≤ 12 ∧ Q (.node true .tup (intsT (tiersR rs))) []
theorem mono__law_ranks : MonoD sp__law_ranks := by
  intro ts Q Q' E E' hq he h
  obtain ⟨b, n, e, h1, h2, h3, q⟩ := h
  exact ⟨b, n, e, h1, h2, h3, fun rs b' a1 a2 a3 => hq _ _ (q rs b' a1 a2 a3)⟩
theorem mono__law_tiers : MonoD sp__law_tiers := by
  intro ts Q Q' E E' hq he h
  obtain ⟨o, rs, e, h1, q⟩ := h
  exact ⟨o, rs, e, h1, hq _ _ q⟩
def sp__law_plain_ranks : DSp := fun ts Q _ => ∃ (o : Bool) (ss : List Int) (n : Nat), ts = [.node o .tup (intsT ss), .leaf (.int n)] ∧ (∀ m ∈ ss, 0 ≤ m) ∧ ss.length ≤ 12 ∧ n ≤ 12 ∧ Q (.node true .lst (intsT (plainR ss n))) []
theorem mono__law_plain_ranks : MonoD sp__law_plain_ranks := by
  intro ts Q Q' E E' hq he h
  obtain ⟨o, ss, n, e, h1, h2, h3, q⟩ := h
  exact ⟨o, ss, n, e, h1, h2, h3, hq _ _ q⟩
def sp_ranks_of : DSp := sp__law_plain_ranks
theorem mono_ranks_of : MonoD sp_ranks_of := mono__law_plain_ranks
def badT (t : T) : Prop := wholeQ t = some false ∨ ∃ i : Int, t = .leaf (.int i) ∧ (i < 0 ∨ 10 ^ 9 < i)
def RkOk (rs : List Int) (h : Nat) : Prop := rs.length = h ∧ h ≤ 12 ∧ ∀ r ∈ rs, 0 ≤ r ∧ r ≤ 10 ^ 9
def NoRk (τ : T) (h : Nat) : Prop := (∃ ty, tyT τ = some ty ∧ ty.isa .lst = false) ∨ ∃ ts, τ = .node false .lst ts ∧ (∀ t ∈ ts, frz t = t ∧ ∃ b, wholeQ t = some b) ∧ (ts.length ≠ h ∨ ∃ t ∈ ts, badT t)
def sp_slip_of : DSp := fun ts Q E => (∃ (τ : T) (rs : List Int) (h : Nat), ts = [τ, .leaf (.int h)] ∧ frz τ = .node false .lst (intsT rs) ∧ RkOk rs h ∧ Q (.node true .tup (intsT (tiersR rs))) []) ∨
  ∃ (τ : T) (h : Nat), ts = [τ, .leaf (.int h)] ∧ NoRk (frz τ) h ∧ E (cxN 2) [] []
theorem mono_slip_of : MonoD sp_slip_of := fun ts Q Q' E E' hq he h => h.elim (fun ⟨a, b, c, e, h1, h2, q⟩ => .inl ⟨a, b, c, e, h1, h2, hq _ _ q⟩) fun ⟨a, b, e, h1, q⟩ => .inr ⟨a, b, e, h1, he _ _ _ q⟩
def sp__law_slip : DSp := fun ts Q _ => ∃ (bag : T) (n : Nat), ts = [bag, .leaf (.int n)] ∧ IsBag bag ∧ 1 ≤ n ∧ n ≤ 12 ∧ ∀ (rs : List Int) (bag' : T), rs.length = n → (∀ r ∈ rs, 0 ≤ r ∧ r ≤ 10 ^ 9) → IsBag bag' → Q (.node true .tup (intsT (tiersR rs))) [bag']
theorem mono__law_slip : MonoD sp__law_slip := by
  intro ts Q Q' E E' hq he h
  obtain ⟨b, n, e, h1, h2, h3, q⟩ := h
  exact ⟨b, n, e, h1, h2, h3, fun rs b' a1 a2 a3 => hq _ _ (q rs b' a1 a2 a3)⟩
def sp__law_ballots : DSp := fun ts Q _ => ∃ (bag : T) (n : Int), ts = [bag, .leaf (.int n)] ∧ IsBag bag ∧ 9 ≤ n ∧ n < 2 ^ 62 ∧ ∀ (r : Int) (bag' : T), 1 ≤ r → r ≤ n → IsBag bag' → Q (.leaf (.int r)) [bag']
theorem mono__law_ballots : MonoD sp__law_ballots := by
  intro ts Q Q' E E' hq he h
  obtain ⟨b, n, e, h1, h2, h3, q⟩ := h
  exact ⟨b, n, e, h1, h2, h3, fun r b' a1 a2 a3 => hq _ _ (q r b' a1 a2 a3)⟩
def getK : List (List Int × Int) → List Int → Option Int
  | [], _ => none
  | p :: r, s => if p.1 = s then some p.2 else getK r s
def putK : List (List Int × Int) → List Int → Int → List (List Int × Int)
  | [], s, v => [(s, v)]
  | p :: r, s, v => if p.1 = s then (p.1, v) :: r else p :: putK r s v
def addK (kvs : List (List Int × Int)) (l : List Int × Int) : List (List Int × Int) := putK kvs l.1 ((getK kvs l.1).getD 0 + l.2)
def gatherK (lines : List (List Int × Int)) : List (List Int × Int) := lines.foldl addK []
def sheetK (lines : List (List Int × Int)) : List (List Int × Int) := ((gatherK lines).mergeSort leK).filter fun p => decide (p.2 ≠ 0)
abbrev lineO (p : List Int × Int) : T := .node true .tup [keyT p.1, .leaf (.int p.2)]
def LinesT (τ : T) (lines : List (List Int × Int)) : Prop := (∃ o xs, τ = .node o .lst xs ∧ frzL xs = lines.map lineT) ∧ (∀ l ∈ lines, l.1 ≠ [0, 1]) ∧ lines.length ≤ 10000
def SmS (s : List Int) : Prop := s.length ≤ 100 ∧ ∀ x ∈ s, x.natAbs < 2 ^ 62
def sp_put_together : DSp := fun ts Q _ => ∃ (τ : T) (lines : List (List Int × Int)), ts = [τ] ∧ LinesT τ lines ∧ Q (.node true .lst ((sheetK lines).map lineT)) []
theorem mono_put_together : MonoD sp_put_together := by
  intro ts Q Q' E E' hq he h
  obtain ⟨τ, l, e, h, q⟩ := h
  exact ⟨τ, l, e, h, hq _ _ q⟩
def lawK (lines : List (List Int × Int)) : List (List Int × Int) := (((gatherK lines).map (·.1)).mergeSort leL).map fun s => (s, (getK (gatherK lines) s).getD 0)
def sp_number_of : DSp := fun ts Q _ => ∃ (τ : T) (lines : List (List Int × Int)) (p : Bool) (s : List Int), ts = [τ, .node p .tup (intsT s)] ∧ LinesT τ lines ∧ (∀ l ∈ lines, SmS l.1) ∧ SmS s ∧ Q (.leaf (.int ((getK lines s).getD 0))) []
theorem mono_number_of : MonoD sp_number_of := by
  intro ts Q Q' E E' hq he h
  obtain ⟨τ, l, p, s, e, h, h1, h2, q⟩ := h
  exact ⟨τ, l, p, s, e, h, h1, h2, hq _ _ q⟩
def sp_ballots_in : DSp := fun ts Q _ => ∃ (τ : T) (lines : List (List Int × Int)), ts = [τ] ∧ LinesT τ lines ∧ Q (.leaf (.int (lines.map (·.2)).sum)) []
theorem mono_ballots_in : MonoD sp_ballots_in := by
  intro ts Q Q' E E' hq he h
  obtain ⟨τ, l, e, h, q⟩ := h
  exact ⟨τ, l, e, h, hq _ _ q⟩
def sp_joined : DSp := fun ts Q _ => ∃ (o : Bool) (xs : List T) (sheets : List (List (List Int × Int))), ts = [.node o .lst xs] ∧ frzL xs = sheets.map (fun ls => .node false .lst (ls.map lineT)) ∧ (∀ ls ∈ sheets, ∀ l ∈ ls, l.1 ≠ [0, 1]) ∧ sheets.flatten.length ≤ 10000 ∧ Q (.node true .lst ((sheetK sheets.flatten).map lineT)) []
theorem mono_joined : MonoD sp_joined := by
  intro ts Q Q' E E' hq he h
  obtain ⟨o, x, l, e, h, h1, h2, q⟩ := h
  exact ⟨o, x, l, e, h, h1, h2, hq _ _ q⟩
def sp__law_mixed : DSp := fun ts Q _ => ∃ (bag : T) (o : Bool) (its : List T), ts = [bag, .node o .lst its] ∧ IsBag bag ∧ its.length ≤ 10000 ∧ ∀ its' bag', its'.Perm (frzL its) → IsBag bag' → Q (.node true .lst its') [bag']
theorem mono__law_mixed : MonoD sp__law_mixed := by
  intro ts Q Q' E E' hq he h
  obtain ⟨b, o, its, e, h1, h2, q⟩ := h
  exact ⟨b, o, its, e, h1, h2, fun x y h h' => hq _ _ (q x y h h')⟩
def numQ : T → Option Int
  | .leaf (.int n) => if 1 ≤ n ∧ n ≤ 1000000000 then some n else none
  | _ => none
def OddLines (τ : T) (ls : List (List Int × T)) : Prop := (∃ o xs, τ = .node o .lst xs ∧ frzL xs = ls.map fun l => .node false .tup [keyT l.1, l.2]) ∧ (∀ l ∈ ls, l.1 ≠ [0, 1] ∧ frz l.2 = l.2 ∧ ∃ b, wholeQ l.2 = some b) ∧ ls.length ≤ 10000
def linesQ : List (List Int × T) → Option (List (List Int × Int))
  | [] => some []
  | l :: r => match numQ l.2 with
    | some n => (linesQ r).map ((l.1, n) :: ·)
    | none => none
def sp_sheet_of : DSp := fun ts Q E => ∃ (τ : T) (ls : List (List Int × T)), ts = [τ] ∧ OddLines τ ls ∧ ((∃ lines, linesQ ls = some lines ∧ Q (.node true .lst ((sheetK lines).map lineT)) []) ∨ (linesQ ls = none ∧ E (cxN 3) [] []))
theorem mono_sheet_of : MonoD sp_sheet_of := by
  intro ts Q Q' E E' hq he h
  obtain ⟨τ, l, e, h, q⟩ := h
  exact ⟨τ, l, e, h, q.elim (fun ⟨r, e, q⟩ => .inl ⟨r, e, hq _ _ q⟩) fun ⟨e, q⟩ => .inr ⟨e, he _ _ _ q⟩⟩
def Slp (s : List Int) : Prop := s.length ≤ 12 ∧ ∀ m ∈ s, 0 < m ∧ m < 2 ^ 12
def gD (S : List (List Int × Int)) (s : List Int) : Int := (getK S s).getD 0
structure Sht (S : List (List Int × Int)) : Prop where
  nd : (S.map (·.1)).Nodup
  len : S.length ≤ 310
  ok : ∀ l ∈ S, Slp l.1 ∧ 1 ≤ l.2
  tot : (S.map (·.2)).sum ≤ 1000000000000
  srt : S.mergeSort leK = S
def codeL (n : Int) (rs : List Int) : Int := rs.foldl (fun c r => c * 13 + r) n
def digs (c : Int) : Nat → List Int
  | 0 => []
  | k + 1 => (c / 13 ^ k % 13) :: digs c k
theorem digs_len (c : Int) : ∀ k, (digs c k).length = k
  | 0 => rfl
  | k + 1 => by simp [digs, digs_len c k]
theorem digs_mem (c : Int) : ∀ k, ∀ r ∈ digs c k, 0 ≤ r ∧ r ≤ 12
  | 0, _, h => by cases h
  | k + 1, r, h => by
    rcases List.mem_cons.mp h with rfl | h
    · have h1 := Int.emod_nonneg (c / 13 ^ k) (show (13 : Int) ≠ 0 by decide)
      have h2 := Int.emod_lt_of_pos (c / 13 ^ k) (show (0 : Int) < 13 by decide)
      omega
    · exact digs_mem c k r h
def lineR (c : Int) (h : Nat) : Option (List Int × Int) :=
  if 0 ≤ c ∧ 1 ≤ c / 13 ^ h ∧ c / 13 ^ h ≤ 10 ^ 9 ∧ plainR (tiersR (digs c h)) h = digs c h then some (tiersR (digs c h), c / 13 ^ h) else none
def sp_code_of : DSp := fun ts Q _ => ∃ (o p : Bool) (ss : List Int) (n : Int) (h : Nat), ts = [.node o .tup [.node p .tup (intsT ss), .leaf (.int n)], .leaf (.int h)] ∧ (∀ m ∈ ss, 0 ≤ m) ∧ ss.length ≤ 12 ∧ h ≤ 12 ∧ Q (.leaf (.int (codeL n (plainR ss h)))) []
theorem mono_code_of : MonoD sp_code_of := by
  intro ts Q Q' E E' hq he h
  obtain ⟨o, p, ss, n, h, e, h1, h2, h3, q⟩ := h
  exact ⟨o, p, ss, n, h, e, h1, h2, h3, hq _ _ q⟩
def wt0 (q : Int × Nat) : Int := q.1
def wt1 (q : Int × Nat) : Int := ((q.2 : Int) + 1) * q.1
def wt2 (q : Int × Nat) : Int := ((q.2 : Int) + 1) * ((q.2 : Int) + 1) * q.1
def S0 (ns : List Int) : Int := (ns.zipIdx.map wt0).sum
def S1 (ns : List Int) : Int := (ns.zipIdx.map wt1).sum
def S2 (ns : List Int) : Int := (ns.zipIdx.map wt2).sum
abbrev fourT (o : Bool) (a b c d : Int) : T := .node o .tup [.leaf (.int a), .leaf (.int b), .leaf (.int c), .leaf (.int d)]
abbrev sealT (o : Bool) (ns : List Int) : T := fourT o ns.length (S0 ns) (S1 ns) (S2 ns)
def AB (k : Nat) (ns : List Int) : Prop := ∀ c ∈ ns, c.natAbs < 2 ^ k
def sp_seal_of : DSp := fun ts Q _ => ∃ (o : Bool) (ns : List Int), ts = [.node o .lst (intsT ns)] ∧ ns.length ≤ 310 ∧ Q (sealT true ns) []
theorem mono_seal_of : MonoD sp_seal_of := by
  intro ts Q Q' E E' hq he h
  obtain ⟨o, ns, e, h, q⟩ := h
  exact ⟨o, ns, e, h, hq _ _ q⟩
def mendR (ns : List Int) (g0 g1 g2 g3 : Int) : Option (List Int × Int) :=
  if g0 ≠ ns.length then none
  else if g1 - S0 ns = 0 ∧ g2 - S1 ns = 0 ∧ g3 - S2 ns = 0 then some (ns, 0)
  else if g1 - S0 ns = 0 then none
  else if (g2 - S1 ns).fmod (g1 - S0 ns) ≠ 0 ∨ (g2 - S1 ns).fdiv (g1 - S0 ns) < 1 ∨ (g2 - S1 ns).fdiv (g1 - S0 ns) > ns.length ∨ g3 - S2 ns ≠ (g2 - S1 ns).fdiv (g1 - S0 ns) * (g2 - S1 ns) then none
  else some (ns.set ((g2 - S1 ns).fdiv (g1 - S0 ns) - 1).toNat (ns.getD ((g2 - S1 ns).fdiv (g1 - S0 ns) - 1).toNat 0 + (g1 - S0 ns)), (g2 - S1 ns).fdiv (g1 - S0 ns))
def MArgs (ts : List T) (ns : List Int) (g0 g1 g2 g3 : Int) : Prop := ∃ o p, ts = [.node o .lst (intsT ns), fourT p g0 g1 g2 g3] ∧ ns.length ≤ 310 ∧ AB 300 ns ∧ g1.natAbs < 2 ^ 1000
def sp_mended : DSp := fun ts Q E => ∃ (ns : List Int) (g0 g1 g2 g3 : Int), MArgs ts ns g0 g1 g2 g3 ∧ ((∃ l a, mendR ns g0 g1 g2 g3 = some (l, a) ∧ Q (.node true .tup [.node true .lst (intsT l), .leaf (.int a)]) []) ∨ (mendR ns g0 g1 g2 g3 = none ∧ E (cxN 5) [] []))
theorem mono_mended : MonoD sp_mended := by
  intro ts Q Q' E E' hq he h
  obtain ⟨ns, a, b, c, d, h, q⟩ := h
  exact ⟨ns, a, b, c, d, h, q.elim (fun ⟨r, r2, e, q⟩ => .inl ⟨r, r2, e, hq _ _ q⟩) fun ⟨e, q⟩ => .inr ⟨e, he _ _ _ q⟩⟩
def apartK (A B : List (List Int × Int)) : Int := (A.map fun l => max 0 (l.2 - gD B l.1)).sum
def sp_apart : DSp := fun ts Q _ => ∃ (τ τ2 : T) (A B : List (List Int × Int)), ts = [τ, τ2] ∧ LinesT τ A ∧ LinesT τ2 B ∧ (∀ l ∈ A, SmS l.1) ∧ (∀ l ∈ B, SmS l.1) ∧ Q (.leaf (.int (apartK A B))) []
theorem mono_apart : MonoD sp_apart := by
  intro ts Q Q' E E' hq he h
  obtain ⟨a, b, A, B, e, h1, h2, h3, h4, q⟩ := h
  exact ⟨a, b, A, B, e, h1, h2, h3, h4, hq _ _ q⟩
def sp_line_of : DSp := fun ts Q _ => ∃ (c : Int) (h : Nat) (p : List Int × Int), ts = [.leaf (.int c), .leaf (.int h)] ∧ h ≤ 12 ∧ lineR c h = some p ∧ Q (.node true .tup [keyT p.1, .leaf (.int p.2)]) []
theorem mono_line_of : MonoD sp_line_of := by
  intro ts Q Q' E E' hq he h
  obtain ⟨c, h, p, e, h1, h2, q⟩ := h
  exact ⟨c, h, p, e, h1, h2, hq _ _ q⟩
def LnH (h : Nat) (l : List Int × Int) : Prop := (∃ rs, RkOk rs h ∧ l.1 = tiersR rs) ∧ 1 ≤ l.2 ∧ l.2 ≤ 1000000000
structure Bds (h : Nat) (gs : List (List (List Int × Int))) : Prop where
  len : gs.length ≤ 4
  g : ∀ g ∈ gs, g.length ≤ 5 ∧ ∀ l ∈ g, LnH h l
abbrev cdL (h : Nat) (l : List Int × Int) : Int := codeL l.2 (plainR l.1 h)
abbrev boxT (o : Bool) (dx : Addr) (h : Int) (gs : List T) : T := .node o (.ins C_Box dx ns_Box) [.leaf (.int h), .node o .lst gs]
abbrev linesX (ls : List (List Int × Int)) : T := .node false .lst (ls.map lineT)
abbrev bxT (o : Bool) (dx : Addr) (h : Nat) (gs : List (List (List Int × Int))) : T := boxT o dx h (gs.map linesX)
def sp_Box_init : DSp := fun ts Q _ => ∃ (dx : Addr) (h : Nat), ts = [.node true (.ins C_Box dx []) [], .leaf (.int h)] ∧ 1 ≤ h ∧ h ≤ 12 ∧ Q (.leaf .non) [bxT true dx h []]
theorem mono_Box_init : MonoD sp_Box_init := by
  intro ts Q Q' E E' hq he h
  obtain ⟨dx, h, e, h1, h2, q⟩ := h
  exact ⟨dx, h, e, h1, h2, hq _ _ q⟩
def sp_Box_many : DSp := fun ts Q _ => ∃ (dx : Addr) (h : Nat) (gs : List (List (List Int × Int))), ts = [bxT false dx h gs] ∧ Q (.leaf (.int gs.length)) []
theorem mono_Box_many : MonoD sp_Box_many := by
  intro ts Q Q' E E' hq he h
  obtain ⟨dx, h, gs, e, q⟩ := h
  exact ⟨dx, h, gs, e, hq _ _ q⟩
def sp_Box_lying : DSp := fun ts Q _ => ∃ (dx : Addr) (h : Nat) (gs : List (List (List Int × Int))) (k : Nat) (g : List (List Int × Int)), ts = [bxT false dx h gs, .leaf (.int k)] ∧ gs[k]? = some g ∧ Q (linesX g) []
theorem mono_Box_lying : MonoD sp_Box_lying := by
  intro ts Q Q' E E' hq he h
  obtain ⟨dx, h, gs, k, g, e, h1, q⟩ := h
  exact ⟨dx, h, gs, k, g, e, h1, hq _ _ q⟩
def sp_Box_take : DSp := fun ts Q E => ∃ (dx : Addr) (h : Nat) (gs : List (List (List Int × Int))) (o p : Bool) (ns : List Int) (g0 g1 g2 g3 : Int), ts = [bxT true dx h gs, .node o .lst (intsT ns), fourT p g0 g1 g2 g3] ∧ h ≤ 12 ∧ gs.length ≤ 1000 ∧ ns.length ≤ 310 ∧ AB 300 ns ∧ g1.natAbs < 2 ^ 1000 ∧
  ((∃ l a ls, mendR ns g0 g1 g2 g3 = some (l, a) ∧ l.length ≤ 310 ∧ l.map (fun c => lineR c h) = ls.map some ∧ Q (.node true .tup [.leaf (.int gs.length), .leaf (.int a)]) [bxT true dx h (gs ++ [ls])]) ∨ (mendR ns g0 g1 g2 g3 = none ∧ E (cxN 5) [] [bxT true dx h gs]))
theorem mono_Box_take : MonoD sp_Box_take := by
  intro ts Q Q' E E' hq he h
  obtain ⟨dx, h, gs, o, p, ns, g0, g1, g2, g3, e, h1, h2, h3, h4, h5, q⟩ := h
  exact ⟨dx, h, gs, o, p, ns, g0, g1, g2, g3, e, h1, h2, h3, h4, h5, q.elim (fun ⟨l, a, ls, e1, e2, e3, q⟩ => .inl ⟨l, a, ls, e1, e2, e3, hq _ _ q⟩) fun ⟨e, q⟩ => .inr ⟨e, he _ _ _ q⟩⟩
def sp_Box_lines_at : DSp := fun ts Q _ => ∃ (dx : Addr) (h : Nat) (gs : List (List (List Int × Int))) (k : Nat) (g : List (List Int × Int)), ts = [bxT false dx h gs, .leaf (.int k)] ∧ gs[k]? = some g ∧ g.length ≤ 1000 ∧ Q (.node true .lst (g.map lineT)) []
theorem mono_Box_lines_at : MonoD sp_Box_lines_at := by
  intro ts Q Q' E E' hq he h
  obtain ⟨dx, h, gs, k, g, e, h1, h2, q⟩ := h
  exact ⟨dx, h, gs, k, g, e, h1, h2, hq _ _ q⟩
def sp_Box_sheet_at : DSp := fun ts Q _ => ∃ (dx : Addr) (h : Nat) (gs : List (List (List Int × Int))) (k : Nat) (g : List (List Int × Int)), ts = [bxT false dx h gs, .leaf (.int k)] ∧ gs[k]? = some g ∧ g.length ≤ 1000 ∧ (∀ l ∈ g, LnH h l) ∧ Q (.node true .lst ((sheetK g).map lineT)) []
theorem mono_Box_sheet_at : MonoD sp_Box_sheet_at := by
  intro ts Q Q' E E' hq he h
  obtain ⟨dx, h, gs, k, g, e, h1, h2, h3, q⟩ := h
  exact ⟨dx, h, gs, k, g, e, h1, h2, h3, hq _ _ q⟩
def sp_Box_seal_at : DSp := fun ts Q _ => ∃ (dx : Addr) (h : Nat) (gs : List (List (List Int × Int))) (k : Nat) (g : List (List Int × Int)), ts = [bxT false dx h gs, .leaf (.int k)] ∧ gs[k]? = some g ∧ g.length ≤ 300 ∧ h ≤ 12 ∧ (∀ l ∈ g, LnH h l) ∧ Q (sealT true (g.map (cdL h))) []
theorem mono_Box_seal_at : MonoD sp_Box_seal_at := by
  intro ts Q Q' E E' hq he h
  obtain ⟨dx, h, gs, k, g, e, h1, h2, h3, h4, q⟩ := h
  exact ⟨dx, h, gs, k, g, e, h1, h2, h3, h4, hq _ _ q⟩
def sp_Box_sheet : DSp := fun ts Q _ => ∃ (dx : Addr) (h : Nat) (gs : List (List (List Int × Int))), ts = [bxT false dx h gs] ∧ Bds h gs ∧ Q (.node true .lst ((lawK gs.flatten).map lineT)) []
theorem mono_Box_sheet : MonoD sp_Box_sheet := by
  intro ts Q Q' E E' hq he h
  obtain ⟨dx, h, gs, e, h1, q⟩ := h
  exact ⟨dx, h, gs, e, h1, hq _ _ q⟩
def sp_Box_put_right : DSp := fun ts Q _ => ∃ (dx : Addr) (h : Nat) (gs : List (List (List Int × Int))) (k : Nat) (g ls : List (List Int × Int)) (o : Bool) (xs : List T), ts = [bxT true dx h gs, .leaf (.int k), .node o .lst xs] ∧ frzL xs = ls.map lineT ∧ gs[k]? = some g ∧ g.length ≤ 300 ∧ ls.length ≤ 300 ∧ (∀ l ∈ g, LnH h l) ∧ (∀ l ∈ ls, LnH h l) ∧ (ls.map (·.2)).sum = (g.map (·.2)).sum ∧
  Q (.leaf (.int (apartK (lawK g) (lawK ls)))) [bxT true dx h (gs.set k ls)]
theorem mono_Box_put_right : MonoD sp_Box_put_right := by
  intro ts Q Q' E E' hq he h
  obtain ⟨dx, h, gs, k, g, ls, o, xs, e, h1, h2, h3, h4, h5, h6, h7, q⟩ := h
  exact ⟨dx, h, gs, k, g, ls, o, xs, e, h1, h2, h3, h4, h5, h6, h7, hq _ _ q⟩
def sp__law_lines : DSp := fun ts Q _ => ∃ (bag : T) (h : Nat) (m : Int), ts = [bag, .leaf (.int h), .leaf (.int m)] ∧ IsBag bag ∧ 0 < h ∧ h ≤ 12 ∧ 0 < m ∧ m ≤ 100 ∧ ∀ (lines : List (List Int × Int)) (bag' : T), lines.length ≤ m.toNat → (∀ l ∈ lines, LnH h l) → IsBag bag' → Q (.node true .lst (lines.map lineO)) [bag']
theorem mono__law_lines : MonoD sp__law_lines := by
  intro ts Q Q' E E' hq he h
  obtain ⟨b, h, m, e, h1, h2, h3, h4, h5, q⟩ := h
  exact ⟨b, h, m, e, h1, h2, h3, h4, h5, fun x y a1 a2 a3 => hq _ _ (q x y a1 a2 a3)⟩
def Alt (ns ns' : List Int) (a : Int) : Prop := (ns' = ns ∧ a = 0) ∨ ∃ (i : Nat) (c d : Int), ns[i]? = some c ∧ d ≠ 0 ∧ d.natAbs ≤ 10 ^ 20 ∧ ns' = ns.set i (c + d) ∧ a = (i : Int) + 1
def sp__law_altered : DSp := fun ts Q _ => ∃ (bag : T) (o : Bool) (ns : List Int), ts = [bag, .node o .lst (intsT ns)] ∧ IsBag bag ∧ ns.length ≤ 40 ∧ AB 200 ns ∧ ∀ ns' a bag', Alt ns ns' a → IsBag bag' → Q (.node true .tup [.node true .lst (intsT ns'), .leaf (.int a)]) [bag']
theorem mono__law_altered : MonoD sp__law_altered := by
  intro ts Q Q' E E' hq he h
  obtain ⟨b, o, ns, e, h1, h2, h3, q⟩ := h
  exact ⟨b, o, ns, e, h1, h2, h3, fun x y z a1 a2 => hq _ _ (q x y z a1 a2)⟩
def sp__law_is_torn : DSp := fun ts Q _ => ∃ (dx : Addr) (h : Nat) (gs : List (List (List Int × Int))) (o p : Bool) (ns : List Int) (g0 g1 g2 g3 : Int), ts = [bxT true dx h gs, .node o .lst (intsT ns), fourT p g0 g1 g2 g3] ∧ h ≤ 12 ∧ gs.length ≤ 1000 ∧ ns.length ≤ 310 ∧ AB 300 ns ∧ g1.natAbs < 2 ^ 1000 ∧ mendR ns g0 g1 g2 g3 = none ∧ Q (.leaf (.bl true)) [bxT true dx h gs]
theorem mono__law_is_torn : MonoD sp__law_is_torn := by
  intro ts Q Q' E E' hq he h
  obtain ⟨dx, h, gs, o, p, ns, g0, g1, g2, g3, e, h1, h2, h3, h4, h5, h6, q⟩ := h
  exact ⟨dx, h, gs, o, p, ns, g0, g1, g2, g3, e, h1, h2, h3, h4, h5, h6, hq _ _ q⟩
def sp__law_taken_right : DSp := fun ts Q _ => ∃ (bag : T) (dx dy : Addr) (h : Nat) (o : Bool) (xs : List T) (gs : List (List (List Int × Int))), ts = [bag, .node true .lst [bxT true dx h [], bxT true dy h []], .node o .lst xs, .leaf (.int h)] ∧ IsBag bag ∧ frzL xs = gs.map linesX ∧ Bds h gs ∧ 1 ≤ h ∧ h ≤ 12 ∧
  ∀ bag' gs1 gs2, IsBag bag' → gs1.Perm gs → gs2.Perm gs → Q (.leaf (.bl true)) [bag', .node true .lst [bxT true dx h gs1, bxT true dy h gs2]]
theorem mono__law_taken_right : MonoD sp__law_taken_right := by
  intro ts Q Q' E E' hq he h
  obtain ⟨b, dx, dy, h, o, xs, gs, e, h1, h2, h3, h4, h5, q⟩ := h
  exact ⟨b, dx, dy, h, o, xs, gs, e, h1, h2, h3, h4, h5, fun x y z a1 a2 a3 => hq _ _ (q x y z a1 a2 a3)⟩
def SameB (gs gs' : List (List (List Int × Int))) : Prop := gs'.length = gs.length ∧ ∀ (k : Nat) (g g' : List (List Int × Int)), gs[k]? = some g → gs'[k]? = some g' → g'.Perm g
def sp__law_recounts_right : DSp := fun ts Q _ => ∃ (bag : T) (dx : Addr) (h : Nat) (gs : List (List (List Int × Int))), ts = [bag, bxT true dx h gs, .leaf (.int h)] ∧ IsBag bag ∧ Bds h gs ∧ 1 ≤ h ∧ h ≤ 12 ∧ ∀ bag' gs', IsBag bag' → SameB gs gs' → Q (.leaf (.bl true)) [bag', bxT true dx h gs']
theorem mono__law_recounts_right : MonoD sp__law_recounts_right := by
  intro ts Q Q' E E' hq he h
  obtain ⟨b, dx, h, gs, e, h1, h2, h3, h4, q⟩ := h
  exact ⟨b, dx, h, gs, e, h1, h2, h3, h4, fun x y a1 a2 => hq _ _ (q x y a1 a2)⟩
def t_holds : DTS := (sRet (xOp (rtEq false) (xOp oAnd (xOp oShr (xVar 0) (xVar 1)) (xC (.int 1))) (xC (.int 1))))
def t_with_one : DTS := (sRet (xOp oOr (xVar 0) (xOp oShl (xC (.int 1)) (xVar 1))))
def t_is_whole : DTS := (sRet (xAndV (xCB (rnIsi .int) (aCons (xVar 0) (aCons (xC (.ty "int")) aNil))) (xNotV (xCB (rnIsi .bl) (aCons (xVar 0) (aCons (xC (.ty "bool")) aNil))))))
def t_slip_of_1 : DTS := (sIf (xB (xOp (rtEq false) (xOp rtIx (xVar 0) (xVar 5)) (xVar 2)))
 (sSet false 4 (xCall sp_with_one [none, none] (aCons (xVar 4) (aCons (xVar 5) aNil))))
 sNext)
def t_slip_of_2 : DTS := t_slip_of_1
def t_slip_of_3 : DTS := (sFor (iRange1 (aCons (xVar 1) aNil)) (gNm false 5)
 t_slip_of_2)
def t_slip_of_4 : DTS := (sDrop (xApp 3 (xVar 4)))
def t_slip_of_5 : DTS := (sSeq t_slip_of_3
t_slip_of_4)
def t_slip_of_6 : DTS := (sIf (xB (xOp (rtEq false) (xVar 2) (xC (.int 0))))
 sCont
 sNext)
def t_slip_of_7 : DTS := (sSeq (sSet false 4 (xC (.int 0)))
t_slip_of_5)
def t_slip_of_8 : DTS := (sSeq t_slip_of_6
t_slip_of_7)
def t_slip_of_9 : DTS := (sFor (iSeq (xSortSet (xVar 0))) (gNm false 2)
 t_slip_of_8)
def t_slip_of_10 : DTS := (sRet (xBor (xCB rnTuple (aCons (xVar 3) aNil))))
def t_slip_of_11 : DTS := (sSeq t_slip_of_9
t_slip_of_10)
def t_slip_of_12 : DTS := (sIf (xOr (xNot (xTru (xCall sp_is_whole [none] (aCons (xVar 2) aNil)))) (xOr (xB (xOp oLt (xVar 2) (xC (.int 0)))) (xB (xOp oGt (xVar 2) (xG (.leaf (.int 1000000000)))))))
 (sRaise (cxN 2))
 sNext)
def t_slip_of_13 : DTS := t_slip_of_12
def t_slip_of_14 : DTS := (sFor (iSeq (xVar 0)) (gNm false 2)
 t_slip_of_13)
def t_slip_of_15 : DTS := (sSeq (sSet true 3 (xLst aNil))
t_slip_of_11)
def t_slip_of_16 : DTS := (sIf (xOr (xNot (xTru (xCB (rnIsi .lst) (aCons (xVar 0) (aCons (xC (.ty "list")) aNil))))) (xB (xOp (rtEq true) (xCB rnLen (aCons (xVar 0) aNil)) (xVar 1))))
 (sRaise (cxN 2))
 sNext)
def t_slip_of_17 : DTS := (sSeq t_slip_of_14
t_slip_of_15)
def t_slip_of : DTS := (sSeq t_slip_of_16
t_slip_of_17)
def t_ranks_of_1 : DTS := (sIf (xTru (xCall sp_holds [none, none] (aCons (xVar 4) (aCons (xVar 5) aNil))))
 (sAsg (xOp rtAdd (xVar 3) (xC (.int 1))) (gSetI 2 (xVar 5)))
 sNext)
def t_ranks_of_2 : DTS := t_ranks_of_1
def t_ranks_of_3 : DTS := (sFor (iRange1 (aCons (xVar 1) aNil)) (gNm false 5)
 t_ranks_of_2)
def t_ranks_of_4 : DTS := t_ranks_of_3
def t_ranks_of_5 : DTS := (sFor (iEn (aCons (xVar 0) aNil)) (gSq 2 (gCn (gNm false 3) (gCn (gNm false 4) gNl)))
 t_ranks_of_4)
def t_ranks_of_6 : DTS := (sRet (xMov 2))
def t_ranks_of_7 : DTS := (sSeq t_ranks_of_5
t_ranks_of_6)
def t_ranks_of : DTS := (sSeq (sSet true 2 (xOp rtMul (xLst (aCons (xC (.int 0)) aNil)) (xVar 1)))
t_ranks_of_7)
def t_code_of_1 : DTS := (sSet false 4 (xOp rtAdd (xOp rtMul (xVar 4) (xG (.leaf (.int 13)))) (xVar 5)))
def t_code_of_2 : DTS := (sFor (iSeq (xCall sp_ranks_of [none, none] (aCons (xVar 2) (aCons (xVar 1) aNil)))) (gNm false 5)
 t_code_of_1)
def t_code_of_3 : DTS := (sRet (xVar 4))
def t_code_of_4 : DTS := (sSeq t_code_of_2
t_code_of_3)
def t_code_of_5 : DTS := (sSeq (sSet false 4 (xVar 3))
t_code_of_4)
def t_code_of : DTS := (sSeq (sAsg (xVar 0) (gSq 2 (gCn (gNm false 2) (gCn (gNm false 3) gNl))))
t_code_of_5)
def t_line_of_1 : DTS := (sIf (xBorT (xB (xOp (rtEq true) (xCall sp_ranks_of [none, none] (aCons (xVar 4) (aCons (xVar 1) aNil))) (xVar 2))))
 (sRaise (cxN 2))
 sNext)
def t_line_of_2 : DTS := (sRet (xTup (aCons (xVar 4) (aCons (xVar 0) aNil))))
def t_line_of_3 : DTS := (sSeq t_line_of_1
t_line_of_2)
def t_line_of_4 : DTS := (sIf (xOr (xB (xOp oLt (xVar 0) (xC (.int 1)))) (xB (xOp oGt (xVar 0) (xG (.leaf (.int 1000000000))))))
 (sRaise (cxN 2))
 sNext)
def t_line_of_5 : DTS := (sSeq (sSet false 4 (xBor (xCall sp_slip_of [none, none] (aCons (xVar 2) (aCons (xVar 1) aNil)))))
t_line_of_3)
def t_line_of_6 : DTS := (sDrop (xIns 2 (xC (.int 0)) (xVar 5)))
def t_line_of_7 : DTS := (sSeq (sAsg (xCB rnDivmodS (aCons (xVar 0) (aCons (xG (.leaf (.int 13))) aNil))) (gSq 2 (gCn (gNm false 0) (gCn (gNm false 5) gNl))))
t_line_of_6)
def t_line_of_8 : DTS := (sFor (iRange1 (aCons (xVar 1) aNil)) (gNm false 3)
 t_line_of_7)
def t_line_of_9 : DTS := (sSeq t_line_of_4
t_line_of_5)
def t_line_of_10 : DTS := (sSeq t_line_of_8
t_line_of_9)
def t_line_of_11 : DTS := (sIf (xOr (xNot (xTru (xCall sp_is_whole [none] (aCons (xVar 0) aNil)))) (xB (xOp oLt (xVar 0) (xC (.int 0)))))
 (sRaise (cxN 2))
 sNext)
def t_line_of_12 : DTS := (sSeq (sSet true 2 (xLst aNil))
t_line_of_10)
def t_line_of : DTS := (sSeq t_line_of_11
t_line_of_12)
def t_seal_of_1 : DTS := (sAug 3 (rtI0 fun i j => .int (i + j)) (xOp rtMul (xOp rtMul (xVar 6) (xVar 6)) (xVar 5)))
def t_seal_of_2 : DTS := (sSeq (sAug 2 (rtI0 fun i j => .int (i + j)) (xOp rtMul (xVar 6) (xVar 5)))
t_seal_of_1)
def t_seal_of_3 : DTS := (sSeq (sAug 1 (rtI0 fun i j => .int (i + j)) (xVar 5))
t_seal_of_2)
def t_seal_of_4 : DTS := (sSeq (sSet false 6 (xOp rtAdd (xVar 4) (xC (.int 1))))
t_seal_of_3)
def t_seal_of_5 : DTS := (sFor (iEn (aCons (xVar 0) aNil)) (gSq 2 (gCn (gNm false 4) (gCn (gNm false 5) gNl)))
 t_seal_of_4)
def t_seal_of_6 : DTS := (sRet (xTup (aCons (xCB rnLen (aCons (xVar 0) aNil)) (aCons (xVar 1) (aCons (xVar 2) (aCons (xVar 3) aNil))))))
def t_seal_of_7 : DTS := (sSeq t_seal_of_5
t_seal_of_6)
def t_seal_of_8 : DTS := (sSeq (sSet false 3 (xC (.int 0)))
t_seal_of_7)
def t_seal_of_9 : DTS := (sSeq (sSet false 2 (xC (.int 0)))
t_seal_of_8)
def t_seal_of : DTS := (sSeq (sSet false 1 (xC (.int 0)))
t_seal_of_9)
def t_mended_1 : DTS := (sRet (xTup (aCons (xMov 9) (aCons (xVar 7) aNil))))
def t_mended_2 : DTS := (sSeq (sAsg (xOp rtAdd (xIxO 9 (xOp oSub (xVar 7) (xC (.int 1)))) (xOp rtIx (xVar 6) (xC (.int 0)))) (gSetI 9 (xOp oSub (xVar 7) (xC (.int 1)))))
t_mended_1)
def t_mended_3 : DTS := (sIf (xOr (xB (xOp (rtEq true) (xVar 8) (xC (.int 0)))) (xOr (xB (xOp oLt (xVar 7) (xC (.int 1)))) (xOr (xB (xOp oGt (xVar 7) (xVar 2))) (xB (xOp (rtEq true) (xOp rtIx (xVar 6) (xC (.int 2))) (xOp rtMul (xVar 7) (xOp rtIx (xVar 6) (xC (.int 1)))))))))
 (sRaise (cxN 5))
 sNext)
def t_mended_4 : DTS := (sSeq (sSet true 9 (xCB rnList (aCons (xVar 0) aNil)))
t_mended_2)
def t_mended_5 : DTS := (sSeq t_mended_3
t_mended_4)
def t_mended_6 : DTS := (sIf (xB (xOp (rtEq false) (xOp rtIx (xVar 6) (xC (.int 0))) (xC (.int 0))))
 (sRaise (cxN 5))
 sNext)
def t_mended_7 : DTS := (sSeq (sAsg (xCB rnDivmodS (aCons (xOp rtIx (xVar 6) (xC (.int 1))) (aCons (xOp rtIx (xVar 6) (xC (.int 0))) aNil))) (gSq 2 (gCn (gNm false 7) (gCn (gNm false 8) gNl))))
t_mended_5)
def t_mended_8 : DTS := (sIf (xB (xOp (rtEq false) (xVar 6) (xTup (aCons (xC (.int 0)) (aCons (xC (.int 0)) (aCons (xC (.int 0)) aNil))))))
 (sRet (xTup (aCons (xCB rnList (aCons (xVar 0) aNil)) (aCons (xC (.int 0)) aNil))))
 sNext)
def t_mended_9 : DTS := (sSeq t_mended_6
t_mended_7)
def t_mended_10 : DTS := (sSeq t_mended_8
t_mended_9)
def t_mended_11 : DTS := (sIf (xB (xOp (rtEq true) (xOp rtIx (xVar 1) (xC (.int 0))) (xVar 2)))
 (sRaise (cxN 5))
 sNext)
def t_mended_12 : DTS := (sSeq (sSet false 6 (xTup (aCons (xOp oSub (xOp rtIx (xVar 1) (xC (.int 1))) (xVar 3)) (aCons (xOp oSub (xOp rtIx (xVar 1) (xC (.int 2))) (xVar 4)) (aCons (xOp oSub (xOp rtIx (xVar 1) (xC (.int 3))) (xVar 5)) aNil)))))
t_mended_10)
def t_mended_13 : DTS := (sSeq t_mended_11
t_mended_12)
def t_mended : DTS := (sSeq (sAsg (xCall sp_seal_of [none] (aCons (xVar 0) aNil)) (gSq 4 (gCn (gNm false 2) (gCn (gNm false 3) (gCn (gNm false 4) (gCn (gNm false 5) gNl))))))
t_mended_13)
def t_put_together_1 : DTS := (sDPutO 1 (xVar 2) (xOp rtAdd (xDGet2O 1 (xVar 2) (xC (.int 0))) (xVar 3)))
def t_put_together_2 : DTS := (sFor (iSeq (xVar 0)) (gSq 2 (gCn (gNm false 2) (gCn (gNm false 3) gNl)))
 t_put_together_1)
def t_put_together_3 : DTS := (sRet (xLc (iSeq (xSortIt (xFrz 1))) (gNm false 4) (xB (xOp (rtEq true) (xOp rtIx (xVar 4) (xC (.int 1))) (xC (.int 0)))) (xVar 4) [4]))
def t_put_together_4 : DTS := (sSeq t_put_together_2
t_put_together_3)
def t_put_together : DTS := (sSeq (sSet true 1 xDictT0)
t_put_together_4)
def t_sheet_of_1 : DTS := (sIf (xOr (xNot (xTru (xCall sp_is_whole [none] (aCons (xVar 2) aNil)))) (xOr (xB (xOp oLt (xVar 2) (xC (.int 1)))) (xB (xOp oGt (xVar 2) (xG (.leaf (.int 1000000000)))))))
 (sRaise (cxN 3))
 sNext)
def t_sheet_of_2 : DTS := t_sheet_of_1
def t_sheet_of_3 : DTS := (sFor (iSeq (xVar 0)) (gSq 2 (gCn (gNm false 1) (gCn (gNm false 2) gNl)))
 t_sheet_of_2)
def t_sheet_of_4 : DTS := (sRet (xCall sp_put_together [none] (aCons (xVar 0) aNil)))
def t_sheet_of : DTS := (sSeq t_sheet_of_3
t_sheet_of_4)
def t_joined_1 : DTS := (sDrop (xExt 1 (xVar 2)))
def t_joined_2 : DTS := (sFor (iSeq (xVar 0)) (gNm false 2)
 t_joined_1)
def t_joined_3 : DTS := (sRet (xBor (xCall sp_put_together [none] (aCons (xVar 1) aNil))))
def t_joined_4 : DTS := (sSeq t_joined_2
t_joined_3)
def t_joined : DTS := (sSeq (sSet true 1 (xLst aNil))
t_joined_4)
def t_ballots_in : DTS := (sRet (xCB rnSum (aCons (xLc (iSeq (xVar 0)) (gSq 2 (gCn (gNm false 1) (gCn (gNm false 2) gNl))) xYes (xVar 2) [1, 2]) aNil)))
def t_number_of_1 : DTS := (sIf (xB (xOp (rtEq false) (xVar 2) (xVar 1)))
 (sRet (xVar 3))
 sNext)
def t_number_of_2 : DTS := t_number_of_1
def t_number_of_3 : DTS := (sFor (iSeq (xVar 0)) (gSq 2 (gCn (gNm false 2) (gCn (gNm false 3) gNl)))
 t_number_of_2)
def t_number_of_4 : DTS := (sRet (xC (.int 0)))
def t_number_of : DTS := (sSeq t_number_of_3
t_number_of_4)
def t_apart_1 : DTS := (sAug 2 (rtI0 fun i j => .int (i + j)) (xCB rnMax2 (aCons (xC (.int 0)) (aCons (xOp oSub (xVar 4) (xCall sp_number_of [none, none] (aCons (xVar 1) (aCons (xVar 3) aNil)))) aNil))))
def t_apart_2 : DTS := (sFor (iSeq (xVar 0)) (gSq 2 (gCn (gNm false 3) (gCn (gNm false 4) gNl)))
 t_apart_1)
def t_apart_3 : DTS := (sRet (xVar 2))
def t_apart_4 : DTS := (sSeq t_apart_2
t_apart_3)
def t_apart : DTS := (sSeq (sSet false 2 (xC (.int 0)))
t_apart_4)
def t_Box_init_1 : DTS := (sFldN 0 C_Box ["hands"] "bundles" (xLst aNil))
def t_Box_init_2 : DTS := (sIf (xOr (xNot (xTru (xCall sp_is_whole [none] (aCons (xVar 1) aNil)))) (xNot (xB (xChain oLe oLe (xC (.int 1)) (xVar 1) (xG (.leaf (.int 12)))))))
 (sRaise (cxN 8))
 sNext)
def t_Box_init_3 : DTS := (sSeq (sFldN 0 C_Box [] "hands" (xVar 1))
t_Box_init_1)
def t_Box_init : DTS := (sSeq t_Box_init_2
t_Box_init_3)
def t_Box_many : DTS := (sRet (xCB rnLen (aCons (xFld C_Box ns_Box 1 (xVar 0)) aNil)))
def t_Box_lying_1 : DTS := (sIf (xOr (xNot (xTru (xCall sp_is_whole [none] (aCons (xVar 1) aNil)))) (xNot (xB (xChain oLe oLt (xC (.int 0)) (xVar 1) (xCB rnLen (aCons (xFld C_Box ns_Box 1 (xVar 0)) aNil))))))
 (sRaise (cxN 6))
 sNext)
def t_Box_lying_2 : DTS := (sRet (xOp rtIx (xFld C_Box ns_Box 1 (xVar 0)) (xVar 1)))
def t_Box_lying : DTS := (sSeq t_Box_lying_1
t_Box_lying_2)
def t_Box_take_1 : DTS := (sRet (xTup (aCons (xBor (xOp oSub (xCB rnLen (aCons (xFld C_Box ns_Box 1 (xVar 0)) aNil)) (xC (.int 1)))) (aCons (xVar 4) aNil))))
def t_Box_take_2 : DTS := (sSeq (sDrop (xAppF 0 C_Box ns_Box 1 5))
t_Box_take_1)
def t_Box_take_3 : DTS := (sSeq (sSet false 5 (xLc (iSeq (xVar 3)) (gNm false 6) xYes (xCall sp_line_of [none, none] (aCons (xVar 6) (aCons (xFldO 0 C_Box ns_Box 0) aNil))) [6]))
t_Box_take_2)
def t_Box_take : DTS := (sSeq (sAsg (xCall sp_mended [none, none] (aCons (xVar 1) (aCons (xVar 2) aNil))) (gSq 2 (gCn (gNm false 3) (gCn (gNm false 4) gNl))))
t_Box_take_3)
def t_Box_lines_at : DTS := (sRet (xCB rnList (aCons (xMethV C_Box ns_Box sp_Box_lying (xVar 0) [none] (aCons (xVar 1) aNil)) aNil)))
def t_Box_sheet_at : DTS := (sRet (xCall sp_sheet_of [none] (aCons (xMethV C_Box ns_Box sp_Box_lying (xVar 0) [none] (aCons (xVar 1) aNil)) aNil)))
def t_Box_seal_at : DTS := (sRet (xCall sp_seal_of [none] (aCons (xLc (iSeq (xMethV C_Box ns_Box sp_Box_lying (xVar 0) [none] (aCons (xVar 1) aNil))) (gNm false 2) xYes (xCall sp_code_of [none, none] (aCons (xVar 2) (aCons (xFld C_Box ns_Box 0 (xVar 0)) aNil))) [2]) aNil)))
def t_Box_sheet : DTS := (sRet (xCall sp_joined [none] (aCons (xLc (iSeq (xFld C_Box ns_Box 1 (xVar 0))) (gNm false 1) xYes (xCall sp_sheet_of [none] (aCons (xVar 1) aNil)) [1]) aNil)))
def t_Box_put_right_1 : DTS := (sRet (xCall sp_apart [none, none] (aCons (xVar 3) (aCons (xVar 4) aNil))))
def t_Box_put_right_2 : DTS := (sIf (xB (xOp (rtEq true) (xVar 5) (xVar 6)))
 sNever
 sNext)
def t_Box_put_right_3 : DTS := (sSeq (sSetF 0 C_Box ns_Box 1 (.v 1) (xCB rnList (aCons (xVar 2) aNil)))
t_Box_put_right_1)
def t_Box_put_right_4 : DTS := (sSeq t_Box_put_right_2
t_Box_put_right_3)
def t_Box_put_right_5 : DTS := (sSeq (sSet false 6 (xCall sp_ballots_in [none] (aCons (xVar 4) aNil)))
t_Box_put_right_4)
def t_Box_put_right_6 : DTS := (sSeq (sSet false 5 (xCall sp_ballots_in [none] (aCons (xVar 3) aNil)))
t_Box_put_right_5)
def t_Box_put_right_7 : DTS := (sSeq (sSet false 4 (xCall sp_sheet_of [none] (aCons (xVar 2) aNil)))
t_Box_put_right_6)
def t_Box_put_right : DTS := (sSeq (sSet false 3 (xBor (xMethV C_Box ns_Box sp_Box_sheet_at (xVar 0) [none] (aCons (xVar 1) aNil))))
t_Box_put_right_7)
def t__law_bag : DTS := (sRet (xLst (aCons (xC (.int 0)) (aCons (xC (.int 1234567891)) (aCons (xC (.int 0)) (aCons (xLc (iSeq (xSlA (xVar 0) xNoP (xPart (xC (.int 63))))) (gNm false 1) xYes (xCB rnAbs (aCons (xVar 1) aNil)) [1]) aNil))))))
def t__law_take_1 : DTS := (sRet (xOp oMod (xCB rnInt2 (aCons (xOp oDiv (xVar 3) (xC (.int 7))) aNil)) (xVar 1)))
def t__law_take_2 : DTS := (sSeq (sSet false 3 (xOp oMod (xCB rnInt2 (aCons (xOp rtMul (xOp oMod (xCB rnInt2 (aCons (xOp rtMul (xVar 2) (xVar 2)) aNil)) (xC (.int 998244353))) (xC (.int 30011))) aNil)) (xC (.int 998244353))))
t__law_take_1)
def t__law_take_3 : DTS := (sRet (xVar 6))
def t__law_take_4 : DTS := (sIf (xB (xOp oGt (xIxO 0 (xC (.int 0))) (xC (.int 0))))
 (sSeq (sAsg (xTup (aCons (xOp oMod (xCB rnInt2 (aCons (xIxO 0 (xC (.int 0))) aNil)) (xVar 1)) (aCons (xOp oDiv (xCB rnInt2 (aCons (xIxO 0 (xC (.int 0))) aNil)) (xVar 1)) aNil))) (gSq 2 (gCn (gNm false 6) (gCn (gSetI 0 (xC (.int 0))) gNl))))
t__law_take_3)
 sNext)
def t__law_take_5 : DTS := (sSeq (sSet false 2 (xOp oMod (xCB rnInt2 (aCons (xOp rtMul (xOp rtAdd (xIxO 0 (xC (.int 1))) (xC (.int 1))) (xC (.int 39373))) aNil)) (xC (.int 1000000007))))
t__law_take_2)
def t__law_take_6 : DTS := (sAsg (xOp oMod (xCB rnInt2 (aCons (xVar 5) aNil)) (xC (.int 2147483647))) (gSetI 0 (xC (.int 1))))
def t__law_take_7 : DTS := (sSeq (sSet false 5 (xOp rtAdd (xOp rtAdd (xOp rtMul (xIxO 0 (xC (.int 1))) (xC (.int 48271))) (xOp oMod (xCB rnInt2 (aCons (xVar 4) aNil)) (xC (.int 2147483647)))) (xOp rtMul (xC (.int 7919)) (xIxO 0 (xC (.int 2))))))
t__law_take_6)
def t__law_take_8 : DTS := (sSeq (sAsg (xOp rtMul (xVar 4) (xCB rnInt2 (aCons (xOp oGe (xVar 4) (xOp oPow (xC (.int 10)) (xC (.int 18)))) aNil))) (gSetI 0 (xC (.int 0))))
t__law_take_7)
def t__law_take_9 : DTS := (sSeq (sAugI 0 (xC (.int 2)) (rtI0 fun i j => .int (i + j)) (xC (.int 1)))
t__law_take_8)
def t__law_take_10 : DTS := (sIf (xB (xOp (rtEq false) (xIxO 0 (xC (.int 0))) (xC (.int 0))))
 (sSeq (sSet false 4 (xOp rtIx (xOp rtAdd (xSlA (xIxO 0 (xC (.int 3))) (xPart (xIxO 0 (xC (.int 2)))) xNoP) (xLst (aCons (xC (.int 0)) aNil))) (xC (.int 0))))
t__law_take_9)
 sNext)
def t__law_take_11 : DTS := (sSeq t__law_take_4
t__law_take_5)
def t__law_take : DTS := (sSeq t__law_take_10
t__law_take_11)
def t__law_alike : DTS := (sRet (xAndV (xOp (rtEq false) (xVar 0) (xVar 1)) (xOp (rtEq false) (xCB rnRepr2 (aCons (xVar 0) aNil)) (xCB rnRepr2 (aCons (xVar 1) aNil)))))
def t__law_one : DTS := (sRet (xOp rtIx (xVar 1) (xCall sp__law_take [some 0, none] (aLend 0 (aCons (xCB rnLen (aCons (xVar 1) aNil)) aNil)))))
def t__law_mixed_1 : DTS := (sDrop (xIns 2 (xCall sp__law_take [some 0, none] (aLend 0 (aCons (xBor (xOp rtAdd (xCB rnLen (aCons (xVar 2) aNil)) (xC (.int 1)))) aNil))) (xVar 3)))
def t__law_mixed_2 : DTS := (sFor (iSeq (xVar 1)) (gNm false 3)
 t__law_mixed_1)
def t__law_mixed_3 : DTS := (sRet (xMov 2))
def t__law_mixed_4 : DTS := (sSeq t__law_mixed_2
t__law_mixed_3)
def t__law_mixed : DTS := (sSeq (sSet true 2 (xLst aNil))
t__law_mixed_4)
def t__law_ranks_1 : DTS := (sRet (xLc (iRange1 (aCons (xVar 1) aNil)) (gNm false 3) xYes (xCall sp__law_take [some 0, none] (aLend 0 (aCons (xVar 2) aNil))) [3]))
def t__law_ranks : DTS := (sSeq (sSet false 2 (xCall sp__law_one [some 0, none] (aLend 0 (aCons (xLst (aCons (xC (.int 2)) (aCons (xC (.int 3)) (aCons (xOp rtAdd (xVar 1) (xC (.int 1))) (aCons (xOp rtAdd (xOp oPow (xC (.int 10)) (xC (.int 9))) (xC (.int 1))) aNil))))) aNil))))
t__law_ranks_1)
def t__law_tiers_1 : DTS := (sIf (xB (xOp oGt (xVar 2) (xC (.int 0))))
 (sDrop (xApp 1 (xCB rnSum (aCons (xLc (iEn (aCons (xVar 0) aNil)) (gSq 2 (gCn (gNm false 3) (gCn (gNm false 4) gNl))) (xB (xOp (rtEq false) (xVar 4) (xVar 2))) (xCall sp__law_bit [none] (aCons (xVar 3) aNil)) [3, 4]) aNil))))
 sNext)
def t__law_tiers_2 : DTS := t__law_tiers_1
def t__law_tiers_3 : DTS := (sFor (iSeq (xSortSet (xVar 0))) (gNm false 2)
 t__law_tiers_2)
def t__law_tiers_4 : DTS := (sRet (xBor (xCB rnTuple (aCons (xVar 1) aNil))))
def t__law_tiers_5 : DTS := (sSeq t__law_tiers_3
t__law_tiers_4)
def t__law_tiers : DTS := (sSeq (sSet true 1 (xLst aNil))
t__law_tiers_5)
def t__law_bit : DTS := (sRet (xOp rtIx (xLst (aCons (xC (.int 1)) (aCons (xC (.int 2)) (aCons (xC (.int 4)) (aCons (xC (.int 8)) (aCons (xC (.int 16)) (aCons (xC (.int 32)) (aCons (xC (.int 64)) (aCons (xC (.int 128)) (aCons (xC (.int 256)) (aCons (xC (.int 512)) (aCons (xC (.int 1024)) (aCons (xC (.int 2048)) aNil))))))))))))) (xVar 0)))
def t__law_slip : DTS := (sRet (xCall sp__law_tiers [none] (aCons (xCall sp__law_ranks [some 0, none] (aLend 0 (aCons (xVar 1) aNil))) aNil)))
def t__law_ballots : DTS := (sRet (xOp rtAdd (xC (.int 1)) (xCall sp__law_take [some 0, none] (aLend 0 (aCons (xCall sp__law_one [some 0, none] (aLend 0 (aCons (xLst (aCons (xC (.int 1)) (aCons (xC (.int 3)) (aCons (xC (.int 9)) (aCons (xVar 1) aNil))))) aNil))) aNil)))))
def t__law_lines_1 : DTS := (sRet (xLc (iRange1 (aCons (xCall sp__law_take [some 0, none] (aLend 0 (aCons (xOp rtAdd (xVar 2) (xC (.int 1))) aNil))) aNil)) (gNm false 4) xYes (xTup (aCons (xCall sp__law_one [some 0, none] (aLend 0 (aCons (xVar 3) aNil))) (aCons (xCall sp__law_ballots [some 0, none] (aLend 0 (aCons (xOp oPow (xC (.int 10)) (xC (.int 9))) aNil))) aNil))) [4]))
def t__law_lines : DTS := (sSeq (sSet false 3 (xLc (iRange1 (aCons (xOp rtAdd (xC (.int 1)) (xCall sp__law_take [some 0, none] (aLend 0 (aCons (xVar 2) aNil)))) aNil)) (gNm false 4) xYes (xCall sp__law_slip [some 0, none] (aLend 0 (aCons (xVar 1) aNil))) [4]))
t__law_lines_1)
def t__law_altered_1 : DTS := (sRet (xTup (aCons (xMov 2) (aCons (xOp rtAdd (xVar 3) (xC (.int 1))) aNil))))
def t__law_altered_2 : DTS := (sIf (xB (xOp (rtEq false) (xVar 3) (xCB rnLen (aCons (xVar 1) aNil))))
 (sRet (xTup (aCons (xMov 2) (aCons (xC (.int 0)) aNil))))
 sNext)
def t__law_altered_3 : DTS := (sSeq (sAugI 2 (xVar 3) (rtI0 fun i j => .int (i + j)) (xCall sp__law_one [some 0, none] (aLend 0 (aCons (xLst (aCons (xC (.int 1)) (aCons (xUn (fun i => .int (-i)) (xC (.int 1))) (aCons (xC (.int 13)) (aCons (xUn (fun i => .int (-i)) (xC (.int 13))) (aCons (xOp oPow (xC (.int 10)) (xC (.int 20))) (aCons (xUn (fun i => .int (-i)) (xOp oPow (xC (.int 10)) (xC (.int 20)))) aNil))))))) aNil))))
t__law_altered_1)
def t__law_altered_4 : DTS := (sSeq t__law_altered_2
t__law_altered_3)
def t__law_altered : DTS := (sSeq (sParO true false 2 3 (aCons (xCB rnList (aCons (xVar 1) aNil)) (aCons (xCall sp__law_take [some 0, none] (aLend 0 (aCons (xOp rtAdd (xCB rnLen (aCons (xVar 1) aNil)) (xC (.int 1))) aNil))) aNil)))
t__law_altered_4)
def t__law_is_torn_1 : DTS := (sDrop (xMethL 0 C_Box ns_Box sp_Box_take [none, none] (aCons (xVar 1) (aCons (xVar 2) aNil))))
def t__law_is_torn_2 : DTS := (sTryAs 3 0 t__law_is_torn_1 (fun n a => (sRet (xIsE 3 n 5 a))))
def t__law_is_torn_3 : DTS := (sRet (xC (.bl false)))
def t__law_is_torn : DTS := (sSeq t__law_is_torn_2
t__law_is_torn_3)
def t__law_taken_right_1 : DTS := (sIf (xNot (xTru (xCall sp__law_is_torn [some 4, none, none] (aLend 4 (aCons (xFrz 8) (aCons (xVar 7) aNil))))))
 (sRet (xC (.bl false)))
 sNext)
def t__law_taken_right_2 : DTS := t__law_taken_right_1
def t__law_taken_right_3 : DTS := (sSeq (sAugM 8 (xUn (fun i => .int (-i)) (xC (.int 1))) (rtI0 fun i j => .int (i - j)) (xOp rtAdd (xC (.int 1)) (xCall sp__law_take [some 0, none] (aLend 0 (aCons (xC (.int 5)) aNil)))))
t__law_taken_right_2)
def t__law_taken_right_4 : DTS := (sSeq (sAugI 8 (xC (.int 0)) (rtI0 fun i j => .int (i + j)) (xOp rtAdd (xC (.int 1)) (xCall sp__law_take [some 0, none] (aLend 0 (aCons (xC (.int 5)) aNil)))))
t__law_taken_right_3)
def t__law_taken_right_5 : DTS := (sIf (xB (xOp oGt (xCB rnLen (aCons (xVar 6) aNil)) (xC (.int 1))))
 (sSeq (sSet true 8 (xCB rnList (aCons (xVar 6) aNil)))
t__law_taken_right_4)
 sNext)
def t__law_taken_right_6 : DTS := (sIf (xBorT (xOr (xB (xOp (rtEq true) (xLc (iSeq (xVar 6)) (gNm false 11) xYes (xCall sp_line_of [none, none] (aCons (xVar 11) (aCons (xVar 3) aNil))) [11]) (xVar 5))) (xB (xOp (rtEq true) (xMethV C_Box ns_Box sp_Box_seal_at (xVar 4) [none] (aCons (xOp oSub (xMethV C_Box ns_Box sp_Box_many (xVar 4) [] aNil) (xC (.int 1))) aNil)) (xVar 7)))))
 (sRet (xC (.bl false)))
 sNext)
def t__law_taken_right_7 : DTS := t__law_taken_right_5
def t__law_taken_right_8 : DTS := (sIf (xOr (xB (xOp (rtEq true) (xMethL 4 C_Box ns_Box sp_Box_take [none, none] (aCons (xFrz 8) (aCons (xVar 7) aNil))) (xTup (aCons (xBor (xOp oSub (xMethV C_Box ns_Box sp_Box_many (xVar 4) [] aNil) (xC (.int 1)))) (aCons (xVar 9) aNil))))) (xBorT (xB (xOp (rtEq true) (xMethV C_Box ns_Box sp_Box_lines_at (xVar 4) [none] (aCons (xOp oSub (xMethV C_Box ns_Box sp_Box_many (xVar 4) [] aNil) (xC (.int 1))) aNil)) (xVar 5)))))
 (sRet (xC (.bl false)))
 sNext)
def t__law_taken_right_9 : DTS := (sSeq t__law_taken_right_6
t__law_taken_right_7)
def t__law_taken_right_10 : DTS := (sIf (xBorT (xNot (xTru (xCall sp__law_alike [none, none] (aCons (xCall sp_mended [none, none] (aCons (xVar 8) (aCons (xVar 7) aNil))) (aCons (xTup (aCons (xVar 6) (aCons (xVar 9) aNil))) aNil))))))
 (sRet (xC (.bl false)))
 sNext)
def t__law_taken_right_11 : DTS := (sSeq t__law_taken_right_8
t__law_taken_right_9)
def t__law_taken_right_12 : DTS := (sSeq t__law_taken_right_10
t__law_taken_right_11)
def t__law_taken_right_13 : DTS := (sSeq (sAsg (xCall sp__law_altered [some 0, none] (aLend 0 (aCons (xVar 6) aNil))) (gSq 2 (gCn (gNm true 8) (gCn (gNm false 9) gNl))))
t__law_taken_right_12)
def t__law_taken_right_14 : DTS := (sSeq (sSet false 7 (xCall sp_seal_of [none] (aCons (xVar 6) aNil)))
t__law_taken_right_13)
def t__law_taken_right_15 : DTS := (sSeq (sSet false 6 (xLc (iSeq (xVar 5)) (gNm false 10) xYes (xCall sp_code_of [none, none] (aCons (xVar 10) (aCons (xVar 3) aNil))) [10]))
t__law_taken_right_14)
def t__law_taken_right_16 : DTS := (sFor (iSeq (xCall sp__law_mixed [some 0, none] (aLend 0 (aCons (xVar 2) aNil)))) (gNm false 5)
 t__law_taken_right_15)
def t__law_taken_right_17 : DTS := t__law_taken_right_16
def t__law_taken_right_18 : DTS := (sForO 1 4
 t__law_taken_right_17)
def t__law_taken_right_19 : DTS := (sRet (xBor (xOp (rtEq false) (xMethV C_Box ns_Box sp_Box_sheet (xOp rtIx (xVar 1) (xC (.int 0))) [] aNil) (xMethV C_Box ns_Box sp_Box_sheet (xOp rtIx (xVar 1) (xC (.int 1))) [] aNil))))
def t__law_taken_right : DTS := (sSeq t__law_taken_right_18
t__law_taken_right_19)
def t__law_recounts_right_1 : DTS := (sIf (xOr (xB (xOp (rtEq true) (xMethL 1 C_Box ns_Box sp_Box_put_right [none, none] (aCons (xVar 4) (aCons (xCall sp__law_mixed [some 0, none] (aLend 0 (aCons (xVar 5) aNil))) aNil))) (xVar 8))) (xBorT (xB (xOp (rtEq true) (xMethV C_Box ns_Box sp_Box_sheet (xVar 1) [] aNil) (xVar 3)))))
 (sRet (xC (.bl false)))
 sNext)
def t__law_recounts_right_2 : DTS := (sIf (xBorT (xOr (xB (xOp (rtEq true) (xCall sp_ballots_in [none] (aCons (xMethV C_Box ns_Box sp_Box_sheet (xVar 1) [] aNil) aNil)) (xCall sp_ballots_in [none] (aCons (xVar 3) aNil)))) (xB (xOp (rtEq true) (xCall sp_apart [none, none] (aCons (xVar 3) (aCons (xMethV C_Box ns_Box sp_Box_sheet (xVar 1) [] aNil) aNil))) (xVar 8)))))
 (sRet (xC (.bl false)))
 sNext)
def t__law_recounts_right_3 : DTS := t__law_recounts_right_1
def t__law_recounts_right_4 : DTS := (sIf (xBorT (xB (xOp (rtEq true) (xMethV C_Box ns_Box sp_Box_seal_at (xVar 1) [none] (aCons (xVar 4) aNil)) (xCall sp_seal_of [none] (aCons (xLc (iSeq (xVar 7)) (gNm false 11) xYes (xCall sp_code_of [none, none] (aCons (xVar 11) (aCons (xVar 2) aNil))) [11]) aNil)))))
 (sRet (xC (.bl false)))
 sNext)
def t__law_recounts_right_5 : DTS := (sSeq t__law_recounts_right_2
t__law_recounts_right_3)
def t__law_recounts_right_6 : DTS := (sIf (xOr (xB (xOp (rtEq true) (xMethL 1 C_Box ns_Box sp_Box_put_right [none, none] (aCons (xVar 4) (aCons (xVar 7) aNil))) (xVar 8))) (xBorT (xB (xOp (rtEq true) (xMethV C_Box ns_Box sp_Box_sheet_at (xVar 1) [none] (aCons (xVar 4) aNil)) (xCall sp_sheet_of [none] (aCons (xVar 7) aNil))))))
 (sRet (xC (.bl false)))
 sNext)
def t__law_recounts_right_7 : DTS := (sSeq t__law_recounts_right_4
t__law_recounts_right_5)
def t__law_recounts_right_8 : DTS := (sSeq t__law_recounts_right_6
t__law_recounts_right_7)
def t__law_recounts_right_9 : DTS := (sSeq (sSet false 8 (xCall sp_apart [none, none] (aCons (xVar 6) (aCons (xCall sp_sheet_of [none] (aCons (xVar 7) aNil)) aNil))))
t__law_recounts_right_8)
def t__law_recounts_right_10 : DTS := (sSeq (sSet false 7 (xLc (iSeq (xVar 5)) (gSq 2 (gCn (gNm false 9) (gCn (gNm false 10) gNl))) xYes (xTup (aCons (xCall sp__law_slip [some 0, none] (aLend 0 (aCons (xVar 2) aNil))) (aCons (xVar 10) aNil))) [9, 10]))
t__law_recounts_right_9)
def t__law_recounts_right_11 : DTS := (sSeq (sPar 5 6 (aCons (xBor (xMethV C_Box ns_Box sp_Box_lines_at (xVar 1) [none] (aCons (xVar 4) aNil))) (aCons (xBor (xMethV C_Box ns_Box sp_Box_sheet_at (xVar 1) [none] (aCons (xVar 4) aNil))) aNil)))
t__law_recounts_right_10)
def t__law_recounts_right_12 : DTS := (sFor (iRange1 (aCons (xBor (xMethV C_Box ns_Box sp_Box_many (xVar 1) [] aNil)) aNil)) (gNm false 4)
 t__law_recounts_right_11)
def t__law_recounts_right_13 : DTS := (sRet (xC (.bl true)))
def t__law_recounts_right_14 : DTS := (sSeq t__law_recounts_right_12
t__law_recounts_right_13)
def t__law_recounts_right : DTS := (sSeq (sSet false 3 (xBor (xMethV C_Box ns_Box sp_Box_sheet (xVar 1) [] aNil)))
t__law_recounts_right_14)
def t_law_1 : DTS := (sIf (xOr (xNot (xTru (xCallP sp__law_recounts_right 1 5 [.c 0] 3))) (xBorT (xB (xOp (rtEq true) (xMethV C_Box ns_Box sp_Box_sheet (xOp rtIx (xVar 5) (xC (.int 0))) [] aNil) (xMethV C_Box ns_Box sp_Box_sheet (xOp rtIx (xVar 5) (xC (.int 1))) [] aNil)))))
 (sRet (xC (.bl false)))
 sNext)
def t_law_2 : DTS := (sIf (xBorT (xB (xOp (rtEq true) (xMethV C_Box ns_Box sp_Box_sheet (xOp rtIx (xVar 5) (xC (.int 0))) [] aNil) (xCall sp_joined [none] (aCons (xLc (iSeq (xVar 4)) (gNm false 7) xYes (xCall sp_sheet_of [none] (aCons (xVar 7) aNil)) [7]) aNil)))))
 (sRet (xC (.bl false)))
 sNext)
def t_law_3 : DTS := t_law_1
def t_law_4 : DTS := (sIf (xNot (xTru (xCall sp__law_taken_right [some 1, some 5, none, none] (aLend 1 (aLend 5 (aCons (xVar 4) (aCons (xVar 3) aNil)))))))
 (sRet (xC (.bl false)))
 sNext)
def t_law_5 : DTS := (sSeq t_law_2
t_law_3)
def t_law_6 : DTS := (sSeq t_law_4
t_law_5)
def t_law_7 : DTS := (sSeq (sSet true 5 (xLst (aCons (xMake C_Box sp_Box_init [none] (aCons (xVar 3) aNil)) (aCons (xMake C_Box sp_Box_init [none] (aCons (xVar 3) aNil)) aNil))))
t_law_6)
def t_law_8 : DTS := (sSeq (sSet false 4 (xLc (iRange1 (aCons (xOp rtAdd (xC (.int 1)) (xCall sp__law_take [some 1, none] (aLend 1 (aCons (xC (.int 4)) aNil)))) aNil)) (gNm false 6) xYes (xCall sp__law_lines [some 1, none, none] (aLend 1 (aCons (xVar 3) (aCons (xC (.int 4)) aNil)))) [6]))
t_law_7)
def t_law_9 : DTS := (sSeq (sSet false 3 (xOp rtAdd (xC (.int 1)) (xCall sp__law_take [some 1, none] (aLend 1 (aCons (xCall sp__law_one [some 1, none] (aLend 1 (aCons (xLst (aCons (xC (.int 2)) (aCons (xC (.int 3)) (aCons (xC (.int 6)) aNil)))) aNil))) aNil)))))
t_law_8)
def t_law_10 : DTS := (sFor (iRange1 (aCons (xC (.int 3)) aNil)) (gNm false 2)
 t_law_9)
def t_law_11 : DTS := (sRet (xC (.bl true)))
def t_law_12 : DTS := (sSeq t_law_10
t_law_11)
def t_law : DTS := (sSeq (sSet true 1 (xCall sp__law_bag [none] (aCons (xVar 0) aNil)))
t_law_12)
end L06
set_option Elab.async false
set_option linter.all false
set_option maxRecDepth 100000
set_option maxHeartbeats 4000000
namespace L06
open PySem L2 DL
variable [Kls]
theorem frz_its (o : Bool) (s : Sh) (ns : List Int) : frz (.node o s (intsT ns)) = .node false s (intsT ns) := by
  rw [frz_node, intsT_frz]
theorem rd__law_bag {ts : List T} {Q : T → List T → Prop} {E : Value → List (Str × V) → List T → Prop} (h : sp__law_bag ts Q E) : t__law_bag (bodyEnds [false] Q E) (startE 2 (frzP [false] ts)) := by
  obtain ⟨ns, rfl, h1, q⟩ := h
  (try simp only [np_t, np_f, np_n, ne_c, ne_n, ne_0, nf_leaf, nf_pin, nf_node])
  (repeat (first | (refine Nx.mk ?_; (try (dsimp only [nr_none, nr_some, nr_nil, nf_leaf, nf_pin, nf_node, nf_nil, nf_cons, ni_f, ni_t, nw_nil, nw_cons, ns_0, ns_s]))) | (refine And.intro ?_ ?_; focus (first | exact rfl | exact frz_frz _ | exact frz_nf _ _ | exact (show frz _ = _ by assumption) | (show frz _ = _; simp only [nf_node, nf_cons, nf_nil, nf_leaf, frzL_frzL, intsT_frz]; done) | exact frz_ints _ _ | exact Nat.le_of_ble_eq_true rfl | exact (show (0 : Int) < _ by decide) | exact (show (0 : Int) ≤ _ by decide) | exact ⟨show (0 : Int) < _ by decide, show Nat.log2 _ < _ by decide⟩ | exact Or.inl (Or.inr ⟨show (_ : Int) < _ by decide, show (_ : Int) < _ by decide⟩) | exact Or.inl (Or.inl ⟨show (_ : Int) < _ by decide, show (_ : Int) < _ by decide⟩) | exact ⟨show (0 : Int) ≤ _ by decide, show (_ : Int) ≤ _ by decide, show Int.natAbs _ < _ by decide⟩)) | refine Exists.intro _ (Exists.intro _ (And.intro rfl (And.intro rfl ?_))) | refine Exists.intro _ (And.intro (Le.rf _) ?_) | refine Exists.intro _ (And.intro rfl ?_)))
  have e0 : (cutA (ns.map V.int) none (some 63)).map T.leaf = intsT (cutA ns none (some 63)) := by
    unfold cutA
    simp only [intsT, List.length_map, List.map_take, List.map_drop, List.map_map]
    rfl
  have hl : (intsT (cutA ns none (some 63))).length ≤ 63 := by
    have := cutA_length_le ns none (some 63)
    simp only [intsT, List.length_map]
    omega
  refine Lc.fm (fun t => match t with | .leaf (.int i) => some (.leaf (.int (if i < 0 then -i else i))) | _ => none) ?_ (fun t ht acc R' ha h1 h0 => ?_) ?_
  · rw [e0, intsT_frz]
    exact Nat.le_trans hl (by decide)
  · rw [e0, intsT_frz] at ht
    obtain ⟨i, _, rfl⟩ := List.mem_map.mp ht
    (repeat (first | (refine Nx.mk ?_; (try (dsimp only [nr_none, nr_some, nr_nil, nf_leaf, nf_pin, nf_node, nf_nil, nf_cons, ni_f, ni_t, nw_nil, nw_cons, ns_0, ns_s]))) | (refine And.intro ?_ ?_; focus (first | exact rfl | exact frz_frz _ | exact frz_nf _ _ | exact (show frz _ = _ by assumption) | (show frz _ = _; simp only [nf_node, nf_cons, nf_nil, nf_leaf, frzL_frzL, intsT_frz]; done) | exact frz_ints _ _ | exact Nat.le_of_ble_eq_true rfl | exact (show (0 : Int) < _ by decide) | exact (show (0 : Int) ≤ _ by decide) | exact ⟨show (0 : Int) < _ by decide, show Nat.log2 _ < _ by decide⟩ | exact Or.inl (Or.inr ⟨show (_ : Int) < _ by decide, show (_ : Int) < _ by decide⟩) | exact Or.inl (Or.inl ⟨show (_ : Int) < _ by decide, show (_ : Int) < _ by decide⟩) | exact ⟨show (0 : Int) ≤ _ by decide, show (_ : Int) ≤ _ by decide, show Int.natAbs _ < _ by decide⟩)) | refine Exists.intro _ (Exists.intro _ (And.intro rfl (And.intro rfl ?_))) | refine Exists.intro _ (And.intro (Le.rf _) ?_) | refine Exists.intro _ (And.intro rfl ?_)))
    exact And.intro ha (h1 _ rfl)
  · rw [e0, intsT_frz]
    have e1 : (intsT (cutA ns none (some 63))).filterMap (fun t => match t with | .leaf (.int i) => some (.leaf (.int (if i < 0 then -i else i))) | _ => none) = intsT ((cutA ns none (some 63)).map fun i => if i < 0 then -i else i) := by
      generalize cutA ns none (some 63) = l
      induction l with
      | nil => rfl
      | cons x l ih =>
        simp only [intsT, List.map_cons] at ih ⊢
        rw [List.filterMap_cons]
        simp only [ih]
    rw [e1]
    (repeat (first | (refine Nx.mk ?_; (try (dsimp only [nr_none, nr_some, nr_nil, nf_leaf, nf_pin, nf_node, nf_nil, nf_cons, ni_f, ni_t, nw_nil, nw_cons, ns_0, ns_s]))) | (refine And.intro ?_ ?_; focus (first | exact rfl | exact frz_frz _ | exact frz_nf _ _ | exact (show frz _ = _ by assumption) | (show frz _ = _; simp only [nf_node, nf_cons, nf_nil, nf_leaf, frzL_frzL, intsT_frz]; done) | exact frz_ints _ _ | exact Nat.le_of_ble_eq_true rfl | exact (show (0 : Int) < _ by decide) | exact (show (0 : Int) ≤ _ by decide) | exact ⟨show (0 : Int) < _ by decide, show Nat.log2 _ < _ by decide⟩ | exact Or.inl (Or.inr ⟨show (_ : Int) < _ by decide, show (_ : Int) < _ by decide⟩) | exact Or.inl (Or.inl ⟨show (_ : Int) < _ by decide, show (_ : Int) < _ by decide⟩) | exact ⟨show (0 : Int) ≤ _ by decide, show (_ : Int) ≤ _ by decide, show Int.natAbs _ < _ by decide⟩)) | refine Exists.intro _ (Exists.intro _ (And.intro rfl (And.intro rfl ?_))) | refine Exists.intro _ (And.intro (Le.rf _) ?_) | refine Exists.intro _ (And.intro rfl ?_)))
    refine q _ ⟨0, 1234567891, 0, true, _, rfl, by decide, by decide, by decide, by decide, ?_, ?_⟩
    · rw [List.length_map]
      simp only [intsT, List.length_map] at hl
      exact hl
    · intro x hx
      obtain ⟨i, _, rfl⟩ := List.mem_map.mp hx
      split <;> omega
theorem take_low {n : Int} {bag : T} {g4 g5 g6 : Option T} {Q : T → List T → Prop} {E : Value → List (Str × V) → List T → Prop} (hb : IsBag bag) (h2 : 0 < n) (h3 : n < 2 ^ 62 ∨ n.natAbs.log2 < 9000)
    (q : ∀ (r : Int) (bag' : T), 0 ≤ r → r < n → IsBag bag' → Q (.leaf (.int r)) [bag']) : t__law_take_11 (bodyEnds [true, false] Q E) [some bag, some (.leaf (.int n)), none, none, g4, g5, g6] := by
  obtain ⟨a, c, d, o, cells, rfl, k1, k2, k3, k4, k5, k6⟩ := hb
  (repeat (first | (refine Nx.mk ?_; (try (dsimp only [nr_none, nr_some, nr_nil, nf_leaf, nf_pin, nf_node, nf_nil, nf_cons, ni_f, ni_t, nw_nil, nw_cons, ns_0, ns_s]))) | (refine And.intro ?_ ?_; focus (first | exact rfl | exact frz_frz _ | exact frz_nf _ _ | exact (show frz _ = _ by assumption) | (show frz _ = _; simp only [nf_node, nf_cons, nf_nil, nf_leaf, frzL_frzL, intsT_frz]; done) | exact frz_ints _ _ | exact Nat.le_of_ble_eq_true rfl | exact (show (0 : Int) < _ by decide) | exact (show (0 : Int) ≤ _ by decide) | exact ⟨show (0 : Int) < _ by decide, show Nat.log2 _ < _ by decide⟩ | exact Or.inl (Or.inr ⟨show (_ : Int) < _ by decide, show (_ : Int) < _ by decide⟩) | exact Or.inl (Or.inl ⟨show (_ : Int) < _ by decide, show (_ : Int) < _ by decide⟩) | exact ⟨show (0 : Int) ≤ _ by decide, show (_ : Int) ≤ _ by decide, show Int.natAbs _ < _ by decide⟩)) | refine Exists.intro _ (Exists.intro _ (And.intro rfl (And.intro rfl ?_))) | refine Exists.intro _ (And.intro (Le.rf _) ?_) | refine Exists.intro _ (And.intro rfl ?_)))
  refine ifB_dec (fun hb => ?_) (fun hb => ?_)
  · (repeat (first | (refine Nx.mk ?_; (try (dsimp only [nr_none, nr_some, nr_nil, nf_leaf, nf_pin, nf_node, nf_nil, nf_cons, ni_f, ni_t, nw_nil, nw_cons, ns_0, ns_s]))) | (refine And.intro ?_ ?_; focus (first | exact rfl | exact frz_frz _ | exact frz_nf _ _ | exact (show frz _ = _ by assumption) | (show frz _ = _; simp only [nf_node, nf_cons, nf_nil, nf_leaf, frzL_frzL, intsT_frz]; done) | exact frz_ints _ _ | exact Nat.le_of_ble_eq_true rfl | exact (show (0 : Int) < _ by decide) | exact (show (0 : Int) ≤ _ by decide) | exact ⟨show (0 : Int) < _ by decide, show Nat.log2 _ < _ by decide⟩ | exact Or.inl (Or.inr ⟨show (_ : Int) < _ by decide, show (_ : Int) < _ by decide⟩) | exact Or.inl (Or.inl ⟨show (_ : Int) < _ by decide, show (_ : Int) < _ by decide⟩) | exact ⟨show (0 : Int) ≤ _ by decide, show (_ : Int) ≤ _ by decide, show Int.natAbs _ < _ by decide⟩)) | refine Exists.intro _ (Exists.intro _ (And.intro rfl (And.intro rfl ?_))) | refine Exists.intro _ (And.intro (Le.rf _) ?_) | refine Exists.intro _ (And.intro rfl ?_)))
    refine And.intro h2 ?_
    (repeat (first | (refine Nx.mk ?_; (try (dsimp only [nr_none, nr_some, nr_nil, nf_leaf, nf_pin, nf_node, nf_nil, nf_cons, ni_f, ni_t, nw_nil, nw_cons, ns_0, ns_s]))) | (refine And.intro ?_ ?_; focus (first | exact rfl | exact frz_frz _ | exact frz_nf _ _ | exact (show frz _ = _ by assumption) | (show frz _ = _; simp only [nf_node, nf_cons, nf_nil, nf_leaf, frzL_frzL, intsT_frz]; done) | exact frz_ints _ _ | exact Nat.le_of_ble_eq_true rfl | exact (show (0 : Int) < _ by decide) | exact (show (0 : Int) ≤ _ by decide) | exact ⟨show (0 : Int) < _ by decide, show Nat.log2 _ < _ by decide⟩ | exact Or.inl (Or.inr ⟨show (_ : Int) < _ by decide, show (_ : Int) < _ by decide⟩) | exact Or.inl (Or.inl ⟨show (_ : Int) < _ by decide, show (_ : Int) < _ by decide⟩) | exact ⟨show (0 : Int) ≤ _ by decide, show (_ : Int) ≤ _ by decide, show Int.natAbs _ < _ by decide⟩)) | refine Exists.intro _ (Exists.intro _ (And.intro rfl (And.intro rfl ?_))) | refine Exists.intro _ (And.intro (Le.rf _) ?_) | refine Exists.intro _ (And.intro rfl ?_)))
    refine And.intro ⟨h2, h3.elim (fun h3 => Nat.lt_of_lt_of_le (PySem.Flt.log2_lt_of (k := 62) (by decide) (by omega)) (by decide)) id⟩ ?_
    (repeat (first | (refine Nx.mk ?_; (try (dsimp only [nr_none, nr_some, nr_nil, nf_leaf, nf_pin, nf_node, nf_nil, nf_cons, ni_f, ni_t, nw_nil, nw_cons, ns_0, ns_s]))) | (refine And.intro ?_ ?_; focus (first | exact rfl | exact frz_frz _ | exact frz_nf _ _ | exact (show frz _ = _ by assumption) | (show frz _ = _; simp only [nf_node, nf_cons, nf_nil, nf_leaf, frzL_frzL, intsT_frz]; done) | exact frz_ints _ _ | exact Nat.le_of_ble_eq_true rfl | exact (show (0 : Int) < _ by decide) | exact (show (0 : Int) ≤ _ by decide) | exact ⟨show (0 : Int) < _ by decide, show Nat.log2 _ < _ by decide⟩ | exact Or.inl (Or.inr ⟨show (_ : Int) < _ by decide, show (_ : Int) < _ by decide⟩) | exact Or.inl (Or.inl ⟨show (_ : Int) < _ by decide, show (_ : Int) < _ by decide⟩) | exact ⟨show (0 : Int) ≤ _ by decide, show (_ : Int) ≤ _ by decide, show Int.natAbs _ < _ by decide⟩)) | refine Exists.intro _ (Exists.intro _ (And.intro rfl (And.intro rfl ?_))) | refine Exists.intro _ (And.intro (Le.rf _) ?_) | refine Exists.intro _ (And.intro rfl ?_)))
    exact q _ _ (Int.emod_nonneg _ (by omega)) (Int.emod_lt_of_pos _ h2) ⟨_, _, _, _, cells, rfl, Int.ediv_nonneg k1 (by omega), k2, k3, k4, k5, k6⟩
  · (repeat (first | (refine Nx.mk ?_; (try (dsimp only [nr_none, nr_some, nr_nil, nf_leaf, nf_pin, nf_node, nf_nil, nf_cons, ni_f, ni_t, nw_nil, nw_cons, ns_0, ns_s]))) | (refine And.intro ?_ ?_; focus (first | exact rfl | exact frz_frz _ | exact frz_nf _ _ | exact (show frz _ = _ by assumption) | (show frz _ = _; simp only [nf_node, nf_cons, nf_nil, nf_leaf, frzL_frzL, intsT_frz]; done) | exact frz_ints _ _ | exact Nat.le_of_ble_eq_true rfl | exact (show (0 : Int) < _ by decide) | exact (show (0 : Int) ≤ _ by decide) | exact ⟨show (0 : Int) < _ by decide, show Nat.log2 _ < _ by decide⟩ | exact Or.inl (Or.inr ⟨show (_ : Int) < _ by decide, show (_ : Int) < _ by decide⟩) | exact Or.inl (Or.inl ⟨show (_ : Int) < _ by decide, show (_ : Int) < _ by decide⟩) | exact ⟨show (0 : Int) ≤ _ by decide, show (_ : Int) ≤ _ by decide, show Int.natAbs _ < _ by decide⟩)) | refine Exists.intro _ (Exists.intro _ (And.intro rfl (And.intro rfl ?_))) | refine Exists.intro _ (And.intro (Le.rf _) ?_) | refine Exists.intro _ (And.intro rfl ?_)))
    refine And.intro (.inl (.inl ⟨?_, ?_⟩)) ?_
    · exact Int.lt_of_lt_of_le (by decide) (Int.emod_nonneg _ (by decide))
    · exact Int.lt_trans (Int.emod_lt_of_pos _ (by decide)) (by decide)
    (repeat (first | (refine Nx.mk ?_; (try (dsimp only [nr_none, nr_some, nr_nil, nf_leaf, nf_pin, nf_node, nf_nil, nf_cons, ni_f, ni_t, nw_nil, nw_cons, ns_0, ns_s]))) | (refine And.intro ?_ ?_; focus (first | exact rfl | exact frz_frz _ | exact frz_nf _ _ | exact (show frz _ = _ by assumption) | (show frz _ = _; simp only [nf_node, nf_cons, nf_nil, nf_leaf, frzL_frzL, intsT_frz]; done) | exact frz_ints _ _ | exact Nat.le_of_ble_eq_true rfl | exact (show (0 : Int) < _ by decide) | exact (show (0 : Int) ≤ _ by decide) | exact ⟨show (0 : Int) < _ by decide, show Nat.log2 _ < _ by decide⟩ | exact Or.inl (Or.inr ⟨show (_ : Int) < _ by decide, show (_ : Int) < _ by decide⟩) | exact Or.inl (Or.inl ⟨show (_ : Int) < _ by decide, show (_ : Int) < _ by decide⟩) | exact ⟨show (0 : Int) ≤ _ by decide, show (_ : Int) ≤ _ by decide, show Int.natAbs _ < _ by decide⟩)) | refine Exists.intro _ (Exists.intro _ (And.intro rfl (And.intro rfl ?_))) | refine Exists.intro _ (And.intro (Le.rf _) ?_) | refine Exists.intro _ (And.intro rfl ?_)))
    refine And.intro h2 ?_
    (repeat (first | (refine Nx.mk ?_; (try (dsimp only [nr_none, nr_some, nr_nil, nf_leaf, nf_pin, nf_node, nf_nil, nf_cons, ni_f, ni_t, nw_nil, nw_cons, ns_0, ns_s]))) | (refine And.intro ?_ ?_; focus (first | exact rfl | exact frz_frz _ | exact frz_nf _ _ | exact (show frz _ = _ by assumption) | (show frz _ = _; simp only [nf_node, nf_cons, nf_nil, nf_leaf, frzL_frzL, intsT_frz]; done) | exact frz_ints _ _ | exact Nat.le_of_ble_eq_true rfl | exact (show (0 : Int) < _ by decide) | exact (show (0 : Int) ≤ _ by decide) | exact ⟨show (0 : Int) < _ by decide, show Nat.log2 _ < _ by decide⟩ | exact Or.inl (Or.inr ⟨show (_ : Int) < _ by decide, show (_ : Int) < _ by decide⟩) | exact Or.inl (Or.inl ⟨show (_ : Int) < _ by decide, show (_ : Int) < _ by decide⟩) | exact ⟨show (0 : Int) ≤ _ by decide, show (_ : Int) ≤ _ by decide, show Int.natAbs _ < _ by decide⟩)) | refine Exists.intro _ (Exists.intro _ (And.intro rfl (And.intro rfl ?_))) | refine Exists.intro _ (And.intro (Le.rf _) ?_) | refine Exists.intro _ (And.intro rfl ?_)))
    refine q _ _ (Int.emod_nonneg _ (by omega)) (Int.emod_lt_of_pos _ h2) ⟨a, c, d, o, cells, rfl, k1, k2, k3, k4, k5, k6⟩
theorem take_high {n : Int} {bag : T} {D : DEnds} (hb : IsBag bag) (hD : ∀ bag' g4 g5, IsBag bag' → D.nx [some bag', some (.leaf (.int n)), none, none, g4, g5, none]) : t__law_take_10 D [some bag, some (.leaf (.int n)), none, none, none, none, none] := by
  obtain ⟨a, c, d, o, cells, rfl, k1, k2, k3, k4, k5, k6⟩ := hb
  (repeat (first | (refine Nx.mk ?_; (try (dsimp only [nr_none, nr_some, nr_nil, nf_leaf, nf_pin, nf_node, nf_nil, nf_cons, ni_f, ni_t, nw_nil, nw_cons, ns_0, ns_s]))) | (refine And.intro ?_ ?_; focus (first | exact rfl | exact frz_frz _ | exact frz_nf _ _ | exact (show frz _ = _ by assumption) | (show frz _ = _; simp only [nf_node, nf_cons, nf_nil, nf_leaf, frzL_frzL, intsT_frz]; done) | exact frz_ints _ _ | exact Nat.le_of_ble_eq_true rfl | exact (show (0 : Int) < _ by decide) | exact (show (0 : Int) ≤ _ by decide) | exact ⟨show (0 : Int) < _ by decide, show Nat.log2 _ < _ by decide⟩ | exact Or.inl (Or.inr ⟨show (_ : Int) < _ by decide, show (_ : Int) < _ by decide⟩) | exact Or.inl (Or.inl ⟨show (_ : Int) < _ by decide, show (_ : Int) < _ by decide⟩) | exact ⟨show (0 : Int) ≤ _ by decide, show (_ : Int) ≤ _ by decide, show Int.natAbs _ < _ by decide⟩)) | refine Exists.intro _ (Exists.intro _ (And.intro rfl (And.intro rfl ?_))) | refine Exists.intro _ (And.intro (Le.rf _) ?_) | refine Exists.intro _ (And.intro rfl ?_)))
  refine ifB_dec (fun hb => ?_) (fun hb => ?_)
  · (repeat (first | (refine Nx.mk ?_; (try (dsimp only [nr_none, nr_some, nr_nil, nf_leaf, nf_pin, nf_node, nf_nil, nf_cons, ni_f, ni_t, nw_nil, nw_cons, ns_0, ns_s]))) | (refine And.intro ?_ ?_; focus (first | exact rfl | exact frz_frz _ | exact frz_nf _ _ | exact (show frz _ = _ by assumption) | (show frz _ = _; simp only [nf_node, nf_cons, nf_nil, nf_leaf, frzL_frzL, intsT_frz]; done) | exact frz_ints _ _ | exact Nat.le_of_ble_eq_true rfl | exact (show (0 : Int) < _ by decide) | exact (show (0 : Int) ≤ _ by decide) | exact ⟨show (0 : Int) < _ by decide, show Nat.log2 _ < _ by decide⟩ | exact Or.inl (Or.inr ⟨show (_ : Int) < _ by decide, show (_ : Int) < _ by decide⟩) | exact Or.inl (Or.inl ⟨show (_ : Int) < _ by decide, show (_ : Int) < _ by decide⟩) | exact ⟨show (0 : Int) ≤ _ by decide, show (_ : Int) ≤ _ by decide, show Int.natAbs _ < _ by decide⟩)) | refine Exists.intro _ (Exists.intro _ (And.intro rfl (And.intro rfl ?_))) | refine Exists.intro _ (And.intro (Le.rf _) ?_) | refine Exists.intro _ (And.intro rfl ?_)))
    refine And.intro ?_ ?_
    · have := cutA_length_le (frzL (frzL (intsT cells))) (some d) none
      rw [intsT_frz, intsT_frz] at this ⊢
      have e : (intsT cells).length = cells.length := by simp [intsT]
      show _ + 1 ≤ 16777216
      omega
    obtain ⟨x, hx, hm⟩ := at_first' cells (some d)
    have x0 : 0 ≤ x := hm.elim (fun z => by omega) fun z => k6 x z
    refine Exists.intro _ (And.intro hx ?_)
    (repeat (first | (refine Nx.mk ?_; (try (dsimp only [nr_none, nr_some, nr_nil, nf_leaf, nf_pin, nf_node, nf_nil, nf_cons, ni_f, ni_t, nw_nil, nw_cons, ns_0, ns_s]))) | (refine And.intro ?_ ?_; focus (first | exact rfl | exact frz_frz _ | exact frz_nf _ _ | exact (show frz _ = _ by assumption) | (show frz _ = _; simp only [nf_node, nf_cons, nf_nil, nf_leaf, frzL_frzL, intsT_frz]; done) | exact frz_ints _ _ | exact Nat.le_of_ble_eq_true rfl | exact (show (0 : Int) < _ by decide) | exact (show (0 : Int) ≤ _ by decide) | exact ⟨show (0 : Int) < _ by decide, show Nat.log2 _ < _ by decide⟩ | exact Or.inl (Or.inr ⟨show (_ : Int) < _ by decide, show (_ : Int) < _ by decide⟩) | exact Or.inl (Or.inl ⟨show (_ : Int) < _ by decide, show (_ : Int) < _ by decide⟩) | exact ⟨show (0 : Int) ≤ _ by decide, show (_ : Int) ≤ _ by decide, show Int.natAbs _ < _ by decide⟩)) | refine Exists.intro _ (Exists.intro _ (And.intro rfl (And.intro rfl ?_))) | refine Exists.intro _ (And.intro (Le.rf _) ?_) | refine Exists.intro _ (And.intro rfl ?_)))
    refine And.intro (.inl (.inr ?_)) ?_
    · split <;> exact ⟨by decide, by decide⟩
    (repeat (first | (refine Nx.mk ?_; (try (dsimp only [nr_none, nr_some, nr_nil, nf_leaf, nf_pin, nf_node, nf_nil, nf_cons, ni_f, ni_t, nw_nil, nw_cons, ns_0, ns_s]))) | (refine And.intro ?_ ?_; focus (first | exact rfl | exact frz_frz _ | exact frz_nf _ _ | exact (show frz _ = _ by assumption) | (show frz _ = _; simp only [nf_node, nf_cons, nf_nil, nf_leaf, frzL_frzL, intsT_frz]; done) | exact frz_ints _ _ | exact Nat.le_of_ble_eq_true rfl | exact (show (0 : Int) < _ by decide) | exact (show (0 : Int) ≤ _ by decide) | exact ⟨show (0 : Int) < _ by decide, show Nat.log2 _ < _ by decide⟩ | exact Or.inl (Or.inr ⟨show (_ : Int) < _ by decide, show (_ : Int) < _ by decide⟩) | exact Or.inl (Or.inl ⟨show (_ : Int) < _ by decide, show (_ : Int) < _ by decide⟩) | exact ⟨show (0 : Int) ≤ _ by decide, show (_ : Int) ≤ _ by decide, show Int.natAbs _ < _ by decide⟩)) | refine Exists.intro _ (Exists.intro _ (And.intro rfl (And.intro rfl ?_))) | refine Exists.intro _ (And.intro (Le.rf _) ?_) | refine Exists.intro _ (And.intro rfl ?_)))
    refine hD (.node true .lst [.leaf (.int (x * (if decide ((1000000000000000000 : Int) ≤ x) = true then 1 else 0))), .leaf (.int _), .leaf (.int (d + 1)), .node false .lst (frzL (intsT cells))]) _ _ ⟨_, _, _, _, cells, by rw [intsT_frz], ?_, Int.emod_nonneg _ (by decide), Int.emod_lt_of_pos _ (by decide), ?_, k5, k6⟩
    · split
      · exact Int.mul_nonneg x0 (by decide)
      · exact Int.mul_nonneg x0 (by decide)
    · omega
  · (repeat (first | (refine Nx.mk ?_; (try (dsimp only [nr_none, nr_some, nr_nil, nf_leaf, nf_pin, nf_node, nf_nil, nf_cons, ni_f, ni_t, nw_nil, nw_cons, ns_0, ns_s]))) | (refine And.intro ?_ ?_; focus (first | exact rfl | exact frz_frz _ | exact frz_nf _ _ | exact (show frz _ = _ by assumption) | (show frz _ = _; simp only [nf_node, nf_cons, nf_nil, nf_leaf, frzL_frzL, intsT_frz]; done) | exact frz_ints _ _ | exact Nat.le_of_ble_eq_true rfl | exact (show (0 : Int) < _ by decide) | exact (show (0 : Int) ≤ _ by decide) | exact ⟨show (0 : Int) < _ by decide, show Nat.log2 _ < _ by decide⟩ | exact Or.inl (Or.inr ⟨show (_ : Int) < _ by decide, show (_ : Int) < _ by decide⟩) | exact Or.inl (Or.inl ⟨show (_ : Int) < _ by decide, show (_ : Int) < _ by decide⟩) | exact ⟨show (0 : Int) ≤ _ by decide, show (_ : Int) ≤ _ by decide, show Int.natAbs _ < _ by decide⟩)) | refine Exists.intro _ (Exists.intro _ (And.intro rfl (And.intro rfl ?_))) | refine Exists.intro _ (And.intro (Le.rf _) ?_) | refine Exists.intro _ (And.intro rfl ?_)))
    exact hD _ none none ⟨a, c, d, o, cells, rfl, k1, k2, k3, k4, k5, k6⟩
theorem rd__law_take {ts : List T} {Q : T → List T → Prop} {E : Value → List (Str × V) → List T → Prop} (h : sp__law_take ts Q E) : t__law_take (bodyEnds [true, false] Q E) (startE 7 (frzP [true, false] ts)) := by
  obtain ⟨b, n, rfl, hb, h2, h3, q⟩ := h
  exact take_high (D := seqE t__law_take_11 (bodyEnds [true, false] Q E)) hb fun bag' g4 g5 hb' => ⟨take_low hb' h2 h3 q⟩
theorem rd__law_alike {ts : List T} {Q : T → List T → Prop} {E : Value → List (Str × V) → List T → Prop} (h : sp__law_alike ts Q E) : t__law_alike (bodyEnds [false, false] Q E) (startE 2 (frzP [false, false] ts)) := by
  obtain ⟨a, b, d, rfl, ha, hb, hd, q⟩ := h
  (try simp only [np_t, np_f, np_n, ne_c, ne_n, ne_0, nf_leaf, nf_pin, nf_node])
  (repeat (first | (refine Nx.mk ?_; (try (dsimp only [nr_none, nr_some, nr_nil, nf_leaf, nf_pin, nf_node, nf_nil, nf_cons, ni_f, ni_t, nw_nil, nw_cons, ns_0, ns_s]))) | (refine And.intro ?_ ?_; focus (first | exact rfl | exact frz_frz _ | exact frz_nf _ _ | exact (show frz _ = _ by assumption) | (show frz _ = _; simp only [nf_node, nf_cons, nf_nil, nf_leaf, frzL_frzL, intsT_frz]; done) | exact frz_ints _ _ | exact Nat.le_of_ble_eq_true rfl | exact (show (0 : Int) < _ by decide) | exact (show (0 : Int) ≤ _ by decide) | exact ⟨show (0 : Int) < _ by decide, show Nat.log2 _ < _ by decide⟩ | exact Or.inl (Or.inr ⟨show (_ : Int) < _ by decide, show (_ : Int) < _ by decide⟩) | exact Or.inl (Or.inl ⟨show (_ : Int) < _ by decide, show (_ : Int) < _ by decide⟩) | exact ⟨show (0 : Int) ≤ _ by decide, show (_ : Int) ≤ _ by decide, show Int.natAbs _ < _ by decide⟩)) | refine Exists.intro _ (Exists.intro _ (And.intro rfl (And.intro rfl ?_))) | refine Exists.intro _ (And.intro (Le.rf _) ?_) | refine Exists.intro _ (And.intro rfl ?_)))
  refine rtEq_same (d := d) (by rw [toP_frz]; exact ha) (by rw [toP_frz]; exact hb) hd ?_
  (repeat (first | (refine Nx.mk ?_; (try (dsimp only [nr_none, nr_some, nr_nil, nf_leaf, nf_pin, nf_node, nf_nil, nf_cons, ni_f, ni_t, nw_nil, nw_cons, ns_0, ns_s]))) | (refine And.intro ?_ ?_; focus (first | exact rfl | exact frz_frz _ | exact frz_nf _ _ | exact (show frz _ = _ by assumption) | (show frz _ = _; simp only [nf_node, nf_cons, nf_nil, nf_leaf, frzL_frzL, intsT_frz]; done) | exact frz_ints _ _ | exact Nat.le_of_ble_eq_true rfl | exact (show (0 : Int) < _ by decide) | exact (show (0 : Int) ≤ _ by decide) | exact ⟨show (0 : Int) < _ by decide, show Nat.log2 _ < _ by decide⟩ | exact Or.inl (Or.inr ⟨show (_ : Int) < _ by decide, show (_ : Int) < _ by decide⟩) | exact Or.inl (Or.inl ⟨show (_ : Int) < _ by decide, show (_ : Int) < _ by decide⟩) | exact ⟨show (0 : Int) ≤ _ by decide, show (_ : Int) ≤ _ by decide, show Int.natAbs _ < _ by decide⟩)) | refine Exists.intro _ (Exists.intro _ (And.intro rfl (And.intro rfl ?_))) | refine Exists.intro _ (And.intro (Le.rf _) ?_) | refine Exists.intro _ (And.intro rfl ?_)))
  refine ⟨_, ReprS.of (by rw [toP_frz]; exact ha) hd, ?_⟩
  (repeat (first | (refine Nx.mk ?_; (try (dsimp only [nr_none, nr_some, nr_nil, nf_leaf, nf_pin, nf_node, nf_nil, nf_cons, ni_f, ni_t, nw_nil, nw_cons, ns_0, ns_s]))) | (refine And.intro ?_ ?_; focus (first | exact rfl | exact frz_frz _ | exact frz_nf _ _ | exact (show frz _ = _ by assumption) | (show frz _ = _; simp only [nf_node, nf_cons, nf_nil, nf_leaf, frzL_frzL, intsT_frz]; done) | exact frz_ints _ _ | exact Nat.le_of_ble_eq_true rfl | exact (show (0 : Int) < _ by decide) | exact (show (0 : Int) ≤ _ by decide) | exact ⟨show (0 : Int) < _ by decide, show Nat.log2 _ < _ by decide⟩ | exact Or.inl (Or.inr ⟨show (_ : Int) < _ by decide, show (_ : Int) < _ by decide⟩) | exact Or.inl (Or.inl ⟨show (_ : Int) < _ by decide, show (_ : Int) < _ by decide⟩) | exact ⟨show (0 : Int) ≤ _ by decide, show (_ : Int) ≤ _ by decide, show Int.natAbs _ < _ by decide⟩)) | refine Exists.intro _ (Exists.intro _ (And.intro rfl (And.intro rfl ?_))) | refine Exists.intro _ (And.intro (Le.rf _) ?_) | refine Exists.intro _ (And.intro rfl ?_)))
  refine ⟨_, ReprS.of (by rw [toP_frz]; exact hb) hd, ?_⟩
  show Q (.leaf (.bl (decide (d.shown = d.shown)))) []
  rw [decide_eq_true rfl]
  exact q
theorem rd__law_one {ts : List T} {Q : T → List T → Prop} {E : Value → List (Str × V) → List T → Prop} (h : sp__law_one ts Q E) : t__law_one (bodyEnds [true, false] Q E) (startE 2 (frzP [true, false] ts)) := by
  obtain ⟨b, o, its, rfl, hb, h2, h3, q⟩ := h
  have hpos : 0 < its.length := by
    cases its with
    | nil => exact absurd rfl h2
    | cons => simp
  (try simp only [np_t, np_f, np_n, ne_c, ne_n, ne_0, nf_leaf, nf_pin, nf_node])
  (repeat (first | (refine Nx.mk ?_; (try (dsimp only [nr_none, nr_some, nr_nil, nf_leaf, nf_pin, nf_node, nf_nil, nf_cons, ni_f, ni_t, nw_nil, nw_cons, ns_0, ns_s]))) | (refine And.intro ?_ ?_; focus (first | exact rfl | exact frz_frz _ | exact frz_nf _ _ | exact (show frz _ = _ by assumption) | (show frz _ = _; simp only [nf_node, nf_cons, nf_nil, nf_leaf, frzL_frzL, intsT_frz]; done) | exact frz_ints _ _ | exact Nat.le_of_ble_eq_true rfl | exact (show (0 : Int) < _ by decide) | exact (show (0 : Int) ≤ _ by decide) | exact ⟨show (0 : Int) < _ by decide, show Nat.log2 _ < _ by decide⟩ | exact Or.inl (Or.inr ⟨show (_ : Int) < _ by decide, show (_ : Int) < _ by decide⟩) | exact Or.inl (Or.inl ⟨show (_ : Int) < _ by decide, show (_ : Int) < _ by decide⟩) | exact ⟨show (0 : Int) ≤ _ by decide, show (_ : Int) ≤ _ by decide, show Int.natAbs _ < _ by decide⟩)) | refine Exists.intro _ (Exists.intro _ (And.intro rfl (And.intro rfl ?_))) | refine Exists.intro _ (And.intro (Le.rf _) ?_) | refine Exists.intro _ (And.intro rfl ?_)))
  have e : (frzL its).length = its.length := by rw [frzL_map, List.length_map]
  refine ⟨b, ((frzL its).length : Int), rfl, hb, by omega, by omega, fun r bag' r0 r1 hb' => ?_⟩
  (repeat (first | (refine Nx.mk ?_; (try (dsimp only [nr_none, nr_some, nr_nil, nf_leaf, nf_pin, nf_node, nf_nil, nf_cons, ni_f, ni_t, nw_nil, nw_cons, ns_0, ns_s]))) | (refine And.intro ?_ ?_; focus (first | exact rfl | exact frz_frz _ | exact frz_nf _ _ | exact (show frz _ = _ by assumption) | (show frz _ = _; simp only [nf_node, nf_cons, nf_nil, nf_leaf, frzL_frzL, intsT_frz]; done) | exact frz_ints _ _ | exact Nat.le_of_ble_eq_true rfl | exact (show (0 : Int) < _ by decide) | exact (show (0 : Int) ≤ _ by decide) | exact ⟨show (0 : Int) < _ by decide, show Nat.log2 _ < _ by decide⟩ | exact Or.inl (Or.inr ⟨show (_ : Int) < _ by decide, show (_ : Int) < _ by decide⟩) | exact Or.inl (Or.inl ⟨show (_ : Int) < _ by decide, show (_ : Int) < _ by decide⟩) | exact ⟨show (0 : Int) ≤ _ by decide, show (_ : Int) ≤ _ by decide, show Int.natAbs _ < _ by decide⟩)) | refine Exists.intro _ (Exists.intro _ (And.intro rfl (And.intro rfl ?_))) | refine Exists.intro _ (And.intro (Le.rf _) ?_) | refine Exists.intro _ (And.intro rfl ?_)))
  obtain ⟨k, rfl⟩ := Int.eq_ofNat_of_zero_le r0
  have hk : k < (frzL its).length := by omega
  have hk2 : k < its.length := by omega
  have ha : atI (frzL its) (k : Int) = some (frz its[k]) := by
    unfold atI
    rw [ixN_nat, if_pos hk]
    show (frzL its)[k]? = _
    simp only [frzL_map, List.getElem?_map, List.getElem?_eq_getElem hk2]
    rfl
  refine Exists.intro _ (And.intro ha ?_)
  have := q its[k] bag' (List.getElem_mem hk2) hb'
  rw [← frz_frz] at this
  exact this
theorem nat_and_pow (n k : Nat) : n &&& 2 ^ k = n / 2 ^ k % 2 * 2 ^ k := by
  apply Nat.eq_of_testBit_eq
  intro i
  rw [Nat.testBit_and, Nat.testBit_two_pow]
  have h2 : n / 2 ^ k % 2 = 0 ∨ n / 2 ^ k % 2 = 1 := by omega
  have ht : n.testBit k = decide (n / 2 ^ k % 2 = 1) := Nat.testBit_eq_decide_div_mod_eq
  rcases h2 with h2 | h2
  · rw [h2, Nat.zero_mul, Nat.zero_testBit]
    by_cases e : k = i
    · subst e
      rw [ht, h2]
      simp
    · simp [e]
  · rw [h2, Nat.one_mul, Nat.testBit_two_pow]
    by_cases e : k = i
    · subst e
      rw [ht, h2]
      simp
    · simp [e]
theorem bitAnd_pow {m : Int} (hm : 0 ≤ m) (k : Nat) : Builtin.bitAnd m (2 ^ k) = m / 2 ^ k % 2 * 2 ^ k := by
  obtain ⟨n, rfl⟩ := Int.eq_ofNat_of_zero_le hm
  rw [PyProof.Rows.two_pow_cast, PyProof.Rows.bitAnd_pp (Int.natCast_nonneg _) (Int.natCast_nonneg _), Int.toNat_natCast, Int.toNat_natCast, nat_and_pow]
  simp
theorem rangeT_get {lo : Int} {n i : Nat} {t : T} (h : (rangeT lo n)[i]? = some t) : i < n ∧ t = .leaf (.int (lo + i)) := by
  unfold rangeT at h
  rw [List.getElem?_map] at h
  by_cases hi : i < n
  · rw [List.getElem?_range hi] at h
    cases h
    exact ⟨hi, rfl⟩
  · rw [List.getElem?_eq_none (by simpa using hi)] at h
    cases h
theorem rangeT_len (lo : Int) (n : Nat) : (rangeT lo n).length = n := by simp [rangeT]
theorem bit_nat (n k : Nat) : bit (n : Int) k ↔ n.testBit k = true := by
  rw [Nat.testBit_eq_decide_div_mod_eq, decide_eq_true_eq]
  unfold bit
  rw [PyProof.Rows.two_pow_cast]
  omega
theorem maskN_lt (p : Nat → Bool) : ∀ n, maskN p n < 2 ^ n
  | 0 => by simp [maskN]
  | n + 1 => by
    have := maskN_lt p n
    unfold maskN
    rw [Nat.pow_succ]
    split <;> omega
theorem maskN_bit (p : Nat → Bool) : ∀ n k, (maskN p n).testBit k = (decide (k < n) && p k)
  | 0, k => by simp [maskN]
  | n + 1, k => by
    have ih := maskN_bit p n k
    have hl := maskN_lt p n
    unfold maskN
    by_cases hk : k = n
    · subst hk
      have e0 : (maskN p k).testBit k = false := Nat.testBit_lt_two_pow hl
      split
      · rename_i h
        rw [Nat.testBit_two_pow_add_eq, e0, h]
        simp
      · rename_i h
        rw [e0]
        simp [h]
    · split
      · rename_i h
        by_cases hlt : k < n
        · rw [Nat.testBit_two_pow_add_gt hlt, ih]
          simp [hlt, Nat.lt_succ_of_lt hlt]
        · have h1 : 2 ^ n + maskN p n < 2 ^ k := by
            have : 2 ^ (n + 1) ≤ 2 ^ k := Nat.pow_le_pow_right (by decide) (by omega)
            rw [Nat.pow_succ] at this
            omega
          rw [Nat.testBit_lt_two_pow h1]
          have : ¬ k < n + 1 := by omega
          simp [this]
      · rw [ih]
        by_cases hlt : k < n
        · simp [hlt, Nat.lt_succ_of_lt hlt]
        · have : ¬ k < n + 1 := by omega
          simp [hlt, this]
theorem maskN_sum (p : Nat → Bool) : ∀ n, ((List.range n).filterMap fun k => if p k then some ((2 : Int) ^ k) else none).sum = (maskN p n : Int)
  | 0 => by simp [maskN]
  | n + 1 => by
    rw [List.range_succ, List.filterMap_append, List.sum_append, maskN_sum p n]
    show _ = ((if p n then 2 ^ n + maskN p n else maskN p n : Nat) : Int)
    by_cases h : p n = true
    · rw [if_pos h, Int.natCast_add, ← PyProof.Rows.two_pow_cast, Int.add_comm]
      congr 1
      simp only [List.filterMap_cons, List.filterMap_nil, if_pos h, List.sum_cons, List.sum_nil, Int.add_zero]
    · rw [if_neg h]
      simp only [List.filterMap_cons, List.filterMap_nil, if_neg h, List.sum_nil, Int.add_zero]
theorem rd_holds {ts : List T} {Q : T → List T → Prop} {E : Value → List (Str × V) → List T → Prop} (h : sp_holds ts Q E) : t_holds (bodyEnds [false, false] Q E) (startE 2 (frzP [false, false] ts)) := by
  obtain ⟨m, k, rfl, h1, h2, q⟩ := h
  (try simp only [np_t, np_f, np_n, ne_c, ne_n, ne_0, nf_leaf, nf_pin, nf_node])
  (repeat (first | (refine Nx.mk ?_; (try (dsimp only [nr_none, nr_some, nr_nil, nf_leaf, nf_pin, nf_node, nf_nil, nf_cons, ni_f, ni_t, nw_nil, nw_cons, ns_0, ns_s]))) | (refine And.intro ?_ ?_; focus (first | exact rfl | exact frz_frz _ | exact frz_nf _ _ | exact (show frz _ = _ by assumption) | (show frz _ = _; simp only [nf_node, nf_cons, nf_nil, nf_leaf, frzL_frzL, intsT_frz]; done) | exact frz_ints _ _ | exact Nat.le_of_ble_eq_true rfl | exact (show (0 : Int) < _ by decide) | exact (show (0 : Int) ≤ _ by decide) | exact ⟨show (0 : Int) < _ by decide, show Nat.log2 _ < _ by decide⟩ | exact Or.inl (Or.inr ⟨show (_ : Int) < _ by decide, show (_ : Int) < _ by decide⟩) | exact Or.inl (Or.inl ⟨show (_ : Int) < _ by decide, show (_ : Int) < _ by decide⟩) | exact ⟨show (0 : Int) ≤ _ by decide, show (_ : Int) ≤ _ by decide, show Int.natAbs _ < _ by decide⟩)) | refine Exists.intro _ (Exists.intro _ (And.intro rfl (And.intro rfl ?_))) | refine Exists.intro _ (And.intro (Le.rf _) ?_) | refine Exists.intro _ (And.intro rfl ?_)))
  refine And.intro (Int.natCast_nonneg k) ?_
  (repeat (first | (refine Nx.mk ?_; (try (dsimp only [nr_none, nr_some, nr_nil, nf_leaf, nf_pin, nf_node, nf_nil, nf_cons, ni_f, ni_t, nw_nil, nw_cons, ns_0, ns_s]))) | (refine And.intro ?_ ?_; focus (first | exact rfl | exact frz_frz _ | exact frz_nf _ _ | exact (show frz _ = _ by assumption) | (show frz _ = _; simp only [nf_node, nf_cons, nf_nil, nf_leaf, frzL_frzL, intsT_frz]; done) | exact frz_ints _ _ | exact Nat.le_of_ble_eq_true rfl | exact (show (0 : Int) < _ by decide) | exact (show (0 : Int) ≤ _ by decide) | exact ⟨show (0 : Int) < _ by decide, show Nat.log2 _ < _ by decide⟩ | exact Or.inl (Or.inr ⟨show (_ : Int) < _ by decide, show (_ : Int) < _ by decide⟩) | exact Or.inl (Or.inl ⟨show (_ : Int) < _ by decide, show (_ : Int) < _ by decide⟩) | exact ⟨show (0 : Int) ≤ _ by decide, show (_ : Int) ≤ _ by decide, show Int.natAbs _ < _ by decide⟩)) | refine Exists.intro _ (Exists.intro _ (And.intro rfl (And.intro rfl ?_))) | refine Exists.intro _ (And.intro (Le.rf _) ?_) | refine Exists.intro _ (And.intro rfl ?_)))
  show Q (.leaf (.bl (decide (Builtin.bitAnd (m / 2 ^ (k : Int).toNat) 1 = 1)))) []
  rw [Int.toNat_natCast, PyProof.Rows.bitAnd_m1]
  exact q
theorem rd__law_bit {ts : List T} {Q : T → List T → Prop} {E : Value → List (Str × V) → List T → Prop} (h : sp__law_bit ts Q E) : t__law_bit (bodyEnds [false] Q E) (startE 1 (frzP [false] ts)) := by
  obtain ⟨k, rfl, h1, q⟩ := h
  (try simp only [np_t, np_f, np_n, ne_c, ne_n, ne_0, nf_leaf, nf_pin, nf_node])
  (repeat (first | (refine Nx.mk ?_; (try (dsimp only [nr_none, nr_some, nr_nil, nf_leaf, nf_pin, nf_node, nf_nil, nf_cons, ni_f, ni_t, nw_nil, nw_cons, ns_0, ns_s]))) | (refine And.intro ?_ ?_; focus (first | exact rfl | exact frz_frz _ | exact frz_nf _ _ | exact (show frz _ = _ by assumption) | (show frz _ = _; simp only [nf_node, nf_cons, nf_nil, nf_leaf, frzL_frzL, intsT_frz]; done) | exact frz_ints _ _ | exact Nat.le_of_ble_eq_true rfl | exact (show (0 : Int) < _ by decide) | exact (show (0 : Int) ≤ _ by decide) | exact ⟨show (0 : Int) < _ by decide, show Nat.log2 _ < _ by decide⟩ | exact Or.inl (Or.inr ⟨show (_ : Int) < _ by decide, show (_ : Int) < _ by decide⟩) | exact Or.inl (Or.inl ⟨show (_ : Int) < _ by decide, show (_ : Int) < _ by decide⟩) | exact ⟨show (0 : Int) ≤ _ by decide, show (_ : Int) ≤ _ by decide, show Int.natAbs _ < _ by decide⟩)) | refine Exists.intro _ (Exists.intro _ (And.intro rfl (And.intro rfl ?_))) | refine Exists.intro _ (And.intro (Le.rf _) ?_) | refine Exists.intro _ (And.intro rfl ?_)))
  have : k = 0 ∨ k = 1 ∨ k = 2 ∨ k = 3 ∨ k = 4 ∨ k = 5 ∨ k = 6 ∨ k = 7 ∨ k = 8 ∨ k = 9 ∨ k = 10 ∨ k = 11 := by omega
  rcases this with rfl | rfl | rfl | rfl | rfl | rfl | rfl | rfl | rfl | rfl | rfl | rfl <;> exact Exists.intro _ (And.intro rfl q)
theorem rd_is_whole {ts : List T} {Q : T → List T → Prop} {E : Value → List (Str × V) → List T → Prop} (h : sp_is_whole ts Q E) : t_is_whole (bodyEnds [false] Q E) (startE 1 (frzP [false] ts)) := by
  obtain ⟨τ, b, rfl, h, q⟩ := h
  unfold wholeQ at h
  cases e : tyT (frz τ) with
  | none => rw [e] at h; cases h
  | some ty =>
    rw [e] at h
    cases h
    have q' : Q (.leaf (.bl (ty.isa .int && !ty.isa .bl))) [] := q
    (try simp only [np_t, np_f, np_n, ne_c, ne_n, ne_0, nf_leaf, nf_pin, nf_node])
    (repeat (first | (refine Nx.mk ?_; (try (dsimp only [nr_none, nr_some, nr_nil, nf_leaf, nf_pin, nf_node, nf_nil, nf_cons, ni_f, ni_t, nw_nil, nw_cons, ns_0, ns_s]))) | (refine And.intro ?_ ?_; focus (first | exact rfl | exact frz_frz _ | exact frz_nf _ _ | exact (show frz _ = _ by assumption) | (show frz _ = _; simp only [nf_node, nf_cons, nf_nil, nf_leaf, frzL_frzL, intsT_frz]; done) | exact frz_ints _ _ | exact Nat.le_of_ble_eq_true rfl | exact (show (0 : Int) < _ by decide) | exact (show (0 : Int) ≤ _ by decide) | exact ⟨show (0 : Int) < _ by decide, show Nat.log2 _ < _ by decide⟩ | exact Or.inl (Or.inr ⟨show (_ : Int) < _ by decide, show (_ : Int) < _ by decide⟩) | exact Or.inl (Or.inl ⟨show (_ : Int) < _ by decide, show (_ : Int) < _ by decide⟩) | exact ⟨show (0 : Int) ≤ _ by decide, show (_ : Int) ≤ _ by decide, show Int.natAbs _ < _ by decide⟩)) | refine Exists.intro _ (Exists.intro _ (And.intro rfl (And.intro rfl ?_))) | refine Exists.intro _ (And.intro (Le.rf _) ?_) | refine Exists.intro _ (And.intro rfl ?_)))
    unfold tyQ
    rw [e]
    (conv => whnf)
    cases hi : ty.isa .int with
    | false =>
      rw [hi] at q'
      exact q'
    | true =>
      rw [hi] at q'
      (repeat (first | (refine Nx.mk ?_; (try (dsimp only [nr_none, nr_some, nr_nil, nf_leaf, nf_pin, nf_node, nf_nil, nf_cons, ni_f, ni_t, nw_nil, nw_cons, ns_0, ns_s]))) | (refine And.intro ?_ ?_; focus (first | exact rfl | exact frz_frz _ | exact frz_nf _ _ | exact (show frz _ = _ by assumption) | (show frz _ = _; simp only [nf_node, nf_cons, nf_nil, nf_leaf, frzL_frzL, intsT_frz]; done) | exact frz_ints _ _ | exact Nat.le_of_ble_eq_true rfl | exact (show (0 : Int) < _ by decide) | exact (show (0 : Int) ≤ _ by decide) | exact ⟨show (0 : Int) < _ by decide, show Nat.log2 _ < _ by decide⟩ | exact Or.inl (Or.inr ⟨show (_ : Int) < _ by decide, show (_ : Int) < _ by decide⟩) | exact Or.inl (Or.inl ⟨show (_ : Int) < _ by decide, show (_ : Int) < _ by decide⟩) | exact ⟨show (0 : Int) ≤ _ by decide, show (_ : Int) ≤ _ by decide, show Int.natAbs _ < _ by decide⟩)) | refine Exists.intro _ (Exists.intro _ (And.intro rfl (And.intro rfl ?_))) | refine Exists.intro _ (And.intro (Le.rf _) ?_) | refine Exists.intro _ (And.intro rfl ?_)))
      unfold tyQ
      rw [e]
      exact q'
theorem rd_with_one {ts : List T} {Q : T → List T → Prop} {E : Value → List (Str × V) → List T → Prop} (h : sp_with_one ts Q E) : t_with_one (bodyEnds [false, false] Q E) (startE 2 (frzP [false, false] ts)) := by
  obtain ⟨m, k, rfl, h1, h2, q⟩ := h
  (try simp only [np_t, np_f, np_n, ne_c, ne_n, ne_0, nf_leaf, nf_pin, nf_node])
  (repeat (first | (refine Nx.mk ?_; (try (dsimp only [nr_none, nr_some, nr_nil, nf_leaf, nf_pin, nf_node, nf_nil, nf_cons, ni_f, ni_t, nw_nil, nw_cons, ns_0, ns_s]))) | (refine And.intro ?_ ?_; focus (first | exact rfl | exact frz_frz _ | exact frz_nf _ _ | exact (show frz _ = _ by assumption) | (show frz _ = _; simp only [nf_node, nf_cons, nf_nil, nf_leaf, frzL_frzL, intsT_frz]; done) | exact frz_ints _ _ | exact Nat.le_of_ble_eq_true rfl | exact (show (0 : Int) < _ by decide) | exact (show (0 : Int) ≤ _ by decide) | exact ⟨show (0 : Int) < _ by decide, show Nat.log2 _ < _ by decide⟩ | exact Or.inl (Or.inr ⟨show (_ : Int) < _ by decide, show (_ : Int) < _ by decide⟩) | exact Or.inl (Or.inl ⟨show (_ : Int) < _ by decide, show (_ : Int) < _ by decide⟩) | exact ⟨show (0 : Int) ≤ _ by decide, show (_ : Int) ≤ _ by decide, show Int.natAbs _ < _ by decide⟩)) | refine Exists.intro _ (Exists.intro _ (And.intro rfl (And.intro rfl ?_))) | refine Exists.intro _ (And.intro (Le.rf _) ?_) | refine Exists.intro _ (And.intro rfl ?_)))
  refine And.intro ⟨Int.natCast_nonneg k, by omega, by decide⟩ ?_
  show Q (.leaf (.int (Builtin.bitOr m (1 * 2 ^ (k : Int).toNat)))) []
  have e : Builtin.bitOr m (1 * 2 ^ (k : Int).toNat) = if bit m k then m else m + 2 ^ k := by
    rw [Int.toNat_natCast, Int.one_mul, PyProof.Rows.bitOr_and, bitAnd_pow h1]
    by_cases z : m / 2 ^ k % 2 = 1
    · rw [if_pos (show bit m k from z), z]
      omega
    · rw [if_neg (show ¬ bit m k from z)]
      have : m / 2 ^ k % 2 = 0 := by omega
      rw [this]
      omega
  rw [e]
  exact q
theorem ints_get {ss : List Int} {i : Nat} {u : T} (h : (intsT ss)[i]? = some u) : ∃ m, ss[i]? = some m ∧ u = .leaf (.int m) := by
  rw [List.getElem?_map] at h
  cases e : ss[i]? with
  | none => rw [e] at h; cases h
  | some m =>
    rw [e] at h
    cases h
    exact ⟨m, rfl, rfl⟩
theorem sd_map {rs : List Int} {f : Int → Int} (hf : ∀ x ∈ rs, ∀ y ∈ rs, x < y → f x < f y) : sd (rs.map f) = (sd rs).map f := by
  refine pw_uniq (sd_pw _) ?_ fun k => ?_
  · rw [List.pairwise_map]
    exact (sd_pw rs).imp_of_mem fun ha hb h => hf _ (sd_mem.mp ha) _ (sd_mem.mp hb) h
  · rw [sd_mem, List.mem_map, List.mem_map]
    exact ⟨fun ⟨a, ha, e⟩ => ⟨a, sd_mem.mpr ha, e⟩, fun ⟨a, ha, e⟩ => ⟨a, sd_mem.mp ha, e⟩⟩
theorem inj_of {rs : List Int} {f : Int → Int} (hf : ∀ x ∈ rs, ∀ y ∈ rs, x < y → f x < f y) {x y : Int} (hx : x ∈ rs) (hy : y ∈ rs) (e : f x = f y) : x = y := by
  rcases Int.lt_trichotomy x y with h | h | h
  · have := hf x hx y hy h
    omega
  · exact h
  · have := hf y hy x hx h
    omega
theorem mask_map {rs : List Int} {f : Int → Int} (hf : ∀ x ∈ rs, ∀ y ∈ rs, x < y → f x < f y) {r : Int} (hr : r ∈ rs) : maskR (rs.map f) (f r) = maskR rs r := by
  unfold maskR
  congr 1
  apply Nat.eq_of_testBit_eq
  intro k
  rw [maskN_bit, maskN_bit]
  congr 1
  rw [decide_eq_decide, List.getElem?_map]
  cases e : rs[k]? with
  | none => simp
  | some x =>
    simp only [Option.map_some, Option.some.injEq]
    exact ⟨fun h => inj_of hf (List.mem_of_getElem? e) hr h, fun h => by rw [h]⟩
theorem tiers_map {rs : List Int} {f : Int → Int} (hf : ∀ x ∈ rs, ∀ y ∈ rs, x < y → f x < f y) (h0 : ∀ x ∈ rs, (0 < f x ↔ 0 < x)) : tiersR (rs.map f) = tiersR rs := by
  unfold tiersR
  rw [sd_map hf, List.filter_map, List.map_map]
  have e : (sd rs).filter ((fun r => decide (0 < r)) ∘ f) = (sd rs).filter (fun r => decide (0 < r)) := by
    refine List.filter_congr fun x hx => ?_
    show decide (0 < f x) = decide (0 < x)
    exact decide_eq_decide.mpr (h0 x (sd_mem.mp hx))
  rw [e]
  refine List.map_congr_left fun x hx => ?_
  exact mask_map hf (sd_mem.mp (List.mem_filter.mp hx).1)
def gapless (rs : List Int) (r : Int) : Int := (((sd rs).filter (fun p => decide (0 < p))).filter (fun p => decide (p ≤ r))).length
theorem filter_lt {l : List Int} {x y : Int} (hy : y ∈ l) (h : x < y) : (l.filter (fun p => decide (p ≤ x))).length < (l.filter (fun p => decide (p ≤ y))).length := by
  induction l with
  | nil => cases hy
  | cons a l ih =>
    have mono : ∀ l : List Int, (l.filter (fun p => decide (p ≤ x))).length ≤ (l.filter (fun p => decide (p ≤ y))).length := fun l => by
      induction l with
      | nil => simp
      | cons b l ih2 =>
        rw [List.filter_cons, List.filter_cons]
        by_cases h1 : b ≤ x
        · rw [if_pos (decide_eq_true h1), if_pos (decide_eq_true (by omega : b ≤ y)), List.length_cons, List.length_cons]
          omega
        · rw [if_neg (by simpa using h1)]
          split
          · rw [List.length_cons]
            omega
          · exact ih2
    rw [List.filter_cons, List.filter_cons]
    rcases List.mem_cons.mp hy with rfl | hy
    · rw [if_neg (by simpa using h), if_pos (decide_eq_true (Int.le_refl _)), List.length_cons]
      have := mono l
      omega
    · have := ih hy
      by_cases h1 : a ≤ x
      · rw [if_pos (decide_eq_true h1), if_pos (decide_eq_true (by omega : a ≤ y)), List.length_cons, List.length_cons]
        omega
      · rw [if_neg (by simpa using h1)]
        split
        · rw [List.length_cons]
          omega
        · exact this
theorem gapless_mono {rs : List Int} (h0 : ∀ x ∈ rs, 0 ≤ x) : ∀ x ∈ rs, ∀ y ∈ rs, x < y → gapless rs x < gapless rs y := fun x hx y hy h => by
  have hyp : y ∈ (sd rs).filter (fun p => decide (0 < p)) := List.mem_filter.mpr ⟨sd_mem.mpr hy, by have := h0 x hx; simp; omega⟩
  have := filter_lt hyp h
  unfold gapless
  omega
theorem gapless_pos {rs : List Int} (h0 : ∀ x ∈ rs, 0 ≤ x) : ∀ x ∈ rs, (0 < gapless rs x ↔ 0 < x) := fun x hx => by
  constructor
  · intro h
    refine Decidable.byContradiction fun hn => ?_
    have hz : x = 0 := by
      have := h0 x hx
      omega
    have e : ((sd rs).filter (fun p => decide (0 < p))).filter (fun p => decide (p ≤ x)) = [] := by
      rw [List.filter_eq_nil_iff]
      intro a ha
      have := (List.mem_filter.mp ha).2
      simp at this
      simp
      omega
    unfold gapless at h
    rw [e] at h
    simp at h
  · intro h
    have hyp : x ∈ ((sd rs).filter (fun p => decide (0 < p))).filter (fun p => decide (p ≤ x)) := List.mem_filter.mpr ⟨List.mem_filter.mpr ⟨sd_mem.mpr hx, by simpa using h⟩, by simp⟩
    have := List.length_pos_of_mem hyp
    unfold gapless
    omega
theorem maskR_bit {rs : List Int} {r : Int} {h : Nat} (hl : rs.length ≤ 12) : bit (maskR rs r) h ↔ rs[h]? = some r := by
  unfold maskR
  rw [bit_nat, maskN_bit]
  constructor
  · intro z
    simp only [Bool.and_eq_true, decide_eq_true_eq] at z
    exact z.2
  · intro z
    have : h < rs.length := (List.getElem?_eq_some_iff.mp z).1
    simp only [Bool.and_eq_true, decide_eq_true_eq]
    exact ⟨by omega, z⟩
theorem maskR_ran (rs : List Int) (r : Int) : 0 ≤ maskR rs r ∧ maskR rs r < 4096 := by
  unfold maskR
  have := maskN_lt (fun h => decide (rs[h]? = some r)) 12
  have e : (2 : Nat) ^ 12 = 4096 := by decide
  omega
theorem lastP_snoc {l : List Int} {x : Int} {h : Nat} : lastP (l ++ [x]) (l.length + 1) h = if bit x h then (l.length : Int) + 1 else lastP l l.length h := by
  have key : ∀ k, k ≤ l.length → lastP (l ++ [x]) k h = lastP l k h := fun k => by
    induction k with
    | zero => intro _; rfl
    | succ k ih =>
      intro hk
      unfold lastP
      rw [ih (by omega)]
      have e : (l ++ [x]).getD k 0 = l.getD k 0 := by
        rw [List.getD_eq_getElem?_getD, List.getD_eq_getElem?_getD, List.getElem?_append_left (by omega)]
      rw [e]
  have e : (l ++ [x]).getD l.length 0 = x := by
    rw [List.getD_eq_getElem?_getD, List.getElem?_append_right (Nat.le_refl _), Nat.sub_self]
    rfl
  have e2 : lastP (l ++ [x]) (l.length + 1) h = if bit ((l ++ [x]).getD l.length 0) h then (l.length : Int) + 1 else lastP (l ++ [x]) l.length h := rfl
  rw [e2, e, key _ (Nat.le_refl _)]
theorem last_mask {rs : List Int} (hl : rs.length ≤ 12) {k : Nat} {r : Int} (hk : rs[k]? = some r) : ∀ (L : List Int), L.reverse.Pairwise (· < ·) → lastP (L.reverse.map (maskR rs)) L.length k = if r ∈ L then ((L.reverse.filter (fun p => decide (p ≤ r))).length : Int) else 0
  | [], _ => by simp [lastP]
  | x :: L, hp => by
    rw [List.reverse_cons] at hp ⊢
    obtain ⟨h1, _, h2⟩ := List.pairwise_append.mp hp
    have ih := last_mask hl hk L h1
    have hlen : (L.reverse.map (maskR rs)).length = L.length := by simp
    rw [List.map_append, List.map_singleton, List.length_cons]
    have sn := lastP_snoc (l := L.reverse.map (maskR rs)) (x := maskR rs x) (h := k)
    rw [hlen] at sn
    rw [sn, ih, List.filter_append]
    by_cases hx : x = r
    · subst hx
      rw [if_pos ((maskR_bit hl).mpr hk), if_pos List.mem_cons_self]
      have ef : L.reverse.filter (fun p => decide (p ≤ x)) = L.reverse := by
        rw [List.filter_eq_self]
        intro a ha
        have := h2 a ha x List.mem_cons_self
        simp
        omega
      rw [ef]
      simp
    · have hnb : ¬ bit (maskR rs x) k := fun z => by
        have := (maskR_bit hl).mp z
        rw [hk] at this
        cases this
        exact hx rfl
      rw [if_neg hnb]
      by_cases hm : r ∈ L
      · have hlt := h2 r (List.mem_reverse.mpr hm) x List.mem_cons_self
        rw [if_pos hm, if_pos (List.mem_cons_of_mem _ hm)]
        have ef : [x].filter (fun p => decide (p ≤ r)) = [] := by
          rw [List.filter_eq_nil_iff]
          intro a ha
          rw [List.mem_singleton.mp ha]
          simp
          omega
        rw [ef, List.append_nil]
      · rw [if_neg hm, if_neg (fun z => by
          rcases List.mem_cons.mp z with e | e
          · exact hx e.symm
          · exact hm e)]
theorem plain_tiers {rs : List Int} (hl : rs.length ≤ 12) (h0 : ∀ x ∈ rs, 0 ≤ x) : plainR (tiersR rs) rs.length = rs.map (gapless rs) := by
  apply List.ext_getElem?
  intro k
  unfold plainR
  rw [List.getElem?_map, List.getElem?_map]
  by_cases hk : k < rs.length
  · rw [List.getElem?_range hk]
    have hr : rs[k]? = some rs[k] := List.getElem?_eq_getElem hk
    rw [hr, Option.map_some, Option.map_some]
    congr 1
    have hmem : rs[k] ∈ rs := List.getElem_mem hk
    generalize rs[k] = r at *
    have := last_mask hl hr (((sd rs).filter (fun p => decide (0 < p))).reverse) (by rw [List.reverse_reverse]; exact (sd_pw rs).filter _)
    rw [List.reverse_reverse, List.length_reverse] at this
    have e : (tiersR rs).length = ((sd rs).filter (fun p => decide (0 < p))).length := by
      unfold tiersR
      rw [List.length_map]
    rw [e]
    unfold tiersR
    rw [this, gapless]
    by_cases hp : 0 < r
    · rw [if_pos (List.mem_reverse.mpr (List.mem_filter.mpr ⟨sd_mem.mpr hmem, by simpa using hp⟩))]
    · rw [if_neg (fun z => by
        have := (List.mem_filter.mp (List.mem_reverse.mp z)).2
        simp at this
        omega)]
      have hz : gapless rs r = 0 := by
        have h1 := (gapless_pos h0 r hmem).mp
        have : 0 ≤ gapless rs r := by
          unfold gapless
          omega
        omega
      unfold gapless at hz
      omega
  · rw [List.getElem?_eq_none (by simpa using hk), List.getElem?_eq_none (by omega)]
    rfl
theorem gapless_le {rs : List Int} (r : Int) : gapless rs r ≤ rs.length := by
  unfold gapless
  have h1 := List.length_filter_le (fun p => decide (p ≤ r)) ((sd rs).filter (fun p => decide (0 < p)))
  have h2 := List.length_filter_le (fun p => decide (0 < p)) (sd rs)
  have h3 : (sd rs).length ≤ rs.length := List.Nodup.length_le_of_subset ((sd_pw rs).imp fun h => by omega) fun k hk => sd_mem.mp hk
  omega
theorem tiers_back {rs : List Int} (hl : rs.length ≤ 12) (h0 : ∀ x ∈ rs, 0 ≤ x) : tiersR (plainR (tiersR rs) rs.length) = tiersR rs := by
  rw [plain_tiers hl h0]
  exact tiers_map (gapless_mono h0) (gapless_pos h0)
def F_rank (r : Int) : T → Option T := fun t => match t with | .node true .tup [.leaf (.int k), .leaf (.int a)] => if a = r then some (.leaf (.int (2 ^ k.toNat))) else none | _ => none
theorem fm_rank (rs : List Int) (r : Int) : (enumT (intsT rs)).filterMap (F_rank r) = intsT ((List.range rs.length).filterMap fun k => if decide (rs[k]? = some r) = true then some ((2 : Int) ^ k) else none) := by
  have e : enumT (intsT rs) = (List.range rs.length).map fun (k : Nat) => T.node true .tup [.leaf (.int (k : Int)), .leaf (.int (rs.getD k 0))] := by
    apply List.ext_getElem?
    intro i
    unfold enumT
    rw [List.getElem?_mapIdx, List.getElem?_map, List.getElem?_map]
    by_cases hi : i < rs.length
    · rw [List.getElem?_range hi, List.getElem?_eq_getElem hi]
      simp [hi]
    · rw [List.getElem?_eq_none (by simpa using hi), List.getElem?_eq_none (by simpa using hi)]
      rfl
  rw [e]
  have key : ∀ l : List Nat, (∀ k ∈ l, k < rs.length) → (l.map fun (k : Nat) => T.node true .tup [.leaf (.int (k : Int)), .leaf (.int (rs.getD k 0))]).filterMap (F_rank r) = intsT (l.filterMap fun k => if rs[k]? = some r then some ((2 : Int) ^ k) else none) := fun l => by
    induction l with
    | nil => intro _; rfl
    | cons x l ih =>
      intro hl
      have hx := hl x List.mem_cons_self
      have ih' := ih fun k hk => hl k (List.mem_cons_of_mem _ hk)
      rw [List.map_cons, List.filterMap_cons, List.filterMap_cons]
      have ex : rs[x]? = some (rs.getD x 0) := by simp [hx]
      simp only [F_rank, Int.toNat_natCast]
      by_cases h : rs.getD x 0 = r
      · rw [if_pos h, if_pos (by rw [ex, h])]
        simp only [intsT, List.map_cons] at ih' ⊢
        rw [ih']
      · rw [if_neg h, if_neg (by rw [ex]; simpa using h)]
        exact ih'
  simp only [decide_eq_true_eq]
  exact key _ fun k hk => List.mem_range.mp hk
theorem rank_sum {rs : List Int} (r : Int) (hl : rs.length ≤ 12) : ((List.range rs.length).filterMap fun k => if decide (rs[k]? = some r) = true then some ((2 : Int) ^ k) else none).sum = maskR rs r := by
  rw [maskN_sum]
  unfold maskR
  congr 1
  apply Nat.eq_of_testBit_eq
  intro k
  rw [maskN_bit, maskN_bit]
  by_cases hk : k < rs.length
  · have : k < 12 := by omega
    simp [hk, this]
  · have : rs[k]? = none := List.getElem?_eq_none (by omega)
    simp [this]
theorem rd__law_ranks {ts : List T} {Q : T → List T → Prop} {E : Value → List (Str × V) → List T → Prop} (h : sp__law_ranks ts Q E) : t__law_ranks (bodyEnds [true, false] Q E) (startE 4 (frzP [true, false] ts)) := by
  obtain ⟨bag, n, rfl, hb, h1, h2, q⟩ := h
  (try simp only [np_t, np_f, np_n, ne_c, ne_n, ne_0, nf_leaf, nf_pin, nf_node])
  (repeat (first | (refine Nx.mk ?_; (try (dsimp only [nr_none, nr_some, nr_nil, nf_leaf, nf_pin, nf_node, nf_nil, nf_cons, ni_f, ni_t, nw_nil, nw_cons, ns_0, ns_s]))) | (refine And.intro ?_ ?_; focus (first | exact rfl | exact frz_frz _ | exact frz_nf _ _ | exact (show frz _ = _ by assumption) | (show frz _ = _; simp only [nf_node, nf_cons, nf_nil, nf_leaf, frzL_frzL, intsT_frz]; done) | exact frz_ints _ _ | exact Nat.le_of_ble_eq_true rfl | exact (show (0 : Int) < _ by decide) | exact (show (0 : Int) ≤ _ by decide) | exact ⟨show (0 : Int) < _ by decide, show Nat.log2 _ < _ by decide⟩ | exact Or.inl (Or.inr ⟨show (_ : Int) < _ by decide, show (_ : Int) < _ by decide⟩) | exact Or.inl (Or.inl ⟨show (_ : Int) < _ by decide, show (_ : Int) < _ by decide⟩) | exact ⟨show (0 : Int) ≤ _ by decide, show (_ : Int) ≤ _ by decide, show Int.natAbs _ < _ by decide⟩)) | refine Exists.intro _ (Exists.intro _ (And.intro rfl (And.intro rfl ?_))) | refine Exists.intro _ (And.intro (Le.rf _) ?_) | refine Exists.intro _ (And.intro rfl ?_)))
  refine ⟨bag, true, _, rfl, hb, by simp, by simp, fun t bag' ht hb' => ?_⟩
  have hw : ∃ w : Int, t = .leaf (.int w) ∧ 0 < w ∧ w < 2 ^ 62 ∧ w ≤ 10 ^ 9 + 1 := by
    simp only [List.mem_cons, List.not_mem_nil, or_false] at ht
    rcases ht with rfl | rfl | rfl | rfl
    · exact ⟨_, rfl, by decide, by decide, by decide⟩
    · exact ⟨_, rfl, by decide, by decide, by decide⟩
    · exact ⟨_, rfl, by omega, by omega, by omega⟩
    · exact ⟨_, rfl, by decide, by decide, by decide⟩
  obtain ⟨w, rfl, w0, w1, w2⟩ := hw
  (repeat (first | (refine Nx.mk ?_; (try (dsimp only [nr_none, nr_some, nr_nil, nf_leaf, nf_pin, nf_node, nf_nil, nf_cons, ni_f, ni_t, nw_nil, nw_cons, ns_0, ns_s]))) | (refine And.intro ?_ ?_; focus (first | exact rfl | exact frz_frz _ | exact frz_nf _ _ | exact (show frz _ = _ by assumption) | (show frz _ = _; simp only [nf_node, nf_cons, nf_nil, nf_leaf, frzL_frzL, intsT_frz]; done) | exact frz_ints _ _ | exact Nat.le_of_ble_eq_true rfl | exact (show (0 : Int) < _ by decide) | exact (show (0 : Int) ≤ _ by decide) | exact ⟨show (0 : Int) < _ by decide, show Nat.log2 _ < _ by decide⟩ | exact Or.inl (Or.inr ⟨show (_ : Int) < _ by decide, show (_ : Int) < _ by decide⟩) | exact Or.inl (Or.inl ⟨show (_ : Int) < _ by decide, show (_ : Int) < _ by decide⟩) | exact ⟨show (0 : Int) ≤ _ by decide, show (_ : Int) ≤ _ by decide, show Int.natAbs _ < _ by decide⟩)) | refine Exists.intro _ (Exists.intro _ (And.intro rfl (And.intro rfl ?_))) | refine Exists.intro _ (And.intro (Le.rf _) ?_) | refine Exists.intro _ (And.intro rfl ?_)))
  refine And.intro (by omega) (And.intro (by omega) ?_)
  refine Lc.ind (fun i g acc => ∃ (bag : T) (rs : List Int), IsBag bag ∧ rs.length = i ∧ (∀ r ∈ rs, 0 ≤ r ∧ r ≤ 10 ^ 9) ∧ acc = intsT rs ∧ g = [some bag, some (frz (.leaf (.int n))), some (frz (frz (.leaf (.int w)))), none]) ⟨bag', [], hb', rfl, (fun _ z => by cases z), rfl, rfl⟩ (fun i t g acc ht hI R' hR => ?_) (fun g acc hI => ?_)
  · obtain ⟨bag, rs, hb, hl, h0, rfl, rfl⟩ := hI
    obtain ⟨hi, rfl⟩ := rangeT_get ht
    (repeat (first | (refine Nx.mk ?_; (try (dsimp only [nr_none, nr_some, nr_nil, nf_leaf, nf_pin, nf_node, nf_nil, nf_cons, ni_f, ni_t, nw_nil, nw_cons, ns_0, ns_s]))) | (refine And.intro ?_ ?_; focus (first | exact rfl | exact frz_frz _ | exact frz_nf _ _ | exact (show frz _ = _ by assumption) | (show frz _ = _; simp only [nf_node, nf_cons, nf_nil, nf_leaf, frzL_frzL, intsT_frz]; done) | exact frz_ints _ _ | exact Nat.le_of_ble_eq_true rfl | exact (show (0 : Int) < _ by decide) | exact (show (0 : Int) ≤ _ by decide) | exact ⟨show (0 : Int) < _ by decide, show Nat.log2 _ < _ by decide⟩ | exact Or.inl (Or.inr ⟨show (_ : Int) < _ by decide, show (_ : Int) < _ by decide⟩) | exact Or.inl (Or.inl ⟨show (_ : Int) < _ by decide, show (_ : Int) < _ by decide⟩) | exact ⟨show (0 : Int) ≤ _ by decide, show (_ : Int) ≤ _ by decide, show Int.natAbs _ < _ by decide⟩)) | refine Exists.intro _ (Exists.intro _ (And.intro rfl (And.intro rfl ?_))) | refine Exists.intro _ (And.intro (Le.rf _) ?_) | refine Exists.intro _ (And.intro rfl ?_)))
    refine ⟨bag, w, rfl, hb, w0, .inl w1, fun r bag' r0 r1 hb' => ?_⟩
    refine And.intro ?_ (hR _ _ ⟨bag', rs ++ [r], hb', by simp [hl], fun z hz => ?_, by simp [intsT], rfl⟩)
    · simp only [intsT, List.length_map, hl]
      show i < 16777216
      omega
    · rcases List.mem_append.mp hz with z1 | z1
      · exact h0 z z1
      · rw [List.mem_singleton.mp z1]
        exact ⟨r0, by omega⟩
  · obtain ⟨bag, rs, hb, hl, h0, rfl, rfl⟩ := hI
    rw [rangeT_len] at hl
    exact q rs bag (by omega) h0 hb
theorem rd__law_tiers {ts : List T} {Q : T → List T → Prop} {E : Value → List (Str × V) → List T → Prop} (h : sp__law_tiers ts Q E) : t__law_tiers (bodyEnds [false] Q E) (startE 5 (frzP [false] ts)) := by
  obtain ⟨o, rs, rfl, hl, q⟩ := h
  refine And.intro (by decide) ?_
  (try simp only [np_t, np_f, np_n, ne_c, ne_n, ne_0, nf_leaf, nf_pin, nf_node])
  (repeat (first | (refine Nx.mk ?_; (try (dsimp only [nr_none, nr_some, nr_nil, nf_leaf, nf_pin, nf_node, nf_nil, nf_cons, ni_f, ni_t, nw_nil, nw_cons, ns_0, ns_s]))) | (refine And.intro ?_ ?_; focus (first | exact rfl | exact frz_frz _ | exact frz_nf _ _ | exact (show frz _ = _ by assumption) | (show frz _ = _; simp only [nf_node, nf_cons, nf_nil, nf_leaf, frzL_frzL, intsT_frz]; done) | exact frz_ints _ _ | exact Nat.le_of_ble_eq_true rfl | exact (show (0 : Int) < _ by decide) | exact (show (0 : Int) ≤ _ by decide) | exact ⟨show (0 : Int) < _ by decide, show Nat.log2 _ < _ by decide⟩ | exact Or.inl (Or.inr ⟨show (_ : Int) < _ by decide, show (_ : Int) < _ by decide⟩) | exact Or.inl (Or.inl ⟨show (_ : Int) < _ by decide, show (_ : Int) < _ by decide⟩) | exact ⟨show (0 : Int) ≤ _ by decide, show (_ : Int) ≤ _ by decide, show Int.natAbs _ < _ by decide⟩)) | refine Exists.intro _ (Exists.intro _ (And.intro rfl (And.intro rfl ?_))) | refine Exists.intro _ (And.intro (Le.rf _) ?_) | refine Exists.intro _ (And.intro rfl ?_)))
  (conv => whnf)
  refine Exists.intro rs (And.intro (by rw [intsT_frz]) (And.intro (by omega) (fun rr hp hm => ?_)))
  (conv => whnf)
  rw [intsT_frz]
  have pure_ints : ∀ ns : List Int, pureL (intsT ns) = true := fun ns => by
    induction ns with
    | nil => rfl
    | cons n ns ih =>
      simp only [intsT, List.map_cons, pureL, pureT, Bool.true_and] at ih ⊢
      exact ih
  obtain ⟨tl, htl⟩ : ∃ tl : Nat → List Int, tl = fun i => ((rr.take i).filter (fun r => decide (0 < r))).map (maskR rs) := ⟨_, rfl⟩
  have hs1 : ∀ i r, rr[i]? = some r → 0 < r → tl (i + 1) = tl i ++ [maskR rs r] := fun i r hr h0 => by
    subst htl
    simp only []
    rw [List.take_add_one, hr, List.filter_append, List.map_append]
    simp [h0]
  have hs2 : ∀ i r, rr[i]? = some r → ¬ 0 < r → tl (i + 1) = tl i := fun i r hr h0 => by
    subst htl
    simp only []
    rw [List.take_add_one, hr, List.filter_append, List.map_append]
    simp [h0]
  have hlen : ∀ i, i ≤ rr.length → (tl i).length ≤ i := fun i hi => by
    subst htl
    simp only [List.length_map]
    refine Nat.le_trans (List.length_filter_le _ _) ?_
    rw [List.length_take]
    omega
  have hrr : rr.length ≤ rs.length := List.Nodup.length_le_of_subset (hp.imp fun h => by omega) fun k hk => (hm k).mp hk
  have hsl : tl rr.length = tiersR rs := by
    subst htl
    simp only [List.take_length]
    rw [pw_uniq hp (sd_pw rs) fun k => (hm k).trans sd_mem.symm]
    rfl
  refine Loop.ind (fun i g => i ≤ rr.length ∧ ∃ g1 g3 g4, g = [some (frz (.node o .lst (intsT rs))), some (.node true .lst (intsT (tl i))), g1, g3, g4]) ⟨Nat.zero_le _, none, none, none, by rw [htl]; rfl⟩ (fun i t g ht hI R hR => ?_) (fun g hI => ?_)
  · obtain ⟨hi, g1, g3, g4, rfl⟩ := hI
    obtain ⟨r, hr, rfl⟩ := ints_get ht
    have hlt : i < rr.length := (List.getElem?_eq_some_iff.mp hr).1
    (repeat (first | (refine Nx.mk ?_; (try (dsimp only [nr_none, nr_some, nr_nil, nf_leaf, nf_pin, nf_node, nf_nil, nf_cons, ni_f, ni_t, nw_nil, nw_cons, ns_0, ns_s]))) | (refine And.intro ?_ ?_; focus (first | exact rfl | exact frz_frz _ | exact frz_nf _ _ | exact (show frz _ = _ by assumption) | (show frz _ = _; simp only [nf_node, nf_cons, nf_nil, nf_leaf, frzL_frzL, intsT_frz]; done) | exact frz_ints _ _ | exact Nat.le_of_ble_eq_true rfl | exact (show (0 : Int) < _ by decide) | exact (show (0 : Int) ≤ _ by decide) | exact ⟨show (0 : Int) < _ by decide, show Nat.log2 _ < _ by decide⟩ | exact Or.inl (Or.inr ⟨show (_ : Int) < _ by decide, show (_ : Int) < _ by decide⟩) | exact Or.inl (Or.inl ⟨show (_ : Int) < _ by decide, show (_ : Int) < _ by decide⟩) | exact ⟨show (0 : Int) ≤ _ by decide, show (_ : Int) ≤ _ by decide, show Int.natAbs _ < _ by decide⟩)) | refine Exists.intro _ (Exists.intro _ (And.intro rfl (And.intro rfl ?_))) | refine Exists.intro _ (And.intro (Le.rf _) ?_) | refine Exists.intro _ (And.intro rfl ?_)))
    refine ifB_dec (fun hb => ?_) (fun hb => ?_)
    · have hR' := fun a b c => hR [some (frz (.node o .lst (intsT rs))), some (.node true .lst (intsT (tl i ++ [maskR rs r]))), a, b, c] ⟨hlt, _, _, _, by rw [hs1 i r hr hb]⟩
      (repeat (first | (refine Nx.mk ?_; (try (dsimp only [nr_none, nr_some, nr_nil, nf_leaf, nf_pin, nf_node, nf_nil, nf_cons, ni_f, ni_t, nw_nil, nw_cons, ns_0, ns_s]))) | (refine And.intro ?_ ?_; focus (first | exact rfl | exact frz_frz _ | exact frz_nf _ _ | exact (show frz _ = _ by assumption) | (show frz _ = _; simp only [nf_node, nf_cons, nf_nil, nf_leaf, frzL_frzL, intsT_frz]; done) | exact frz_ints _ _ | exact Nat.le_of_ble_eq_true rfl | exact (show (0 : Int) < _ by decide) | exact (show (0 : Int) ≤ _ by decide) | exact ⟨show (0 : Int) < _ by decide, show Nat.log2 _ < _ by decide⟩ | exact Or.inl (Or.inr ⟨show (_ : Int) < _ by decide, show (_ : Int) < _ by decide⟩) | exact Or.inl (Or.inl ⟨show (_ : Int) < _ by decide, show (_ : Int) < _ by decide⟩) | exact ⟨show (0 : Int) ≤ _ by decide, show (_ : Int) ≤ _ by decide, show Int.natAbs _ < _ by decide⟩)) | refine Exists.intro _ (Exists.intro _ (And.intro rfl (And.intro rfl ?_))) | refine Exists.intro _ (And.intro (Le.rf _) ?_) | refine Exists.intro _ (And.intro rfl ?_)))
      (conv => whnf)
      rw [frzL_frzL, intsT_frz]
      refine Lc.fm (F_rank r) (by rw [enumT_len, List.length_map]; show _ ≤ 16777216; omega) (fun t ht acc R' ha f1 f0 => ?_) ?_
      · obtain ⟨k, hk⟩ := List.getElem?_of_mem ht
        obtain ⟨u, hu, rfl⟩ := enumT_get hk
        obtain ⟨a, ha2, rfl⟩ := ints_get hu
        (repeat (first | (refine Nx.mk ?_; (try (dsimp only [nr_none, nr_some, nr_nil, nf_leaf, nf_pin, nf_node, nf_nil, nf_cons, ni_f, ni_t, nw_nil, nw_cons, ns_0, ns_s]))) | (refine And.intro ?_ ?_; focus (first | exact rfl | exact frz_frz _ | exact frz_nf _ _ | exact (show frz _ = _ by assumption) | (show frz _ = _; simp only [nf_node, nf_cons, nf_nil, nf_leaf, frzL_frzL, intsT_frz]; done) | exact frz_ints _ _ | exact Nat.le_of_ble_eq_true rfl | exact (show (0 : Int) < _ by decide) | exact (show (0 : Int) ≤ _ by decide) | exact ⟨show (0 : Int) < _ by decide, show Nat.log2 _ < _ by decide⟩ | exact Or.inl (Or.inr ⟨show (_ : Int) < _ by decide, show (_ : Int) < _ by decide⟩) | exact Or.inl (Or.inl ⟨show (_ : Int) < _ by decide, show (_ : Int) < _ by decide⟩) | exact ⟨show (0 : Int) ≤ _ by decide, show (_ : Int) ≤ _ by decide, show Int.natAbs _ < _ by decide⟩)) | refine Exists.intro _ (Exists.intro _ (And.intro rfl (And.intro rfl ?_))) | refine Exists.intro _ (And.intro (Le.rf _) ?_) | refine Exists.intro _ (And.intro rfl ?_)))
        refine ifB_dec (fun c1 => ?_) (fun c1 => ?_)
        · (repeat (first | (refine Nx.mk ?_; (try (dsimp only [nr_none, nr_some, nr_nil, nf_leaf, nf_pin, nf_node, nf_nil, nf_cons, ni_f, ni_t, nw_nil, nw_cons, ns_0, ns_s]))) | (refine And.intro ?_ ?_; focus (first | exact rfl | exact frz_frz _ | exact frz_nf _ _ | exact (show frz _ = _ by assumption) | (show frz _ = _; simp only [nf_node, nf_cons, nf_nil, nf_leaf, frzL_frzL, intsT_frz]; done) | exact frz_ints _ _ | exact Nat.le_of_ble_eq_true rfl | exact (show (0 : Int) < _ by decide) | exact (show (0 : Int) ≤ _ by decide) | exact ⟨show (0 : Int) < _ by decide, show Nat.log2 _ < _ by decide⟩ | exact Or.inl (Or.inr ⟨show (_ : Int) < _ by decide, show (_ : Int) < _ by decide⟩) | exact Or.inl (Or.inl ⟨show (_ : Int) < _ by decide, show (_ : Int) < _ by decide⟩) | exact ⟨show (0 : Int) ≤ _ by decide, show (_ : Int) ≤ _ by decide, show Int.natAbs _ < _ by decide⟩)) | refine Exists.intro _ (Exists.intro _ (And.intro rfl (And.intro rfl ?_))) | refine Exists.intro _ (And.intro (Le.rf _) ?_) | refine Exists.intro _ (And.intro rfl ?_)))
          have hk2 : k < rs.length := (List.getElem?_eq_some_iff.mp ha2).1
          refine And.intro (by omega) ?_
          (repeat (first | (refine Nx.mk ?_; (try (dsimp only [nr_none, nr_some, nr_nil, nf_leaf, nf_pin, nf_node, nf_nil, nf_cons, ni_f, ni_t, nw_nil, nw_cons, ns_0, ns_s]))) | (refine And.intro ?_ ?_; focus (first | exact rfl | exact frz_frz _ | exact frz_nf _ _ | exact (show frz _ = _ by assumption) | (show frz _ = _; simp only [nf_node, nf_cons, nf_nil, nf_leaf, frzL_frzL, intsT_frz]; done) | exact frz_ints _ _ | exact Nat.le_of_ble_eq_true rfl | exact (show (0 : Int) < _ by decide) | exact (show (0 : Int) ≤ _ by decide) | exact ⟨show (0 : Int) < _ by decide, show Nat.log2 _ < _ by decide⟩ | exact Or.inl (Or.inr ⟨show (_ : Int) < _ by decide, show (_ : Int) < _ by decide⟩) | exact Or.inl (Or.inl ⟨show (_ : Int) < _ by decide, show (_ : Int) < _ by decide⟩) | exact ⟨show (0 : Int) ≤ _ by decide, show (_ : Int) ≤ _ by decide, show Int.natAbs _ < _ by decide⟩)) | refine Exists.intro _ (Exists.intro _ (And.intro rfl (And.intro rfl ?_))) | refine Exists.intro _ (And.intro (Le.rf _) ?_) | refine Exists.intro _ (And.intro rfl ?_)))
          exact And.intro ha (f1 _ (if_pos c1))
        · exact f0 (if_neg c1)
      · rw [fm_rank]
        (repeat (first | (refine Nx.mk ?_; (try (dsimp only [nr_none, nr_some, nr_nil, nf_leaf, nf_pin, nf_node, nf_nil, nf_cons, ni_f, ni_t, nw_nil, nw_cons, ns_0, ns_s]))) | (refine And.intro ?_ ?_; focus (first | exact rfl | exact frz_frz _ | exact frz_nf _ _ | exact (show frz _ = _ by assumption) | (show frz _ = _; simp only [nf_node, nf_cons, nf_nil, nf_leaf, frzL_frzL, intsT_frz]; done) | exact frz_ints _ _ | exact Nat.le_of_ble_eq_true rfl | exact (show (0 : Int) < _ by decide) | exact (show (0 : Int) ≤ _ by decide) | exact ⟨show (0 : Int) < _ by decide, show Nat.log2 _ < _ by decide⟩ | exact Or.inl (Or.inr ⟨show (_ : Int) < _ by decide, show (_ : Int) < _ by decide⟩) | exact Or.inl (Or.inl ⟨show (_ : Int) < _ by decide, show (_ : Int) < _ by decide⟩) | exact ⟨show (0 : Int) ≤ _ by decide, show (_ : Int) ≤ _ by decide, show Int.natAbs _ < _ by decide⟩)) | refine Exists.intro _ (Exists.intro _ (And.intro rfl (And.intro rfl ?_))) | refine Exists.intro _ (And.intro (Le.rf _) ?_) | refine Exists.intro _ (And.intro rfl ?_)))
        (conv => whnf)
        rw [rank_sum r hl]
        refine And.intro ?_ ?_
        · have := hlen i hi
          simp only [intsT, List.length_map]
          show _ < 16777216
          omega
        · have e2 : intsT (tl i ++ [maskR rs r]) = intsT (tl i) ++ [.leaf (.int (maskR rs r))] := by simp [intsT]
          rw [e2] at hR'
          (repeat (first | (refine Nx.mk ?_; (try (dsimp only [nr_none, nr_some, nr_nil, nf_leaf, nf_pin, nf_node, nf_nil, nf_cons, ni_f, ni_t, nw_nil, nw_cons, ns_0, ns_s]))) | (refine And.intro ?_ ?_; focus (first | exact rfl | exact frz_frz _ | exact frz_nf _ _ | exact (show frz _ = _ by assumption) | (show frz _ = _; simp only [nf_node, nf_cons, nf_nil, nf_leaf, frzL_frzL, intsT_frz]; done) | exact frz_ints _ _ | exact Nat.le_of_ble_eq_true rfl | exact (show (0 : Int) < _ by decide) | exact (show (0 : Int) ≤ _ by decide) | exact ⟨show (0 : Int) < _ by decide, show Nat.log2 _ < _ by decide⟩ | exact Or.inl (Or.inr ⟨show (_ : Int) < _ by decide, show (_ : Int) < _ by decide⟩) | exact Or.inl (Or.inl ⟨show (_ : Int) < _ by decide, show (_ : Int) < _ by decide⟩) | exact ⟨show (0 : Int) ≤ _ by decide, show (_ : Int) ≤ _ by decide, show Int.natAbs _ < _ by decide⟩)) | refine Exists.intro _ (Exists.intro _ (And.intro rfl (And.intro rfl ?_))) | refine Exists.intro _ (And.intro (Le.rf _) ?_) | refine Exists.intro _ (And.intro rfl ?_)))
          exact hR' _ _ _
    · exact hR _ ⟨hlt, _, _, _, by rw [hs2 i r hr hb]; rfl⟩
  · obtain ⟨hi, g1, g3, g4, rfl⟩ := hI
    rw [List.length_map] at *
    (repeat (first | (refine Nx.mk ?_; (try (dsimp only [nr_none, nr_some, nr_nil, nf_leaf, nf_pin, nf_node, nf_nil, nf_cons, ni_f, ni_t, nw_nil, nw_cons, ns_0, ns_s]))) | (refine And.intro ?_ ?_; focus (first | exact rfl | exact frz_frz _ | exact frz_nf _ _ | exact (show frz _ = _ by assumption) | (show frz _ = _; simp only [nf_node, nf_cons, nf_nil, nf_leaf, frzL_frzL, intsT_frz]; done) | exact frz_ints _ _ | exact Nat.le_of_ble_eq_true rfl | exact (show (0 : Int) < _ by decide) | exact (show (0 : Int) ≤ _ by decide) | exact ⟨show (0 : Int) < _ by decide, show Nat.log2 _ < _ by decide⟩ | exact Or.inl (Or.inr ⟨show (_ : Int) < _ by decide, show (_ : Int) < _ by decide⟩) | exact Or.inl (Or.inl ⟨show (_ : Int) < _ by decide, show (_ : Int) < _ by decide⟩) | exact ⟨show (0 : Int) ≤ _ by decide, show (_ : Int) ≤ _ by decide, show Int.natAbs _ < _ by decide⟩)) | refine Exists.intro _ (Exists.intro _ (And.intro rfl (And.intro rfl ?_))) | refine Exists.intro _ (And.intro (Le.rf _) ?_) | refine Exists.intro _ (And.intro rfl ?_)))
    (conv => whnf)
    rw [frzL_frzL, intsT_frz]
    refine And.intro ?_ ?_
    · show (true && pureL (intsT (tl rr.length))) = true
      rw [pure_ints]
      rfl
    · rw [hsl]
      exact q
theorem rd_ranks_of {ts : List T} {Q : T → List T → Prop} {E : Value → List (Str × V) → List T → Prop} (h : sp_ranks_of ts Q E) : t_ranks_of (bodyEnds [false, false] Q E) (startE 6 (frzP [false, false] ts)) := by
  obtain ⟨o, ss, n, rfl, hss, hl, hn, q⟩ := h
  (try simp only [np_t, np_f, np_n, ne_c, ne_n, ne_0, nf_leaf, nf_pin, nf_node])
  (repeat (first | (refine Nx.mk ?_; (try (dsimp only [nr_none, nr_some, nr_nil, nf_leaf, nf_pin, nf_node, nf_nil, nf_cons, ni_f, ni_t, nw_nil, nw_cons, ns_0, ns_s]))) | (refine And.intro ?_ ?_; focus (first | exact rfl | exact frz_frz _ | exact frz_nf _ _ | exact (show frz _ = _ by assumption) | (show frz _ = _; simp only [nf_node, nf_cons, nf_nil, nf_leaf, frzL_frzL, intsT_frz]; done) | exact frz_ints _ _ | exact Nat.le_of_ble_eq_true rfl | exact (show (0 : Int) < _ by decide) | exact (show (0 : Int) ≤ _ by decide) | exact ⟨show (0 : Int) < _ by decide, show Nat.log2 _ < _ by decide⟩ | exact Or.inl (Or.inr ⟨show (_ : Int) < _ by decide, show (_ : Int) < _ by decide⟩) | exact Or.inl (Or.inl ⟨show (_ : Int) < _ by decide, show (_ : Int) < _ by decide⟩) | exact ⟨show (0 : Int) ≤ _ by decide, show (_ : Int) ≤ _ by decide, show Int.natAbs _ < _ by decide⟩)) | refine Exists.intro _ (Exists.intro _ (And.intro rfl (And.intro rfl ?_))) | refine Exists.intro _ (And.intro (Le.rf _) ?_) | refine Exists.intro _ (And.intro rfl ?_)))
  refine And.intro ⟨by omega, by omega, ?_⟩ ?_
  · show 1 * (n : Int).toNat ≤ 16777216
    omega
  (repeat (first | (refine Nx.mk ?_; (try (dsimp only [nr_none, nr_some, nr_nil, nf_leaf, nf_pin, nf_node, nf_nil, nf_cons, ni_f, ni_t, nw_nil, nw_cons, ns_0, ns_s]))) | (refine And.intro ?_ ?_; focus (first | exact rfl | exact frz_frz _ | exact frz_nf _ _ | exact (show frz _ = _ by assumption) | (show frz _ = _; simp only [nf_node, nf_cons, nf_nil, nf_leaf, frzL_frzL, intsT_frz]; done) | exact frz_ints _ _ | exact Nat.le_of_ble_eq_true rfl | exact (show (0 : Int) < _ by decide) | exact (show (0 : Int) ≤ _ by decide) | exact ⟨show (0 : Int) < _ by decide, show Nat.log2 _ < _ by decide⟩ | exact Or.inl (Or.inr ⟨show (_ : Int) < _ by decide, show (_ : Int) < _ by decide⟩) | exact Or.inl (Or.inl ⟨show (_ : Int) < _ by decide, show (_ : Int) < _ by decide⟩) | exact ⟨show (0 : Int) ≤ _ by decide, show (_ : Int) ≤ _ by decide, show Int.natAbs _ < _ by decide⟩)) | refine Exists.intro _ (Exists.intro _ (And.intro rfl (And.intro rfl ?_))) | refine Exists.intro _ (And.intro (Le.rf _) ?_) | refine Exists.intro _ (And.intro rfl ?_)))
  (conv => whnf)
  rw [frzL_frzL, intsT_frz]
  have e0 : repL (frzL [T.leaf (V.int 0)]) (n : Int) = intsT ((List.range n).map (lastP ss 0)) := by
    unfold repL
    rw [Int.toNat_natCast]
    have e1 : frzL [T.leaf (V.int 0)] = [T.leaf (V.int 0)] := rfl
    rw [e1]
    apply List.ext_getElem?
    intro i
    by_cases hi : i < n
    · simp [intsT, lastP, hi]
    · simp [intsT, lastP, hi]
  refine Loop.ind (fun i g => i ≤ ss.length ∧ ∃ g3 g4 g5, g = [some (frz (.node o .tup (intsT ss))), some (frz (.leaf (.int n))), some (.node true .lst (intsT ((List.range n).map (lastP ss i)))), g3, g4, g5]) ⟨Nat.zero_le _, none, none, none, (by have e1 : frzL [T.leaf (V.int 0)] = [T.leaf (V.int 0)] := rfl; rw [e1] at e0; rw [← e0, frz_its]; rfl)⟩ (fun i t g ht hI R hR => ?_) (fun g hI => ?_)
  · obtain ⟨hi, g3, g4, g5, rfl⟩ := hI
    obtain ⟨u, hu, rfl⟩ := enumT_get ht
    obtain ⟨m, hm, rfl⟩ := ints_get hu
    have hlt : i < ss.length := (List.getElem?_eq_some_iff.mp hm).1
    have em : ss.getD i 0 = m := by
      rw [List.getD_eq_getElem?_getD, hm]
      rfl
    (repeat (first | (refine Nx.mk ?_; (try (dsimp only [nr_none, nr_some, nr_nil, nf_leaf, nf_pin, nf_node, nf_nil, nf_cons, ni_f, ni_t, nw_nil, nw_cons, ns_0, ns_s]))) | (refine And.intro ?_ ?_; focus (first | exact rfl | exact frz_frz _ | exact frz_nf _ _ | exact (show frz _ = _ by assumption) | (show frz _ = _; simp only [nf_node, nf_cons, nf_nil, nf_leaf, frzL_frzL, intsT_frz]; done) | exact frz_ints _ _ | exact Nat.le_of_ble_eq_true rfl | exact (show (0 : Int) < _ by decide) | exact (show (0 : Int) ≤ _ by decide) | exact ⟨show (0 : Int) < _ by decide, show Nat.log2 _ < _ by decide⟩ | exact Or.inl (Or.inr ⟨show (_ : Int) < _ by decide, show (_ : Int) < _ by decide⟩) | exact Or.inl (Or.inl ⟨show (_ : Int) < _ by decide, show (_ : Int) < _ by decide⟩) | exact ⟨show (0 : Int) ≤ _ by decide, show (_ : Int) ≤ _ by decide, show Int.natAbs _ < _ by decide⟩)) | refine Exists.intro _ (Exists.intro _ (And.intro rfl (And.intro rfl ?_))) | refine Exists.intro _ (And.intro (Le.rf _) ?_) | refine Exists.intro _ (And.intro rfl ?_)))
    refine And.intro (by omega) (And.intro (by omega) ?_)
    have es : ∀ h, lastP ss (i + 1) h = if bit m h then (i : Int) + 1 else lastP ss i h := fun h => by
      conv => lhs; unfold lastP
      rw [em]
    refine Loop.ind (fun h g => h ≤ n ∧ ∃ g5, g = [some (frz (.node o .tup (intsT ss))), some (frz (.leaf (.int n))), some (.node true .lst (intsT ((List.range n).map (fun z => if z < h then lastP ss (i + 1) z else lastP ss i z)))), some (frz (frz (.leaf (.int (i : Nat))))), some (frz (frz (.leaf (.int m)))), g5]) ⟨Nat.zero_le _, g5, by
      rw [show ((List.range n).map (fun z => if z < 0 then lastP ss (i + 1) z else lastP ss i z)) = (List.range n).map (lastP ss i) from by simp]
      rfl⟩ (fun h t g ht hI R2 hR2 => ?_) (fun g hI => ?_)
    · obtain ⟨hh, g5, rfl⟩ := hI
      obtain ⟨hlt2, rfl⟩ := rangeT_get ht
      have hlt2 : h < n := hlt2
      have m0 := hss m (List.mem_of_getElem? hm)
      (repeat (first | (refine Nx.mk ?_; (try (dsimp only [nr_none, nr_some, nr_nil, nf_leaf, nf_pin, nf_node, nf_nil, nf_cons, ni_f, ni_t, nw_nil, nw_cons, ns_0, ns_s]))) | (refine And.intro ?_ ?_; focus (first | exact rfl | exact frz_frz _ | exact frz_nf _ _ | exact (show frz _ = _ by assumption) | (show frz _ = _; simp only [nf_node, nf_cons, nf_nil, nf_leaf, frzL_frzL, intsT_frz]; done) | exact frz_ints _ _ | exact Nat.le_of_ble_eq_true rfl | exact (show (0 : Int) < _ by decide) | exact (show (0 : Int) ≤ _ by decide) | exact ⟨show (0 : Int) < _ by decide, show Nat.log2 _ < _ by decide⟩ | exact Or.inl (Or.inr ⟨show (_ : Int) < _ by decide, show (_ : Int) < _ by decide⟩) | exact Or.inl (Or.inl ⟨show (_ : Int) < _ by decide, show (_ : Int) < _ by decide⟩) | exact ⟨show (0 : Int) ≤ _ by decide, show (_ : Int) ≤ _ by decide, show Int.natAbs _ < _ by decide⟩)) | refine Exists.intro _ (Exists.intro _ (And.intro rfl (And.intro rfl ?_))) | refine Exists.intro _ (And.intro (Le.rf _) ?_) | refine Exists.intro _ (And.intro rfl ?_)))
      refine ⟨m, h, by rw [Int.zero_add]; rfl, m0, by omega, ?_⟩
      refine ifB_dec (fun c1 => ?_) (fun c1 => ?_)
      · (repeat (first | (refine Nx.mk ?_; (try (dsimp only [nr_none, nr_some, nr_nil, nf_leaf, nf_pin, nf_node, nf_nil, nf_cons, ni_f, ni_t, nw_nil, nw_cons, ns_0, ns_s]))) | (refine And.intro ?_ ?_; focus (first | exact rfl | exact frz_frz _ | exact frz_nf _ _ | exact (show frz _ = _ by assumption) | (show frz _ = _; simp only [nf_node, nf_cons, nf_nil, nf_leaf, frzL_frzL, intsT_frz]; done) | exact frz_ints _ _ | exact Nat.le_of_ble_eq_true rfl | exact (show (0 : Int) < _ by decide) | exact (show (0 : Int) ≤ _ by decide) | exact ⟨show (0 : Int) < _ by decide, show Nat.log2 _ < _ by decide⟩ | exact Or.inl (Or.inr ⟨show (_ : Int) < _ by decide, show (_ : Int) < _ by decide⟩) | exact Or.inl (Or.inl ⟨show (_ : Int) < _ by decide, show (_ : Int) < _ by decide⟩) | exact ⟨show (0 : Int) ≤ _ by decide, show (_ : Int) ≤ _ by decide, show Int.natAbs _ < _ by decide⟩)) | refine Exists.intro _ (Exists.intro _ (And.intro rfl (And.intro rfl ?_))) | refine Exists.intro _ (And.intro (Le.rf _) ?_) | refine Exists.intro _ (And.intro rfl ?_)))
        refine Exists.intro h (And.intro ?_ ?_)
        · rw [Int.zero_add, List.length_map, List.length_map, List.length_range, ixN_nat, if_pos hlt2]
        · refine hR2 _ ⟨hlt2, some (frz (.leaf (.int (0 + (h : Int))))), ?_⟩
          have e : (intsT ((List.range n).map (fun z => if z < h then lastP ss (i + 1) z else lastP ss i z))).set h (.leaf (.int ((i : Int) + 1))) = intsT ((List.range n).map (fun z => if z < h + 1 then lastP ss (i + 1) z else lastP ss i z)) := by
            apply List.ext_getElem?
            intro z
            by_cases hz : z = h
            · subst hz
              rw [List.getElem?_set_self (by simp [hlt2])]
              simp [intsT, hlt2, es, c1]
            · rw [List.getElem?_set_ne (Ne.symm hz)]
              by_cases hzn : z < n
              · by_cases hzh : z < h
                · simp [intsT, hzn, hzh, Nat.lt_succ_of_lt hzh]
                · have : ¬ z < h + 1 := by omega
                  simp [intsT, hzn, hzh, this]
              · simp [intsT, hzn]
          rw [← e]
          rfl
      · refine hR2 _ ⟨hlt2, some (frz (.leaf (.int (0 + (h : Int))))), ?_⟩
        have e : (List.range n).map (fun z => if z < h then lastP ss (i + 1) z else lastP ss i z) = (List.range n).map (fun z => if z < h + 1 then lastP ss (i + 1) z else lastP ss i z) := by
          apply List.map_congr_left
          intro z hz
          by_cases hzh : z < h
          · rw [if_pos hzh, if_pos (Nat.lt_succ_of_lt hzh)]
          · rw [if_neg hzh]
            by_cases hz2 : z = h
            · subst hz2
              rw [if_pos (Nat.lt_succ_self _), es, if_neg c1]
            · rw [if_neg (by omega)]
        rw [← e]
        rfl
    · obtain ⟨hh, g5, rfl⟩ := hI
      rw [rangeT_len] at *
      have e : (List.range n).map (fun z => if z < (n : Int).toNat then lastP ss (i + 1) z else lastP ss i z) = (List.range n).map (lastP ss (i + 1)) := by
        apply List.map_congr_left
        intro z hz
        rw [if_pos (by simpa using hz)]
      rw [e]
      exact hR _ ⟨hlt, _, _, _, rfl⟩
  · obtain ⟨hi, g3, g4, g5, rfl⟩ := hI
    rw [enumT_len, List.length_map] at *
    (repeat (first | (refine Nx.mk ?_; (try (dsimp only [nr_none, nr_some, nr_nil, nf_leaf, nf_pin, nf_node, nf_nil, nf_cons, ni_f, ni_t, nw_nil, nw_cons, ns_0, ns_s]))) | (refine And.intro ?_ ?_; focus (first | exact rfl | exact frz_frz _ | exact frz_nf _ _ | exact (show frz _ = _ by assumption) | (show frz _ = _; simp only [nf_node, nf_cons, nf_nil, nf_leaf, frzL_frzL, intsT_frz]; done) | exact frz_ints _ _ | exact Nat.le_of_ble_eq_true rfl | exact (show (0 : Int) < _ by decide) | exact (show (0 : Int) ≤ _ by decide) | exact ⟨show (0 : Int) < _ by decide, show Nat.log2 _ < _ by decide⟩ | exact Or.inl (Or.inr ⟨show (_ : Int) < _ by decide, show (_ : Int) < _ by decide⟩) | exact Or.inl (Or.inl ⟨show (_ : Int) < _ by decide, show (_ : Int) < _ by decide⟩) | exact ⟨show (0 : Int) ≤ _ by decide, show (_ : Int) ≤ _ by decide, show Int.natAbs _ < _ by decide⟩)) | refine Exists.intro _ (Exists.intro _ (And.intro rfl (And.intro rfl ?_))) | refine Exists.intro _ (And.intro (Le.rf _) ?_) | refine Exists.intro _ (And.intro rfl ?_)))
    exact q
theorem whole_int {t : T} (h : wholeQ t = some true) : ∃ i : Int, t = .leaf (.int i) := by
  unfold wholeQ at h
  cases e : tyT t with
  | none => rw [e] at h; cases h
  | some ty =>
    rw [e] at h
    have h2 : ty = .int := by cases ty <;> first | rfl | (exact absurd h (by decide))
    subst h2
    unfold tyT at e
    split at e <;> first | exact ⟨_, rfl⟩ | cases e
theorem check_loop {ts : List T} {h : Int} {D : DEnds} (hw : ∀ t ∈ ts, frz t = t ∧ ∃ b, wholeQ t = some b)
    (good : (∀ t ∈ ts, ¬ badT t) → ∀ z, D.nx [some (.node false .lst ts), some (.leaf (.int h)), z, none, none, none]) (bad : (∃ t ∈ ts, badT t) → ∀ g, D.ex (cxN 2) [] g) :
    t_slip_of_14 D [some (.node false .lst ts), some (.leaf (.int h)), none, none, none, none] := by
  have ef : frzL ts = ts := by
    rw [frzL_map]
    exact (List.map_congr_left fun t ht => (hw t ht).1).trans (List.map_id' _)
  have ef2 : frz (T.node false .lst ts) = .node false .lst ts := by rw [nf_node, ef]
  refine And.intro ef2 ?_
  (conv => whnf)
  rw [ef]
  refine Loop.ind (fun i g => i ≤ ts.length ∧ (∀ j t, j < i → ts[j]? = some t → ¬ badT t) ∧ ∃ z, g = [some (.node false .lst ts), some (.leaf (.int h)), z, none, none, none]) ⟨Nat.zero_le _, (fun _ _ z => absurd z (Nat.not_lt_zero _)), _, rfl⟩ (fun i t g ht hI R hR => ?_) (fun g hI => ?_)
  · obtain ⟨hi, hg, z, rfl⟩ := hI
    have hlt : i < ts.length := (List.getElem?_eq_some_iff.mp ht).1
    have hm := List.mem_of_getElem? ht
    obtain ⟨hf, b, hb⟩ := hw t hm
    have next : ¬ badT t → R [some (.node false .lst ts), some (.leaf (.int h)), some t, none, none, none] := fun hn => hR _ ⟨hlt, fun j t' hj ht' => by
      by_cases e : j = i
      · subst e
        rw [ht] at ht'
        cases ht'
        exact hn
      · exact hg j t' (by omega) ht', _, rfl⟩
    show t_slip_of_13 (lpE R D) [some (.node false .lst ts), some (.leaf (.int h)), some (frz t), none, none, none]
    rw [hf]
    refine And.intro hf ?_
    refine ⟨t, b, rfl, (by rw [hf]; exact hb), ?_⟩
    cases b with
    | false => exact bad ⟨t, hm, .inl hb⟩ _
    | true =>
      obtain ⟨i', rfl⟩ := whole_int hb
      (repeat (first | (refine Nx.mk ?_; (try (dsimp only [nr_none, nr_some, nr_nil, nf_leaf, nf_pin, nf_node, nf_nil, nf_cons, ni_f, ni_t, nw_nil, nw_cons, ns_0, ns_s]))) | (refine And.intro ?_ ?_; focus (first | exact rfl | exact frz_frz _ | exact frz_nf _ _ | exact (show frz _ = _ by assumption) | (show frz _ = _; simp only [nf_node, nf_cons, nf_nil, nf_leaf, frzL_frzL, intsT_frz]; done) | exact frz_ints _ _ | exact Nat.le_of_ble_eq_true rfl | exact (show (0 : Int) < _ by decide) | exact (show (0 : Int) ≤ _ by decide) | exact ⟨show (0 : Int) < _ by decide, show Nat.log2 _ < _ by decide⟩ | exact Or.inl (Or.inr ⟨show (_ : Int) < _ by decide, show (_ : Int) < _ by decide⟩) | exact Or.inl (Or.inl ⟨show (_ : Int) < _ by decide, show (_ : Int) < _ by decide⟩) | exact ⟨show (0 : Int) ≤ _ by decide, show (_ : Int) ≤ _ by decide, show Int.natAbs _ < _ by decide⟩)) | refine Exists.intro _ (Exists.intro _ (And.intro rfl (And.intro rfl ?_))) | refine Exists.intro _ (And.intro (Le.rf _) ?_) | refine Exists.intro _ (And.intro rfl ?_)))
      refine ifB_dec (fun h1 => ?_) (fun h1 => ?_)
      · exact bad ⟨_, hm, .inr ⟨i', rfl, .inl h1⟩⟩ _
      (repeat (first | (refine Nx.mk ?_; (try (dsimp only [nr_none, nr_some, nr_nil, nf_leaf, nf_pin, nf_node, nf_nil, nf_cons, ni_f, ni_t, nw_nil, nw_cons, ns_0, ns_s]))) | (refine And.intro ?_ ?_; focus (first | exact rfl | exact frz_frz _ | exact frz_nf _ _ | exact (show frz _ = _ by assumption) | (show frz _ = _; simp only [nf_node, nf_cons, nf_nil, nf_leaf, frzL_frzL, intsT_frz]; done) | exact frz_ints _ _ | exact Nat.le_of_ble_eq_true rfl | exact (show (0 : Int) < _ by decide) | exact (show (0 : Int) ≤ _ by decide) | exact ⟨show (0 : Int) < _ by decide, show Nat.log2 _ < _ by decide⟩ | exact Or.inl (Or.inr ⟨show (_ : Int) < _ by decide, show (_ : Int) < _ by decide⟩) | exact Or.inl (Or.inl ⟨show (_ : Int) < _ by decide, show (_ : Int) < _ by decide⟩) | exact ⟨show (0 : Int) ≤ _ by decide, show (_ : Int) ≤ _ by decide, show Int.natAbs _ < _ by decide⟩)) | refine Exists.intro _ (Exists.intro _ (And.intro rfl (And.intro rfl ?_))) | refine Exists.intro _ (And.intro (Le.rf _) ?_) | refine Exists.intro _ (And.intro rfl ?_)))
      refine ifB_dec (fun h2 => ?_) (fun h2 => ?_)
      · exact bad ⟨_, hm, .inr ⟨i', rfl, .inr h2⟩⟩ _
      refine next fun hb => ?_
      rcases hb with hb | ⟨k, e, hb⟩
      · cases hb
      · cases e
        have e9 : (10 : Int) ^ 9 = 1000000000 := by decide
        omega
  · obtain ⟨hi, hg, z, rfl⟩ := hI
    refine good (fun t ht => ?_) z
    obtain ⟨j, hj⟩ := List.getElem?_of_mem ht
    exact hg j t (List.getElem?_eq_some_iff.mp hj).1 hj
theorem mask_len {rs : List Int} (r : Int) (hl : rs.length ≤ 12) : ((maskN (fun k => decide (rs[k]? = some r)) rs.length : Nat) : Int) = maskR rs r := by
  rw [← maskN_sum, rank_sum r hl]
theorem mask_next {p : Nat → Bool} {j : Nat} : (if bit ((maskN p j : Nat) : Int) j then ((maskN p j : Nat) : Int) else (maskN p j : Nat) + 2 ^ j) = ((2 ^ j + maskN p j : Nat) : Int) := by
  have h := maskN_lt p j
  have hb : ¬ bit ((maskN p j : Nat) : Int) j := by
    rw [bit_nat]
    intro z
    rw [Nat.testBit_lt_two_pow h] at z
    cases z
  rw [if_neg hb, Int.natCast_add, ← PyProof.Rows.two_pow_cast, Int.add_comm]
theorem slip_good {rs : List Int} {h : Nat} {z : Option T} {Q : T → List T → Prop} {E : Value → List (Str × V) → List T → Prop} (hk : RkOk rs h) (q : Q (.node true .tup (intsT (tiersR rs))) []) :
    t_slip_of_15 (bodyEnds [false, false] Q E) [some (.node false .lst (intsT rs)), some (.leaf (.int h)), z, none, none, none] := by
  obtain ⟨hl, h12, h0⟩ := hk
  have hl12 : rs.length ≤ 12 := by omega
  (repeat (first | (refine Nx.mk ?_; (try (dsimp only [nr_none, nr_some, nr_nil, nf_leaf, nf_pin, nf_node, nf_nil, nf_cons, ni_f, ni_t, nw_nil, nw_cons, ns_0, ns_s]))) | (refine And.intro ?_ ?_; focus (first | exact rfl | exact frz_frz _ | exact frz_nf _ _ | exact (show frz _ = _ by assumption) | (show frz _ = _; simp only [nf_node, nf_cons, nf_nil, nf_leaf, frzL_frzL, intsT_frz]; done) | exact frz_ints _ _ | exact Nat.le_of_ble_eq_true rfl | exact (show (0 : Int) < _ by decide) | exact (show (0 : Int) ≤ _ by decide) | exact ⟨show (0 : Int) < _ by decide, show Nat.log2 _ < _ by decide⟩ | exact Or.inl (Or.inr ⟨show (_ : Int) < _ by decide, show (_ : Int) < _ by decide⟩) | exact Or.inl (Or.inl ⟨show (_ : Int) < _ by decide, show (_ : Int) < _ by decide⟩) | exact ⟨show (0 : Int) ≤ _ by decide, show (_ : Int) ≤ _ by decide, show Int.natAbs _ < _ by decide⟩)) | refine Exists.intro _ (Exists.intro _ (And.intro rfl (And.intro rfl ?_))) | refine Exists.intro _ (And.intro (Le.rf _) ?_) | refine Exists.intro _ (And.intro rfl ?_)))
  refine And.intro (by omega) (fun rr hp hm => ?_)
  obtain rfl : rr = sd rs := pw_uniq hp (sd_pw rs) fun k => (hm k).trans sd_mem.symm
  (conv => whnf)
  rw [intsT_frz]
  obtain ⟨tl, htl⟩ : ∃ tl : Nat → List Int, tl = fun i => (((sd rs).take i).filter (fun r => decide (0 < r))).map (maskR rs) := ⟨_, rfl⟩
  have hs1 : ∀ i r, (sd rs)[i]? = some r → 0 < r → tl (i + 1) = tl i ++ [maskR rs r] := fun i r hr h0 => by
    subst htl
    simp only []
    rw [List.take_add_one, hr, List.filter_append, List.map_append]
    simp [h0]
  have hs2 : ∀ i r, (sd rs)[i]? = some r → ¬ 0 < r → tl (i + 1) = tl i := fun i r hr h0 => by
    subst htl
    simp only []
    rw [List.take_add_one, hr, List.filter_append, List.map_append]
    simp [h0]
  have hlen : ∀ i, i ≤ (sd rs).length → (tl i).length ≤ i := fun i hi => by
    subst htl
    simp only [List.length_map]
    refine Nat.le_trans (List.length_filter_le _ _) ?_
    rw [List.length_take]
    omega
  have hrr : (sd rs).length ≤ rs.length := List.Nodup.length_le_of_subset (hp.imp fun h => by omega) fun k hk => (hm k).mp hk
  have hfin : tl (sd rs).length = tiersR rs := by
    subst htl
    simp only [List.take_length]
    rfl
  refine Loop.ind (fun i g => i ≤ (sd rs).length ∧ ∃ z2 z4 z5, g = [some (.node false .lst (intsT rs)), some (.leaf (.int h)), z2, some (.node true .lst (intsT (tl i))), z4, z5]) ⟨Nat.zero_le _, _, none, none, by rw [htl]; rfl⟩ (fun i t g ht hI R hR => ?_) (fun g hI => ?_)
  · obtain ⟨hi, z2, z4, z5, rfl⟩ := hI
    obtain ⟨r, hr, rfl⟩ := ints_get ht
    have hlt : i < (sd rs).length := (List.getElem?_eq_some_iff.mp hr).1
    have hrm : r ∈ rs := sd_mem.mp (List.mem_of_getElem? hr)
    have r0 := (h0 r hrm).1
    (repeat (first | (refine Nx.mk ?_; (try (dsimp only [nr_none, nr_some, nr_nil, nf_leaf, nf_pin, nf_node, nf_nil, nf_cons, ni_f, ni_t, nw_nil, nw_cons, ns_0, ns_s]))) | (refine And.intro ?_ ?_; focus (first | exact rfl | exact frz_frz _ | exact frz_nf _ _ | exact (show frz _ = _ by assumption) | (show frz _ = _; simp only [nf_node, nf_cons, nf_nil, nf_leaf, frzL_frzL, intsT_frz]; done) | exact frz_ints _ _ | exact Nat.le_of_ble_eq_true rfl | exact (show (0 : Int) < _ by decide) | exact (show (0 : Int) ≤ _ by decide) | exact ⟨show (0 : Int) < _ by decide, show Nat.log2 _ < _ by decide⟩ | exact Or.inl (Or.inr ⟨show (_ : Int) < _ by decide, show (_ : Int) < _ by decide⟩) | exact Or.inl (Or.inl ⟨show (_ : Int) < _ by decide, show (_ : Int) < _ by decide⟩) | exact ⟨show (0 : Int) ≤ _ by decide, show (_ : Int) ≤ _ by decide, show Int.natAbs _ < _ by decide⟩)) | refine Exists.intro _ (Exists.intro _ (And.intro rfl (And.intro rfl ?_))) | refine Exists.intro _ (And.intro (Le.rf _) ?_) | refine Exists.intro _ (And.intro rfl ?_)))
    refine ifB_dec (fun hb => ?_) (fun hb => ?_)
    · exact hR _ ⟨hlt, _, _, _, by rw [hs2 i r hr (by omega)]; rfl⟩
    (repeat (first | (refine Nx.mk ?_; (try (dsimp only [nr_none, nr_some, nr_nil, nf_leaf, nf_pin, nf_node, nf_nil, nf_cons, ni_f, ni_t, nw_nil, nw_cons, ns_0, ns_s]))) | (refine And.intro ?_ ?_; focus (first | exact rfl | exact frz_frz _ | exact frz_nf _ _ | exact (show frz _ = _ by assumption) | (show frz _ = _; simp only [nf_node, nf_cons, nf_nil, nf_leaf, frzL_frzL, intsT_frz]; done) | exact frz_ints _ _ | exact Nat.le_of_ble_eq_true rfl | exact (show (0 : Int) < _ by decide) | exact (show (0 : Int) ≤ _ by decide) | exact ⟨show (0 : Int) < _ by decide, show Nat.log2 _ < _ by decide⟩ | exact Or.inl (Or.inr ⟨show (_ : Int) < _ by decide, show (_ : Int) < _ by decide⟩) | exact Or.inl (Or.inl ⟨show (_ : Int) < _ by decide, show (_ : Int) < _ by decide⟩) | exact ⟨show (0 : Int) ≤ _ by decide, show (_ : Int) ≤ _ by decide, show Int.natAbs _ < _ by decide⟩)) | refine Exists.intro _ (Exists.intro _ (And.intro rfl (And.intro rfl ?_))) | refine Exists.intro _ (And.intro (Le.rf _) ?_) | refine Exists.intro _ (And.intro rfl ?_)))
    refine And.intro (by omega) (And.intro (by omega) ?_)
    obtain ⟨p, hpd⟩ : ∃ p : Nat → Bool, p = fun k => decide (rs[k]? = some r) := ⟨_, rfl⟩
    refine Loop.ind (fun j g => j ≤ h ∧ ∃ z5, g = [some (.node false .lst (intsT rs)), some (.leaf (.int h)), some (.leaf (.int r)), some (.node true .lst (intsT (tl i))), some (.leaf (.int (maskN p j : Nat))), z5]) ⟨Nat.zero_le _, _, rfl⟩ (fun j t g ht hJ R2 hR2 => ?_) (fun g hJ => ?_)
    · obtain ⟨hj, z5, rfl⟩ := hJ
      obtain ⟨hlt2, rfl⟩ := rangeT_get ht
      have hlt2 : j < h := hlt2
      obtain ⟨a, ha⟩ : ∃ a, rs[j]? = some a := ⟨_, List.getElem?_eq_getElem (by omega)⟩
      have hat : atI (intsT rs) (0 + (j : Int)) = some (.leaf (.int a)) := by
        rw [Int.zero_add]
        exact atI_nat (by rw [List.getElem?_map, ha]; rfl)
      have pj : p j = decide (a = r) := by
        rw [hpd]
        simp [ha]
      (repeat (first | (refine Nx.mk ?_; (try (dsimp only [nr_none, nr_some, nr_nil, nf_leaf, nf_pin, nf_node, nf_nil, nf_cons, ni_f, ni_t, nw_nil, nw_cons, ns_0, ns_s]))) | (refine And.intro ?_ ?_; focus (first | exact rfl | exact frz_frz _ | exact frz_nf _ _ | exact (show frz _ = _ by assumption) | (show frz _ = _; simp only [nf_node, nf_cons, nf_nil, nf_leaf, frzL_frzL, intsT_frz]; done) | exact frz_ints _ _ | exact Nat.le_of_ble_eq_true rfl | exact (show (0 : Int) < _ by decide) | exact (show (0 : Int) ≤ _ by decide) | exact ⟨show (0 : Int) < _ by decide, show Nat.log2 _ < _ by decide⟩ | exact Or.inl (Or.inr ⟨show (_ : Int) < _ by decide, show (_ : Int) < _ by decide⟩) | exact Or.inl (Or.inl ⟨show (_ : Int) < _ by decide, show (_ : Int) < _ by decide⟩) | exact ⟨show (0 : Int) ≤ _ by decide, show (_ : Int) ≤ _ by decide, show Int.natAbs _ < _ by decide⟩)) | refine Exists.intro _ (Exists.intro _ (And.intro rfl (And.intro rfl ?_))) | refine Exists.intro _ (And.intro (Le.rf _) ?_) | refine Exists.intro _ (And.intro rfl ?_)))
      refine ⟨_, hat, ?_⟩
      (repeat (first | (refine Nx.mk ?_; (try (dsimp only [nr_none, nr_some, nr_nil, nf_leaf, nf_pin, nf_node, nf_nil, nf_cons, ni_f, ni_t, nw_nil, nw_cons, ns_0, ns_s]))) | (refine And.intro ?_ ?_; focus (first | exact rfl | exact frz_frz _ | exact frz_nf _ _ | exact (show frz _ = _ by assumption) | (show frz _ = _; simp only [nf_node, nf_cons, nf_nil, nf_leaf, frzL_frzL, intsT_frz]; done) | exact frz_ints _ _ | exact Nat.le_of_ble_eq_true rfl | exact (show (0 : Int) < _ by decide) | exact (show (0 : Int) ≤ _ by decide) | exact ⟨show (0 : Int) < _ by decide, show Nat.log2 _ < _ by decide⟩ | exact Or.inl (Or.inr ⟨show (_ : Int) < _ by decide, show (_ : Int) < _ by decide⟩) | exact Or.inl (Or.inl ⟨show (_ : Int) < _ by decide, show (_ : Int) < _ by decide⟩) | exact ⟨show (0 : Int) ≤ _ by decide, show (_ : Int) ≤ _ by decide, show Int.natAbs _ < _ by decide⟩)) | refine Exists.intro _ (Exists.intro _ (And.intro rfl (And.intro rfl ?_))) | refine Exists.intro _ (And.intro (Le.rf _) ?_) | refine Exists.intro _ (And.intro rfl ?_)))
      refine ifB_dec (fun c1 => ?_) (fun c1 => ?_)
      · have e2 : maskN p (j + 1) = 2 ^ j + maskN p j := by
          show (if p j then 2 ^ j + maskN p j else maskN p j) = _
          rw [pj, decide_eq_true c1]
          rfl
        (repeat (first | (refine Nx.mk ?_; (try (dsimp only [nr_none, nr_some, nr_nil, nf_leaf, nf_pin, nf_node, nf_nil, nf_cons, ni_f, ni_t, nw_nil, nw_cons, ns_0, ns_s]))) | (refine And.intro ?_ ?_; focus (first | exact rfl | exact frz_frz _ | exact frz_nf _ _ | exact (show frz _ = _ by assumption) | (show frz _ = _; simp only [nf_node, nf_cons, nf_nil, nf_leaf, frzL_frzL, intsT_frz]; done) | exact frz_ints _ _ | exact Nat.le_of_ble_eq_true rfl | exact (show (0 : Int) < _ by decide) | exact (show (0 : Int) ≤ _ by decide) | exact ⟨show (0 : Int) < _ by decide, show Nat.log2 _ < _ by decide⟩ | exact Or.inl (Or.inr ⟨show (_ : Int) < _ by decide, show (_ : Int) < _ by decide⟩) | exact Or.inl (Or.inl ⟨show (_ : Int) < _ by decide, show (_ : Int) < _ by decide⟩) | exact ⟨show (0 : Int) ≤ _ by decide, show (_ : Int) ≤ _ by decide, show Int.natAbs _ < _ by decide⟩)) | refine Exists.intro _ (Exists.intro _ (And.intro rfl (And.intro rfl ?_))) | refine Exists.intro _ (And.intro (Le.rf _) ?_) | refine Exists.intro _ (And.intro rfl ?_)))
        refine ⟨_, j, by rw [Int.zero_add]; rfl, Int.natCast_nonneg _, by omega, ?_⟩
        rw [mask_next, ← e2]
        exact hR2 _ ⟨hlt2, _, rfl⟩
      · have e2 : maskN p (j + 1) = maskN p j := by
          show (if p j then 2 ^ j + maskN p j else maskN p j) = _
          rw [pj, decide_eq_false c1]
          rfl
        refine hR2 _ ⟨hlt2, some (.leaf (.int (0 + (j : Int)))), ?_⟩
        rw [e2]
        rfl
    · obtain ⟨hj, z5, rfl⟩ := hJ
      rw [rangeT_len] at *
      have em : ((maskN p (h : Int).toNat : Nat) : Int) = maskR rs r := by
        have := mask_len r hl12
        rw [hl, ← hpd] at this
        exact this
      rw [em]
      (repeat (first | (refine Nx.mk ?_; (try (dsimp only [nr_none, nr_some, nr_nil, nf_leaf, nf_pin, nf_node, nf_nil, nf_cons, ni_f, ni_t, nw_nil, nw_cons, ns_0, ns_s]))) | (refine And.intro ?_ ?_; focus (first | exact rfl | exact frz_frz _ | exact frz_nf _ _ | exact (show frz _ = _ by assumption) | (show frz _ = _; simp only [nf_node, nf_cons, nf_nil, nf_leaf, frzL_frzL, intsT_frz]; done) | exact frz_ints _ _ | exact Nat.le_of_ble_eq_true rfl | exact (show (0 : Int) < _ by decide) | exact (show (0 : Int) ≤ _ by decide) | exact ⟨show (0 : Int) < _ by decide, show Nat.log2 _ < _ by decide⟩ | exact Or.inl (Or.inr ⟨show (_ : Int) < _ by decide, show (_ : Int) < _ by decide⟩) | exact Or.inl (Or.inl ⟨show (_ : Int) < _ by decide, show (_ : Int) < _ by decide⟩) | exact ⟨show (0 : Int) ≤ _ by decide, show (_ : Int) ≤ _ by decide, show Int.natAbs _ < _ by decide⟩)) | refine Exists.intro _ (Exists.intro _ (And.intro rfl (And.intro rfl ?_))) | refine Exists.intro _ (And.intro (Le.rf _) ?_) | refine Exists.intro _ (And.intro rfl ?_)))
      refine And.intro ?_ ?_
      · have := hlen i hi
        simp only [intsT, List.length_map]
        show _ < 16777216
        omega
      · have e2 : intsT (tl (i + 1)) = intsT (tl i) ++ [.leaf (.int (maskR rs r))] := by
          rw [hs1 i r hr (by omega)]
          simp [intsT]
        rw [← e2]
        exact hR _ ⟨hlt, _, _, _, rfl⟩
  · obtain ⟨hi, z2, z4, z5, rfl⟩ := hI
    rw [List.length_map] at *
    rw [hfin]
    (repeat (first | (refine Nx.mk ?_; (try (dsimp only [nr_none, nr_some, nr_nil, nf_leaf, nf_pin, nf_node, nf_nil, nf_cons, ni_f, ni_t, nw_nil, nw_cons, ns_0, ns_s]))) | (refine And.intro ?_ ?_; focus (first | exact rfl | exact frz_frz _ | exact frz_nf _ _ | exact (show frz _ = _ by assumption) | (show frz _ = _; simp only [nf_node, nf_cons, nf_nil, nf_leaf, frzL_frzL, intsT_frz]; done) | exact frz_ints _ _ | exact Nat.le_of_ble_eq_true rfl | exact (show (0 : Int) < _ by decide) | exact (show (0 : Int) ≤ _ by decide) | exact ⟨show (0 : Int) < _ by decide, show Nat.log2 _ < _ by decide⟩ | exact Or.inl (Or.inr ⟨show (_ : Int) < _ by decide, show (_ : Int) < _ by decide⟩) | exact Or.inl (Or.inl ⟨show (_ : Int) < _ by decide, show (_ : Int) < _ by decide⟩) | exact ⟨show (0 : Int) ≤ _ by decide, show (_ : Int) ≤ _ by decide, show Int.natAbs _ < _ by decide⟩)) | refine Exists.intro _ (Exists.intro _ (And.intro rfl (And.intro rfl ?_))) | refine Exists.intro _ (And.intro (Le.rf _) ?_) | refine Exists.intro _ (And.intro rfl ?_)))
    (conv => whnf)
    rw [frzL_frzL, intsT_frz]
    refine And.intro ?_ q
    show (true && pureL (intsT (tiersR rs))) = true
    have pure_ints : ∀ ns : List Int, pureL (intsT ns) = true := fun ns => by
      induction ns with
      | nil => rfl
      | cons n ns ih =>
        simp only [intsT, List.map_cons, pureL, pureT, Bool.true_and] at ih ⊢
        exact ih
    rw [pure_ints]
    rfl
theorem tyQ_mk {τ : T} {ty : Ty} {P : Ty → Prop} (e : tyT τ = some ty) (p : P ty) : tyQ τ P := by
  unfold tyQ
  rw [e]
  exact p
theorem rd_slip_of {ts : List T} {Q : T → List T → Prop} {E : Value → List (Str × V) → List T → Prop} (h : sp_slip_of ts Q E) : t_slip_of (bodyEnds [false, false] Q E) (startE 6 (frzP [false, false] ts)) := by
  rcases h with ⟨τ, rs, h, rfl, hf, hk, q⟩ | ⟨τ, h, rfl, hn, q⟩
  · show t_slip_of (bodyEnds [false, false] Q E) (startE 6 [frz τ, .leaf (.int h)])
    rw [hf]
    have fi : frz (T.node false .lst (intsT rs)) = .node false .lst (intsT rs) := frz_ints _ _
    (try simp only [np_t, np_f, np_n, ne_c, ne_n, ne_0, nf_leaf, nf_pin, nf_node])
    (repeat (first | (refine Nx.mk ?_; (try (dsimp only [nr_none, nr_some, nr_nil, nf_leaf, nf_pin, nf_node, nf_nil, nf_cons, ni_f, ni_t, nw_nil, nw_cons, ns_0, ns_s]))) | (refine And.intro ?_ ?_; focus (first | exact rfl | exact frz_frz _ | exact frz_nf _ _ | exact (show frz _ = _ by assumption) | (show frz _ = _; simp only [nf_node, nf_cons, nf_nil, nf_leaf, frzL_frzL, intsT_frz]; done) | exact frz_ints _ _ | exact Nat.le_of_ble_eq_true rfl | exact (show (0 : Int) < _ by decide) | exact (show (0 : Int) ≤ _ by decide) | exact ⟨show (0 : Int) < _ by decide, show Nat.log2 _ < _ by decide⟩ | exact Or.inl (Or.inr ⟨show (_ : Int) < _ by decide, show (_ : Int) < _ by decide⟩) | exact Or.inl (Or.inl ⟨show (_ : Int) < _ by decide, show (_ : Int) < _ by decide⟩) | exact ⟨show (0 : Int) ≤ _ by decide, show (_ : Int) ≤ _ by decide, show Int.natAbs _ < _ by decide⟩)) | refine Exists.intro _ (Exists.intro _ (And.intro rfl (And.intro rfl ?_))) | refine Exists.intro _ (And.intro (Le.rf _) ?_) | refine Exists.intro _ (And.intro rfl ?_)))
    refine ifB_of (fun z => ?_) (fun _ => ?_)
    · simp [hk.1] at z
    refine Nx.mk ?_
    refine check_loop (D := seqE t_slip_of_15 (bodyEnds [false, false] Q E)) (fun t ht => ?_) (fun hg z => ⟨slip_good hk q⟩) (fun ⟨t, ht, hb⟩ => ?_)
    · obtain ⟨i, _, rfl⟩ := List.mem_map.mp ht
      exact ⟨rfl, true, rfl⟩
    · obtain ⟨i, hi, rfl⟩ := List.mem_map.mp ht
      have := hk.2.2 i hi
      rcases hb with hb | ⟨k, e, hb⟩
      · cases hb
      · cases e
        omega
  · show t_slip_of (bodyEnds [false, false] Q E) (startE 6 [frz τ, .leaf (.int h)])
    have hff : frz (frz τ) = frz τ := frz_frz τ
    generalize frz τ = σ at *
    rcases hn with ⟨ty, ht, hl⟩ | ⟨us, rfl, hw, hb⟩
    · (try simp only [ne_c, ne_n, ne_0])
      refine And.intro hff ?_
      refine And.intro rfl ?_
      refine tyQ_mk ht ?_
      cases ty <;> first | exact absurd hl (by decide) | exact q
    · (repeat (first | (refine Nx.mk ?_; (try (dsimp only [nr_none, nr_some, nr_nil, nf_leaf, nf_pin, nf_node, nf_nil, nf_cons, ni_f, ni_t, nw_nil, nw_cons, ns_0, ns_s]))) | (refine And.intro ?_ ?_; focus (first | exact rfl | exact frz_frz _ | exact frz_nf _ _ | exact (show frz _ = _ by assumption) | (show frz _ = _; simp only [nf_node, nf_cons, nf_nil, nf_leaf, frzL_frzL, intsT_frz]; done) | exact frz_ints _ _ | exact Nat.le_of_ble_eq_true rfl | exact (show (0 : Int) < _ by decide) | exact (show (0 : Int) ≤ _ by decide) | exact ⟨show (0 : Int) < _ by decide, show Nat.log2 _ < _ by decide⟩ | exact Or.inl (Or.inr ⟨show (_ : Int) < _ by decide, show (_ : Int) < _ by decide⟩) | exact Or.inl (Or.inl ⟨show (_ : Int) < _ by decide, show (_ : Int) < _ by decide⟩) | exact ⟨show (0 : Int) ≤ _ by decide, show (_ : Int) ≤ _ by decide, show Int.natAbs _ < _ by decide⟩)) | refine Exists.intro _ (Exists.intro _ (And.intro rfl (And.intro rfl ?_))) | refine Exists.intro _ (And.intro (Le.rf _) ?_) | refine Exists.intro _ (And.intro rfl ?_)))
      refine ifB_of (fun _ => q) (fun z => ?_)
      have hlen : us.length = h := by
        have : (us.length : Int) = h := by simpa using z
        omega
      have hb' : ∃ t ∈ us, badT t := hb.elim (fun z => absurd hlen z) id
      refine Nx.mk ?_
      exact check_loop (D := seqE t_slip_of_15 (bodyEnds [false, false] Q E)) hw (fun hg => by obtain ⟨t, ht, hb⟩ := hb'; exact absurd hb (hg t ht)) (fun _ _ => q)
theorem tiersR_ok {rs : List Int} (hl : rs.length ≤ 12) : (tiersR rs).length ≤ 12 ∧ ∀ m ∈ tiersR rs, 0 ≤ m ∧ m < 2 ^ 12 := by
  refine ⟨?_, fun m hm => ?_⟩
  · unfold tiersR
    rw [List.length_map]
    refine Nat.le_trans (List.length_filter_le _ _) (Nat.le_trans (List.Nodup.length_le_of_subset ((sd_pw rs).imp fun h => by omega) fun k hk => sd_mem.mp hk) hl)
  · obtain ⟨r, _, rfl⟩ := List.mem_map.mp hm
    rw [← mask_len r hl]
    have h1 := maskN_lt (fun k => decide (rs[k]? = some r)) rs.length
    have h2 : 2 ^ rs.length ≤ 2 ^ 12 := Nat.pow_le_pow_right (by decide) hl
    omega
theorem toP_tints (o : Bool) (ns : List Int) : toP (.node o .tup (intsT ns)) = some (.tuple (ns.map .int)) := by
  simp only [toP, toPL_ints]
  rfl
theorem good_tints {ns : List Int} (h : ∀ n ∈ ns, n.natAbs < 2 ^ 1800) (hl : ns.length ≤ 7000) : GoodD (.tuple (ns.map .int)) := ⟨by simpa [smallD] using smallL_ints h, by simp [PyData.depth, depthAll_ints], by simp [szD, szL_ints]; omega⟩
theorem plainR_ok {rs : List Int} (hl : rs.length ≤ 12) (h0 : ∀ x ∈ rs, 0 ≤ x) : (plainR (tiersR rs) rs.length).length = rs.length ∧ ∀ x ∈ plainR (tiersR rs) rs.length, 0 ≤ x ∧ x ≤ 12 := by
  rw [plain_tiers hl h0]
  refine ⟨List.length_map .., fun x hx => ?_⟩
  obtain ⟨r, hr, rfl⟩ := List.mem_map.mp hx
  have := gapless_le (rs := rs) r
  refine ⟨?_, by omega⟩
  unfold gapless
  omega
theorem rd__law_slip {ts : List T} {Q : T → List T → Prop} {E : Value → List (Str × V) → List T → Prop} (h : sp__law_slip ts Q E) : t__law_slip (bodyEnds [true, false] Q E) (startE 2 (frzP [true, false] ts)) := by
  obtain ⟨bag, n, rfl, hb, h1, h2, q⟩ := h
  (try simp only [np_t, np_f, np_n, ne_c, ne_n, ne_0, nf_leaf, nf_pin, nf_node])
  (repeat (first | (refine Nx.mk ?_; (try (dsimp only [nr_none, nr_some, nr_nil, nf_leaf, nf_pin, nf_node, nf_nil, nf_cons, ni_f, ni_t, nw_nil, nw_cons, ns_0, ns_s]))) | (refine And.intro ?_ ?_; focus (first | exact rfl | exact frz_frz _ | exact frz_nf _ _ | exact (show frz _ = _ by assumption) | (show frz _ = _; simp only [nf_node, nf_cons, nf_nil, nf_leaf, frzL_frzL, intsT_frz]; done) | exact frz_ints _ _ | exact Nat.le_of_ble_eq_true rfl | exact (show (0 : Int) < _ by decide) | exact (show (0 : Int) ≤ _ by decide) | exact ⟨show (0 : Int) < _ by decide, show Nat.log2 _ < _ by decide⟩ | exact Or.inl (Or.inr ⟨show (_ : Int) < _ by decide, show (_ : Int) < _ by decide⟩) | exact Or.inl (Or.inl ⟨show (_ : Int) < _ by decide, show (_ : Int) < _ by decide⟩) | exact ⟨show (0 : Int) ≤ _ by decide, show (_ : Int) ≤ _ by decide, show Int.natAbs _ < _ by decide⟩)) | refine Exists.intro _ (Exists.intro _ (And.intro rfl (And.intro rfl ?_))) | refine Exists.intro _ (And.intro (Le.rf _) ?_) | refine Exists.intro _ (And.intro rfl ?_)))
  refine ⟨bag, n, rfl, hb, h1, h2, fun rs bag' hl h0 hb' => ?_⟩
  (repeat (first | (refine Nx.mk ?_; (try (dsimp only [nr_none, nr_some, nr_nil, nf_leaf, nf_pin, nf_node, nf_nil, nf_cons, ni_f, ni_t, nw_nil, nw_cons, ns_0, ns_s]))) | (refine And.intro ?_ ?_; focus (first | exact rfl | exact frz_frz _ | exact frz_nf _ _ | exact (show frz _ = _ by assumption) | (show frz _ = _; simp only [nf_node, nf_cons, nf_nil, nf_leaf, frzL_frzL, intsT_frz]; done) | exact frz_ints _ _ | exact Nat.le_of_ble_eq_true rfl | exact (show (0 : Int) < _ by decide) | exact (show (0 : Int) ≤ _ by decide) | exact ⟨show (0 : Int) < _ by decide, show Nat.log2 _ < _ by decide⟩ | exact Or.inl (Or.inr ⟨show (_ : Int) < _ by decide, show (_ : Int) < _ by decide⟩) | exact Or.inl (Or.inl ⟨show (_ : Int) < _ by decide, show (_ : Int) < _ by decide⟩) | exact ⟨show (0 : Int) ≤ _ by decide, show (_ : Int) ≤ _ by decide, show Int.natAbs _ < _ by decide⟩)) | refine Exists.intro _ (Exists.intro _ (And.intro rfl (And.intro rfl ?_))) | refine Exists.intro _ (And.intro (Le.rf _) ?_) | refine Exists.intro _ (And.intro rfl ?_)))
  refine ⟨true, rs, rfl, by omega, ?_⟩
  (repeat (first | (refine Nx.mk ?_; (try (dsimp only [nr_none, nr_some, nr_nil, nf_leaf, nf_pin, nf_node, nf_nil, nf_cons, ni_f, ni_t, nw_nil, nw_cons, ns_0, ns_s]))) | (refine And.intro ?_ ?_; focus (first | exact rfl | exact frz_frz _ | exact frz_nf _ _ | exact (show frz _ = _ by assumption) | (show frz _ = _; simp only [nf_node, nf_cons, nf_nil, nf_leaf, frzL_frzL, intsT_frz]; done) | exact frz_ints _ _ | exact Nat.le_of_ble_eq_true rfl | exact (show (0 : Int) < _ by decide) | exact (show (0 : Int) ≤ _ by decide) | exact ⟨show (0 : Int) < _ by decide, show Nat.log2 _ < _ by decide⟩ | exact Or.inl (Or.inr ⟨show (_ : Int) < _ by decide, show (_ : Int) < _ by decide⟩) | exact Or.inl (Or.inl ⟨show (_ : Int) < _ by decide, show (_ : Int) < _ by decide⟩) | exact ⟨show (0 : Int) ≤ _ by decide, show (_ : Int) ≤ _ by decide, show Int.natAbs _ < _ by decide⟩)) | refine Exists.intro _ (Exists.intro _ (And.intro rfl (And.intro rfl ?_))) | refine Exists.intro _ (And.intro (Le.rf _) ?_) | refine Exists.intro _ (And.intro rfl ?_)))
  exact q rs bag' hl h0 hb'
theorem rd__law_ballots {ts : List T} {Q : T → List T → Prop} {E : Value → List (Str × V) → List T → Prop} (h : sp__law_ballots ts Q E) : t__law_ballots (bodyEnds [true, false] Q E) (startE 2 (frzP [true, false] ts)) := by
  obtain ⟨bag, n, rfl, hb, h1, h2, q⟩ := h
  (try simp only [np_t, np_f, np_n, ne_c, ne_n, ne_0, nf_leaf, nf_pin, nf_node])
  (repeat (first | (refine Nx.mk ?_; (try (dsimp only [nr_none, nr_some, nr_nil, nf_leaf, nf_pin, nf_node, nf_nil, nf_cons, ni_f, ni_t, nw_nil, nw_cons, ns_0, ns_s]))) | (refine And.intro ?_ ?_; focus (first | exact rfl | exact frz_frz _ | exact frz_nf _ _ | exact (show frz _ = _ by assumption) | (show frz _ = _; simp only [nf_node, nf_cons, nf_nil, nf_leaf, frzL_frzL, intsT_frz]; done) | exact frz_ints _ _ | exact Nat.le_of_ble_eq_true rfl | exact (show (0 : Int) < _ by decide) | exact (show (0 : Int) ≤ _ by decide) | exact ⟨show (0 : Int) < _ by decide, show Nat.log2 _ < _ by decide⟩ | exact Or.inl (Or.inr ⟨show (_ : Int) < _ by decide, show (_ : Int) < _ by decide⟩) | exact Or.inl (Or.inl ⟨show (_ : Int) < _ by decide, show (_ : Int) < _ by decide⟩) | exact ⟨show (0 : Int) ≤ _ by decide, show (_ : Int) ≤ _ by decide, show Int.natAbs _ < _ by decide⟩)) | refine Exists.intro _ (Exists.intro _ (And.intro rfl (And.intro rfl ?_))) | refine Exists.intro _ (And.intro (Le.rf _) ?_) | refine Exists.intro _ (And.intro rfl ?_)))
  refine ⟨bag, true, _, rfl, hb, by simp, by simp, fun t bag1 ht1 hb1 => ?_⟩
  have hm : ∃ m : Int, frz t = .leaf (.int m) ∧ 1 ≤ m ∧ m ≤ n := by
    simp only [List.mem_cons, List.not_mem_nil, or_false] at ht1
    rcases ht1 with rfl | rfl | rfl | rfl
    · exact ⟨_, rfl, by decide, by omega⟩
    · exact ⟨_, rfl, by decide, by omega⟩
    · exact ⟨_, rfl, by decide, by omega⟩
    · exact ⟨_, rfl, by omega, by omega⟩
  obtain ⟨m, hm, m1, m2⟩ := hm
  rw [hm]
  (repeat (first | (refine Nx.mk ?_; (try (dsimp only [nr_none, nr_some, nr_nil, nf_leaf, nf_pin, nf_node, nf_nil, nf_cons, ni_f, ni_t, nw_nil, nw_cons, ns_0, ns_s]))) | (refine And.intro ?_ ?_; focus (first | exact rfl | exact frz_frz _ | exact frz_nf _ _ | exact (show frz _ = _ by assumption) | (show frz _ = _; simp only [nf_node, nf_cons, nf_nil, nf_leaf, frzL_frzL, intsT_frz]; done) | exact frz_ints _ _ | exact Nat.le_of_ble_eq_true rfl | exact (show (0 : Int) < _ by decide) | exact (show (0 : Int) ≤ _ by decide) | exact ⟨show (0 : Int) < _ by decide, show Nat.log2 _ < _ by decide⟩ | exact Or.inl (Or.inr ⟨show (_ : Int) < _ by decide, show (_ : Int) < _ by decide⟩) | exact Or.inl (Or.inl ⟨show (_ : Int) < _ by decide, show (_ : Int) < _ by decide⟩) | exact ⟨show (0 : Int) ≤ _ by decide, show (_ : Int) ≤ _ by decide, show Int.natAbs _ < _ by decide⟩)) | refine Exists.intro _ (Exists.intro _ (And.intro rfl (And.intro rfl ?_))) | refine Exists.intro _ (And.intro (Le.rf _) ?_) | refine Exists.intro _ (And.intro rfl ?_)))
  refine ⟨bag1, m, rfl, hb1, by omega, .inl (by omega), fun w bag2 w0 w1 hb2 => ?_⟩
  (repeat (first | (refine Nx.mk ?_; (try (dsimp only [nr_none, nr_some, nr_nil, nf_leaf, nf_pin, nf_node, nf_nil, nf_cons, ni_f, ni_t, nw_nil, nw_cons, ns_0, ns_s]))) | (refine And.intro ?_ ?_; focus (first | exact rfl | exact frz_frz _ | exact frz_nf _ _ | exact (show frz _ = _ by assumption) | (show frz _ = _; simp only [nf_node, nf_cons, nf_nil, nf_leaf, frzL_frzL, intsT_frz]; done) | exact frz_ints _ _ | exact Nat.le_of_ble_eq_true rfl | exact (show (0 : Int) < _ by decide) | exact (show (0 : Int) ≤ _ by decide) | exact ⟨show (0 : Int) < _ by decide, show Nat.log2 _ < _ by decide⟩ | exact Or.inl (Or.inr ⟨show (_ : Int) < _ by decide, show (_ : Int) < _ by decide⟩) | exact Or.inl (Or.inl ⟨show (_ : Int) < _ by decide, show (_ : Int) < _ by decide⟩) | exact ⟨show (0 : Int) ≤ _ by decide, show (_ : Int) ≤ _ by decide, show Int.natAbs _ < _ by decide⟩)) | refine Exists.intro _ (Exists.intro _ (And.intro rfl (And.intro rfl ?_))) | refine Exists.intro _ (And.intro (Le.rf _) ?_) | refine Exists.intro _ (And.intro rfl ?_)))
  exact q _ _ (by omega) (by omega) hb2
theorem ixK_map (kvs : List (List Int × Int)) (s : List Int) : (ixK (kvs.map fun p => ik p.1) (ik s)).bind ((kvs.map fun p => T.leaf (.int p.2))[·]?) = (getK kvs s).map fun n => .leaf (.int n) := by
  induction kvs with
  | nil => rfl
  | cons p r ih =>
    simp only [List.map_cons, ixK, getK]
    by_cases h : p.1 = s
    · rw [if_pos (by rw [h]), if_pos h]
      rfl
    · rw [if_neg (fun z => h (ik_inj z)), if_neg h, ← ih]
      cases ixK (r.map fun p => ik p.1) (ik s) <;> rfl
theorem putK_ks (s : List Int) (v : Int) : ∀ kvs : List (List Int × Int), match ixK (kvs.map fun p => ik p.1) (ik s) with
    | some j => (kvs.map fun p => T.leaf (.int p.2)).set j (.leaf (.int v)) = ((putK kvs s v).map fun p => T.leaf (.int p.2)) ∧ (kvs.map fun p => ik p.1) = (putK kvs s v).map fun p => ik p.1
    | none => (kvs.map fun p => ik p.1) ++ [ik s] = ((putK kvs s v).map fun p => ik p.1) ∧ (kvs.map fun p => T.leaf (.int p.2)) ++ [.leaf (.int v)] = (putK kvs s v).map fun p => T.leaf (.int p.2)
  | [] => ⟨rfl, rfl⟩
  | p :: r => by
    have ih := putK_ks s v r
    simp only [List.map_cons, ixK, putK]
    by_cases h : p.1 = s
    · rw [if_pos (by rw [h]), if_pos h]
      exact ⟨rfl, rfl⟩
    · rw [if_neg (fun z => h (ik_inj z)), if_neg h]
      cases e : ixK (r.map fun p => ik p.1) (ik s) with
      | none =>
        rw [e] at ih
        exact ⟨congrArg (ik p.1 :: ·) ih.1, congrArg (T.leaf (.int p.2) :: ·) ih.2⟩
      | some j =>
        rw [e] at ih
        exact ⟨congrArg (T.leaf (.int p.2) :: ·) ih.1, congrArg (ik p.1 :: ·) ih.2⟩
theorem putK_node (kvs : List (List Int × Int)) (s : List Int) (v : Int) : putT .dT (kvs.map fun p => ik p.1) (kvs.map fun p => T.leaf (.int p.2)) (ik s) (.leaf (.int v)) = dI true (putK kvs s v) := by
  have h := putK_ks s v kvs
  unfold putT
  cases e : ixK (kvs.map fun p => ik p.1) (ik s) with
  | none =>
    rw [e] at h
    show T.node true (.dT _) _ = T.node true (.dT _) _
    rw [h.1, h.2]
  | some j =>
    rw [e] at h
    show T.node true (.dT _) _ = T.node true (.dT _) _
    rw [h.1, h.2]
theorem putK_mem {s k : List Int} {v : Int} : ∀ {kvs : List (List Int × Int)}, k ∈ (putK kvs s v).map (·.1) ↔ k ∈ kvs.map (·.1) ∨ k = s
  | [] => by simp [putK]
  | p :: r => by
    have ih := putK_mem (s := s) (k := k) (v := v) (kvs := r)
    simp only [putK]
    by_cases h : p.1 = s
    · rw [if_pos h]
      simp only [List.map_cons, List.mem_cons]
      constructor
      · intro z
        exact .inl z
      · rintro (z | z)
        · exact z
        · exact .inl (by rw [z, h])
    · rw [if_neg h]
      simp only [List.map_cons, List.mem_cons, ih]
      constructor
      · rintro (z | z | z)
        · exact .inl (.inl z)
        · exact .inl (.inr z)
        · exact .inr z
      · rintro ((z | z) | z)
        · exact .inl z
        · exact .inr (.inl z)
        · exact .inr (.inr z)
theorem putK_nodup {s : List Int} {v : Int} : ∀ {kvs : List (List Int × Int)}, (kvs.map (·.1)).Nodup → ((putK kvs s v).map (·.1)).Nodup
  | [], _ => by simp [putK]
  | p :: r, h => by
    simp only [List.map_cons, List.nodup_cons] at h
    simp only [putK]
    by_cases e : p.1 = s
    · rw [if_pos e]
      simp only [List.map_cons, List.nodup_cons]
      exact h
    · rw [if_neg e]
      simp only [List.map_cons, List.nodup_cons]
      refine ⟨fun z => ?_, putK_nodup h.2⟩
      rcases putK_mem.mp z with z | z
      · exact h.1 z
      · exact e z
theorem putK_len {s : List Int} {v : Int} : ∀ {kvs : List (List Int × Int)}, (putK kvs s v).length ≤ kvs.length + 1
  | [] => by simp [putK]
  | p :: r => by
    simp only [putK]
    by_cases e : p.1 = s
    · rw [if_pos e]
      simp
    · rw [if_neg e]
      have := putK_len (s := s) (v := v) (kvs := r)
      simp only [List.length_cons]
      omega
theorem gather_step {lines : List (List Int × Int)} {i : Nat} {l : List Int × Int} (h : lines[i]? = some l) : gatherK (lines.take (i + 1)) = addK (gatherK (lines.take i)) l := by
  unfold gatherK
  rw [List.take_add_one, h]
  simp
theorem gather_ok (lines : List (List Int × Int)) : ((gatherK lines).map (·.1)).Nodup ∧ (gatherK lines).length ≤ lines.length := by
  unfold gatherK
  have key : ∀ (ls : List (List Int × Int)) (kvs : List (List Int × Int)), (kvs.map (·.1)).Nodup → ((ls.foldl addK kvs).map (·.1)).Nodup ∧ (ls.foldl addK kvs).length ≤ kvs.length + ls.length := by
    intro ls
    induction ls with
    | nil => exact fun kvs h => ⟨h, by simp⟩
    | cons l r ih =>
      intro kvs h
      have hn : ((addK kvs l).map (·.1)).Nodup := putK_nodup h
      have hl : (addK kvs l).length ≤ kvs.length + 1 := putK_len
      obtain ⟨h1, h2⟩ := ih (addK kvs l) hn
      refine ⟨h1, ?_⟩
      rw [List.foldl_cons, List.length_cons]
      omega
  have := key lines [] (by simp)
  simpa using this
theorem ks_nodup {kvs : List (List Int × Int)} (h : (kvs.map (·.1)).Nodup) : (kvs.map fun p => ik p.1).Nodup := by
  have : (kvs.map fun p => ik p.1) = (kvs.map (·.1)).map ik := by rw [List.map_map]; rfl
  rw [this]
  exact List.Pairwise.map _ (fun a b hab z => hab (ik_inj z)) h
theorem frz_leaves (kvs : List (List Int × Int)) : frzL (kvs.map fun p => T.leaf (.int p.2)) = kvs.map fun p => T.leaf (.int p.2) := by
  rw [frzL_map, List.map_map]
  rfl
theorem frz_line (p : List Int × Int) : frz (lineT p) = lineT p := by
  simp only [nf_node, nf_cons, nf_nil, nf_leaf, intsT_frz]
theorem frz_lines (ls : List (List Int × Int)) : frzL (ls.map lineT) = ls.map lineT := by
  rw [frzL_map, List.map_map]
  exact List.map_congr_left fun p _ => frz_line p
theorem flatI_ints' (s : List Int) : flatI (frzL (intsT s)) = some s := by rw [intsT_frz]; exact flatI_ints s
theorem fm_filter {α β : Type} (f : α → β) (P : α → Prop) [DecidablePred P] : ∀ l : List α, l.filterMap (fun p => if P p then some (f p) else none) = (l.filter fun p => decide (P p)).map f
  | [] => rfl
  | a :: l => by
    by_cases h : P a
    · simp [h, fm_filter f P l]
    · simp [h, fm_filter f P l]
theorem fm_some {α β : Type} (f : α → β) : ∀ l : List α, l.filterMap (fun s => some (f s)) = l.map f
  | [] => rfl
  | a :: l => by simp [fm_some f l]
theorem pure_key (s : List Int) : pureL (intsT s) = true := by
  have := pure_ints' s
  simpa [pureT] using this
theorem pure_lines (o : Bool) (ls : List (List Int × Int)) : pureT (.node true .lst (ls.map lineT)) = true := by
  have : pureL (ls.map lineT) = true := by
    induction ls with
    | nil => rfl
    | cons p r ih =>
      simp only [List.map_cons, pureL, pureT, isTup, Bool.false_or, Bool.or_true, Bool.true_and, Bool.and_true, Bool.and_eq_true]
      exact ⟨pure_key p.1, ih⟩
  simpa [pureT] using this
theorem rd_put_together {ts : List T} {Q : T → List T → Prop} {E : Value → List (Str × V) → List T → Prop} (h : sp_put_together ts Q E) : t_put_together (bodyEnds [false] Q E) (startE 5 (frzP [false] ts)) := by
  obtain ⟨τ, lines, rfl, ⟨⟨o, xs, rfl, hx⟩, h01, hl⟩, q⟩ := h
  (try simp only [np_t, np_f, np_n, ne_c, ne_n, ne_0, nf_leaf, nf_pin, nf_node])
  (repeat (first | (refine Nx.mk ?_; (try (dsimp only [nr_none, nr_some, nr_nil, nf_leaf, nf_pin, nf_node, nf_nil, nf_cons, ni_f, ni_t, nw_nil, nw_cons, ns_0, ns_s]))) | (refine And.intro ?_ ?_; focus (first | exact rfl | exact frz_frz _ | exact frz_nf _ _ | exact (show frz _ = _ by assumption) | (show frz _ = _; simp only [nf_node, nf_cons, nf_nil, nf_leaf, frzL_frzL, intsT_frz]; done) | exact frz_ints _ _ | exact Nat.le_of_ble_eq_true rfl | exact (show (0 : Int) < _ by decide) | exact (show (0 : Int) ≤ _ by decide) | exact ⟨show (0 : Int) < _ by decide, show Nat.log2 _ < _ by decide⟩ | exact Or.inl (Or.inr ⟨show (_ : Int) < _ by decide, show (_ : Int) < _ by decide⟩) | exact Or.inl (Or.inl ⟨show (_ : Int) < _ by decide, show (_ : Int) < _ by decide⟩) | exact ⟨show (0 : Int) ≤ _ by decide, show (_ : Int) ≤ _ by decide, show Int.natAbs _ < _ by decide⟩)) | refine Exists.intro _ (Exists.intro _ (And.intro rfl (And.intro rfl ?_))) | refine Exists.intro _ (And.intro (Le.rf _) ?_) | refine Exists.intro _ (And.intro rfl ?_)))
  (conv => whnf)
  rw [frzL_frzL, hx]
  refine Loop.fit lines lineT rfl (fun kvs => [none, some (some (dI true kvs)), none, none, none]) (fun i kvs => kvs = gatherK (lines.take i)) [] rfl (by repeat' (first | exact Fits.e | refine Fits.n ?_ | refine Fits.s rfl ?_)) (fun i l kvs g hi hI hF R hR => ?_) fun kvs g hI hF => ?_
  · (repeat (first | (obtain ⟨_, rfl, hF⟩ := hF) | (obtain ⟨_, _, rfl, hF⟩ := hF))); (try cases hF)
    have hl01 := h01 l (List.mem_of_getElem? hi)
    have ok := gather_ok (lines.take i)
    rw [← hI] at ok
    have hlt : kvs.length ≤ 10000 := by have := ok.2; rw [List.length_take] at this; omega
    (repeat (first | (refine Nx.mk ?_; (try (dsimp only [nr_none, nr_some, nr_nil, nf_leaf, nf_pin, nf_node, nf_nil, nf_cons, ni_f, ni_t, nw_nil, nw_cons, ns_0, ns_s]))) | (refine And.intro ?_ ?_; focus (first | exact rfl | exact frz_frz _ | exact frz_nf _ _ | exact (show frz _ = _ by assumption) | (show frz _ = _; simp only [nf_node, nf_cons, nf_nil, nf_leaf, frzL_frzL, intsT_frz]; done) | exact frz_ints _ _ | exact Nat.le_of_ble_eq_true rfl | exact (show (0 : Int) < _ by decide) | exact (show (0 : Int) ≤ _ by decide) | exact ⟨show (0 : Int) < _ by decide, show Nat.log2 _ < _ by decide⟩ | exact Or.inl (Or.inr ⟨show (_ : Int) < _ by decide, show (_ : Int) < _ by decide⟩) | exact Or.inl (Or.inl ⟨show (_ : Int) < _ by decide, show (_ : Int) < _ by decide⟩) | exact ⟨show (0 : Int) ≤ _ by decide, show (_ : Int) ≤ _ by decide, show Int.natAbs _ < _ by decide⟩)) | refine Exists.intro _ (Exists.intro _ (And.intro rfl (And.intro rfl ?_))) | refine Exists.intro _ (And.intro (Le.rf _) ?_) | refine Exists.intro _ (And.intro rfl ?_)))
    simp only [nf_cons, nf_nil, nf_node, nf_leaf, intsT_frz]
    (conv => whnf)
    refine And.intro trivial ?_
    (conv => whnf)
    refine And.intro (frz_frz (.node false .tup (intsT l.1))) ?_
    (conv => whnf)
    refine And.intro trivial ⟨l.1, flatI_ints' l.1, hl01, by simp, ?_⟩
    rw [ixK_map]
    rename_i w0 w2 w3 w4
    have put : ∀ v, (getK kvs l.1).getD 0 + l.2 = v → R [w0, some (dI true (putK kvs l.1 v)), some (frz (.node false .tup (intsT l.1))), some (.leaf (.int l.2)), w4] := fun v hv => by
      subst hv
      exact hR (addK kvs l) _ (by rw [gather_step hi, hI]) (by repeat' (first | exact Fits.e | refine Fits.n ?_ | refine Fits.s rfl ?_))
    cases e : getK kvs l.1 with
    | some n =>
      rw [e] at put
      refine And.intro rfl ?_
      (conv => whnf)
      refine And.intro rfl ?_
      (conv => whnf)
      refine And.intro (frz_frz (.node false .tup (intsT l.1))) ?_
      (conv => whnf)
      refine ⟨l.1, flatI_ints' l.1, hl01, ks_nodup ok.1, by simp, (by rw [List.length_map]; show _ < 16777216; omega), ?_⟩
      rw [putK_node]
      exact put _ rfl
    | none =>
      rw [e] at put
      (conv => whnf)
      refine And.intro rfl ?_
      (conv => whnf)
      refine And.intro (frz_frz (.node false .tup (intsT l.1))) ?_
      (conv => whnf)
      refine ⟨l.1, flatI_ints' l.1, hl01, ks_nodup ok.1, by simp, (by rw [List.length_map]; show _ < 16777216; omega), ?_⟩
      rw [putK_node]
      exact put _ rfl
  · (repeat (first | (obtain ⟨_, rfl, hF⟩ := hF) | (obtain ⟨_, _, rfl, hF⟩ := hF))); (try cases hF)
    rw [List.take_of_length_le (Nat.le_refl _)] at hI
    have ok := gather_ok lines
    rw [← hI] at ok
    refine ⟨kvs, (by simp only [nf_node, frz_leaves]), ok.1, ?_⟩
    (conv => whnf)
    rw [frz_lines]
    refine Lc.fx (kvs.mergeSort leK) lineT rfl (fun p => if p.2 ≠ 0 then some (lineT p) else none) (by rw [List.length_mergeSort]; show _ ≤ 16777216; omega) (fun p hp acc R' hacc h1 h2 => ?_) ?_
    · refine And.intro (frz_frz _) ?_
      (conv => whnf)
      refine ⟨.leaf (.int p.2), rfl, ?_⟩
      (repeat (first | (refine Nx.mk ?_; (try (dsimp only [nr_none, nr_some, nr_nil, nf_leaf, nf_pin, nf_node, nf_nil, nf_cons, ni_f, ni_t, nw_nil, nw_cons, ns_0, ns_s]))) | (refine And.intro ?_ ?_; focus (first | exact rfl | exact frz_frz _ | exact frz_nf _ _ | exact (show frz _ = _ by assumption) | (show frz _ = _; simp only [nf_node, nf_cons, nf_nil, nf_leaf, frzL_frzL, intsT_frz]; done) | exact frz_ints _ _ | exact Nat.le_of_ble_eq_true rfl | exact (show (0 : Int) < _ by decide) | exact (show (0 : Int) ≤ _ by decide) | exact ⟨show (0 : Int) < _ by decide, show Nat.log2 _ < _ by decide⟩ | exact Or.inl (Or.inr ⟨show (_ : Int) < _ by decide, show (_ : Int) < _ by decide⟩) | exact Or.inl (Or.inl ⟨show (_ : Int) < _ by decide, show (_ : Int) < _ by decide⟩) | exact ⟨show (0 : Int) ≤ _ by decide, show (_ : Int) ≤ _ by decide, show Int.natAbs _ < _ by decide⟩)) | refine Exists.intro _ (Exists.intro _ (And.intro rfl (And.intro rfl ?_))) | refine Exists.intro _ (And.intro (Le.rf _) ?_) | refine Exists.intro _ (And.intro rfl ?_)))
      refine ifB_of (fun c => ?_) (fun c => ?_)
      · refine And.intro (frz_frz (lineT p)) (And.intro hacc ?_)
        show R' _ (acc ++ [frz (lineT p)])
        rw [frz_line]
        exact h1 _ (if_pos (by simpa using c))
      · exact h2 (if_neg (by simpa using c))
    · rw [fm_filter lineT (fun p => p.2 ≠ 0), hI]
      exact q
theorem frz_keys (ls : List (List Int)) : frzL (ls.map keyT) = ls.map keyT := by
  rw [frzL_map, List.map_map]
  exact List.map_congr_left fun s _ => by simp only [Function.comp, nf_node, intsT_frz]
theorem getK_mem {s : List Int} : ∀ {kvs : List (List Int × Int)}, s ∈ kvs.map (·.1) → ∃ n, getK kvs s = some n
  | [], h => by simp at h
  | p :: r, h => by
    simp only [getK]
    by_cases e : p.1 = s
    · exact ⟨p.2, if_pos e⟩
    · rw [if_neg e]
      simp only [List.map_cons, List.mem_cons] at h
      exact getK_mem (h.resolve_left fun z => e z.symm)
theorem getK_at {p : List Int × Int} : ∀ {kvs : List (List Int × Int)}, (kvs.map (·.1)).Nodup → p ∈ kvs → getK kvs p.1 = some p.2
  | [], _, h => by cases h
  | q :: r, hn, h => by
    simp only [List.map_cons, List.nodup_cons] at hn
    simp only [getK]
    rcases List.mem_cons.mp h with rfl | h
    · exact if_pos rfl
    · rw [if_neg fun e => hn.1 (by rw [e]; exact List.mem_map_of_mem h)]
      exact getK_at hn.2 h
theorem lawK_eq (lines : List (List Int × Int)) : lawK lines = (gatherK lines).mergeSort leK := by
  unfold lawK
  have e : ((gatherK lines).map (·.1)).mergeSort leL = ((gatherK lines).mergeSort leK).map (·.1) := (List.map_mergeSort (r := leK) (s := leL) (f := fun p : List Int × Int => p.1) fun a _ b _ => rfl).symm
  rw [e, List.map_map]
  refine (List.map_congr_left fun p hp => ?_).trans (List.map_id' _)
  have hm := (List.mergeSort_perm (gatherK lines) leK).mem_iff.mp hp
  show (p.1, (getK (gatherK lines) p.1).getD 0) = p
  rw [getK_at (gather_ok lines).1 hm]
  rfl
theorem putK_pos {s : List Int} {v : Int} (hv : 0 < v) : ∀ {kvs : List (List Int × Int)}, (∀ p ∈ kvs, 0 < p.2) → ∀ p ∈ putK kvs s v, 0 < p.2
  | [], _, p, hp => by
    simp only [putK, List.mem_singleton] at hp
    rw [hp]
    exact hv
  | q :: r, h, p, hp => by
    simp only [putK] at hp
    by_cases e : q.1 = s
    · rw [if_pos e] at hp
      rcases List.mem_cons.mp hp with rfl | hp
      · exact hv
      · exact h p (List.mem_cons_of_mem _ hp)
    · rw [if_neg e] at hp
      rcases List.mem_cons.mp hp with rfl | hp
      · exact h _ List.mem_cons_self
      · exact putK_pos hv (fun p hp => h p (List.mem_cons_of_mem _ hp)) p hp
theorem getK_pos {s : List Int} : ∀ {kvs : List (List Int × Int)}, (∀ p ∈ kvs, 0 < p.2) → 0 ≤ (getK kvs s).getD 0
  | [], _ => by simp [getK]
  | q :: r, h => by
    simp only [getK]
    by_cases e : q.1 = s
    · rw [if_pos e]
      have := h q List.mem_cons_self
      simp
      omega
    · rw [if_neg e]
      exact getK_pos fun p hp => h p (List.mem_cons_of_mem _ hp)
theorem gather_pos {lines : List (List Int × Int)} (h : ∀ l ∈ lines, 0 < l.2) : ∀ p ∈ gatherK lines, 0 < p.2 := by
  have key : ∀ (ls : List (List Int × Int)) (kvs : List (List Int × Int)), (∀ l ∈ ls, 0 < l.2) → (∀ p ∈ kvs, 0 < p.2) → ∀ p ∈ ls.foldl addK kvs, 0 < p.2 := by
    intro ls
    induction ls with
    | nil => exact fun kvs _ h => h
    | cons l r ih =>
      intro kvs h1 h2
      refine ih _ (fun l hl => h1 l (List.mem_cons_of_mem _ hl)) (putK_pos ?_ h2)
      have := h1 l List.mem_cons_self
      have := getK_pos (s := l.1) h2
      omega
  exact key lines [] h (fun p hp => by cases hp)
theorem sheet_law {lines : List (List Int × Int)} (h : ∀ l ∈ lines, 0 < l.2) : sheetK lines = lawK lines := by
  rw [lawK_eq]
  unfold sheetK
  refine List.filter_eq_self.mpr fun p hp => ?_
  have := gather_pos h p ((List.mergeSort_perm _ _).mem_iff.mp hp)
  simp
  omega
theorem SmS.good {s : List Int} (h : SmS s) : GoodD (tupD s) := good_tints (fun n hn => small62 (h.2 n hn)) (by have := h.1; omega)
theorem getK_app {s : List Int} : ∀ {a b : List (List Int × Int)}, getK (a ++ b) s = (getK a s).or (getK b s)
  | [], _ => by simp [getK]
  | p :: r, b => by
    simp only [List.cons_append, getK]
    by_cases e : p.1 = s
    · rw [if_pos e, if_pos e]
      rfl
    · rw [if_neg e, if_neg e]
      exact getK_app
theorem rd_number_of {ts : List T} {Q : T → List T → Prop} {E : Value → List (Str × V) → List T → Prop} (h : sp_number_of ts Q E) : t_number_of (bodyEnds [false, false] Q E) (startE 4 (frzP [false, false] ts)) := by
  obtain ⟨τ, lines, p, s, rfl, ⟨⟨o, xs, rfl, hx⟩, h01, hl⟩, sm, sms, q⟩ := h
  (try simp only [np_t, np_f, np_n, ne_c, ne_n, ne_0, nf_leaf, nf_pin, nf_node])
  (repeat (first | (refine Nx.mk ?_; (try (dsimp only [nr_none, nr_some, nr_nil, nf_leaf, nf_pin, nf_node, nf_nil, nf_cons, ni_f, ni_t, nw_nil, nw_cons, ns_0, ns_s]))) | (refine And.intro ?_ ?_; focus (first | exact rfl | exact frz_frz _ | exact frz_nf _ _ | exact (show frz _ = _ by assumption) | (show frz _ = _; simp only [nf_node, nf_cons, nf_nil, nf_leaf, frzL_frzL, intsT_frz]; done) | exact frz_ints _ _ | exact Nat.le_of_ble_eq_true rfl | exact (show (0 : Int) < _ by decide) | exact (show (0 : Int) ≤ _ by decide) | exact ⟨show (0 : Int) < _ by decide, show Nat.log2 _ < _ by decide⟩ | exact Or.inl (Or.inr ⟨show (_ : Int) < _ by decide, show (_ : Int) < _ by decide⟩) | exact Or.inl (Or.inl ⟨show (_ : Int) < _ by decide, show (_ : Int) < _ by decide⟩) | exact ⟨show (0 : Int) ≤ _ by decide, show (_ : Int) ≤ _ by decide, show Int.natAbs _ < _ by decide⟩)) | refine Exists.intro _ (Exists.intro _ (And.intro rfl (And.intro rfl ?_))) | refine Exists.intro _ (And.intro (Le.rf _) ?_) | refine Exists.intro _ (And.intro rfl ?_)))
  (conv => whnf)
  rw [frzL_frzL, hx, intsT_frz]
  refine Loop.fit lines lineT rfl (fun _ : Unit => [none, some (some (.node false .tup (intsT s))), none, none]) (fun i _ => getK (lines.take i) s = none) () rfl (by repeat' (first | exact Fits.e | refine Fits.n ?_ | refine Fits.s rfl ?_)) (fun i l _ g hi hI hF R hR => ?_) fun _ g hI hF => ?_
  · (repeat (first | (obtain ⟨_, rfl, hF⟩ := hF) | (obtain ⟨_, _, rfl, hF⟩ := hF))); (try cases hF)
    (repeat (first | (refine Nx.mk ?_; (try (dsimp only [nr_none, nr_some, nr_nil, nf_leaf, nf_pin, nf_node, nf_nil, nf_cons, ni_f, ni_t, nw_nil, nw_cons, ns_0, ns_s]))) | (refine And.intro ?_ ?_; focus (first | exact rfl | exact frz_frz _ | exact frz_nf _ _ | exact (show frz _ = _ by assumption) | (show frz _ = _; simp only [nf_node, nf_cons, nf_nil, nf_leaf, frzL_frzL, intsT_frz]; done) | exact frz_ints _ _ | exact Nat.le_of_ble_eq_true rfl | exact (show (0 : Int) < _ by decide) | exact (show (0 : Int) ≤ _ by decide) | exact ⟨show (0 : Int) < _ by decide, show Nat.log2 _ < _ by decide⟩ | exact Or.inl (Or.inr ⟨show (_ : Int) < _ by decide, show (_ : Int) < _ by decide⟩) | exact Or.inl (Or.inl ⟨show (_ : Int) < _ by decide, show (_ : Int) < _ by decide⟩) | exact ⟨show (0 : Int) ≤ _ by decide, show (_ : Int) ≤ _ by decide, show Int.natAbs _ < _ by decide⟩)) | refine Exists.intro _ (Exists.intro _ (And.intro rfl (And.intro rfl ?_))) | refine Exists.intro _ (And.intro (Le.rf _) ?_) | refine Exists.intro _ (And.intro rfl ?_)))
    simp only [nf_cons, nf_nil, nf_node, nf_leaf, intsT_frz]
    (conv => whnf)
    have sl := sm l (List.mem_of_getElem? hi)
    refine ⟨tupD l.1, tupD s, toP_tints false l.1, toP_tints false s, (SmS.good sl).shaped, (SmS.good sms).shaped, ?_⟩
    rw [eqv_tupD]
    refine ifB_of (fun c => ?_) (fun c => ?_)
    · have c : l.1 = s := by simpa using c
      have e : getK lines s = some l.2 := by
        obtain ⟨hlt, hil⟩ := List.getElem?_eq_some_iff.mp hi
        rw [← List.take_append_drop i lines, getK_app, hI, List.drop_eq_getElem_cons hlt, hil]
        show (none.or (if l.1 = s then _ else _)) = _
        rw [if_pos c]
        rfl
      rw [e] at q
      exact ⟨rfl, q⟩
    · have c : l.1 ≠ s := by simpa using c
      refine hR () _ ?_ (by repeat' (first | exact Fits.e | refine Fits.n ?_ | refine Fits.s rfl ?_))
      rw [List.take_add_one, hi, getK_app, hI]
      show (none.or (if l.1 = s then _ else _)) = _
      rw [if_neg c]
      rfl
  · (repeat (first | (obtain ⟨_, rfl, hF⟩ := hF) | (obtain ⟨_, _, rfl, hF⟩ := hF))); (try cases hF)
    rw [List.take_of_length_le (Nat.le_refl _)] at hI
    rw [hI] at q
    (repeat (first | (refine Nx.mk ?_; (try (dsimp only [nr_none, nr_some, nr_nil, nf_leaf, nf_pin, nf_node, nf_nil, nf_cons, ni_f, ni_t, nw_nil, nw_cons, ns_0, ns_s]))) | (refine And.intro ?_ ?_; focus (first | exact rfl | exact frz_frz _ | exact frz_nf _ _ | exact (show frz _ = _ by assumption) | (show frz _ = _; simp only [nf_node, nf_cons, nf_nil, nf_leaf, frzL_frzL, intsT_frz]; done) | exact frz_ints _ _ | exact Nat.le_of_ble_eq_true rfl | exact (show (0 : Int) < _ by decide) | exact (show (0 : Int) ≤ _ by decide) | exact ⟨show (0 : Int) < _ by decide, show Nat.log2 _ < _ by decide⟩ | exact Or.inl (Or.inr ⟨show (_ : Int) < _ by decide, show (_ : Int) < _ by decide⟩) | exact Or.inl (Or.inl ⟨show (_ : Int) < _ by decide, show (_ : Int) < _ by decide⟩) | exact ⟨show (0 : Int) ≤ _ by decide, show (_ : Int) ≤ _ by decide, show Int.natAbs _ < _ by decide⟩)) | refine Exists.intro _ (Exists.intro _ (And.intro rfl (And.intro rfl ?_))) | refine Exists.intro _ (And.intro (Le.rf _) ?_) | refine Exists.intro _ (And.intro rfl ?_)))
    exact q
theorem rd_ballots_in {ts : List T} {Q : T → List T → Prop} {E : Value → List (Str × V) → List T → Prop} (h : sp_ballots_in ts Q E) : t_ballots_in (bodyEnds [false] Q E) (startE 3 (frzP [false] ts)) := by
  obtain ⟨τ, lines, rfl, ⟨⟨o, xs, rfl, hx⟩, h01, hl⟩, q⟩ := h
  (try simp only [np_t, np_f, np_n, ne_c, ne_n, ne_0, nf_leaf, nf_pin, nf_node])
  (repeat (first | (refine Nx.mk ?_; (try (dsimp only [nr_none, nr_some, nr_nil, nf_leaf, nf_pin, nf_node, nf_nil, nf_cons, ni_f, ni_t, nw_nil, nw_cons, ns_0, ns_s]))) | (refine And.intro ?_ ?_; focus (first | exact rfl | exact frz_frz _ | exact frz_nf _ _ | exact (show frz _ = _ by assumption) | (show frz _ = _; simp only [nf_node, nf_cons, nf_nil, nf_leaf, frzL_frzL, intsT_frz]; done) | exact frz_ints _ _ | exact Nat.le_of_ble_eq_true rfl | exact (show (0 : Int) < _ by decide) | exact (show (0 : Int) ≤ _ by decide) | exact ⟨show (0 : Int) < _ by decide, show Nat.log2 _ < _ by decide⟩ | exact Or.inl (Or.inr ⟨show (_ : Int) < _ by decide, show (_ : Int) < _ by decide⟩) | exact Or.inl (Or.inl ⟨show (_ : Int) < _ by decide, show (_ : Int) < _ by decide⟩) | exact ⟨show (0 : Int) ≤ _ by decide, show (_ : Int) ≤ _ by decide, show Int.natAbs _ < _ by decide⟩)) | refine Exists.intro _ (Exists.intro _ (And.intro rfl (And.intro rfl ?_))) | refine Exists.intro _ (And.intro (Le.rf _) ?_) | refine Exists.intro _ (And.intro rfl ?_)))
  rw [hx]
  (conv => whnf)
  rw [frz_lines]
  refine Lc.fx lines lineT rfl (fun p => some (.leaf (.int p.2))) (by show _ ≤ 16777216; omega) (fun p hp acc R' hacc h1 h2 => ?_) ?_
  · refine And.intro rfl ?_
    (conv => whnf)
    refine And.intro rfl (And.intro hacc ?_)
    exact h1 _ rfl
  · rw [fm_some]
    (conv => whnf)
    refine ⟨lines.map (·.2), by rw [intsT_eq, List.map_map, List.map_map]; rfl, ?_⟩
    exact q
theorem rd_joined {ts : List T} {Q : T → List T → Prop} {E : Value → List (Str × V) → List T → Prop} (h : sp_joined ts Q E) : t_joined (bodyEnds [false] Q E) (startE 3 (frzP [false] ts)) := by
  obtain ⟨o, xs, sheets, rfl, hx, h01, hl, q⟩ := h
  (try simp only [np_t, np_f, np_n, ne_c, ne_n, ne_0, nf_leaf, nf_pin, nf_node])
  (repeat (first | (refine Nx.mk ?_; (try (dsimp only [nr_none, nr_some, nr_nil, nf_leaf, nf_pin, nf_node, nf_nil, nf_cons, ni_f, ni_t, nw_nil, nw_cons, ns_0, ns_s]))) | (refine And.intro ?_ ?_; focus (first | exact rfl | exact frz_frz _ | exact frz_nf _ _ | exact (show frz _ = _ by assumption) | (show frz _ = _; simp only [nf_node, nf_cons, nf_nil, nf_leaf, frzL_frzL, intsT_frz]; done) | exact frz_ints _ _ | exact Nat.le_of_ble_eq_true rfl | exact (show (0 : Int) < _ by decide) | exact (show (0 : Int) ≤ _ by decide) | exact ⟨show (0 : Int) < _ by decide, show Nat.log2 _ < _ by decide⟩ | exact Or.inl (Or.inr ⟨show (_ : Int) < _ by decide, show (_ : Int) < _ by decide⟩) | exact Or.inl (Or.inl ⟨show (_ : Int) < _ by decide, show (_ : Int) < _ by decide⟩) | exact ⟨show (0 : Int) ≤ _ by decide, show (_ : Int) ≤ _ by decide, show Int.natAbs _ < _ by decide⟩)) | refine Exists.intro _ (Exists.intro _ (And.intro rfl (And.intro rfl ?_))) | refine Exists.intro _ (And.intro (Le.rf _) ?_) | refine Exists.intro _ (And.intro rfl ?_)))
  (conv => whnf)
  rw [frzL_frzL, hx]
  refine Loop.fit sheets (fun ls => .node false .lst (ls.map lineT)) rfl (fun acc => [none, some (some (.node true .lst (acc.map lineT))), none]) (fun i acc => acc = (sheets.take i).flatten) [] rfl (by repeat' (first | exact Fits.e | refine Fits.n ?_ | refine Fits.s rfl ?_)) (fun i ls acc g hi hI hF R hR => ?_) fun acc g hI hF => ?_
  · (repeat (first | (obtain ⟨_, rfl, hF⟩ := hF) | (obtain ⟨_, _, rfl, hF⟩ := hF))); (try cases hF)
    have e : (sheets.take (i + 1)).flatten = acc ++ ls := by
      rw [List.take_add_one, hi, hI]
      simp
    have hlen : acc.length + ls.length ≤ 10000 := by
      rw [← List.length_append, ← e]
      have e2 : sheets.flatten = (sheets.take (i + 1)).flatten ++ (sheets.drop (i + 1)).flatten := by rw [← List.flatten_append, List.take_append_drop]
      rw [e2, List.length_append] at hl
      omega
    (conv => whnf)
    refine And.intro (frz_frz (.node false .lst (ls.map lineT))) ⟨ls.map lineT, ?_, ?_, ?_⟩
    · show frz (frz (.node false .lst (ls.map lineT))) = _
      rw [frz_frz, nf_node, frz_lines]
    · rw [List.length_map, List.length_map]
      show _ ≤ 16777216
      omega
    · show (lpE R (seqE t_joined_3 (bodyEnds [false] Q E))).nx _
      rw [← List.map_append]
      exact hR _ _ (by rw [e]) (by repeat' (first | exact Fits.e | refine Fits.n ?_ | refine Fits.s rfl ?_))
  · (repeat (first | (obtain ⟨_, rfl, hF⟩ := hF) | (obtain ⟨_, _, rfl, hF⟩ := hF))); (try cases hF)
    rw [List.take_of_length_le (Nat.le_refl _)] at hI
    refine Nx.mk ?_
    (conv => whnf)
    refine And.intro ?_ ?_
    · exact frz_frz (.node true .lst (acc.map lineT))
    refine ⟨_, acc, rfl, ⟨⟨false, _, rfl, ?_⟩, ?_, ?_⟩, And.intro ?_ ?_⟩
    · show frzL (frzL (acc.map lineT)) = _
      rw [frzL_frzL, frz_lines]
    · intro l hl2
      rw [hI] at hl2
      obtain ⟨ls, h3, h4⟩ := List.mem_flatten.mp hl2
      exact h01 ls h3 l h4
    · rw [hI]
      exact hl
    · exact pure_lines true _
    · rw [hI]
      exact q
theorem rd__law_mixed {ts : List T} {Q : T → List T → Prop} {E : Value → List (Str × V) → List T → Prop} (h : sp__law_mixed ts Q E) : t__law_mixed (bodyEnds [true, false] Q E) (startE 4 (frzP [true, false] ts)) := by
  obtain ⟨bag, o, its, rfl, hb, hl, q⟩ := h
  (try simp only [np_t, np_f, np_n, ne_c, ne_n, ne_0, nf_leaf, nf_pin, nf_node])
  (repeat (first | (refine Nx.mk ?_; (try (dsimp only [nr_none, nr_some, nr_nil, nf_leaf, nf_pin, nf_node, nf_nil, nf_cons, ni_f, ni_t, nw_nil, nw_cons, ns_0, ns_s]))) | (refine And.intro ?_ ?_; focus (first | exact rfl | exact frz_frz _ | exact frz_nf _ _ | exact (show frz _ = _ by assumption) | (show frz _ = _; simp only [nf_node, nf_cons, nf_nil, nf_leaf, frzL_frzL, intsT_frz]; done) | exact frz_ints _ _ | exact Nat.le_of_ble_eq_true rfl | exact (show (0 : Int) < _ by decide) | exact (show (0 : Int) ≤ _ by decide) | exact ⟨show (0 : Int) < _ by decide, show Nat.log2 _ < _ by decide⟩ | exact Or.inl (Or.inr ⟨show (_ : Int) < _ by decide, show (_ : Int) < _ by decide⟩) | exact Or.inl (Or.inl ⟨show (_ : Int) < _ by decide, show (_ : Int) < _ by decide⟩) | exact ⟨show (0 : Int) ≤ _ by decide, show (_ : Int) ≤ _ by decide, show Int.natAbs _ < _ by decide⟩)) | refine Exists.intro _ (Exists.intro _ (And.intro rfl (And.intro rfl ?_))) | refine Exists.intro _ (And.intro (Le.rf _) ?_) | refine Exists.intro _ (And.intro rfl ?_)))
  (conv => whnf)
  rw [frzL_frzL]
  refine Loop.fit (frzL its) id (List.map_id _).symm (fun z : T × List T => [some (some z.1), some (some (.node false .lst (frzL its))), some (some (.node true .lst z.2)), none]) (fun i z => IsBag z.1 ∧ z.2.Perm ((frzL its).take i)) (bag, []) ⟨hb, .refl _⟩ (by repeat' (first | exact Fits.e | refine Fits.n ?_ | refine Fits.s rfl ?_)) (fun i t z g ht hI hF R hR => ?_) fun z g hI hF => ?_
  · (repeat (first | (obtain ⟨_, rfl, hF⟩ := hF) | (obtain ⟨_, _, rfl, hF⟩ := hF))); (try cases hF)
    obtain ⟨hb', hp⟩ := hI
    have hl2 : z.2.length ≤ 10000 := by rw [hp.length_eq, List.length_take, frzL_length]; omega
    have ft : frz t = t := frzL_get ht
    (repeat (first | (refine Nx.mk ?_; (try (dsimp only [nr_none, nr_some, nr_nil, nf_leaf, nf_pin, nf_node, nf_nil, nf_cons, ni_f, ni_t, nw_nil, nw_cons, ns_0, ns_s]))) | (refine And.intro ?_ ?_; focus (first | exact rfl | exact frz_frz _ | exact frz_nf _ _ | exact (show frz _ = _ by assumption) | (show frz _ = _; simp only [nf_node, nf_cons, nf_nil, nf_leaf, frzL_frzL, intsT_frz]; done) | exact frz_ints _ _ | exact Nat.le_of_ble_eq_true rfl | exact (show (0 : Int) < _ by decide) | exact (show (0 : Int) ≤ _ by decide) | exact ⟨show (0 : Int) < _ by decide, show Nat.log2 _ < _ by decide⟩ | exact Or.inl (Or.inr ⟨show (_ : Int) < _ by decide, show (_ : Int) < _ by decide⟩) | exact Or.inl (Or.inl ⟨show (_ : Int) < _ by decide, show (_ : Int) < _ by decide⟩) | exact ⟨show (0 : Int) ≤ _ by decide, show (_ : Int) ≤ _ by decide, show Int.natAbs _ < _ by decide⟩)) | refine Exists.intro _ (Exists.intro _ (And.intro rfl (And.intro rfl ?_))) | refine Exists.intro _ (And.intro (Le.rf _) ?_) | refine Exists.intro _ (And.intro rfl ?_)))
    refine ⟨z.1, _, rfl, hb', by omega, .inl (by rw [frzL_length]; omega), fun r bag' r0 r1 hb2 => ?_⟩
    rw [frzL_length] at r1
    (repeat (first | (refine Nx.mk ?_; (try (dsimp only [nr_none, nr_some, nr_nil, nf_leaf, nf_pin, nf_node, nf_nil, nf_cons, ni_f, ni_t, nw_nil, nw_cons, ns_0, ns_s]))) | (refine And.intro ?_ ?_; focus (first | exact rfl | exact frz_frz _ | exact frz_nf _ _ | exact (show frz _ = _ by assumption) | (show frz _ = _; simp only [nf_node, nf_cons, nf_nil, nf_leaf, frzL_frzL, intsT_frz]; done) | exact frz_ints _ _ | exact Nat.le_of_ble_eq_true rfl | exact (show (0 : Int) < _ by decide) | exact (show (0 : Int) ≤ _ by decide) | exact ⟨show (0 : Int) < _ by decide, show Nat.log2 _ < _ by decide⟩ | exact Or.inl (Or.inr ⟨show (_ : Int) < _ by decide, show (_ : Int) < _ by decide⟩) | exact Or.inl (Or.inl ⟨show (_ : Int) < _ by decide, show (_ : Int) < _ by decide⟩) | exact ⟨show (0 : Int) ≤ _ by decide, show (_ : Int) ≤ _ by decide, show Int.natAbs _ < _ by decide⟩)) | refine Exists.intro _ (Exists.intro _ (And.intro rfl (And.intro rfl ?_))) | refine Exists.intro _ (And.intro (Le.rf _) ?_) | refine Exists.intro _ (And.intro rfl ?_)))
    refine And.intro ⟨(show z.2.length < 16777216 by omega), r0, by omega⟩ ?_
    have eft : (if false = true then id t else frz (id t)) = t := ft
    simp only [eft]
    refine hR (bag', z.2.take r.toNat ++ [t] ++ z.2.drop r.toNat) _ ⟨hb2, ?_⟩ (by repeat' (first | exact Fits.e | refine Fits.n ?_ | refine Fits.s rfl ?_))
    rw [List.take_add_one, ht]
    have p1 : (z.2.take r.toNat ++ [t] ++ z.2.drop r.toNat).Perm (t :: z.2) := by
      rw [List.append_assoc]
      refine List.perm_middle.trans (List.Perm.cons _ ?_)
      exact List.Perm.of_eq (List.take_append_drop _ _)
    refine p1.trans ((List.Perm.cons _ hp).trans ?_)
    exact (List.perm_append_comm (l₁ := [t]))
  · (repeat (first | (obtain ⟨_, rfl, hF⟩ := hF) | (obtain ⟨_, _, rfl, hF⟩ := hF))); (try cases hF)
    (repeat (first | (refine Nx.mk ?_; (try (dsimp only [nr_none, nr_some, nr_nil, nf_leaf, nf_pin, nf_node, nf_nil, nf_cons, ni_f, ni_t, nw_nil, nw_cons, ns_0, ns_s]))) | (refine And.intro ?_ ?_; focus (first | exact rfl | exact frz_frz _ | exact frz_nf _ _ | exact (show frz _ = _ by assumption) | (show frz _ = _; simp only [nf_node, nf_cons, nf_nil, nf_leaf, frzL_frzL, intsT_frz]; done) | exact frz_ints _ _ | exact Nat.le_of_ble_eq_true rfl | exact (show (0 : Int) < _ by decide) | exact (show (0 : Int) ≤ _ by decide) | exact ⟨show (0 : Int) < _ by decide, show Nat.log2 _ < _ by decide⟩ | exact Or.inl (Or.inr ⟨show (_ : Int) < _ by decide, show (_ : Int) < _ by decide⟩) | exact Or.inl (Or.inl ⟨show (_ : Int) < _ by decide, show (_ : Int) < _ by decide⟩) | exact ⟨show (0 : Int) ≤ _ by decide, show (_ : Int) ≤ _ by decide, show Int.natAbs _ < _ by decide⟩)) | refine Exists.intro _ (Exists.intro _ (And.intro rfl (And.intro rfl ?_))) | refine Exists.intro _ (And.intro (Le.rf _) ?_) | refine Exists.intro _ (And.intro rfl ?_)))
    rw [List.take_of_length_le (Nat.le_refl _)] at hI
    exact q _ _ hI.2 hI.1
def totK (lines : List (List Int × Int)) (s : List Int) : Int := (lines.map fun l => if l.1 = s then l.2 else 0).sum
theorem totK_app (a b : List (List Int × Int)) (s : List Int) : totK (a ++ b) s = totK a s + totK b s := by
  unfold totK
  rw [List.map_append, List.sum_append]
theorem sum_zero {α : Type} : ∀ l : List α, (l.map fun _ => (0 : Int)).sum = 0
  | [] => rfl
  | a :: l => by rw [List.map_cons, List.sum_cons, sum_zero l]; rfl
theorem totK_none {s : List Int} {r : List (List Int × Int)} (m : s ∉ r.map (·.1)) : totK r s = 0 := by
  unfold totK
  have : (r.map fun l => if l.1 = s then l.2 else 0) = r.map fun _ => (0 : Int) := List.map_congr_left fun x hx => if_neg fun z => m (by rw [← z]; exact List.mem_map_of_mem hx)
  rw [this, sum_zero]
theorem sum_perm : ∀ {a b : List Int}, a.Perm b → a.sum = b.sum
  | _, _, .nil => rfl
  | _, _, .cons x h => by rw [List.sum_cons, List.sum_cons, sum_perm h]
  | _, _, .swap x y l => by simp only [List.sum_cons]; omega
  | _, _, .trans h1 h2 => (sum_perm h1).trans (sum_perm h2)
theorem totK_perm {a b : List (List Int × Int)} (h : a.Perm b) (s : List Int) : totK a s = totK b s := sum_perm (h.map _)
theorem getK_put {s k : List Int} {v : Int} : ∀ {kvs : List (List Int × Int)}, getK (putK kvs s v) k = if s = k then some v else getK kvs k
  | [] => by simp only [putK, getK]
  | p :: r => by
    simp only [putK]
    by_cases e : p.1 = s
    · rw [if_pos e]
      simp only [getK]
      by_cases e2 : s = k
      · rw [if_pos (e.trans e2), if_pos e2]
      · rw [if_neg (fun z => e2 (e.symm.trans z)), if_neg e2, if_neg (fun z => e2 (e.symm.trans z))]
    · rw [if_neg e]
      simp only [getK]
      by_cases e3 : p.1 = k
      · rw [if_pos e3, if_pos e3, if_neg (fun z => e (e3.trans z.symm))]
      · rw [if_neg e3, if_neg e3]
        exact getK_put
theorem getK_gather (s : List Int) (lines : List (List Int × Int)) : getK (gatherK lines) s = if s ∈ lines.map (·.1) then some (totK lines s) else none := by
  have key : ∀ (ls : List (List Int × Int)) (kvs : List (List Int × Int)), getK (ls.foldl addK kvs) s = if s ∈ ls.map (·.1) then some ((getK kvs s).getD 0 + totK ls s) else getK kvs s := by
    intro ls
    induction ls with
    | nil => intro kvs; simp
    | cons l r ih =>
      intro kvs
      rw [List.foldl_cons, ih]
      unfold addK
      rw [getK_put]
      have ht : totK (l :: r) s = (if l.1 = s then l.2 else 0) + totK r s := by unfold totK; rw [List.map_cons, List.sum_cons]
      rw [ht]
      by_cases e : l.1 = s
      · simp only [e, if_true, List.map_cons, List.mem_cons, true_or]
        by_cases m : s ∈ r.map (·.1)
        · rw [if_pos m]
          simp
          omega
        · rw [if_neg m]
          have : totK r s = 0 := by
            unfold totK
            have : (r.map fun l => if l.1 = s then l.2 else 0) = r.map fun _ => (0 : Int) := List.map_congr_left fun x hx => if_neg fun z => m (by rw [← z]; exact List.mem_map_of_mem hx)
            rw [this, sum_zero]
          rw [this]
          simp
      · have e2 : ¬ s = l.1 := fun z => e z.symm
        simp only [e, if_false, List.map_cons, List.mem_cons, e2, false_or, Int.zero_add]
  have := key lines []
  simpa [gatherK, getK] using this
theorem getK_iff {p : List Int × Int} {kvs : List (List Int × Int)} (hn : (kvs.map (·.1)).Nodup) : p ∈ kvs ↔ getK kvs p.1 = some p.2 := by
  refine ⟨getK_at hn, ?_⟩
  clear hn
  induction kvs with
  | nil => intro h; simp [getK] at h
  | cons q r ih =>
    intro h
    simp only [getK] at h
    by_cases e : q.1 = p.1
    · rw [if_pos e] at h
      have : q = p := Prod.ext e (Option.some.inj h)
      rw [this]
      exact List.mem_cons_self
    · rw [if_neg e] at h
      exact List.mem_cons_of_mem _ (ih h)
theorem nodup_of_keys {kvs : List (List Int × Int)} (hn : (kvs.map (·.1)).Nodup) : kvs.Nodup := List.Pairwise.of_map (·.1) (fun a b h z => h (by rw [z])) hn
theorem leK_trans (a b c : List Int × Int) : leK a b = true → leK b c = true → leK a c = true := by
  simp only [leK, decide_eq_true_eq]
  exact List.le_trans
theorem leK_total (a b : List Int × Int) : (leK a b || leK b a) = true := by
  simp only [leK, Bool.or_eq_true, decide_eq_true_eq]
  exact List.le_total a.1 b.1
theorem canonK {A B : List (List Int × Int)} (hA : (A.map (·.1)).Nodup) (hB : (B.map (·.1)).Nodup) (h : ∀ s, getK A s = getK B s) : A.mergeSort leK = B.mergeSort leK := by
  have p : A.Perm B := (List.perm_ext_iff_of_nodup (nodup_of_keys hA) (nodup_of_keys hB)).mpr fun p => by rw [getK_iff hA, getK_iff hB, h]
  have p2 : (A.mergeSort leK).Perm (B.mergeSort leK) := ((List.mergeSort_perm _ _).trans p).trans (List.mergeSort_perm _ _).symm
  refine p2.eq_of_pairwise ?_ (List.pairwise_mergeSort leK_trans leK_total A) (List.pairwise_mergeSort leK_trans leK_total B)
  intro a b ha hb h1 h2
  simp only [leK, decide_eq_true_eq] at h1 h2
  have e : a.1 = b.1 := List.le_antisymm h1 h2
  have ha2 := (getK_iff hA).mp ((List.mergeSort_perm _ _).mem_iff.mp ha)
  have hb2 := (getK_iff hB).mp ((List.mergeSort_perm _ _).mem_iff.mp hb)
  rw [h, e, hb2] at ha2
  exact Prod.ext e (Option.some.inj ha2).symm
theorem totK_nodup {s : List Int} : ∀ {A : List (List Int × Int)}, (A.map (·.1)).Nodup → totK A s = (getK A s).getD 0
  | [], _ => rfl
  | p :: r, hn => by
    simp only [List.map_cons, List.nodup_cons] at hn
    have ht : totK (p :: r) s = (if p.1 = s then p.2 else 0) + totK r s := by unfold totK; rw [List.map_cons, List.sum_cons]
    rw [ht]
    simp only [getK]
    by_cases e : p.1 = s
    · rw [if_pos e, if_pos e, totK_none (by rw [← e]; exact hn.1)]
      simp
    · rw [if_neg e, if_neg e, totK_nodup hn.2]
      omega
theorem sheet_same {a b : List (List Int × Int)} (hm : ∀ s, s ∈ a.map (·.1) ↔ s ∈ b.map (·.1)) (ht : ∀ s, totK a s = totK b s) : (gatherK a).mergeSort leK = (gatherK b).mergeSort leK := by
  refine canonK (gather_ok a).1 (gather_ok b).1 fun s => ?_
  rw [getK_gather, getK_gather, ht]
  by_cases h : s ∈ a.map (·.1)
  · rw [if_pos h, if_pos ((hm s).mp h)]
  · rw [if_neg h, if_neg fun z => h ((hm s).mpr z)]
theorem lawK_same {a b : List (List Int × Int)} (hm : ∀ s, s ∈ a.map (·.1) ↔ s ∈ b.map (·.1)) (ht : ∀ s, totK a s = totK b s) : lawK a = lawK b := by
  rw [lawK_eq, lawK_eq]
  exact sheet_same hm ht
theorem lawK_perm {a b : List (List Int × Int)} (h : a.Perm b) : lawK a = lawK b := lawK_same (fun s => (h.map (·.1)).mem_iff) (totK_perm h)
theorem law_keys {s : List Int} {lines : List (List Int × Int)} : s ∈ (lawK lines).map (·.1) ↔ s ∈ lines.map (·.1) := by
  rw [lawK_eq, ((List.mergeSort_perm (gatherK lines) leK).map (·.1)).mem_iff]
  constructor
  · intro h
    obtain ⟨n, hn⟩ := getK_mem h
    rw [getK_gather] at hn
    by_cases m : s ∈ lines.map (·.1)
    · exact m
    · rw [if_neg m] at hn
      cases hn
  · intro h
    have := getK_gather s lines
    rw [if_pos h] at this
    have hm := (getK_iff (p := (s, totK lines s)) (gather_ok lines).1).mpr this
    exact List.mem_map.mpr ⟨_, hm, rfl⟩
theorem law_tot (s : List Int) (lines : List (List Int × Int)) : totK (lawK lines) s = totK lines s := by
  rw [lawK_eq, totK_perm (List.mergeSort_perm _ _), totK_nodup (gather_ok lines).1, getK_gather]
  by_cases m : s ∈ lines.map (·.1)
  · rw [if_pos m]
    rfl
  · rw [if_neg m, totK_none m]
    rfl
theorem flat_tot (s : List Int) : ∀ gs : List (List (List Int × Int)), totK (gs.map lawK).flatten s = totK gs.flatten s
  | [] => rfl
  | g :: gs => by
    simp only [List.map_cons, List.flatten_cons]
    rw [totK_app, totK_app, law_tot, flat_tot s gs]
theorem flat_keys (s : List Int) (gs : List (List (List Int × Int))) : s ∈ ((gs.map lawK).flatten).map (·.1) ↔ s ∈ gs.flatten.map (·.1) := by
  induction gs with
  | nil => exact Iff.rfl
  | cons g gs ih =>
    simp only [List.map_cons, List.flatten_cons, List.map_append, List.mem_append]
    rw [ih, law_keys]
theorem law_joined (gs : List (List (List Int × Int))) : lawK (gs.map lawK).flatten = lawK gs.flatten := lawK_same (fun s => flat_keys s gs) fun s => flat_tot s gs
theorem linesQ_none {l : List Int × T} (h : numQ l.2 = none) : ∀ {ls : List (List Int × T)}, l ∈ ls → linesQ ls = none
  | q :: r, hm => by
    simp only [linesQ]
    rcases List.mem_cons.mp hm with rfl | hm
    · rw [h]
    · rw [linesQ_none h hm]
      cases numQ q.2 <;> rfl
theorem numQ_leaf {t : T} {n : Int} (h : numQ t = some n) : t = .leaf (.int n) ∧ 1 ≤ n ∧ n ≤ 1000000000 := by
  unfold numQ at h
  split at h
  · split at h
    · cases h
      rename_i h
      exact ⟨rfl, h⟩
    · cases h
  · cases h
theorem linesQ_some : ∀ {ls : List (List Int × T)}, (∀ l ∈ ls, ∃ n, numQ l.2 = some n) → ∃ lines, linesQ ls = some lines ∧ (ls.map fun l => T.node false .tup [keyT l.1, l.2]) = lines.map lineT ∧ lines.length = ls.length ∧ (∀ p ∈ lines, (1 ≤ p.2 ∧ p.2 ≤ 1000000000) ∧ ∃ l ∈ ls, l.1 = p.1)
  | [], _ => ⟨[], rfl, rfl, rfl, fun p hp => by cases hp⟩
  | l :: r, h => by
    obtain ⟨n, hn⟩ := h l List.mem_cons_self
    obtain ⟨lines, h1, h2, h3, h4⟩ := linesQ_some (ls := r) fun l hl => h l (List.mem_cons_of_mem _ hl)
    obtain ⟨e, e1⟩ := numQ_leaf hn
    refine ⟨(l.1, n) :: lines, by simp only [linesQ, hn, h1]; rfl, by simp only [List.map_cons, h2, e], by simp [h3], fun p hp => ?_⟩
    rcases List.mem_cons.mp hp with rfl | hp
    · exact ⟨e1, l, List.mem_cons_self, rfl⟩
    · obtain ⟨a, l', hl, e⟩ := h4 p hp
      exact ⟨a, l', List.mem_cons_of_mem _ hl, e⟩
theorem rd_sheet_of {ts : List T} {Q : T → List T → Prop} {E : Value → List (Str × V) → List T → Prop} (h : sp_sheet_of ts Q E) : t_sheet_of (bodyEnds [false] Q E) (startE 3 (frzP [false] ts)) := by
  obtain ⟨τ, ls, rfl, ⟨⟨o, xs, rfl, hx⟩, hok, hl⟩, q⟩ := h
  have bad : ∀ l ∈ ls, numQ l.2 = none → E (cxN 3) [] [] := fun l hl e => by
    have en := linesQ_none e hl
    rcases q with ⟨r, e2, _⟩ | ⟨_, q⟩
    · rw [en] at e2; cases e2
    · exact q
  (try simp only [np_t, np_f, np_n, ne_c, ne_n, ne_0, nf_leaf, nf_pin, nf_node])
  (repeat (first | (refine Nx.mk ?_; (try (dsimp only [nr_none, nr_some, nr_nil, nf_leaf, nf_pin, nf_node, nf_nil, nf_cons, ni_f, ni_t, nw_nil, nw_cons, ns_0, ns_s]))) | (refine And.intro ?_ ?_; focus (first | exact rfl | exact frz_frz _ | exact frz_nf _ _ | exact (show frz _ = _ by assumption) | (show frz _ = _; simp only [nf_node, nf_cons, nf_nil, nf_leaf, frzL_frzL, intsT_frz]; done) | exact frz_ints _ _ | exact Nat.le_of_ble_eq_true rfl | exact (show (0 : Int) < _ by decide) | exact (show (0 : Int) ≤ _ by decide) | exact ⟨show (0 : Int) < _ by decide, show Nat.log2 _ < _ by decide⟩ | exact Or.inl (Or.inr ⟨show (_ : Int) < _ by decide, show (_ : Int) < _ by decide⟩) | exact Or.inl (Or.inl ⟨show (_ : Int) < _ by decide, show (_ : Int) < _ by decide⟩) | exact ⟨show (0 : Int) ≤ _ by decide, show (_ : Int) ≤ _ by decide, show Int.natAbs _ < _ by decide⟩)) | refine Exists.intro _ (Exists.intro _ (And.intro rfl (And.intro rfl ?_))) | refine Exists.intro _ (And.intro (Le.rf _) ?_) | refine Exists.intro _ (And.intro rfl ?_)))
  (conv => whnf)
  rw [frzL_frzL, hx]
  refine Loop.fit ls (fun l => .node false .tup [keyT l.1, l.2]) rfl (fun _ : Unit => [some (some (.node false .lst (ls.map fun l => .node false .tup [keyT l.1, l.2]))), none, none]) (fun i _ => ∀ l ∈ ls.take i, ∃ n, numQ l.2 = some n) () (fun l hl => by simp at hl) (by repeat' (first | exact Fits.e | refine Fits.n ?_ | refine Fits.s rfl ?_)) (fun i l _ g hi hI hF R hR => ?_) fun _ g hI hF => ?_
  · (repeat (first | (obtain ⟨_, rfl, hF⟩ := hF) | (obtain ⟨_, _, rfl, hF⟩ := hF))); (try cases hF)
    have hm := List.mem_of_getElem? hi
    obtain ⟨_, hfz, b, hb⟩ := hok l hm
    have nxt : (∃ n, numQ l.2 = some n) → ∀ l' ∈ ls.take (i + 1), ∃ n, numQ l'.2 = some n := fun hn l' hl' => by
      rw [List.take_add_one, hi] at hl'
      rcases List.mem_append.mp hl' with z | z
      · exact hI l' z
      · have : l' = l := by simpa using z
        rw [this]
        exact hn
    (repeat (first | (refine Nx.mk ?_; (try (dsimp only [nr_none, nr_some, nr_nil, nf_leaf, nf_pin, nf_node, nf_nil, nf_cons, ni_f, ni_t, nw_nil, nw_cons, ns_0, ns_s]))) | (refine And.intro ?_ ?_; focus (first | exact rfl | exact frz_frz _ | exact frz_nf _ _ | exact (show frz _ = _ by assumption) | (show frz _ = _; simp only [nf_node, nf_cons, nf_nil, nf_leaf, frzL_frzL, intsT_frz]; done) | exact frz_ints _ _ | exact Nat.le_of_ble_eq_true rfl | exact (show (0 : Int) < _ by decide) | exact (show (0 : Int) ≤ _ by decide) | exact ⟨show (0 : Int) < _ by decide, show Nat.log2 _ < _ by decide⟩ | exact Or.inl (Or.inr ⟨show (_ : Int) < _ by decide, show (_ : Int) < _ by decide⟩) | exact Or.inl (Or.inl ⟨show (_ : Int) < _ by decide, show (_ : Int) < _ by decide⟩) | exact ⟨show (0 : Int) ≤ _ by decide, show (_ : Int) ≤ _ by decide, show Int.natAbs _ < _ by decide⟩)) | refine Exists.intro _ (Exists.intro _ (And.intro rfl (And.intro rfl ?_))) | refine Exists.intro _ (And.intro (Le.rf _) ?_) | refine Exists.intro _ (And.intro rfl ?_)))
    simp only [nf_cons, nf_nil, nf_node, nf_leaf, intsT_frz, hfz]
    (conv => whnf)
    refine ⟨l.2, b, rfl, by rw [hfz]; exact hb, ?_⟩
    cases b with
    | false =>
      have hn : numQ l.2 = none := by
        cases e : numQ l.2 with
        | none => rfl
        | some n =>
          rw [(numQ_leaf e).1] at hb
          cases hb
      exact bad l hm hn
    | true =>
      obtain ⟨c, hc⟩ := whole_int hb
      rw [hc]
      (conv => whnf)
      refine And.intro rfl ?_
      (conv => whnf)
      refine ifB_dec (fun c1 => ?_) (fun c1 => ?_)
      · refine bad l hm ?_
        rw [hc]
        exact if_neg (by omega)
      · (conv => whnf)
        refine And.intro rfl ?_
        (conv => whnf)
        refine ifB_dec (fun c2 => ?_) (fun c2 => ?_)
        · refine bad l hm ?_
          rw [hc]
          exact if_neg (by omega)
        · refine hR () _ (nxt ⟨c, ?_⟩) (by repeat' (first | exact Fits.e | refine Fits.n ?_ | refine Fits.s rfl ?_))
          rw [hc]
          exact if_pos (by omega)
  · (repeat (first | (obtain ⟨_, rfl, hF⟩ := hF) | (obtain ⟨_, _, rfl, hF⟩ := hF))); (try cases hF)
    rw [List.take_of_length_le (Nat.le_refl _)] at hI
    obtain ⟨lines, h1, h2, h3, h4⟩ := linesQ_some hI
    have q2 : Q (.node true .lst ((sheetK lines).map lineT)) [] := by
      rcases q with ⟨r, e2, q⟩ | ⟨e2, _⟩
      · rw [h1] at e2; cases e2; exact q
      · rw [h1] at e2; cases e2
    have ef : frz (.node false .lst (ls.map fun l => .node false .tup [keyT l.1, l.2])) = .node false .lst (ls.map fun l => .node false .tup [keyT l.1, l.2]) := by
      rw [h2, nf_node, frz_lines]
    refine Nx.mk ?_
    (conv => whnf)
    refine And.intro ef ?_
    refine ⟨_, lines, rfl, ⟨⟨false, _, rfl, ?_⟩, ?_, ?_⟩, ?_⟩
    · rw [h2, frz_lines]
    · intro p hp
      obtain ⟨_, l, hl2, e⟩ := h4 p hp
      rw [← e]
      exact (hok l hl2).1
    · rw [h3]; exact hl
    · exact q2
theorem tiers_slp {rs : List Int} (hl : rs.length ≤ 12) : Slp (tiersR rs) := by
  refine ⟨?_, fun m hm => ?_⟩
  · unfold tiersR
    rw [List.length_map]
    refine Nat.le_trans (List.length_filter_le _ _) (Nat.le_trans (List.Nodup.length_le_of_subset ((sd_pw rs).imp fun h => by omega) fun k hk => sd_mem.mp hk) hl)
  · obtain ⟨r, hr, rfl⟩ := List.mem_map.mp hm
    have hmem := sd_mem.mp (List.mem_filter.mp hr).1
    obtain ⟨k, hk⟩ := List.getElem?_of_mem hmem
    have hb := (maskR_bit (h := k) hl).mpr hk
    have h2 := maskR_ran rs r
    refine ⟨?_, by have : (2 : Int) ^ 12 = 4096 := by decide
                   omega⟩
    by_cases z : maskR rs r = 0
    · rw [z] at hb
      simp [bit] at hb
    · omega
theorem Slp.ne {s : List Int} (h : Slp s) : s ≠ [0, 1] := fun e => by
  have := h.2 0 (by rw [e]; exact List.mem_cons_self)
  omega
theorem frz_slips (xs : List (List Int)) : frzL (xs.map fun s => T.node true .tup (intsT s)) = xs.map keyT := by
  rw [frzL_map, List.map_map]
  exact List.map_congr_left fun s _ => by simp only [Function.comp, nf_node, intsT_frz]
def lineD (p : List Int × Int) : PyData := .tuple [.tuple (p.1.map .int), .int p.2]
theorem toPL_lines : ∀ ls : List (List Int × Int), toPL (ls.map lineT) = some (ls.map lineD)
  | [] => rfl
  | p :: r => by
    simp only [List.map_cons, toPL, toP, toPL_ints, toPL_lines r]
    rfl
theorem toPL_lineO : ∀ ls : List (List Int × Int), toPL (ls.map lineO) = some (ls.map lineD)
  | [] => rfl
  | p :: r => by
    simp only [List.map_cons, toPL, toP, toPL_ints, toPL_lineO r]
    rfl
theorem sm_lines : ∀ {ls : List (List Int × Int)}, (∀ l ∈ ls, Slp l.1 ∧ l.2.natAbs < 2 ^ 62) → smallL (ls.map lineD)
  | [], _ => trivial
  | p :: r, h => by
    have hp := h p List.mem_cons_self
    simp only [List.map_cons, smallL, lineD, smallD]
    exact ⟨⟨smallL_ints fun n hn => small62 (by have := hp.1.2 n hn; omega), small62 hp.2, trivial⟩, sm_lines fun l hl => h l (List.mem_cons_of_mem _ hl)⟩
theorem sz_lines : ∀ {ls : List (List Int × Int)}, (∀ l ∈ ls, Slp l.1) → szL (ls.map lineD) ≤ 16 * ls.length
  | [], _ => by simp [szL]
  | p :: r, h => by
    have hp := (h p List.mem_cons_self).1
    have ih := sz_lines (ls := r) fun l hl => h l (List.mem_cons_of_mem _ hl)
    simp only [List.map_cons, szL, lineD, szD, szL_ints, List.length_cons]
    omega
theorem dp_lines : ∀ ls : List (List Int × Int), PyData.depthAll (ls.map lineD) ≤ 2
  | [] => by simp [PyData.depthAll]
  | p :: r => by
    have := dp_lines r
    simp only [List.map_cons, PyData.depthAll, lineD, PyData.depth, depthAll_ints]
    omega
theorem good_lines {ls : List (List Int × Int)} (h : ∀ l ∈ ls, Slp l.1 ∧ l.2.natAbs < 2 ^ 62) (hl : ls.length ≤ 310) : GoodD (.list (ls.map lineD)) := by
  refine ⟨?_, ?_, ?_⟩
  · simp only [smallD]
    exact sm_lines h
  · have := dp_lines ls
    simp only [PyData.depth]
    omega
  · have := sz_lines (ls := ls) fun l hl => (h l hl).1
    simp only [szD]
    omega
theorem sheetK_len (ls : List (List Int × Int)) : (sheetK ls).length ≤ ls.length := by
  unfold sheetK
  refine Nat.le_trans (List.length_filter_le _ _) ?_
  rw [List.length_mergeSort]
  exact (gather_ok ls).2
abbrev linesF (ls : List (List Int × Int)) : T := .node false .lst (ls.map lineT)
theorem lawK_mem {L : List (List Int × Int)} {l : List Int × Int} (h : l ∈ lawK L) : l ∈ gatherK L := by
  rw [lawK_eq] at h
  exact (List.mergeSort_perm _ _).mem_iff.mp h
theorem lawK_val {L : List (List Int × Int)} {l : List Int × Int} (h : l ∈ lawK L) : l.2 = totK L l.1 ∧ l.1 ∈ L.map (·.1) := by
  have h1 := (getK_iff (gather_ok L).1).mp (lawK_mem h)
  rw [getK_gather] at h1
  split at h1
  · exact ⟨(Option.some.inj h1).symm, by assumption⟩
  · cases h1
theorem lawK_nodup (L : List (List Int × Int)) : ((lawK L).map (·.1)).Nodup := by
  rw [lawK_eq]
  exact ((List.mergeSort_perm (gatherK L) leK).map (·.1)).nodup_iff.mpr (gather_ok L).1
theorem lawK_len (L : List (List Int × Int)) : (lawK L).length ≤ L.length := by
  rw [lawK_eq, List.length_mergeSort]
  exact (gather_ok L).2
theorem put_sum {s : List Int} {v : Int} : ∀ {kvs : List (List Int × Int)}, ((putK kvs s v).map (·.2)).sum = (kvs.map (·.2)).sum - (getK kvs s).getD 0 + v
  | [] => by simp [putK, getK]
  | p :: r => by
    simp only [putK, getK]
    by_cases e : p.1 = s
    · rw [if_pos e, if_pos e]
      simp only [List.map_cons, List.sum_cons, Option.getD_some]
      omega
    · rw [if_neg e, if_neg e]
      simp only [List.map_cons, List.sum_cons, put_sum (kvs := r)]
      omega
theorem gather_sum (ls : List (List Int × Int)) : ((gatherK ls).map (·.2)).sum = (ls.map (·.2)).sum := by
  have key : ∀ (ls kvs : List (List Int × Int)), ((ls.foldl addK kvs).map (·.2)).sum = (kvs.map (·.2)).sum + (ls.map (·.2)).sum := by
    intro ls
    induction ls with
    | nil => intro kvs; simp
    | cons l r ih =>
      intro kvs
      rw [List.foldl_cons, ih]
      unfold addK
      rw [put_sum, List.map_cons, List.sum_cons]
      omega
  have := key ls []
  simpa [gatherK] using this
theorem law_sum (ls : List (List Int × Int)) : ((lawK ls).map (·.2)).sum = (ls.map (·.2)).sum := by
  rw [lawK_eq, sum_perm ((List.mergeSort_perm (gatherK ls) leK).map (·.2)), gather_sum]
def okB (N : Int) (ls : List (List Int × Int)) : Prop := ls.length ≤ 310 ∧ ∀ l ∈ ls, Slp l.1 ∧ 1 ≤ l.2 ∧ l.2 ≤ N
section
variable {N : Int} {ls : List (List Int × Int)}
theorem okB.good (h : okB N ls) (hN : N < 2 ^ 62 := by decide) : GoodD (.list (ls.map lineD)) := good_lines (fun l hl => ⟨(h.2 l hl).1, by have := (h.2 l hl).2; omega⟩) h.1
theorem okB.pos (h : okB N ls) : ∀ l ∈ ls, 0 < l.2 := fun l hl => by have := (h.2 l hl).2; omega
theorem okB.ne (h : okB N ls) : ∀ l ∈ ls, l.1 ≠ [0, 1] := fun l hl => (h.2 l hl).1.ne
end
theorem frz_linesF (ls : List (List Int × Int)) : frz (linesF ls) = linesF ls := by rw [nf_node, frz_lines]
theorem toP_linesF (o : Bool) (ls : List (List Int × Int)) : toP (.node o .lst (ls.map lineT)) = some (.list (ls.map lineD)) := by
  simp only [toP, toPL_lines]
  rfl
theorem toP_linesO (o : Bool) (ls : List (List Int × Int)) : toP (.node o .lst (ls.map lineO)) = some (.list (ls.map lineD)) := by
  simp only [toP, toPL_lineO]
  rfl
theorem ifN_dec {p : Prop} [Decidable p] {a b : Prop} (h1 : p → b) (h2 : ¬ p → a) : ifB (!decide p) a b := by
  by_cases h : p
  · rw [decide_eq_true h]
    exact h1 h
  · rw [decide_eq_false h]
    exact h2 h
theorem Slp.sm {s : List Int} (h : Slp s) : SmS s := by
  refine ⟨by have := h.1; omega, fun x hx => ?_⟩
  have := h.2 x hx
  have e : (2 : Int) ^ 12 = 4096 := by decide
  rw [e] at this
  omega
theorem frz_linesO (ls : List (List Int × Int)) : frzL (ls.map lineO) = ls.map lineT := by
  rw [frzL_map, List.map_map]
  exact List.map_congr_left fun p _ => by simp only [Function.comp, nf_node, nf_cons, nf_nil, nf_leaf, intsT_frz]
end L06
set_option Elab.async false
set_option linter.all false
set_option maxRecDepth 100000
set_option maxHeartbeats 4000000
namespace L06
open PySem L2 DL
local macro_rules | `(tactic| walk_at "go") => `(tactic| ((try (conv => whnf)); (repeat (first | (refine Nx.mk ?_; ((try (dsimp only [nr_none, nr_some, nr_nil, nf_leaf, nf_pin, nf_node, nf_nil, nf_cons, ni_f, ni_t, nw_nil, nw_cons, ns_0, ns_s])); (try simp only [intsT_frz, frzL_frzL, frz_lines, frz_keys])); (try (conv => whnf))) | (refine And.intro ?_ ?_; (focus (first | exact rfl | exact frz_frz _ | exact frz_nf _ _ | exact (show frz _ = _ by assumption) | (show frz _ = _; simp only [nf_node, nf_cons, nf_nil, nf_leaf, frzL_frzL, intsT_frz, frz_lines, frz_keys]; done) | exact frz_ints _ _ | (with_reducible assumption) | (rw [nf_node, intsT_frz]; done) | (walk_at "cl") | (omega) | (exact ⟨by omega, by omega⟩) | (show _ ≤ sizeLine; refine Nat.le_trans (m := 10000) ?_ (by decide); simp only [frzL_ln, List.length_append, List.length_map, List.length_reverse, List.length_cons, List.length_nil, List.length_range, Int.toNat_natCast]; omega) | (exact ⟨by omega, by omega, by refine Nat.le_trans (m := 10000) ?_ (by decide); simp only [frzL_ln, List.length_append, List.length_map, List.length_reverse, List.length_cons, List.length_nil, List.length_range, Int.toNat_natCast]; omega⟩) | (show (_ : Nat) ≤ _; exact Nat.le_of_ble_eq_true rfl) | exact (show (0 : Int) < _ by decide) | exact (show (0 : Int) ≤ _ by decide) | exact ⟨show (0 : Int) < _ by decide, show Nat.log2 _ < _ by decide⟩ | exact Or.inl (Or.inr ⟨show (_ : Int) < _ by decide, show (_ : Int) < _ by decide⟩) | exact Or.inl (Or.inl ⟨show (_ : Int) < _ by decide, show (_ : Int) < _ by decide⟩) | exact ⟨show (0 : Int) ≤ _ by decide, show (_ : Int) ≤ _ by decide, show Int.natAbs _ < _ by decide⟩)); (try (conv => whnf))) | (refine Exists.intro _ (Exists.intro _ (And.intro rfl (And.intro rfl ?_))); (try (conv => whnf))) | (refine Exists.intro _ (And.intro (Le.rf _) ?_); (try (conv => whnf))) | (refine Exists.intro _ (And.intro rfl ?_); (try (conv => whnf)))))))
local macro_rules | `(tactic| walk_at "gn") => `(tactic| ((try (conv => whnf)); (repeat (first | (refine And.intro ?_ ?_; (focus (first | exact rfl | exact frz_frz _ | exact frz_nf _ _ | exact (show frz _ = _ by assumption) | (show frz _ = _; simp only [nf_node, nf_cons, nf_nil, nf_leaf, frzL_frzL, intsT_frz, frz_lines, frz_keys]; done) | exact frz_ints _ _ | (with_reducible assumption) | (rw [nf_node, intsT_frz]; done) | (walk_at "cl") | (omega) | (exact ⟨by omega, by omega⟩) | (show _ ≤ sizeLine; refine Nat.le_trans (m := 10000) ?_ (by decide); simp only [frzL_ln, List.length_append, List.length_map, List.length_reverse, List.length_cons, List.length_nil, List.length_range, Int.toNat_natCast]; omega) | (exact ⟨by omega, by omega, by refine Nat.le_trans (m := 10000) ?_ (by decide); simp only [frzL_ln, List.length_append, List.length_map, List.length_reverse, List.length_cons, List.length_nil, List.length_range, Int.toNat_natCast]; omega⟩) | (show (_ : Nat) ≤ _; exact Nat.le_of_ble_eq_true rfl) | exact (show (0 : Int) < _ by decide) | exact (show (0 : Int) ≤ _ by decide) | exact ⟨show (0 : Int) < _ by decide, show Nat.log2 _ < _ by decide⟩ | exact Or.inl (Or.inr ⟨show (_ : Int) < _ by decide, show (_ : Int) < _ by decide⟩) | exact Or.inl (Or.inl ⟨show (_ : Int) < _ by decide, show (_ : Int) < _ by decide⟩) | exact ⟨show (0 : Int) ≤ _ by decide, show (_ : Int) ≤ _ by decide, show Int.natAbs _ < _ by decide⟩)); (try (conv => whnf))) | (refine Exists.intro _ (Exists.intro _ (And.intro rfl (And.intro rfl ?_))); (try (conv => whnf))) | (refine Exists.intro _ (And.intro (Le.rf _) ?_); (try (conv => whnf))) | (refine Exists.intro _ (And.intro rfl ?_); (try (conv => whnf)))))))
local macro_rules | `(tactic| walk_at "cl") => `(tactic| (first | (fail) | (exact frz_frz _; done)))
variable [Kls]
def fillQ : List (Option (Option T)) → Nat → (Nat → Option T) → Ev
  | [], _, _ => []
  | some x :: ps, k, ws => x :: fillQ ps (k + 1) ws
  | none :: ps, k, ws => ws k :: fillQ ps (k + 1) ws
theorem fillQ_eq : ∀ {ps : List (Option (Option T))} {k : Nat} {ws vs : Nat → Option T}, (∀ i, k ≤ i → ws i = vs i) → fillQ ps k ws = fillQ ps k vs
  | [], _, _, _, _ => rfl
  | some x :: ps, k, ws, vs, h => by
    show x :: fillQ ps (k + 1) ws = x :: fillQ ps (k + 1) vs
    rw [fillQ_eq (ps := ps) (k := k + 1) fun i hi => h i (by omega)]
  | none :: ps, k, ws, vs, h => by
    show ws k :: fillQ ps (k + 1) ws = vs k :: fillQ ps (k + 1) vs
    rw [fillQ_eq (ps := ps) (k := k + 1) fun i hi => h i (by omega), h k (Nat.le_refl _)]
theorem Fits.fill : ∀ {ps : List (Option (Option T))} {k : Nat} {g : Ev}, Fits ps g → ∃ ws, g = fillQ ps k ws
  | [], _, _, h => ⟨fun _ => none, h⟩
  | some x :: ps, k, g, h => by
    obtain ⟨r, rfl, h⟩ := h
    obtain ⟨ws, rfl⟩ := Fits.fill (k := k + 1) h
    exact ⟨ws, rfl⟩
  | none :: ps, k, g, h => by
    obtain ⟨y, r, rfl, h⟩ := h
    obtain ⟨ws, rfl⟩ := Fits.fill (k := k + 1) h
    refine ⟨fun i => if i = k then y else ws i, ?_⟩
    show _ = (if k = k then y else ws k) :: fillQ ps (k + 1) (fun i => if i = k then y else ws i)
    rw [if_pos rfl, fillQ_eq (ps := ps) (k := k + 1) (ws := ws) (vs := fun i => if i = k then y else ws i) fun i hi => by rw [if_neg (by omega)]]
theorem getK_nn {s : List Int} : ∀ {kvs : List (List Int × Int)}, (∀ p ∈ kvs, 0 < p.2) → 0 ≤ (getK kvs s).getD 0
  | [], _ => by simp [getK]
  | q :: r, h => by
    simp only [getK]
    by_cases e : q.1 = s
    · rw [if_pos e]
      have := h q List.mem_cons_self
      simp
      omega
    · rw [if_neg e]
      exact getK_nn fun p hp => h p (List.mem_cons_of_mem _ hp)
theorem getK_some_iff {s : List Int} : ∀ {kvs : List (List Int × Int)}, s ∈ kvs.map (·.1) ↔ (getK kvs s).isSome = true
  | [] => by simp [getK]
  | p :: r => by
    simp only [getK, List.map_cons, List.mem_cons]
    by_cases e : p.1 = s
    · rw [if_pos e]
      simp [e]
    · rw [if_neg e, ← getK_some_iff (kvs := r)]
      constructor
      · rintro (z | z)
        · exact absurd z.symm e
        · exact z
      · exact .inr
theorem good_lines2 {ls : List (List Int × Int)} (h : ∀ l ∈ ls, Slp l.1 ∧ l.2.natAbs < 2 ^ 62) (hl : ls.length ≤ 400) : GoodD (.list (ls.map lineD)) := by
  refine ⟨?_, ?_, ?_⟩
  · simp only [smallD]
    exact sm_lines h
  · have := dp_lines ls
    simp only [PyData.depth]
    omega
  · have := sz_lines (ls := ls) fun l hl => (h l hl).1
    simp only [szD]
    omega
theorem law_sorted (L : List (List Int × Int)) : (lawK L).mergeSort leK = lawK L := by
  rw [lawK_eq]
  exact List.mergeSort_of_pairwise (List.pairwise_mergeSort leK_trans leK_total (gatherK L))
theorem gD_cons (p : List Int × Int) (r : List (List Int × Int)) (s : List Int) : gD (p :: r) s = if p.1 = s then p.2 else gD r s := by
  unfold gD
  rw [getK]
  split <;> rfl
theorem gD_nn {S : List (List Int × Int)} (h : ∀ l ∈ S, 0 < l.2) (s : List Int) : 0 ≤ gD S s := getK_nn h
theorem sum_add' {α : Type} (f g : α → Int) : ∀ L : List α, (L.map fun s => f s + g s).sum = (L.map f).sum + (L.map g).sum
  | [] => rfl
  | a :: L => by
    simp only [List.map_cons, List.sum_cons, sum_add' f g L]
    omega
theorem sum_le' {α : Type} {f g : α → Int} : ∀ {L : List α}, (∀ s ∈ L, f s ≤ g s) → (L.map f).sum ≤ (L.map g).sum
  | [], _ => Int.le_refl _
  | a :: L, h => by
    have h1 := h a List.mem_cons_self
    have h2 := sum_le' (L := L) fun s hs => h s (List.mem_cons_of_mem _ hs)
    simp only [List.map_cons, List.sum_cons]
    omega
theorem sum_nn {α : Type} {f : α → Int} {L : List α} (h : ∀ s ∈ L, 0 ≤ f s) : 0 ≤ (L.map f).sum := by
  have := sum_le' (f := fun _ : α => (0 : Int)) (g := f) h
  rwa [sum_zero] at this
theorem sum_congr' {α : Type} {f g : α → Int} {L : List α} (h : ∀ s ∈ L, f s = g s) : (L.map f).sum = (L.map g).sum := congrArg List.sum (List.map_congr_left h)
theorem sum_over (F : List Int → Int → Int) (hF : ∀ s, F s 0 = 0) : ∀ (S : List (List Int × Int)) (L : List (List Int)), (S.map (·.1)).Nodup → L.Nodup → (∀ l ∈ S, l.1 ∈ L) → (S.map fun l => F l.1 l.2).sum = (L.map fun s => F s (gD S s)).sum
  | [], L, _, _, _ => by
    show (0 : Int) = (L.map fun s => F s 0).sum
    rw [sum_congr' (L := L) (g := fun _ => (0 : Int)) fun s _ => hF s, sum_zero]
  | p :: r, L, hn, hL, hm => by
    have hk : p.1 ∈ L := hm _ List.mem_cons_self
    have hn' := List.nodup_cons.mp hn
    rw [sum_perm ((List.perm_cons_erase hk).map _)]
    simp only [List.map_cons, List.sum_cons]
    rw [gD_cons, if_pos rfl, sum_over F hF r (L.erase p.1) hn'.2 (hL.erase p.1) fun l hl => (List.Nodup.mem_erase_iff hL).mpr ⟨fun e => hn'.1 (by show p.1 ∈ _; rw [← e]; exact List.mem_map_of_mem hl), hm l (List.mem_cons_of_mem _ hl)⟩]
    congr 1
    refine sum_congr' fun s hs => ?_
    rw [gD_cons, if_neg fun e => ((List.Nodup.mem_erase_iff hL).mp hs).1 e.symm]
def allK (ks : List (List Int)) : List (List Int) := (lawK (ks.map fun s => (s, (0 : Int)))).map (·.1)
theorem allK_nd (ks : List (List Int)) : (allK ks).Nodup := lawK_nodup _
theorem allK_mem {s : List Int} {ks : List (List Int)} : s ∈ allK ks ↔ s ∈ ks := by
  unfold allK
  rw [law_keys, List.map_map]
  simp
section
variable {A B C : List (List Int × Int)} {L : List (List Int)}
theorem tot_over (hA : (A.map (·.1)).Nodup) (hL : L.Nodup) (hm : ∀ l ∈ A, l.1 ∈ L) : (A.map (·.2)).sum = (L.map fun s => gD A s).sum :=
  sum_over (fun _ v => v) (fun _ => rfl) A L hA hL hm
theorem mem_keys {l : List Int × Int} (h : l ∈ A) : l.1 ∈ A.map (·.1) := List.mem_map_of_mem h
theorem Sht.pos (h : Sht A) : ∀ l ∈ A, 0 < l.2 := fun l hl => by have := (h.ok l hl).2; omega
theorem Sht.sm (h : Sht A) : ∀ l ∈ A, SmS l.1 := fun l hl => (h.ok l hl).1.sm
theorem le_sum {l : List Int × Int} : ∀ {A : List (List Int × Int)}, (∀ l ∈ A, 0 ≤ l.2) → l ∈ A → l.2 ≤ (A.map (·.2)).sum
  | [], _, h => by cases h
  | p :: r, h, hl => by
    have h1 := h p List.mem_cons_self
    have h2 := sum_nn (f := fun l : List Int × Int => l.2) fun l hl => h l (List.mem_cons_of_mem _ hl)
    simp only [List.map_cons, List.sum_cons]
    rcases List.mem_cons.mp hl with rfl | hl
    · omega
    · have := le_sum (fun l hl => h l (List.mem_cons_of_mem _ hl)) hl
      omega
theorem Sht.le (h : Sht A) {l : List Int × Int} (hl : l ∈ A) : l.2 ≤ 1000000000000 := Int.le_trans (le_sum (fun l hl => by have := h.pos l hl; omega) hl) h.tot
theorem sheetK_nd (ls : List (List Int × Int)) : ((sheetK ls).map (·.1)).Nodup := by
  unfold sheetK
  refine List.Nodup.sublist (List.Sublist.map _ List.filter_sublist) ?_
  exact ((List.mergeSort_perm _ leK).map (·.1)).nodup_iff.mpr (gather_ok _).1
theorem sheetK_get (ls : List (List Int × Int)) (s : List Int) : gD (sheetK ls) s = totK ls s := by
  have hz : ∀ {L : List (List Int × Int)}, totK (L.filter fun p => decide (p.2 ≠ 0)) s = totK L s := by
    intro L
    induction L with
    | nil => rfl
    | cons l L ih =>
      have hc : ∀ M, totK (l :: M) s = (if l.1 = s then l.2 else 0) + totK M s := fun M => by unfold totK; rw [List.map_cons, List.sum_cons]
      rw [List.filter_cons]
      split
      · rw [hc, hc, ih]
      · rename_i c
        have c : l.2 = 0 := by simpa using c
        rw [hc, ih, c]
        split <;> omega
  unfold gD
  rw [← totK_nodup (sheetK_nd ls)]
  unfold sheetK
  rw [hz, ← lawK_eq, law_tot]
end
theorem sht_law {ls : List (List Int × Int)} (hl : ls.length ≤ 310) (h : ∀ l ∈ ls, Slp l.1 ∧ 0 < l.2) (ht : (ls.map (·.2)).sum ≤ 1000000000000) : Sht (lawK ls) := by
  refine ⟨lawK_nodup ls, by have := lawK_len ls; omega, fun l hl2 => ?_, by rw [law_sum]; exact ht, law_sorted ls⟩
  obtain ⟨h6, h7⟩ := lawK_val hl2
  obtain ⟨l2, hl3, e2⟩ := List.mem_map.mp h7
  have h8 := gather_pos (lines := ls) (fun l hl => (h l hl).2) l (lawK_mem hl2)
  exact ⟨by rw [← e2]; exact (h l2 hl3).1, by omega⟩
theorem sheetK_key {ls : List (List Int × Int)} {l : List Int × Int} (h : l ∈ sheetK ls) : l.1 ∈ ls.map (·.1) := by
  unfold sheetK at h
  have h1 := (List.mergeSort_perm _ leK).mem_iff.mp (List.mem_filter.mp h).1
  have h2 := getK_some_iff.mp (List.mem_map_of_mem (f := fun x : List Int × Int => x.1) h1)
  rw [getK_gather] at h2
  split at h2
  · assumption
  · cases h2
theorem sheetK_slp {ls : List (List Int × Int)} (h : ∀ l ∈ ls, Slp l.1) : ∀ l ∈ sheetK ls, Slp l.1 := fun l hl => by
  obtain ⟨x, hx, e⟩ := List.mem_map.mp (sheetK_key hl)
  rw [← e]
  exact h x hx
theorem Sht.good {A : List (List Int × Int)} (h : Sht A) : GoodD (.list (A.map lineD)) := good_lines2 (fun l hl => ⟨(h.ok l hl).1, by have := h.le hl; have := (h.ok l hl).2; omega⟩) (by have := h.len; omega)
theorem eqv_lineD (a b : List Int × Int) : PyData.eqv (lineD a) (lineD b) = decide (a = b) := by
  show PyData.eqv (.tuple [tupD a.1, .int a.2]) (.tuple [tupD b.1, .int b.2]) = _
  rw [PyData.eqv, PyData.eqvAll, PyData.eqvAll, PyData.eqvAll, eqv_tupD, PyData.eqv, Bool.and_true]
  by_cases h1 : a.1 = b.1
  · by_cases h2 : a.2 = b.2
    · rw [decide_eq_true h1, decide_eq_true (Prod.ext h1 h2), h2]
      simp
    · rw [decide_eq_true h1, decide_eq_false (fun z => h2 (by rw [z]))]
      simpa using h2
  · rw [decide_eq_false h1, decide_eq_false (fun z => h1 (by rw [z])), Bool.false_and]
theorem eqv_linesD : ∀ A B : List (List Int × Int), PyData.eqvAll (A.map lineD) (B.map lineD) = decide (A = B)
  | [], [] => rfl
  | [], _ :: _ => by
    rw [decide_eq_false (by simp)]
    rfl
  | _ :: _, [] => by
    rw [decide_eq_false (by simp)]
    rfl
  | a :: A, b :: B => by
    rw [List.map_cons, List.map_cons, PyData.eqvAll, eqv_lineD, eqv_linesD A B]
    by_cases h1 : a = b
    · by_cases h2 : A = B
      · rw [decide_eq_true h1, decide_eq_true h2, decide_eq_true (by rw [h1, h2])]
        rfl
      · rw [decide_eq_false h2, decide_eq_false (fun z => h2 (List.cons.inj z).2), Bool.and_false]
    · rw [decide_eq_false h1, decide_eq_false (fun z => h1 (List.cons.inj z).1), Bool.false_and]
theorem sum_sheetK (ls : List (List Int × Int)) : ((sheetK ls).map (·.2)).sum = (ls.map (·.2)).sum := by
  have sum_nz : ∀ L : List (List Int × Int), ((L.filter fun p => decide (p.2 ≠ 0)).map (·.2)).sum = (L.map (·.2)).sum := fun L => by
    induction L with
    | nil => rfl
    | cons l L ih =>
      rw [List.filter_cons]
      split
      · rw [List.map_cons, List.map_cons, List.sum_cons, List.sum_cons, ih]
      · rename_i c
        have c : l.2 = 0 := by simpa using c
        rw [List.map_cons, List.sum_cons, ih, c, Int.zero_add]
  unfold sheetK
  rw [sum_nz, sum_perm ((List.mergeSort_perm _ leK).map (·.2)), gather_sum]
theorem codeL_snoc (n : Int) (rs : List Int) (r : Int) : codeL n (rs ++ [r]) = codeL n rs * 13 + r := by simp [codeL]
theorem code_loop {D : DEnds} {rs : List Int} {gt : DTG} {body : DTS} {g : Ev} (st : Int → List (Option (Option T))) {n : Int} (e0 : Fits (st n) g)
    (hs : ∀ (c r : Int) (g : Ev), Fits (st c) g → ∀ R : Ev → Prop, (∀ g', Fits (st (c * 13 + r)) g' → R g') → gt (.leaf (.int r)) g fun g1 => body (lpE R D) g1)
    (he : ∀ g, Fits (st (codeL n rs)) g → D.nx g) : Loop gt body D (intsT rs) g := by
  refine Loop.fit rs (fun r => .leaf (.int r)) rfl st (fun i c => c = codeL n (rs.take i)) n rfl e0 (fun i r c g hr hI hF R hR => hs c r g hF R fun g' h => hR _ g' ?_ h) fun c g hI hF => he g ?_
  · rw [List.take_add_one, hr]
    show _ = codeL n (rs.take i ++ [r])
    rw [codeL_snoc, hI]
  · rw [List.take_length] at hI
    rw [← hI]
    exact hF
theorem rd_code_of {ts : List T} {Q : T → List T → Prop} {E : Value → List (Str × V) → List T → Prop} (h : sp_code_of ts Q E) : t_code_of (bodyEnds [false, false] Q E) (startE 6 (frzP [false, false] ts)) := by
  obtain ⟨o, p, ss, n, h, rfl, hss, hl, hh, q⟩ := h
  (try simp only [np_t, np_f, np_n, ne_c, ne_n, ne_0, nf_leaf, nf_pin, nf_node])
  (repeat (first | (refine Nx.mk ?_; ((try (dsimp only [nr_none, nr_some, nr_nil, nf_leaf, nf_pin, nf_node, nf_nil, nf_cons, ni_f, ni_t, nw_nil, nw_cons, ns_0, ns_s])); (try simp only [intsT_frz, frzL_frzL, frz_lines, frz_keys]))) | (refine And.intro ?_ ?_; focus (first | exact rfl | exact frz_frz _ | exact frz_nf _ _ | exact (show frz _ = _ by assumption) | (show frz _ = _; simp only [nf_node, nf_cons, nf_nil, nf_leaf, frzL_frzL, intsT_frz, frz_lines, frz_keys]; done) | exact frz_ints _ _ | exact Nat.le_of_ble_eq_true rfl | exact (show (0 : Int) < _ by decide) | exact (show (0 : Int) ≤ _ by decide) | exact ⟨show (0 : Int) < _ by decide, show Nat.log2 _ < _ by decide⟩ | exact Or.inl (Or.inr ⟨show (_ : Int) < _ by decide, show (_ : Int) < _ by decide⟩) | exact Or.inl (Or.inl ⟨show (_ : Int) < _ by decide, show (_ : Int) < _ by decide⟩) | exact ⟨show (0 : Int) ≤ _ by decide, show (_ : Int) ≤ _ by decide, show Int.natAbs _ < _ by decide⟩)) | refine Exists.intro _ (Exists.intro _ (And.intro rfl (And.intro rfl ?_))) | refine Exists.intro _ (And.intro (Le.rf _) ?_) | refine Exists.intro _ (And.intro rfl ?_)))
  refine ⟨false, ss, h, by simp only [frzL_frzL, intsT_frz], hss, hl, hh, ?_⟩
  (conv => whnf)
  rw [intsT_frz]
  refine code_loop (fun c => [none, none, none, none, some (some (.leaf (.int c))), none]) (n := n) (by repeat' (first | exact Fits.e | refine Fits.n ?_ | refine Fits.s rfl ?_)) (fun c r g hg R hR => ?_) fun g hg => ?_
  · (obtain ⟨ws_, rfl⟩ := Fits.fill (k := 0) hg; clear hg; dsimp only [fillQ, Nat.reduceAdd])
    (repeat (first | (refine Nx.mk ?_; ((try (dsimp only [nr_none, nr_some, nr_nil, nf_leaf, nf_pin, nf_node, nf_nil, nf_cons, ni_f, ni_t, nw_nil, nw_cons, ns_0, ns_s])); (try simp only [intsT_frz, frzL_frzL, frz_lines, frz_keys]))) | (refine And.intro ?_ ?_; focus (first | exact rfl | exact frz_frz _ | exact frz_nf _ _ | exact (show frz _ = _ by assumption) | (show frz _ = _; simp only [nf_node, nf_cons, nf_nil, nf_leaf, frzL_frzL, intsT_frz, frz_lines, frz_keys]; done) | exact frz_ints _ _ | exact Nat.le_of_ble_eq_true rfl | exact (show (0 : Int) < _ by decide) | exact (show (0 : Int) ≤ _ by decide) | exact ⟨show (0 : Int) < _ by decide, show Nat.log2 _ < _ by decide⟩ | exact Or.inl (Or.inr ⟨show (_ : Int) < _ by decide, show (_ : Int) < _ by decide⟩) | exact Or.inl (Or.inl ⟨show (_ : Int) < _ by decide, show (_ : Int) < _ by decide⟩) | exact ⟨show (0 : Int) ≤ _ by decide, show (_ : Int) ≤ _ by decide, show Int.natAbs _ < _ by decide⟩)) | refine Exists.intro _ (Exists.intro _ (And.intro rfl (And.intro rfl ?_))) | refine Exists.intro _ (And.intro (Le.rf _) ?_) | refine Exists.intro _ (And.intro rfl ?_)))
    exact hR _ (by repeat' (first | exact Fits.e | refine Fits.n ?_ | refine Fits.s rfl ?_))
  · (obtain ⟨ws_, rfl⟩ := Fits.fill (k := 0) hg; clear hg; dsimp only [fillQ, Nat.reduceAdd])
    (repeat (first | (refine Nx.mk ?_; ((try (dsimp only [nr_none, nr_some, nr_nil, nf_leaf, nf_pin, nf_node, nf_nil, nf_cons, ni_f, ni_t, nw_nil, nw_cons, ns_0, ns_s])); (try simp only [intsT_frz, frzL_frzL, frz_lines, frz_keys]))) | (refine And.intro ?_ ?_; focus (first | exact rfl | exact frz_frz _ | exact frz_nf _ _ | exact (show frz _ = _ by assumption) | (show frz _ = _; simp only [nf_node, nf_cons, nf_nil, nf_leaf, frzL_frzL, intsT_frz, frz_lines, frz_keys]; done) | exact frz_ints _ _ | exact Nat.le_of_ble_eq_true rfl | exact (show (0 : Int) < _ by decide) | exact (show (0 : Int) ≤ _ by decide) | exact ⟨show (0 : Int) < _ by decide, show Nat.log2 _ < _ by decide⟩ | exact Or.inl (Or.inr ⟨show (_ : Int) < _ by decide, show (_ : Int) < _ by decide⟩) | exact Or.inl (Or.inl ⟨show (_ : Int) < _ by decide, show (_ : Int) < _ by decide⟩) | exact ⟨show (0 : Int) ≤ _ by decide, show (_ : Int) ≤ _ by decide, show Int.natAbs _ < _ by decide⟩)) | refine Exists.intro _ (Exists.intro _ (And.intro rfl (And.intro rfl ?_))) | refine Exists.intro _ (And.intro (Le.rf _) ?_) | refine Exists.intro _ (And.intro rfl ?_)))
    exact q
theorem lineR_if {c : Int} {h : Nat} : lineR c h = if 0 ≤ c ∧ 1 ≤ c / 13 ^ h ∧ c / 13 ^ h ≤ 10 ^ 9 ∧ plainR (tiersR (digs c h)) h = digs c h then some (tiersR (digs c h), c / 13 ^ h) else none := rfl
theorem div13 (c : Int) (i : Nat) : c / 13 ^ i / 13 = c / 13 ^ (i + 1) := by
  rw [Int.ediv_ediv_of_nonneg (Int.pow_nonneg (by decide))]
  rfl
theorem digs_rk {c : Int} {h : Nat} (h12 : h ≤ 12) : RkOk (digs c h) h := ⟨digs_len c h, h12, fun r hr => by
  have := digs_mem c h r hr
  omega⟩
theorem good_digs {c : Int} {h : Nat} (h12 : h ≤ 12) : GoodD (.list ((digs c h).map .int)) := good_ints (fun r hr => small62 (by have := digs_mem c h r hr; omega)) (by rw [digs_len]; omega)
theorem code_inv : ∀ (rs : List Int) (n : Int), (∀ r ∈ rs, 0 ≤ r ∧ r ≤ 12) → codeL n rs / 13 ^ rs.length = n ∧ digs (codeL n rs) rs.length = rs := by
  intro rs n
  induction rs generalizing n with
  | nil => exact fun _ => ⟨by simp [codeL], rfl⟩
  | cons r rs ih =>
    intro h
    have hr := h r List.mem_cons_self
    obtain ⟨e1, e2⟩ := ih (n * 13 + r) fun x hx => h x (List.mem_cons_of_mem _ hx)
    have e0 : codeL n (r :: rs) = codeL (n * 13 + r) rs := rfl
    rw [e0]
    refine ⟨?_, ?_⟩
    · rw [List.length_cons, ← div13, e1]
      omega
    · show (codeL (n * 13 + r) rs / 13 ^ rs.length % 13) :: digs (codeL (n * 13 + r) rs) rs.length = r :: rs
      rw [e1, e2]
      congr 1
      omega
theorem code_le : ∀ (rs : List Int) (n : Int), 0 ≤ n → (∀ r ∈ rs, 0 ≤ r ∧ r ≤ 12) → 0 ≤ codeL n rs ∧ codeL n rs < (n + 1) * 13 ^ rs.length := by
  intro rs n
  induction rs generalizing n with
  | nil => exact fun h _ => ⟨h, by simp [codeL]; omega⟩
  | cons r rs ih =>
    intro hn h
    have hr := h r List.mem_cons_self
    obtain ⟨e1, e2⟩ := ih (n * 13 + r) (by omega) fun x hx => h x (List.mem_cons_of_mem _ hx)
    refine ⟨e1, Int.lt_of_lt_of_le e2 ?_⟩
    rw [List.length_cons, Int.pow_succ]
    have : (n * 13 + r + 1) ≤ (n + 1) * 13 := by omega
    have h13 : (0 : Int) ≤ 13 ^ rs.length := Int.pow_nonneg (by decide)
    calc (n * 13 + r + 1) * 13 ^ rs.length ≤ (n + 1) * 13 * 13 ^ rs.length := Int.mul_le_mul_of_nonneg_right this h13
      _ = (n + 1) * (13 ^ rs.length * 13) := by rw [Int.mul_assoc, Int.mul_comm 13]
theorem zi_get {ns : List Int} {i k : Nat} {c : Int} (h : ns.zipIdx[i]? = some (c, k)) : k = i ∧ ns[i]? = some c := by
  rw [List.getElem?_zipIdx] at h
  cases e : ns[i]? with
  | none => rw [e] at h; cases h
  | some x =>
    rw [e] at h
    simp at h
    exact ⟨h.2.symm, by rw [h.1]⟩
theorem len_ints (ns : List Int) : (intsT ns).length = ns.length := by rw [intsT_eq, List.length_map, List.length_map]
theorem len_frz (ts : List T) : (frzL ts).length = ts.length := frzL_length ts
theorem enum_ints (ns : List Int) : enumT (intsT ns) = ns.zipIdx.map fun q => .node true .tup [.leaf (.int q.2), .leaf (.int q.1)] := by
  apply List.ext_getElem?
  intro i
  unfold enumT
  rw [List.getElem?_mapIdx, intsT_eq, List.getElem?_map, List.getElem?_map, List.getElem?_map, List.getElem?_zipIdx]
  cases ns[i]? <;> simp
theorem mulA {i j : Int} (h : -(2 ^ 64) < i ∧ i < 2 ^ 64) : CMulA i j := .inl (.inl h)
theorem take_sum {α : Type} {f : α → Int} {l : List α} {i : Nat} {x : α} (h : l[i]? = some x) : ((l.take (i + 1)).map f).sum = ((l.take i).map f).sum + f x := by
  rw [List.take_add_one, h]
  simp
theorem rd_seal_of {ts : List T} {Q : T → List T → Prop} {E : Value → List (Str × V) → List T → Prop} (h : sp_seal_of ts Q E) : t_seal_of (bodyEnds [false] Q E) (startE 7 (frzP [false] ts)) := by
  obtain ⟨o, ns, rfl, hl, q⟩ := h
  (try simp only [np_t, np_f, np_n, ne_c, ne_n, ne_0, nf_leaf, nf_pin, nf_node])
  (repeat (first | (refine Nx.mk ?_; ((try (dsimp only [nr_none, nr_some, nr_nil, nf_leaf, nf_pin, nf_node, nf_nil, nf_cons, ni_f, ni_t, nw_nil, nw_cons, ns_0, ns_s])); (try simp only [intsT_frz, frzL_frzL, frz_lines, frz_keys]))) | (refine And.intro ?_ ?_; focus (first | exact rfl | exact frz_frz _ | exact frz_nf _ _ | exact (show frz _ = _ by assumption) | (show frz _ = _; simp only [nf_node, nf_cons, nf_nil, nf_leaf, frzL_frzL, intsT_frz, frz_lines, frz_keys]; done) | exact frz_ints _ _ | exact Nat.le_of_ble_eq_true rfl | exact (show (0 : Int) < _ by decide) | exact (show (0 : Int) ≤ _ by decide) | exact ⟨show (0 : Int) < _ by decide, show Nat.log2 _ < _ by decide⟩ | exact Or.inl (Or.inr ⟨show (_ : Int) < _ by decide, show (_ : Int) < _ by decide⟩) | exact Or.inl (Or.inl ⟨show (_ : Int) < _ by decide, show (_ : Int) < _ by decide⟩) | exact ⟨show (0 : Int) ≤ _ by decide, show (_ : Int) ≤ _ by decide, show Int.natAbs _ < _ by decide⟩)) | refine Exists.intro _ (Exists.intro _ (And.intro rfl (And.intro rfl ?_))) | refine Exists.intro _ (And.intro (Le.rf _) ?_) | refine Exists.intro _ (And.intro rfl ?_)))
  (conv => whnf)
  try rw [intsT_frz]
  try rw [intsT_frz]
  rw [enum_ints]
  refine Loop.fit ns.zipIdx _ rfl (fun z : Int × Int × Int => [some (some (.node false .lst (intsT ns))), some (some (.leaf (.int z.1))), some (some (.leaf (.int z.2.1))), some (some (.leaf (.int z.2.2))), none, none, none]) (fun i z => z = (((ns.zipIdx.take i).map wt0).sum, ((ns.zipIdx.take i).map wt1).sum, ((ns.zipIdx.take i).map wt2).sum)) (0, 0, 0) rfl (by repeat' (first | exact Fits.e | refine Fits.n ?_ | refine Fits.s rfl ?_)) (fun i q z g hq hI hF R hR => ?_) fun z g hI hF => ?_
  · (obtain ⟨ws_, rfl⟩ := Fits.fill (k := 0) hF; clear hF; dsimp only [fillQ, Nat.reduceAdd])
    obtain ⟨c, k⟩ := q
    obtain ⟨rfl, hk⟩ := zi_get hq
    have hk2 := (List.getElem?_eq_some_iff.mp hk).1
    (repeat (first | (refine Nx.mk ?_; ((try (dsimp only [nr_none, nr_some, nr_nil, nf_leaf, nf_pin, nf_node, nf_nil, nf_cons, ni_f, ni_t, nw_nil, nw_cons, ns_0, ns_s])); (try simp only [intsT_frz, frzL_frzL, frz_lines, frz_keys]))) | (refine And.intro ?_ ?_; focus (first | exact rfl | exact frz_frz _ | exact frz_nf _ _ | exact (show frz _ = _ by assumption) | (show frz _ = _; simp only [nf_node, nf_cons, nf_nil, nf_leaf, frzL_frzL, intsT_frz, frz_lines, frz_keys]; done) | exact frz_ints _ _ | exact Nat.le_of_ble_eq_true rfl | exact (show (0 : Int) < _ by decide) | exact (show (0 : Int) ≤ _ by decide) | exact ⟨show (0 : Int) < _ by decide, show Nat.log2 _ < _ by decide⟩ | exact Or.inl (Or.inr ⟨show (_ : Int) < _ by decide, show (_ : Int) < _ by decide⟩) | exact Or.inl (Or.inl ⟨show (_ : Int) < _ by decide, show (_ : Int) < _ by decide⟩) | exact ⟨show (0 : Int) ≤ _ by decide, show (_ : Int) ≤ _ by decide, show Int.natAbs _ < _ by decide⟩)) | refine Exists.intro _ (Exists.intro _ (And.intro rfl (And.intro rfl ?_))) | refine Exists.intro _ (And.intro (Le.rf _) ?_) | refine Exists.intro _ (And.intro rfl ?_)))
    refine And.intro (mulA (by omega)) ?_
    (repeat (first | (refine Nx.mk ?_; ((try (dsimp only [nr_none, nr_some, nr_nil, nf_leaf, nf_pin, nf_node, nf_nil, nf_cons, ni_f, ni_t, nw_nil, nw_cons, ns_0, ns_s])); (try simp only [intsT_frz, frzL_frzL, frz_lines, frz_keys]))) | (refine And.intro ?_ ?_; focus (first | exact rfl | exact frz_frz _ | exact frz_nf _ _ | exact (show frz _ = _ by assumption) | (show frz _ = _; simp only [nf_node, nf_cons, nf_nil, nf_leaf, frzL_frzL, intsT_frz, frz_lines, frz_keys]; done) | exact frz_ints _ _ | exact Nat.le_of_ble_eq_true rfl | exact (show (0 : Int) < _ by decide) | exact (show (0 : Int) ≤ _ by decide) | exact ⟨show (0 : Int) < _ by decide, show Nat.log2 _ < _ by decide⟩ | exact Or.inl (Or.inr ⟨show (_ : Int) < _ by decide, show (_ : Int) < _ by decide⟩) | exact Or.inl (Or.inl ⟨show (_ : Int) < _ by decide, show (_ : Int) < _ by decide⟩) | exact ⟨show (0 : Int) ≤ _ by decide, show (_ : Int) ≤ _ by decide, show Int.natAbs _ < _ by decide⟩)) | refine Exists.intro _ (Exists.intro _ (And.intro rfl (And.intro rfl ?_))) | refine Exists.intro _ (And.intro (Le.rf _) ?_) | refine Exists.intro _ (And.intro rfl ?_)))
    refine And.intro (mulA (by omega)) ?_
    (repeat (first | (refine Nx.mk ?_; ((try (dsimp only [nr_none, nr_some, nr_nil, nf_leaf, nf_pin, nf_node, nf_nil, nf_cons, ni_f, ni_t, nw_nil, nw_cons, ns_0, ns_s])); (try simp only [intsT_frz, frzL_frzL, frz_lines, frz_keys]))) | (refine And.intro ?_ ?_; focus (first | exact rfl | exact frz_frz _ | exact frz_nf _ _ | exact (show frz _ = _ by assumption) | (show frz _ = _; simp only [nf_node, nf_cons, nf_nil, nf_leaf, frzL_frzL, intsT_frz, frz_lines, frz_keys]; done) | exact frz_ints _ _ | exact Nat.le_of_ble_eq_true rfl | exact (show (0 : Int) < _ by decide) | exact (show (0 : Int) ≤ _ by decide) | exact ⟨show (0 : Int) < _ by decide, show Nat.log2 _ < _ by decide⟩ | exact Or.inl (Or.inr ⟨show (_ : Int) < _ by decide, show (_ : Int) < _ by decide⟩) | exact Or.inl (Or.inl ⟨show (_ : Int) < _ by decide, show (_ : Int) < _ by decide⟩) | exact ⟨show (0 : Int) ≤ _ by decide, show (_ : Int) ≤ _ by decide, show Int.natAbs _ < _ by decide⟩)) | refine Exists.intro _ (Exists.intro _ (And.intro rfl (And.intro rfl ?_))) | refine Exists.intro _ (And.intro (Le.rf _) ?_) | refine Exists.intro _ (And.intro rfl ?_)))
    have hkk : ((k : Int) + 1) * (k + 1) ≤ 310 * 310 := Int.mul_le_mul (by omega) (by omega) (by omega) (by omega)
    have hk0 : (0 : Int) ≤ ((k : Int) + 1) * (k + 1) := Int.mul_nonneg (by omega) (by omega)
    refine And.intro (mulA (by omega)) ?_
    (repeat (first | (refine Nx.mk ?_; ((try (dsimp only [nr_none, nr_some, nr_nil, nf_leaf, nf_pin, nf_node, nf_nil, nf_cons, ni_f, ni_t, nw_nil, nw_cons, ns_0, ns_s])); (try simp only [intsT_frz, frzL_frzL, frz_lines, frz_keys]))) | (refine And.intro ?_ ?_; focus (first | exact rfl | exact frz_frz _ | exact frz_nf _ _ | exact (show frz _ = _ by assumption) | (show frz _ = _; simp only [nf_node, nf_cons, nf_nil, nf_leaf, frzL_frzL, intsT_frz, frz_lines, frz_keys]; done) | exact frz_ints _ _ | exact Nat.le_of_ble_eq_true rfl | exact (show (0 : Int) < _ by decide) | exact (show (0 : Int) ≤ _ by decide) | exact ⟨show (0 : Int) < _ by decide, show Nat.log2 _ < _ by decide⟩ | exact Or.inl (Or.inr ⟨show (_ : Int) < _ by decide, show (_ : Int) < _ by decide⟩) | exact Or.inl (Or.inl ⟨show (_ : Int) < _ by decide, show (_ : Int) < _ by decide⟩) | exact ⟨show (0 : Int) ≤ _ by decide, show (_ : Int) ≤ _ by decide, show Int.natAbs _ < _ by decide⟩)) | refine Exists.intro _ (Exists.intro _ (And.intro rfl (And.intro rfl ?_))) | refine Exists.intro _ (And.intro (Le.rf _) ?_) | refine Exists.intro _ (And.intro rfl ?_)))
    refine hR (z.1 + c, z.2.1 + ((k : Int) + 1) * c, z.2.2 + ((k : Int) + 1) * (k + 1) * c) _ ?_ (by repeat' (first | exact Fits.e | refine Fits.n ?_ | refine Fits.s rfl ?_))
    rw [take_sum hq, take_sum hq, take_sum hq, hI]
    rfl
  · (obtain ⟨ws_, rfl⟩ := Fits.fill (k := 0) hF; clear hF; dsimp only [fillQ, Nat.reduceAdd])
    rw [List.take_of_length_le (Nat.le_refl _)] at hI
    subst hI
    (repeat (first | (refine Nx.mk ?_; ((try (dsimp only [nr_none, nr_some, nr_nil, nf_leaf, nf_pin, nf_node, nf_nil, nf_cons, ni_f, ni_t, nw_nil, nw_cons, ns_0, ns_s])); (try simp only [intsT_frz, frzL_frzL, frz_lines, frz_keys]))) | (refine And.intro ?_ ?_; focus (first | exact rfl | exact frz_frz _ | exact frz_nf _ _ | exact (show frz _ = _ by assumption) | (show frz _ = _; simp only [nf_node, nf_cons, nf_nil, nf_leaf, frzL_frzL, intsT_frz, frz_lines, frz_keys]; done) | exact frz_ints _ _ | exact Nat.le_of_ble_eq_true rfl | exact (show (0 : Int) < _ by decide) | exact (show (0 : Int) ≤ _ by decide) | exact ⟨show (0 : Int) < _ by decide, show Nat.log2 _ < _ by decide⟩ | exact Or.inl (Or.inr ⟨show (_ : Int) < _ by decide, show (_ : Int) < _ by decide⟩) | exact Or.inl (Or.inl ⟨show (_ : Int) < _ by decide, show (_ : Int) < _ by decide⟩) | exact ⟨show (0 : Int) ≤ _ by decide, show (_ : Int) ≤ _ by decide, show Int.natAbs _ < _ by decide⟩)) | refine Exists.intro _ (Exists.intro _ (And.intro rfl (And.intro rfl ?_))) | refine Exists.intro _ (And.intro (Le.rf _) ?_) | refine Exists.intro _ (And.intro rfl ?_)))
    rw [len_ints]
    exact q
theorem S0_sum (ns : List Int) : S0 ns = ns.sum := by
  unfold S0
  have : ns.zipIdx.map wt0 = ns := by
    apply List.ext_getElem?
    intro i
    rw [List.getElem?_map, List.getElem?_zipIdx]
    cases ns[i]? <;> rfl
  rw [this]
theorem ixN_at {n : Nat} {k : Int} (h0 : 0 ≤ k) (h : k < n) : ixN n k = some k.toNat := by
  unfold ixN
  rw [if_pos h0, if_pos h]
theorem ints_getM {ns : List Int} {i : Nat} {c : Int} (h : ns[i]? = some c) : (intsT ns)[i]? = some (.leaf (.int c)) := by
  rw [intsT_eq, List.map_map, List.getElem?_map, h]
  rfl
theorem ints_set (ns : List Int) (i : Nat) (c : Int) : (intsT ns).set i (.leaf (.int c)) = intsT (ns.set i c) := by
  rw [intsT_eq, intsT_eq, List.map_map, List.map_map, List.map_set]
  rfl
theorem sum_small {k : Nat} : ∀ {ns : List Int}, AB k ns → ns.sum.natAbs ≤ ns.length * 2 ^ k
  | [], _ => by simp
  | c :: r, h => by
    have h1 := sum_small (ns := r) fun x hx => h x (List.mem_cons_of_mem _ hx)
    have h2 := h c List.mem_cons_self
    rw [List.sum_cons, List.length_cons, Nat.succ_mul]
    omega
theorem S0_small {ns : List Int} (hl : ns.length ≤ 310) (h : AB 300 ns) : (S0 ns).natAbs < 2 ^ 1000 := by
  rw [S0_sum]
  refine Nat.lt_of_le_of_lt (sum_small h) (Nat.lt_of_le_of_lt (Nat.mul_le_mul_right _ hl) ?_)
  decide +kernel
theorem log_lt {i : Int} {k n : Nat} (h : i.natAbs < 2 ^ k) (hk : k ≤ n) (hp : 0 < n := by decide) : i.natAbs.log2 < n := by
  by_cases e : i.natAbs = 0
  · rw [e]
    simpa using hp
  · exact (Nat.log2_lt e).mpr (Nat.lt_of_lt_of_le h (Nat.pow_le_pow_right (by decide) hk))
theorem eq3 (a b c : Int) : (if false = true then !PyData.eqv (.tuple [.int a, .int b, .int c]) (.tuple [.int 0, .int 0, .int 0]) else PyData.eqv (.tuple [.int a, .int b, .int c]) (.tuple [.int 0, .int 0, .int 0])) = decide (a = 0 ∧ b = 0 ∧ c = 0) := by
  have : PyData.eqv (.tuple [.int a, .int b, .int c]) (.tuple [.int 0, .int 0, .int 0]) = _ := eqv_tupD (a := [a, b, c]) (b := [0, 0, 0])
  rw [if_neg (by decide), this]
  simp
abbrev pairM (r : List Int × Int) : T := .node true .tup [.node true .lst (intsT r.1), .leaf (.int r.2)]
theorem rd_mended {ts : List T} {Q : T → List T → Prop} {E : Value → List (Str × V) → List T → Prop} (h : sp_mended ts Q E) : t_mended (bodyEnds [false, false] Q E) (startE 10 (frzP [false, false] ts)) := by
  obtain ⟨ns, g0, g1, g2, g3, ⟨o, p, rfl, hl, hb, h1⟩, q⟩ := h
  have bad : mendR ns g0 g1 g2 g3 = none → E (cxN 5) [] [] := fun e => by
    rcases q with ⟨r, r2, e2, _⟩ | ⟨_, q⟩
    · rw [e] at e2
      cases e2
    · exact q
  have good : ∀ r, mendR ns g0 g1 g2 g3 = some r → Q (pairM r) [] := fun r e => by
    rcases q with ⟨r', r2, e2, q⟩ | ⟨e2, _⟩
    · rw [e] at e2
      cases e2
      exact q
    · rw [e] at e2
      cases e2
  clear q
  (try simp only [np_t, np_f, np_n, ne_c, ne_n, ne_0, nf_leaf, nf_pin, nf_node])
  (repeat (first | (refine Nx.mk ?_; ((try (dsimp only [nr_none, nr_some, nr_nil, nf_leaf, nf_pin, nf_node, nf_nil, nf_cons, ni_f, ni_t, nw_nil, nw_cons, ns_0, ns_s])); (try simp only [intsT_frz, frzL_frzL, frz_lines, frz_keys]))) | (refine And.intro ?_ ?_; focus (first | exact rfl | exact frz_frz _ | exact frz_nf _ _ | exact (show frz _ = _ by assumption) | (show frz _ = _; simp only [nf_node, nf_cons, nf_nil, nf_leaf, frzL_frzL, intsT_frz, frz_lines, frz_keys]; done) | exact frz_ints _ _ | exact Nat.le_of_ble_eq_true rfl | exact (show (0 : Int) < _ by decide) | exact (show (0 : Int) ≤ _ by decide) | exact ⟨show (0 : Int) < _ by decide, show Nat.log2 _ < _ by decide⟩ | exact Or.inl (Or.inr ⟨show (_ : Int) < _ by decide, show (_ : Int) < _ by decide⟩) | exact Or.inl (Or.inl ⟨show (_ : Int) < _ by decide, show (_ : Int) < _ by decide⟩) | exact ⟨show (0 : Int) ≤ _ by decide, show (_ : Int) ≤ _ by decide, show Int.natAbs _ < _ by decide⟩)) | refine Exists.intro _ (Exists.intro _ (And.intro rfl (And.intro rfl ?_))) | refine Exists.intro _ (And.intro (Le.rf _) ?_) | refine Exists.intro _ (And.intro rfl ?_)))
  refine ⟨false, ns, (by simp only [nf_node, nf_cons, nf_nil, nf_leaf, nf_pin, frzL_frzL, frz_frz, intsT_frz]), hl, ?_⟩
  (repeat (first | (refine Nx.mk ?_; ((try (dsimp only [nr_none, nr_some, nr_nil, nf_leaf, nf_pin, nf_node, nf_nil, nf_cons, ni_f, ni_t, nw_nil, nw_cons, ns_0, ns_s])); (try simp only [intsT_frz, frzL_frzL, frz_lines, frz_keys]))) | (refine And.intro ?_ ?_; focus (first | exact rfl | exact frz_frz _ | exact frz_nf _ _ | exact (show frz _ = _ by assumption) | (show frz _ = _; simp only [nf_node, nf_cons, nf_nil, nf_leaf, frzL_frzL, intsT_frz, frz_lines, frz_keys]; done) | exact frz_ints _ _ | exact Nat.le_of_ble_eq_true rfl | exact (show (0 : Int) < _ by decide) | exact (show (0 : Int) ≤ _ by decide) | exact ⟨show (0 : Int) < _ by decide, show Nat.log2 _ < _ by decide⟩ | exact Or.inl (Or.inr ⟨show (_ : Int) < _ by decide, show (_ : Int) < _ by decide⟩) | exact Or.inl (Or.inl ⟨show (_ : Int) < _ by decide, show (_ : Int) < _ by decide⟩) | exact ⟨show (0 : Int) ≤ _ by decide, show (_ : Int) ≤ _ by decide, show Int.natAbs _ < _ by decide⟩)) | refine Exists.intro _ (Exists.intro _ (And.intro rfl (And.intro rfl ?_))) | refine Exists.intro _ (And.intro (Le.rf _) ?_) | refine Exists.intro _ (And.intro rfl ?_)))
  simp only [nf_leaf]
  (repeat (first | (refine Nx.mk ?_; ((try (dsimp only [nr_none, nr_some, nr_nil, nf_leaf, nf_pin, nf_node, nf_nil, nf_cons, ni_f, ni_t, nw_nil, nw_cons, ns_0, ns_s])); (try simp only [intsT_frz, frzL_frzL, frz_lines, frz_keys]))) | (refine And.intro ?_ ?_; focus (first | exact rfl | exact frz_frz _ | exact frz_nf _ _ | exact (show frz _ = _ by assumption) | (show frz _ = _; simp only [nf_node, nf_cons, nf_nil, nf_leaf, frzL_frzL, intsT_frz, frz_lines, frz_keys]; done) | exact frz_ints _ _ | exact Nat.le_of_ble_eq_true rfl | exact (show (0 : Int) < _ by decide) | exact (show (0 : Int) ≤ _ by decide) | exact ⟨show (0 : Int) < _ by decide, show Nat.log2 _ < _ by decide⟩ | exact Or.inl (Or.inr ⟨show (_ : Int) < _ by decide, show (_ : Int) < _ by decide⟩) | exact Or.inl (Or.inl ⟨show (_ : Int) < _ by decide, show (_ : Int) < _ by decide⟩) | exact ⟨show (0 : Int) ≤ _ by decide, show (_ : Int) ≤ _ by decide, show Int.natAbs _ < _ by decide⟩)) | refine Exists.intro _ (Exists.intro _ (And.intro rfl (And.intro rfl ?_))) | refine Exists.intro _ (And.intro (Le.rf _) ?_) | refine Exists.intro _ (And.intro rfl ?_)))
  refine ifB_of (fun c0 => ?_) (fun c0 => ?_)
  · refine bad ?_
    unfold mendR
    rw [if_pos (by simpa using c0)]
  have c0 : g0 = ns.length := by simpa using c0
  (repeat (first | (refine Nx.mk ?_; ((try (dsimp only [nr_none, nr_some, nr_nil, nf_leaf, nf_pin, nf_node, nf_nil, nf_cons, ni_f, ni_t, nw_nil, nw_cons, ns_0, ns_s])); (try simp only [intsT_frz, frzL_frzL, frz_lines, frz_keys]))) | (refine And.intro ?_ ?_; focus (first | exact rfl | exact frz_frz _ | exact frz_nf _ _ | exact (show frz _ = _ by assumption) | (show frz _ = _; simp only [nf_node, nf_cons, nf_nil, nf_leaf, frzL_frzL, intsT_frz, frz_lines, frz_keys]; done) | exact frz_ints _ _ | exact Nat.le_of_ble_eq_true rfl | exact (show (0 : Int) < _ by decide) | exact (show (0 : Int) ≤ _ by decide) | exact ⟨show (0 : Int) < _ by decide, show Nat.log2 _ < _ by decide⟩ | exact Or.inl (Or.inr ⟨show (_ : Int) < _ by decide, show (_ : Int) < _ by decide⟩) | exact Or.inl (Or.inl ⟨show (_ : Int) < _ by decide, show (_ : Int) < _ by decide⟩) | exact ⟨show (0 : Int) ≤ _ by decide, show (_ : Int) ≤ _ by decide, show Int.natAbs _ < _ by decide⟩)) | refine Exists.intro _ (Exists.intro _ (And.intro rfl (And.intro rfl ?_))) | refine Exists.intro _ (And.intro (Le.rf _) ?_) | refine Exists.intro _ (And.intro rfl ?_)))
  generalize hb0 : (ite (false = true) (_ : Bool) _) = b0
  obtain rfl := hb0.symm.trans (eq3 _ _ _)
  (repeat (first | (refine Nx.mk ?_; ((try (dsimp only [nr_none, nr_some, nr_nil, nf_leaf, nf_pin, nf_node, nf_nil, nf_cons, ni_f, ni_t, nw_nil, nw_cons, ns_0, ns_s])); (try simp only [intsT_frz, frzL_frzL, frz_lines, frz_keys]))) | (refine And.intro ?_ ?_; focus (first | exact rfl | exact frz_frz _ | exact frz_nf _ _ | exact (show frz _ = _ by assumption) | (show frz _ = _; simp only [nf_node, nf_cons, nf_nil, nf_leaf, frzL_frzL, intsT_frz, frz_lines, frz_keys]; done) | exact frz_ints _ _ | exact Nat.le_of_ble_eq_true rfl | exact (show (0 : Int) < _ by decide) | exact (show (0 : Int) ≤ _ by decide) | exact ⟨show (0 : Int) < _ by decide, show Nat.log2 _ < _ by decide⟩ | exact Or.inl (Or.inr ⟨show (_ : Int) < _ by decide, show (_ : Int) < _ by decide⟩) | exact Or.inl (Or.inl ⟨show (_ : Int) < _ by decide, show (_ : Int) < _ by decide⟩) | exact ⟨show (0 : Int) ≤ _ by decide, show (_ : Int) ≤ _ by decide, show Int.natAbs _ < _ by decide⟩)) | refine Exists.intro _ (Exists.intro _ (And.intro rfl (And.intro rfl ?_))) | refine Exists.intro _ (And.intro (Le.rf _) ?_) | refine Exists.intro _ (And.intro rfl ?_)))
  refine ifB_of (fun c1 => ?_) (fun c1 => ?_)
  · have c1 := of_decide_eq_true c1
    have := good (ns, 0) (by unfold mendR; rw [if_neg (by simpa using c0), if_pos c1])
    (repeat (first | (refine Nx.mk ?_; ((try (dsimp only [nr_none, nr_some, nr_nil, nf_leaf, nf_pin, nf_node, nf_nil, nf_cons, ni_f, ni_t, nw_nil, nw_cons, ns_0, ns_s])); (try simp only [intsT_frz, frzL_frzL, frz_lines, frz_keys]))) | (refine And.intro ?_ ?_; focus (first | exact rfl | exact frz_frz _ | exact frz_nf _ _ | exact (show frz _ = _ by assumption) | (show frz _ = _; simp only [nf_node, nf_cons, nf_nil, nf_leaf, frzL_frzL, intsT_frz, frz_lines, frz_keys]; done) | exact frz_ints _ _ | exact Nat.le_of_ble_eq_true rfl | exact (show (0 : Int) < _ by decide) | exact (show (0 : Int) ≤ _ by decide) | exact ⟨show (0 : Int) < _ by decide, show Nat.log2 _ < _ by decide⟩ | exact Or.inl (Or.inr ⟨show (_ : Int) < _ by decide, show (_ : Int) < _ by decide⟩) | exact Or.inl (Or.inl ⟨show (_ : Int) < _ by decide, show (_ : Int) < _ by decide⟩) | exact ⟨show (0 : Int) ≤ _ by decide, show (_ : Int) ≤ _ by decide, show Int.natAbs _ < _ by decide⟩)) | refine Exists.intro _ (Exists.intro _ (And.intro rfl (And.intro rfl ?_))) | refine Exists.intro _ (And.intro (Le.rf _) ?_) | refine Exists.intro _ (And.intro rfl ?_)))
    (try simp only [intsT_frz])
    exact this
  have c1 := of_decide_eq_false c1
  (repeat (first | (refine Nx.mk ?_; ((try (dsimp only [nr_none, nr_some, nr_nil, nf_leaf, nf_pin, nf_node, nf_nil, nf_cons, ni_f, ni_t, nw_nil, nw_cons, ns_0, ns_s])); (try simp only [intsT_frz, frzL_frzL, frz_lines, frz_keys]))) | (refine And.intro ?_ ?_; focus (first | exact rfl | exact frz_frz _ | exact frz_nf _ _ | exact (show frz _ = _ by assumption) | (show frz _ = _; simp only [nf_node, nf_cons, nf_nil, nf_leaf, frzL_frzL, intsT_frz, frz_lines, frz_keys]; done) | exact frz_ints _ _ | exact Nat.le_of_ble_eq_true rfl | exact (show (0 : Int) < _ by decide) | exact (show (0 : Int) ≤ _ by decide) | exact ⟨show (0 : Int) < _ by decide, show Nat.log2 _ < _ by decide⟩ | exact Or.inl (Or.inr ⟨show (_ : Int) < _ by decide, show (_ : Int) < _ by decide⟩) | exact Or.inl (Or.inl ⟨show (_ : Int) < _ by decide, show (_ : Int) < _ by decide⟩) | exact ⟨show (0 : Int) ≤ _ by decide, show (_ : Int) ≤ _ by decide, show Int.natAbs _ < _ by decide⟩)) | refine Exists.intro _ (Exists.intro _ (And.intro rfl (And.intro rfl ?_))) | refine Exists.intro _ (And.intro (Le.rf _) ?_) | refine Exists.intro _ (And.intro rfl ?_)))
  refine ifB_of (fun c2 => ?_) (fun c2 => ?_)
  · have c2 : g1 - S0 ns = 0 := by simpa using c2
    refine bad ?_
    unfold mendR
    rw [if_neg (by simpa using c0), if_neg c1, if_pos c2]
  have c2 : ¬ g1 - S0 ns = 0 := by simpa using c2
  (repeat (first | (refine Nx.mk ?_; ((try (dsimp only [nr_none, nr_some, nr_nil, nf_leaf, nf_pin, nf_node, nf_nil, nf_cons, ni_f, ni_t, nw_nil, nw_cons, ns_0, ns_s])); (try simp only [intsT_frz, frzL_frzL, frz_lines, frz_keys]))) | (refine And.intro ?_ ?_; focus (first | exact rfl | exact frz_frz _ | exact frz_nf _ _ | exact (show frz _ = _ by assumption) | (show frz _ = _; simp only [nf_node, nf_cons, nf_nil, nf_leaf, frzL_frzL, intsT_frz, frz_lines, frz_keys]; done) | exact frz_ints _ _ | exact Nat.le_of_ble_eq_true rfl | exact (show (0 : Int) < _ by decide) | exact (show (0 : Int) ≤ _ by decide) | exact ⟨show (0 : Int) < _ by decide, show Nat.log2 _ < _ by decide⟩ | exact Or.inl (Or.inr ⟨show (_ : Int) < _ by decide, show (_ : Int) < _ by decide⟩) | exact Or.inl (Or.inl ⟨show (_ : Int) < _ by decide, show (_ : Int) < _ by decide⟩) | exact ⟨show (0 : Int) ≤ _ by decide, show (_ : Int) ≤ _ by decide, show Int.natAbs _ < _ by decide⟩)) | refine Exists.intro _ (Exists.intro _ (And.intro rfl (And.intro rfl ?_))) | refine Exists.intro _ (And.intro (Le.rf _) ?_) | refine Exists.intro _ (And.intro rfl ?_)))
  refine And.intro ⟨c2, ?_⟩ ?_
  · have := S0_small hl hb
    exact log_lt (k := 1001) (by omega) (by decide)
  have bad2 : (g2 - S1 ns).fmod (g1 - S0 ns) ≠ 0 ∨ (g2 - S1 ns).fdiv (g1 - S0 ns) < 1 ∨ (g2 - S1 ns).fdiv (g1 - S0 ns) > ns.length ∨ g3 - S2 ns ≠ (g2 - S1 ns).fdiv (g1 - S0 ns) * (g2 - S1 ns) → E (cxN 5) [] [] := fun h => bad (by
    unfold mendR
    rw [if_neg (by simpa using c0), if_neg c1, if_neg c2, if_pos h])
  have good2 : ¬ ((g2 - S1 ns).fmod (g1 - S0 ns) ≠ 0 ∨ (g2 - S1 ns).fdiv (g1 - S0 ns) < 1 ∨ (g2 - S1 ns).fdiv (g1 - S0 ns) > ns.length ∨ g3 - S2 ns ≠ (g2 - S1 ns).fdiv (g1 - S0 ns) * (g2 - S1 ns)) → Q (pairM (ns.set ((g2 - S1 ns).fdiv (g1 - S0 ns) - 1).toNat (ns.getD ((g2 - S1 ns).fdiv (g1 - S0 ns) - 1).toNat 0 + (g1 - S0 ns)), (g2 - S1 ns).fdiv (g1 - S0 ns))) [] := fun h => good _ (by
    unfold mendR
    rw [if_neg (by simpa using c0), if_neg c1, if_neg c2, if_neg h])
  clear bad good
  (repeat (first | (refine Nx.mk ?_; ((try (dsimp only [nr_none, nr_some, nr_nil, nf_leaf, nf_pin, nf_node, nf_nil, nf_cons, ni_f, ni_t, nw_nil, nw_cons, ns_0, ns_s])); (try simp only [intsT_frz, frzL_frzL, frz_lines, frz_keys]))) | (refine And.intro ?_ ?_; focus (first | exact rfl | exact frz_frz _ | exact frz_nf _ _ | exact (show frz _ = _ by assumption) | (show frz _ = _; simp only [nf_node, nf_cons, nf_nil, nf_leaf, frzL_frzL, intsT_frz, frz_lines, frz_keys]; done) | exact frz_ints _ _ | exact Nat.le_of_ble_eq_true rfl | exact (show (0 : Int) < _ by decide) | exact (show (0 : Int) ≤ _ by decide) | exact ⟨show (0 : Int) < _ by decide, show Nat.log2 _ < _ by decide⟩ | exact Or.inl (Or.inr ⟨show (_ : Int) < _ by decide, show (_ : Int) < _ by decide⟩) | exact Or.inl (Or.inl ⟨show (_ : Int) < _ by decide, show (_ : Int) < _ by decide⟩) | exact ⟨show (0 : Int) ≤ _ by decide, show (_ : Int) ≤ _ by decide, show Int.natAbs _ < _ by decide⟩)) | refine Exists.intro _ (Exists.intro _ (And.intro rfl (And.intro rfl ?_))) | refine Exists.intro _ (And.intro (Le.rf _) ?_) | refine Exists.intro _ (And.intro rfl ?_)))
  simp only [nf_leaf]
  (repeat (first | (refine Nx.mk ?_; ((try (dsimp only [nr_none, nr_some, nr_nil, nf_leaf, nf_pin, nf_node, nf_nil, nf_cons, ni_f, ni_t, nw_nil, nw_cons, ns_0, ns_s])); (try simp only [intsT_frz, frzL_frzL, frz_lines, frz_keys]))) | (refine And.intro ?_ ?_; focus (first | exact rfl | exact frz_frz _ | exact frz_nf _ _ | exact (show frz _ = _ by assumption) | (show frz _ = _; simp only [nf_node, nf_cons, nf_nil, nf_leaf, frzL_frzL, intsT_frz, frz_lines, frz_keys]; done) | exact frz_ints _ _ | exact Nat.le_of_ble_eq_true rfl | exact (show (0 : Int) < _ by decide) | exact (show (0 : Int) ≤ _ by decide) | exact ⟨show (0 : Int) < _ by decide, show Nat.log2 _ < _ by decide⟩ | exact Or.inl (Or.inr ⟨show (_ : Int) < _ by decide, show (_ : Int) < _ by decide⟩) | exact Or.inl (Or.inl ⟨show (_ : Int) < _ by decide, show (_ : Int) < _ by decide⟩) | exact ⟨show (0 : Int) ≤ _ by decide, show (_ : Int) ≤ _ by decide, show Int.natAbs _ < _ by decide⟩)) | refine Exists.intro _ (Exists.intro _ (And.intro rfl (And.intro rfl ?_))) | refine Exists.intro _ (And.intro (Le.rf _) ?_) | refine Exists.intro _ (And.intro rfl ?_)))
  generalize (g2 - S1 ns).fdiv (g1 - S0 ns) = pl at *
  generalize (g2 - S1 ns).fmod (g1 - S0 ns) = re at *
  refine ifB_of (fun c3 => ?_) (fun c3 => ?_)
  · exact bad2 (.inl (by simpa using c3))
  (repeat (first | (refine Nx.mk ?_; ((try (dsimp only [nr_none, nr_some, nr_nil, nf_leaf, nf_pin, nf_node, nf_nil, nf_cons, ni_f, ni_t, nw_nil, nw_cons, ns_0, ns_s])); (try simp only [intsT_frz, frzL_frzL, frz_lines, frz_keys]))) | (refine And.intro ?_ ?_; focus (first | exact rfl | exact frz_frz _ | exact frz_nf _ _ | exact (show frz _ = _ by assumption) | (show frz _ = _; simp only [nf_node, nf_cons, nf_nil, nf_leaf, frzL_frzL, intsT_frz, frz_lines, frz_keys]; done) | exact frz_ints _ _ | exact Nat.le_of_ble_eq_true rfl | exact (show (0 : Int) < _ by decide) | exact (show (0 : Int) ≤ _ by decide) | exact ⟨show (0 : Int) < _ by decide, show Nat.log2 _ < _ by decide⟩ | exact Or.inl (Or.inr ⟨show (_ : Int) < _ by decide, show (_ : Int) < _ by decide⟩) | exact Or.inl (Or.inl ⟨show (_ : Int) < _ by decide, show (_ : Int) < _ by decide⟩) | exact ⟨show (0 : Int) ≤ _ by decide, show (_ : Int) ≤ _ by decide, show Int.natAbs _ < _ by decide⟩)) | refine Exists.intro _ (Exists.intro _ (And.intro rfl (And.intro rfl ?_))) | refine Exists.intro _ (And.intro (Le.rf _) ?_) | refine Exists.intro _ (And.intro rfl ?_)))
  refine ifB_dec (fun c4 => ?_) (fun c4 => ?_)
  · exact bad2 (.inr (.inl c4))
  (repeat (first | (refine Nx.mk ?_; ((try (dsimp only [nr_none, nr_some, nr_nil, nf_leaf, nf_pin, nf_node, nf_nil, nf_cons, ni_f, ni_t, nw_nil, nw_cons, ns_0, ns_s])); (try simp only [intsT_frz, frzL_frzL, frz_lines, frz_keys]))) | (refine And.intro ?_ ?_; focus (first | exact rfl | exact frz_frz _ | exact frz_nf _ _ | exact (show frz _ = _ by assumption) | (show frz _ = _; simp only [nf_node, nf_cons, nf_nil, nf_leaf, frzL_frzL, intsT_frz, frz_lines, frz_keys]; done) | exact frz_ints _ _ | exact Nat.le_of_ble_eq_true rfl | exact (show (0 : Int) < _ by decide) | exact (show (0 : Int) ≤ _ by decide) | exact ⟨show (0 : Int) < _ by decide, show Nat.log2 _ < _ by decide⟩ | exact Or.inl (Or.inr ⟨show (_ : Int) < _ by decide, show (_ : Int) < _ by decide⟩) | exact Or.inl (Or.inl ⟨show (_ : Int) < _ by decide, show (_ : Int) < _ by decide⟩) | exact ⟨show (0 : Int) ≤ _ by decide, show (_ : Int) ≤ _ by decide, show Int.natAbs _ < _ by decide⟩)) | refine Exists.intro _ (Exists.intro _ (And.intro rfl (And.intro rfl ?_))) | refine Exists.intro _ (And.intro (Le.rf _) ?_) | refine Exists.intro _ (And.intro rfl ?_)))
  refine ifB_dec (fun c5 => ?_) (fun c5 => ?_)
  · exact bad2 (.inr (.inr (.inl c5)))
  (repeat (first | (refine Nx.mk ?_; ((try (dsimp only [nr_none, nr_some, nr_nil, nf_leaf, nf_pin, nf_node, nf_nil, nf_cons, ni_f, ni_t, nw_nil, nw_cons, ns_0, ns_s])); (try simp only [intsT_frz, frzL_frzL, frz_lines, frz_keys]))) | (refine And.intro ?_ ?_; focus (first | exact rfl | exact frz_frz _ | exact frz_nf _ _ | exact (show frz _ = _ by assumption) | (show frz _ = _; simp only [nf_node, nf_cons, nf_nil, nf_leaf, frzL_frzL, intsT_frz, frz_lines, frz_keys]; done) | exact frz_ints _ _ | exact Nat.le_of_ble_eq_true rfl | exact (show (0 : Int) < _ by decide) | exact (show (0 : Int) ≤ _ by decide) | exact ⟨show (0 : Int) < _ by decide, show Nat.log2 _ < _ by decide⟩ | exact Or.inl (Or.inr ⟨show (_ : Int) < _ by decide, show (_ : Int) < _ by decide⟩) | exact Or.inl (Or.inl ⟨show (_ : Int) < _ by decide, show (_ : Int) < _ by decide⟩) | exact ⟨show (0 : Int) ≤ _ by decide, show (_ : Int) ≤ _ by decide, show Int.natAbs _ < _ by decide⟩)) | refine Exists.intro _ (Exists.intro _ (And.intro rfl (And.intro rfl ?_))) | refine Exists.intro _ (And.intro (Le.rf _) ?_) | refine Exists.intro _ (And.intro rfl ?_)))
  refine And.intro (mulA (by omega)) ?_
  (repeat (first | (refine Nx.mk ?_; ((try (dsimp only [nr_none, nr_some, nr_nil, nf_leaf, nf_pin, nf_node, nf_nil, nf_cons, ni_f, ni_t, nw_nil, nw_cons, ns_0, ns_s])); (try simp only [intsT_frz, frzL_frzL, frz_lines, frz_keys]))) | (refine And.intro ?_ ?_; focus (first | exact rfl | exact frz_frz _ | exact frz_nf _ _ | exact (show frz _ = _ by assumption) | (show frz _ = _; simp only [nf_node, nf_cons, nf_nil, nf_leaf, frzL_frzL, intsT_frz, frz_lines, frz_keys]; done) | exact frz_ints _ _ | exact Nat.le_of_ble_eq_true rfl | exact (show (0 : Int) < _ by decide) | exact (show (0 : Int) ≤ _ by decide) | exact ⟨show (0 : Int) < _ by decide, show Nat.log2 _ < _ by decide⟩ | exact Or.inl (Or.inr ⟨show (_ : Int) < _ by decide, show (_ : Int) < _ by decide⟩) | exact Or.inl (Or.inl ⟨show (_ : Int) < _ by decide, show (_ : Int) < _ by decide⟩) | exact ⟨show (0 : Int) ≤ _ by decide, show (_ : Int) ≤ _ by decide, show Int.natAbs _ < _ by decide⟩)) | refine Exists.intro _ (Exists.intro _ (And.intro rfl (And.intro rfl ?_))) | refine Exists.intro _ (And.intro (Le.rf _) ?_) | refine Exists.intro _ (And.intro rfl ?_)))
  simp only [nf_leaf]
  (repeat (first | (refine Nx.mk ?_; ((try (dsimp only [nr_none, nr_some, nr_nil, nf_leaf, nf_pin, nf_node, nf_nil, nf_cons, ni_f, ni_t, nw_nil, nw_cons, ns_0, ns_s])); (try simp only [intsT_frz, frzL_frzL, frz_lines, frz_keys]))) | (refine And.intro ?_ ?_; focus (first | exact rfl | exact frz_frz _ | exact frz_nf _ _ | exact (show frz _ = _ by assumption) | (show frz _ = _; simp only [nf_node, nf_cons, nf_nil, nf_leaf, frzL_frzL, intsT_frz, frz_lines, frz_keys]; done) | exact frz_ints _ _ | exact Nat.le_of_ble_eq_true rfl | exact (show (0 : Int) < _ by decide) | exact (show (0 : Int) ≤ _ by decide) | exact ⟨show (0 : Int) < _ by decide, show Nat.log2 _ < _ by decide⟩ | exact Or.inl (Or.inr ⟨show (_ : Int) < _ by decide, show (_ : Int) < _ by decide⟩) | exact Or.inl (Or.inl ⟨show (_ : Int) < _ by decide, show (_ : Int) < _ by decide⟩) | exact ⟨show (0 : Int) ≤ _ by decide, show (_ : Int) ≤ _ by decide, show Int.natAbs _ < _ by decide⟩)) | refine Exists.intro _ (Exists.intro _ (And.intro rfl (And.intro rfl ?_))) | refine Exists.intro _ (And.intro (Le.rf _) ?_) | refine Exists.intro _ (And.intro rfl ?_)))
  refine ifB_of (fun c6 => ?_) (fun c6 => ?_)
  · exact bad2 (.inr (.inr (.inr (by simpa using c6))))
  have h := good2 (fun h => h.elim (fun h => h (by simpa using c3)) fun h => h.elim c4 fun h => h.elim c5 fun h => h (by simpa using c6))
  (repeat (first | (refine Nx.mk ?_; ((try (dsimp only [nr_none, nr_some, nr_nil, nf_leaf, nf_pin, nf_node, nf_nil, nf_cons, ni_f, ni_t, nw_nil, nw_cons, ns_0, ns_s])); (try simp only [intsT_frz, frzL_frzL, frz_lines, frz_keys]))) | (refine And.intro ?_ ?_; focus (first | exact rfl | exact frz_frz _ | exact frz_nf _ _ | exact (show frz _ = _ by assumption) | (show frz _ = _; simp only [nf_node, nf_cons, nf_nil, nf_leaf, frzL_frzL, intsT_frz, frz_lines, frz_keys]; done) | exact frz_ints _ _ | exact Nat.le_of_ble_eq_true rfl | exact (show (0 : Int) < _ by decide) | exact (show (0 : Int) ≤ _ by decide) | exact ⟨show (0 : Int) < _ by decide, show Nat.log2 _ < _ by decide⟩ | exact Or.inl (Or.inr ⟨show (_ : Int) < _ by decide, show (_ : Int) < _ by decide⟩) | exact Or.inl (Or.inl ⟨show (_ : Int) < _ by decide, show (_ : Int) < _ by decide⟩) | exact ⟨show (0 : Int) ≤ _ by decide, show (_ : Int) ≤ _ by decide, show Int.natAbs _ < _ by decide⟩)) | refine Exists.intro _ (Exists.intro _ (And.intro rfl (And.intro rfl ?_))) | refine Exists.intro _ (And.intro (Le.rf _) ?_) | refine Exists.intro _ (And.intro rfl ?_)))
  have hj : (pl - 1).toNat < ns.length := by omega
  refine ⟨(pl - 1).toNat, .leaf (.int (ns[(pl - 1).toNat])), ?_, ?_, ?_⟩
  · (try simp only [len_frz])
    rw [len_ints]
    exact ixN_at (by omega) (by omega)
  · (try simp only [intsT_frz])
    exact ints_getM (List.getElem?_eq_getElem hj)
  (repeat (first | (refine Nx.mk ?_; ((try (dsimp only [nr_none, nr_some, nr_nil, nf_leaf, nf_pin, nf_node, nf_nil, nf_cons, ni_f, ni_t, nw_nil, nw_cons, ns_0, ns_s])); (try simp only [intsT_frz, frzL_frzL, frz_lines, frz_keys]))) | (refine And.intro ?_ ?_; focus (first | exact rfl | exact frz_frz _ | exact frz_nf _ _ | exact (show frz _ = _ by assumption) | (show frz _ = _; simp only [nf_node, nf_cons, nf_nil, nf_leaf, frzL_frzL, intsT_frz, frz_lines, frz_keys]; done) | exact frz_ints _ _ | exact Nat.le_of_ble_eq_true rfl | exact (show (0 : Int) < _ by decide) | exact (show (0 : Int) ≤ _ by decide) | exact ⟨show (0 : Int) < _ by decide, show Nat.log2 _ < _ by decide⟩ | exact Or.inl (Or.inr ⟨show (_ : Int) < _ by decide, show (_ : Int) < _ by decide⟩) | exact Or.inl (Or.inl ⟨show (_ : Int) < _ by decide, show (_ : Int) < _ by decide⟩) | exact ⟨show (0 : Int) ≤ _ by decide, show (_ : Int) ≤ _ by decide, show Int.natAbs _ < _ by decide⟩)) | refine Exists.intro _ (Exists.intro _ (And.intro rfl (And.intro rfl ?_))) | refine Exists.intro _ (And.intro (Le.rf _) ?_) | refine Exists.intro _ (And.intro rfl ?_)))
  simp only [nf_leaf]
  (repeat (first | (refine Nx.mk ?_; ((try (dsimp only [nr_none, nr_some, nr_nil, nf_leaf, nf_pin, nf_node, nf_nil, nf_cons, ni_f, ni_t, nw_nil, nw_cons, ns_0, ns_s])); (try simp only [intsT_frz, frzL_frzL, frz_lines, frz_keys]))) | (refine And.intro ?_ ?_; focus (first | exact rfl | exact frz_frz _ | exact frz_nf _ _ | exact (show frz _ = _ by assumption) | (show frz _ = _; simp only [nf_node, nf_cons, nf_nil, nf_leaf, frzL_frzL, intsT_frz, frz_lines, frz_keys]; done) | exact frz_ints _ _ | exact Nat.le_of_ble_eq_true rfl | exact (show (0 : Int) < _ by decide) | exact (show (0 : Int) ≤ _ by decide) | exact ⟨show (0 : Int) < _ by decide, show Nat.log2 _ < _ by decide⟩ | exact Or.inl (Or.inr ⟨show (_ : Int) < _ by decide, show (_ : Int) < _ by decide⟩) | exact Or.inl (Or.inl ⟨show (_ : Int) < _ by decide, show (_ : Int) < _ by decide⟩) | exact ⟨show (0 : Int) ≤ _ by decide, show (_ : Int) ≤ _ by decide, show Int.natAbs _ < _ by decide⟩)) | refine Exists.intro _ (Exists.intro _ (And.intro rfl (And.intro rfl ?_))) | refine Exists.intro _ (And.intro (Le.rf _) ?_) | refine Exists.intro _ (And.intro rfl ?_)))
  refine ⟨(pl - 1).toNat, ?_, ?_⟩
  · rw [List.length_set]
    (try simp only [len_frz])
    rw [len_ints]
    exact ixN_at (by omega) (by omega)
  (repeat (first | (refine Nx.mk ?_; ((try (dsimp only [nr_none, nr_some, nr_nil, nf_leaf, nf_pin, nf_node, nf_nil, nf_cons, ni_f, ni_t, nw_nil, nw_cons, ns_0, ns_s])); (try simp only [intsT_frz, frzL_frzL, frz_lines, frz_keys]))) | (refine And.intro ?_ ?_; focus (first | exact rfl | exact frz_frz _ | exact frz_nf _ _ | exact (show frz _ = _ by assumption) | (show frz _ = _; simp only [nf_node, nf_cons, nf_nil, nf_leaf, frzL_frzL, intsT_frz, frz_lines, frz_keys]; done) | exact frz_ints _ _ | exact Nat.le_of_ble_eq_true rfl | exact (show (0 : Int) < _ by decide) | exact (show (0 : Int) ≤ _ by decide) | exact ⟨show (0 : Int) < _ by decide, show Nat.log2 _ < _ by decide⟩ | exact Or.inl (Or.inr ⟨show (_ : Int) < _ by decide, show (_ : Int) < _ by decide⟩) | exact Or.inl (Or.inl ⟨show (_ : Int) < _ by decide, show (_ : Int) < _ by decide⟩) | exact ⟨show (0 : Int) ≤ _ by decide, show (_ : Int) ≤ _ by decide, show Int.natAbs _ < _ by decide⟩)) | refine Exists.intro _ (Exists.intro _ (And.intro rfl (And.intro rfl ?_))) | refine Exists.intro _ (And.intro (Le.rf _) ?_) | refine Exists.intro _ (And.intro rfl ?_)))
  (try simp only [intsT_frz])
  rw [List.set_set, ints_set]
  rw [List.getD_eq_getElem?_getD, List.getElem?_eq_getElem hj] at h
  exact h
theorem sum_set : ∀ {l : List Int} {i : Nat} {x : Int} (y : Int), l[i]? = some x → (l.set i y).sum = l.sum + (y - x)
  | [], _, _, _, h => by simp at h
  | a :: l, 0, x, y, h => by
    simp at h
    subst h
    simp
    omega
  | a :: l, i + 1, x, y, h => by
    have := sum_set (l := l) (i := i) (x := x) y (by simpa using h)
    rw [List.set_cons_succ, List.sum_cons, List.sum_cons, this]
    omega
theorem zi_set (ns : List Int) (i : Nat) (x : Int) : (ns.set i x).zipIdx = ns.zipIdx.set i (x, i) := by
  apply List.ext_getElem?
  intro j
  rw [List.getElem?_zipIdx, List.getElem?_set, List.getElem?_set, List.getElem?_zipIdx]
  by_cases h : i = j
  · subst h
    rw [if_pos rfl, if_pos rfl, List.length_zipIdx]
    by_cases h2 : i < ns.length
    · simp [h2]
    · simp [h2]
  · rw [if_neg h, if_neg h]
theorem wt_set (w : Int × Nat → Int) {ns : List Int} {i : Nat} {c : Int} (x : Int) (h : ns[i]? = some c) : ((ns.set i x).zipIdx.map w).sum = (ns.zipIdx.map w).sum + (w (x, i) - w (c, i)) := by
  rw [zi_set, List.map_set]
  refine sum_set _ ?_
  rw [List.getElem?_map, List.getElem?_zipIdx, h]
  simp
theorem S_set {ns : List Int} {i : Nat} {c : Int} (d : Int) (h : ns[i]? = some c) : S0 (ns.set i (c + d)) = S0 ns + d ∧ S1 (ns.set i (c + d)) = S1 ns + ((i : Int) + 1) * d ∧ S2 (ns.set i (c + d)) = S2 ns + ((i : Int) + 1) * ((i : Int) + 1) * d := by
  refine ⟨?_, ?_, ?_⟩
  · unfold S0
    rw [wt_set wt0 _ h]
    unfold wt0
    show _ + (c + d - c) = _
    omega
  · unfold S1
    rw [wt_set wt1 _ h]
    unfold wt1
    show _ + (((i : Int) + 1) * (c + d) - ((i : Int) + 1) * c) = _
    rw [Int.mul_add]
    omega
  · unfold S2
    rw [wt_set wt2 _ h]
    unfold wt2
    show _ + (((i : Int) + 1) * ((i : Int) + 1) * (c + d) - ((i : Int) + 1) * ((i : Int) + 1) * c) = _
    rw [Int.mul_add]
    omega
def hit (ns : List Int) (g1 g2 g3 : Int) (i : Nat) : Prop := ((i : Int) + 1) * (g1 - S0 ns) = g2 - S1 ns ∧ ((i : Int) + 1) * ((i : Int) + 1) * (g1 - S0 ns) = g3 - S2 ns
theorem mend_same {ns : List Int} {g0 g1 g2 g3 : Int} (h0 : (ns.length : Int) = g0) (h : S0 ns = g1 ∧ S1 ns = g2 ∧ S2 ns = g3) : mendR ns g0 g1 g2 g3 = some (ns, 0) := by
  unfold mendR
  rw [if_neg (by omega), if_pos (by omega)]
theorem mend_hit {ns : List Int} {g0 g1 g2 g3 c : Int} {i : Nat} (h0 : (ns.length : Int) = g0) (hne : ¬ (S0 ns = g1 ∧ S1 ns = g2 ∧ S2 ns = g3)) (hc : ns[i]? = some c) (h : hit ns g1 g2 g3 i) : mendR ns g0 g1 g2 g3 = some (ns.set i (c + (g1 - S0 ns)), (i : Int) + 1) := by
  obtain ⟨e1, e2⟩ := h
  have hi := (List.getElem?_eq_some_iff.mp hc).1
  have hd : g1 - S0 ns ≠ 0 := fun z => by
    rw [z] at e1 e2
    simp at e1 e2
    omega
  have p1 : (g2 - S1 ns).fdiv (g1 - S0 ns) = (i : Int) + 1 := by rw [← e1, Int.mul_fdiv_cancel _ hd]
  have p2 : (g2 - S1 ns).fmod (g1 - S0 ns) = 0 := by rw [← e1, Int.mul_fmod_left]
  have p3 : g3 - S2 ns = ((i : Int) + 1) * (g2 - S1 ns) := by rw [← e1, ← e2, Int.mul_assoc]
  unfold mendR
  rw [if_neg (by omega), if_neg (by omega), if_neg hd, p1, p2]
  rw [if_neg (by
    rintro (z | z | z | z)
    · exact z rfl
    · omega
    · omega
    · exact z p3)]
  have e3 : ((i : Int) + 1 - 1).toNat = i := by omega
  rw [e3, List.getD_eq_getElem?_getD, hc]
  rfl
theorem mend_none {ns : List Int} {g0 g1 g2 g3 : Int} (h0 : (ns.length : Int) = g0) (hne : ¬ (S0 ns = g1 ∧ S1 ns = g2 ∧ S2 ns = g3)) (h : ∀ i, i < ns.length → ¬ hit ns g1 g2 g3 i) : mendR ns g0 g1 g2 g3 = none := by
  unfold mendR
  rw [if_neg (by omega), if_neg (by omega)]
  by_cases hd : g1 - S0 ns = 0
  · rw [if_pos hd]
  rw [if_neg hd]
  refine if_pos (Classical.byContradiction fun z => ?_)
  have p2 : (g2 - S1 ns).fmod (g1 - S0 ns) = 0 := Classical.byContradiction fun y => z (.inl y)
  have p3 : ¬ (g2 - S1 ns).fdiv (g1 - S0 ns) < 1 := fun y => z (.inr (.inl y))
  have p4 : ¬ (g2 - S1 ns).fdiv (g1 - S0 ns) > ns.length := fun y => z (.inr (.inr (.inl y)))
  have p5 : g3 - S2 ns = (g2 - S1 ns).fdiv (g1 - S0 ns) * (g2 - S1 ns) := Classical.byContradiction fun y => z (.inr (.inr (.inr y)))
  have e := Int.mul_fdiv_cancel_of_fmod_eq_zero p2
  generalize (g2 - S1 ns).fdiv (g1 - S0 ns) = pl at *
  refine h (pl - 1).toNat (by omega) ?_
  have e1 : (((pl - 1).toNat : Nat) : Int) + 1 = pl := by omega
  unfold hit
  rw [e1]
  refine ⟨by rw [Int.mul_comm]; exact e, ?_⟩
  rw [p5, ← e, Int.mul_assoc, Int.mul_comm pl (g1 - S0 ns)]
section
variable {A B C : List (List Int × Int)} {L : List (List Int)}
theorem apart_over (hA : (A.map (·.1)).Nodup) (hB : ∀ l ∈ B, 0 < l.2) (hL : L.Nodup) (hm : ∀ l ∈ A, l.1 ∈ L) : apartK A B = (L.map fun s => max 0 (gD A s - gD B s)).sum :=
  sum_over (fun s v => max 0 (v - gD B s)) (fun s => by have := gD_nn hB s; omega) A L hA hL hm
theorem apart_symm (hA : (A.map (·.1)).Nodup) (hB : (B.map (·.1)).Nodup) (pA : ∀ l ∈ A, 0 < l.2) (pB : ∀ l ∈ B, 0 < l.2) (ht : (A.map (·.2)).sum = (B.map (·.2)).sum) : apartK A B = apartK B A := by
  have hL := allK_nd (A.map (·.1) ++ B.map (·.1))
  have mA : ∀ l ∈ A, l.1 ∈ allK (A.map (·.1) ++ B.map (·.1)) := fun l hl => allK_mem.mpr (List.mem_append_left _ (mem_keys hl))
  have mB : ∀ l ∈ B, l.1 ∈ allK (A.map (·.1) ++ B.map (·.1)) := fun l hl => allK_mem.mpr (List.mem_append_right _ (mem_keys hl))
  rw [tot_over hA hL mA, tot_over hB hL mB] at ht
  rw [apart_over hA pB hL mA, apart_over hB pA hL mB]
  have e := sum_add' (fun s => max 0 (gD B s - gD A s)) (fun s => gD A s + (-1) * gD B s) (allK (A.map (·.1) ++ B.map (·.1)))
  have e2 := sum_add' (fun s => gD A s + (-1) * gD B s) (fun s => gD B s) (allK (A.map (·.1) ++ B.map (·.1)))
  rw [sum_congr' (g := fun s => gD A s) fun s _ => by omega] at e2
  rw [sum_congr' (g := fun s => max 0 (gD A s - gD B s)) fun s _ => by omega] at e
  omega
theorem max_if (x : Int) : (if x > 0 then x else 0) = max 0 x := by
  split <;> omega
theorem apartK_app (a b B : List (List Int × Int)) : apartK (a ++ b) B = apartK a B + apartK b B := by
  unfold apartK
  rw [List.map_append, List.sum_append]
theorem rd_apart {ts : List T} {Q : T → List T → Prop} {E : Value → List (Str × V) → List T → Prop} (h : sp_apart ts Q E) : t_apart (bodyEnds [false, false] Q E) (startE 5 (frzP [false, false] ts)) := by
  obtain ⟨τ, τ2, A, B, rfl, ⟨⟨o, xs, rfl, hx⟩, h01, hl⟩, ⟨⟨p, ys, rfl, hy⟩, h02, hl2⟩, hA, hB, q⟩ := h
  (try simp only [np_t, np_f, np_n, ne_c, ne_n, ne_0, nf_leaf, nf_pin, nf_node])
  (repeat (first | (refine Nx.mk ?_; ((try (dsimp only [nr_none, nr_some, nr_nil, nf_leaf, nf_pin, nf_node, nf_nil, nf_cons, ni_f, ni_t, nw_nil, nw_cons, ns_0, ns_s])); (try simp only [intsT_frz, frzL_frzL, frz_lines, frz_keys]))) | (refine And.intro ?_ ?_; focus (first | exact rfl | exact frz_frz _ | exact frz_nf _ _ | exact (show frz _ = _ by assumption) | (show frz _ = _; simp only [nf_node, nf_cons, nf_nil, nf_leaf, frzL_frzL, intsT_frz, frz_lines, frz_keys]; done) | exact frz_ints _ _ | exact Nat.le_of_ble_eq_true rfl | exact (show (0 : Int) < _ by decide) | exact (show (0 : Int) ≤ _ by decide) | exact ⟨show (0 : Int) < _ by decide, show Nat.log2 _ < _ by decide⟩ | exact Or.inl (Or.inr ⟨show (_ : Int) < _ by decide, show (_ : Int) < _ by decide⟩) | exact Or.inl (Or.inl ⟨show (_ : Int) < _ by decide, show (_ : Int) < _ by decide⟩) | exact ⟨show (0 : Int) ≤ _ by decide, show (_ : Int) ≤ _ by decide, show Int.natAbs _ < _ by decide⟩)) | refine Exists.intro _ (Exists.intro _ (And.intro rfl (And.intro rfl ?_))) | refine Exists.intro _ (And.intro (Le.rf _) ?_) | refine Exists.intro _ (And.intro rfl ?_)))
  (conv => whnf)
  rw [frzL_frzL, hx, hy]
  refine Loop.fit A lineT rfl (fun z : Int => [none, some (some (linesF B)), some (some (.leaf (.int z))), none, none]) (fun i z => z = apartK (A.take i) B) 0 rfl (by repeat' (first | exact Fits.e | refine Fits.n ?_ | refine Fits.s rfl ?_)) (fun i l z g hi hI hF R hR => ?_) fun z g hI hF => ?_
  · (obtain ⟨ws_, rfl⟩ := Fits.fill (k := 0) hF; clear hF; dsimp only [fillQ, Nat.reduceAdd])
    (repeat (first | (refine Nx.mk ?_; ((try (dsimp only [nr_none, nr_some, nr_nil, nf_leaf, nf_pin, nf_node, nf_nil, nf_cons, ni_f, ni_t, nw_nil, nw_cons, ns_0, ns_s])); (try simp only [intsT_frz, frzL_frzL, frz_lines, frz_keys]))) | (refine And.intro ?_ ?_; focus (first | exact rfl | exact frz_frz _ | exact frz_nf _ _ | exact (show frz _ = _ by assumption) | (show frz _ = _; simp only [nf_node, nf_cons, nf_nil, nf_leaf, frzL_frzL, intsT_frz, frz_lines, frz_keys]; done) | exact frz_ints _ _ | exact Nat.le_of_ble_eq_true rfl | exact (show (0 : Int) < _ by decide) | exact (show (0 : Int) ≤ _ by decide) | exact ⟨show (0 : Int) < _ by decide, show Nat.log2 _ < _ by decide⟩ | exact Or.inl (Or.inr ⟨show (_ : Int) < _ by decide, show (_ : Int) < _ by decide⟩) | exact Or.inl (Or.inl ⟨show (_ : Int) < _ by decide, show (_ : Int) < _ by decide⟩) | exact ⟨show (0 : Int) ≤ _ by decide, show (_ : Int) ≤ _ by decide, show Int.natAbs _ < _ by decide⟩)) | refine Exists.intro _ (Exists.intro _ (And.intro rfl (And.intro rfl ?_))) | refine Exists.intro _ (And.intro (Le.rf _) ?_) | refine Exists.intro _ (And.intro rfl ?_)))
    simp only [nf_cons, nf_nil, nf_node, nf_leaf, intsT_frz]
    refine ⟨_, B, false, l.1, rfl, ⟨⟨false, _, rfl, frz_lines _⟩, h02, hl2⟩, hB, hA l (List.mem_of_getElem? hi), ?_⟩
    (repeat (first | (refine Nx.mk ?_; ((try (dsimp only [nr_none, nr_some, nr_nil, nf_leaf, nf_pin, nf_node, nf_nil, nf_cons, ni_f, ni_t, nw_nil, nw_cons, ns_0, ns_s])); (try simp only [intsT_frz, frzL_frzL, frz_lines, frz_keys]))) | (refine And.intro ?_ ?_; focus (first | exact rfl | exact frz_frz _ | exact frz_nf _ _ | exact (show frz _ = _ by assumption) | (show frz _ = _; simp only [nf_node, nf_cons, nf_nil, nf_leaf, frzL_frzL, intsT_frz, frz_lines, frz_keys]; done) | exact frz_ints _ _ | exact Nat.le_of_ble_eq_true rfl | exact (show (0 : Int) < _ by decide) | exact (show (0 : Int) ≤ _ by decide) | exact ⟨show (0 : Int) < _ by decide, show Nat.log2 _ < _ by decide⟩ | exact Or.inl (Or.inr ⟨show (_ : Int) < _ by decide, show (_ : Int) < _ by decide⟩) | exact Or.inl (Or.inl ⟨show (_ : Int) < _ by decide, show (_ : Int) < _ by decide⟩) | exact ⟨show (0 : Int) ≤ _ by decide, show (_ : Int) ≤ _ by decide, show Int.natAbs _ < _ by decide⟩)) | refine Exists.intro _ (Exists.intro _ (And.intro rfl (And.intro rfl ?_))) | refine Exists.intro _ (And.intro (Le.rf _) ?_) | refine Exists.intro _ (And.intro rfl ?_)))
    (conv => whnf)
    rw [show (if l.2 - (getK B l.1).getD 0 > 0 then l.2 - (getK B l.1).getD 0 else 0) = max 0 (l.2 - gD B l.1) from max_if _]
    refine hR (z + max 0 (l.2 - gD B l.1)) _ ?_ (by repeat' (first | exact Fits.e | refine Fits.n ?_ | refine Fits.s rfl ?_))
    rw [List.take_add_one, hi, hI, apartK_app]
    show _ = _ + (max 0 (l.2 - gD B l.1) + 0)
    omega
  · (obtain ⟨ws_, rfl⟩ := Fits.fill (k := 0) hF; clear hF; dsimp only [fillQ, Nat.reduceAdd])
    (conv => whnf)
    rw [List.take_of_length_le (Nat.le_refl _)] at hI
    subst hI
    (repeat (first | (refine Nx.mk ?_; ((try (dsimp only [nr_none, nr_some, nr_nil, nf_leaf, nf_pin, nf_node, nf_nil, nf_cons, ni_f, ni_t, nw_nil, nw_cons, ns_0, ns_s])); (try simp only [intsT_frz, frzL_frzL, frz_lines, frz_keys]))) | (refine And.intro ?_ ?_; focus (first | exact rfl | exact frz_frz _ | exact frz_nf _ _ | exact (show frz _ = _ by assumption) | (show frz _ = _; simp only [nf_node, nf_cons, nf_nil, nf_leaf, frzL_frzL, intsT_frz, frz_lines, frz_keys]; done) | exact frz_ints _ _ | exact Nat.le_of_ble_eq_true rfl | exact (show (0 : Int) < _ by decide) | exact (show (0 : Int) ≤ _ by decide) | exact ⟨show (0 : Int) < _ by decide, show Nat.log2 _ < _ by decide⟩ | exact Or.inl (Or.inr ⟨show (_ : Int) < _ by decide, show (_ : Int) < _ by decide⟩) | exact Or.inl (Or.inl ⟨show (_ : Int) < _ by decide, show (_ : Int) < _ by decide⟩) | exact ⟨show (0 : Int) ≤ _ by decide, show (_ : Int) ≤ _ by decide, show Int.natAbs _ < _ by decide⟩)) | refine Exists.intro _ (Exists.intro _ (And.intro rfl (And.intro rfl ?_))) | refine Exists.intro _ (And.intro (Le.rf _) ?_) | refine Exists.intro _ (And.intro rfl ?_)))
    exact q
end
theorem ints_zip {β : Type} (ns : List Int) (ls : List β) (h : ns.length = ls.length) : intsT ns = (ns.zip ls).map fun p => T.leaf (.int p.1) := by
  have : (ns.zip ls).map (·.1) = ns := List.map_fst_zip (by omega)
  conv => lhs; rw [← this]
  rw [intsT_eq, List.map_map, List.map_map]
  rfl
theorem zip_snd (ns : List Int) (ls : List (List Int × Int)) (h : ns.length = ls.length) : ((ns.zip ls).map fun p => lineO p.2) = ls.map lineO := by
  have : (ns.zip ls).map (·.2) = ls := List.map_snd_zip (by omega)
  conv => rhs; rw [← this]
  rw [List.map_map]
  rfl
theorem zip_some {β : Type} {f : Int → Option β} : ∀ {ns : List Int} {ls : List β} {p : Int × β}, ns.map f = ls.map some → p ∈ ns.zip ls → f p.1 = some p.2
  | [], _, p, _, hp => by simp at hp
  | n :: ns, [], p, _, hp => by simp at hp
  | n :: ns, l :: ls, p, h, hp => by
    rw [List.map_cons, List.map_cons, List.cons.injEq] at h
    rw [List.zip_cons_cons] at hp
    rcases List.mem_cons.mp hp with rfl | hp
    · exact h.1
    · exact zip_some h.2 hp
theorem rd_line_of {ts : List T} {Q : T → List T → Prop} {E : Value → List (Str × V) → List T → Prop} (h : sp_line_of ts Q E) : t_line_of (bodyEnds [false, false] Q E) (startE 6 (frzP [false, false] ts)) := by
  obtain ⟨c, h, p, rfl, h12, hp, q⟩ := h
  rw [lineR_if] at hp
  have hc : 0 ≤ c ∧ 1 ≤ c / 13 ^ h ∧ c / 13 ^ h ≤ 10 ^ 9 ∧ plainR (tiersR (digs c h)) h = digs c h := by
    refine Decidable.byContradiction fun z => ?_
    rw [if_neg z] at hp
    cases hp
  rw [if_pos hc] at hp
  cases hp
  obtain ⟨c0, c1, c2, c3⟩ := hc
  have e9 : (10 : Int) ^ 9 = 1000000000 := by decide
  (try simp only [np_t, np_f, np_n, ne_c, ne_n, ne_0, nf_leaf, nf_pin, nf_node])
  (repeat (first | (refine Nx.mk ?_; ((try (dsimp only [nr_none, nr_some, nr_nil, nf_leaf, nf_pin, nf_node, nf_nil, nf_cons, ni_f, ni_t, nw_nil, nw_cons, ns_0, ns_s])); (try simp only [intsT_frz, frzL_frzL, frz_lines, frz_keys]))) | (refine And.intro ?_ ?_; focus (first | exact rfl | exact frz_frz _ | exact frz_nf _ _ | exact (show frz _ = _ by assumption) | (show frz _ = _; simp only [nf_node, nf_cons, nf_nil, nf_leaf, frzL_frzL, intsT_frz, frz_lines, frz_keys]; done) | exact frz_ints _ _ | exact Nat.le_of_ble_eq_true rfl | exact (show (0 : Int) < _ by decide) | exact (show (0 : Int) ≤ _ by decide) | exact ⟨show (0 : Int) < _ by decide, show Nat.log2 _ < _ by decide⟩ | exact Or.inl (Or.inr ⟨show (_ : Int) < _ by decide, show (_ : Int) < _ by decide⟩) | exact Or.inl (Or.inl ⟨show (_ : Int) < _ by decide, show (_ : Int) < _ by decide⟩) | exact ⟨show (0 : Int) ≤ _ by decide, show (_ : Int) ≤ _ by decide, show Int.natAbs _ < _ by decide⟩)) | refine Exists.intro _ (Exists.intro _ (And.intro rfl (And.intro rfl ?_))) | refine Exists.intro _ (And.intro (Le.rf _) ?_) | refine Exists.intro _ (And.intro rfl ?_)))
  refine ifB_dec (p := c < 0) (fun z => absurd z (by omega)) (fun _ => ?_)
  (repeat (first | (refine Nx.mk ?_; ((try (dsimp only [nr_none, nr_some, nr_nil, nf_leaf, nf_pin, nf_node, nf_nil, nf_cons, ni_f, ni_t, nw_nil, nw_cons, ns_0, ns_s])); (try simp only [intsT_frz, frzL_frzL, frz_lines, frz_keys]))) | (refine And.intro ?_ ?_; focus (first | exact rfl | exact frz_frz _ | exact frz_nf _ _ | exact (show frz _ = _ by assumption) | (show frz _ = _; simp only [nf_node, nf_cons, nf_nil, nf_leaf, frzL_frzL, intsT_frz, frz_lines, frz_keys]; done) | exact frz_ints _ _ | exact Nat.le_of_ble_eq_true rfl | exact (show (0 : Int) < _ by decide) | exact (show (0 : Int) ≤ _ by decide) | exact ⟨show (0 : Int) < _ by decide, show Nat.log2 _ < _ by decide⟩ | exact Or.inl (Or.inr ⟨show (_ : Int) < _ by decide, show (_ : Int) < _ by decide⟩) | exact Or.inl (Or.inl ⟨show (_ : Int) < _ by decide, show (_ : Int) < _ by decide⟩) | exact ⟨show (0 : Int) ≤ _ by decide, show (_ : Int) ≤ _ by decide, show Int.natAbs _ < _ by decide⟩)) | refine Exists.intro _ (Exists.intro _ (And.intro rfl (And.intro rfl ?_))) | refine Exists.intro _ (And.intro (Le.rf _) ?_) | refine Exists.intro _ (And.intro rfl ?_)))
  refine And.intro (by omega) (And.intro (by omega) ?_)
  refine Loop.rg (fun i : Nat => [some (some (.leaf (.int (c / 13 ^ i)))), some (some (.leaf (.int h))), some (some (.node true .lst (intsT (digs c i)))), none, none, none]) (fun i j => i = j) 0 rfl (by
    have : c / 13 ^ 0 = c := by simp
    rw [this]
    (repeat' (first | exact Fits.e | refine Fits.n ?_ | refine Fits.s rfl ?_))) (fun i j g hlt hI hF R hR => ?_) fun j g hI hF => ?_
  · subst hI
    (obtain ⟨ws_, rfl⟩ := Fits.fill (k := 0) hF; clear hF; dsimp only [fillQ, Nat.reduceAdd])
    (repeat (first | (refine Nx.mk ?_; ((try (dsimp only [nr_none, nr_some, nr_nil, nf_leaf, nf_pin, nf_node, nf_nil, nf_cons, ni_f, ni_t, nw_nil, nw_cons, ns_0, ns_s])); (try simp only [intsT_frz, frzL_frzL, frz_lines, frz_keys]))) | (refine And.intro ?_ ?_; focus (first | exact rfl | exact frz_frz _ | exact frz_nf _ _ | exact (show frz _ = _ by assumption) | (show frz _ = _; simp only [nf_node, nf_cons, nf_nil, nf_leaf, frzL_frzL, intsT_frz, frz_lines, frz_keys]; done) | exact frz_ints _ _ | exact Nat.le_of_ble_eq_true rfl | exact (show (0 : Int) < _ by decide) | exact (show (0 : Int) ≤ _ by decide) | exact ⟨show (0 : Int) < _ by decide, show Nat.log2 _ < _ by decide⟩ | exact Or.inl (Or.inr ⟨show (_ : Int) < _ by decide, show (_ : Int) < _ by decide⟩) | exact Or.inl (Or.inl ⟨show (_ : Int) < _ by decide, show (_ : Int) < _ by decide⟩) | exact ⟨show (0 : Int) ≤ _ by decide, show (_ : Int) ≤ _ by decide, show Int.natAbs _ < _ by decide⟩)) | refine Exists.intro _ (Exists.intro _ (And.intro rfl (And.intro rfl ?_))) | refine Exists.intro _ (And.intro (Le.rf _) ?_) | refine Exists.intro _ (And.intro rfl ?_)))
    refine And.intro ⟨by decide, by decide⟩ ?_
    (repeat (first | (refine Nx.mk ?_; ((try (dsimp only [nr_none, nr_some, nr_nil, nf_leaf, nf_pin, nf_node, nf_nil, nf_cons, ni_f, ni_t, nw_nil, nw_cons, ns_0, ns_s])); (try simp only [intsT_frz, frzL_frzL, frz_lines, frz_keys]))) | (refine And.intro ?_ ?_; focus (first | exact rfl | exact frz_frz _ | exact frz_nf _ _ | exact (show frz _ = _ by assumption) | (show frz _ = _; simp only [nf_node, nf_cons, nf_nil, nf_leaf, frzL_frzL, intsT_frz, frz_lines, frz_keys]; done) | exact frz_ints _ _ | exact Nat.le_of_ble_eq_true rfl | exact (show (0 : Int) < _ by decide) | exact (show (0 : Int) ≤ _ by decide) | exact ⟨show (0 : Int) < _ by decide, show Nat.log2 _ < _ by decide⟩ | exact Or.inl (Or.inr ⟨show (_ : Int) < _ by decide, show (_ : Int) < _ by decide⟩) | exact Or.inl (Or.inl ⟨show (_ : Int) < _ by decide, show (_ : Int) < _ by decide⟩) | exact ⟨show (0 : Int) ≤ _ by decide, show (_ : Int) ≤ _ by decide, show Int.natAbs _ < _ by decide⟩)) | refine Exists.intro _ (Exists.intro _ (And.intro rfl (And.intro rfl ?_))) | refine Exists.intro _ (And.intro (Le.rf _) ?_) | refine Exists.intro _ (And.intro rfl ?_)))
    refine And.intro ⟨by rw [List.length_map, digs_len]; show _ < 16777216; omega, by decide, by decide⟩ ?_
    rw [Int.fdiv_eq_ediv_of_nonneg _ (by decide), Int.fmod_eq_emod_of_nonneg _ (by decide), div13]
    exact hR (i + 1) _ rfl (by repeat' (first | exact Fits.e | refine Fits.n ?_ | refine Fits.s rfl ?_))
  · have hI : h = j := by simpa using hI
    subst hI
    (obtain ⟨ws_, rfl⟩ := Fits.fill (k := 0) hF; clear hF; dsimp only [fillQ, Nat.reduceAdd])
    (repeat (first | (refine Nx.mk ?_; ((try (dsimp only [nr_none, nr_some, nr_nil, nf_leaf, nf_pin, nf_node, nf_nil, nf_cons, ni_f, ni_t, nw_nil, nw_cons, ns_0, ns_s])); (try simp only [intsT_frz, frzL_frzL, frz_lines, frz_keys]))) | (refine And.intro ?_ ?_; focus (first | exact rfl | exact frz_frz _ | exact frz_nf _ _ | exact (show frz _ = _ by assumption) | (show frz _ = _; simp only [nf_node, nf_cons, nf_nil, nf_leaf, frzL_frzL, intsT_frz, frz_lines, frz_keys]; done) | exact frz_ints _ _ | exact Nat.le_of_ble_eq_true rfl | exact (show (0 : Int) < _ by decide) | exact (show (0 : Int) ≤ _ by decide) | exact ⟨show (0 : Int) < _ by decide, show Nat.log2 _ < _ by decide⟩ | exact Or.inl (Or.inr ⟨show (_ : Int) < _ by decide, show (_ : Int) < _ by decide⟩) | exact Or.inl (Or.inl ⟨show (_ : Int) < _ by decide, show (_ : Int) < _ by decide⟩) | exact ⟨show (0 : Int) ≤ _ by decide, show (_ : Int) ≤ _ by decide, show Int.natAbs _ < _ by decide⟩)) | refine Exists.intro _ (Exists.intro _ (And.intro rfl (And.intro rfl ?_))) | refine Exists.intro _ (And.intro (Le.rf _) ?_) | refine Exists.intro _ (And.intro rfl ?_)))
    refine ifB_dec (fun z => absurd z (by omega)) (fun _ => ?_)
    (repeat (first | (refine Nx.mk ?_; ((try (dsimp only [nr_none, nr_some, nr_nil, nf_leaf, nf_pin, nf_node, nf_nil, nf_cons, ni_f, ni_t, nw_nil, nw_cons, ns_0, ns_s])); (try simp only [intsT_frz, frzL_frzL, frz_lines, frz_keys]))) | (refine And.intro ?_ ?_; focus (first | exact rfl | exact frz_frz _ | exact frz_nf _ _ | exact (show frz _ = _ by assumption) | (show frz _ = _; simp only [nf_node, nf_cons, nf_nil, nf_leaf, frzL_frzL, intsT_frz, frz_lines, frz_keys]; done) | exact frz_ints _ _ | exact Nat.le_of_ble_eq_true rfl | exact (show (0 : Int) < _ by decide) | exact (show (0 : Int) ≤ _ by decide) | exact ⟨show (0 : Int) < _ by decide, show Nat.log2 _ < _ by decide⟩ | exact Or.inl (Or.inr ⟨show (_ : Int) < _ by decide, show (_ : Int) < _ by decide⟩) | exact Or.inl (Or.inl ⟨show (_ : Int) < _ by decide, show (_ : Int) < _ by decide⟩) | exact ⟨show (0 : Int) ≤ _ by decide, show (_ : Int) ≤ _ by decide, show Int.natAbs _ < _ by decide⟩)) | refine Exists.intro _ (Exists.intro _ (And.intro rfl (And.intro rfl ?_))) | refine Exists.intro _ (And.intro (Le.rf _) ?_) | refine Exists.intro _ (And.intro rfl ?_)))
    refine ifB_dec (fun z => absurd z (by omega)) (fun _ => ?_)
    (repeat (first | (refine Nx.mk ?_; ((try (dsimp only [nr_none, nr_some, nr_nil, nf_leaf, nf_pin, nf_node, nf_nil, nf_cons, ni_f, ni_t, nw_nil, nw_cons, ns_0, ns_s])); (try simp only [intsT_frz, frzL_frzL, frz_lines, frz_keys]))) | (refine And.intro ?_ ?_; focus (first | exact rfl | exact frz_frz _ | exact frz_nf _ _ | exact (show frz _ = _ by assumption) | (show frz _ = _; simp only [nf_node, nf_cons, nf_nil, nf_leaf, frzL_frzL, intsT_frz, frz_lines, frz_keys]; done) | exact frz_ints _ _ | exact Nat.le_of_ble_eq_true rfl | exact (show (0 : Int) < _ by decide) | exact (show (0 : Int) ≤ _ by decide) | exact ⟨show (0 : Int) < _ by decide, show Nat.log2 _ < _ by decide⟩ | exact Or.inl (Or.inr ⟨show (_ : Int) < _ by decide, show (_ : Int) < _ by decide⟩) | exact Or.inl (Or.inl ⟨show (_ : Int) < _ by decide, show (_ : Int) < _ by decide⟩) | exact ⟨show (0 : Int) ≤ _ by decide, show (_ : Int) ≤ _ by decide, show Int.natAbs _ < _ by decide⟩)) | refine Exists.intro _ (Exists.intro _ (And.intro rfl (And.intro rfl ?_))) | refine Exists.intro _ (And.intro (Le.rf _) ?_) | refine Exists.intro _ (And.intro rfl ?_)))
    (conv => whnf)
    refine .inl ⟨_, digs c h, h, rfl, by (try rw [frz_frz]); exact (by simp only [nf_node, nf_cons, nf_nil, nf_leaf, nf_pin, frzL_frzL, frz_frz, intsT_frz]), digs_rk h12, ?_⟩
    (conv => whnf)
    refine And.intro (pure_ints' _) ?_
    (conv => whnf)
    refine Nx.mk ?_
    ((try (dsimp only [nr_none, nr_some, nr_nil, nf_leaf, nf_pin, nf_node, nf_nil, nf_cons, ni_f, ni_t, nw_nil, nw_cons, ns_0, ns_s])); (try simp only [intsT_frz, frzL_frzL, frz_lines, frz_keys]))
    (repeat (first | (refine Nx.mk ?_; ((try (dsimp only [nr_none, nr_some, nr_nil, nf_leaf, nf_pin, nf_node, nf_nil, nf_cons, ni_f, ni_t, nw_nil, nw_cons, ns_0, ns_s])); (try simp only [intsT_frz, frzL_frzL, frz_lines, frz_keys]))) | (refine And.intro ?_ ?_; focus (first | exact rfl | exact frz_frz _ | exact frz_nf _ _ | exact (show frz _ = _ by assumption) | (show frz _ = _; simp only [nf_node, nf_cons, nf_nil, nf_leaf, frzL_frzL, intsT_frz, frz_lines, frz_keys]; done) | exact frz_ints _ _ | exact Nat.le_of_ble_eq_true rfl | exact (show (0 : Int) < _ by decide) | exact (show (0 : Int) ≤ _ by decide) | exact ⟨show (0 : Int) < _ by decide, show Nat.log2 _ < _ by decide⟩ | exact Or.inl (Or.inr ⟨show (_ : Int) < _ by decide, show (_ : Int) < _ by decide⟩) | exact Or.inl (Or.inl ⟨show (_ : Int) < _ by decide, show (_ : Int) < _ by decide⟩) | exact ⟨show (0 : Int) ≤ _ by decide, show (_ : Int) ≤ _ by decide, show Int.natAbs _ < _ by decide⟩)) | refine Exists.intro _ (Exists.intro _ (And.intro rfl (And.intro rfl ?_))) | refine Exists.intro _ (And.intro (Le.rf _) ?_) | refine Exists.intro _ (And.intro rfl ?_)))
    have ok := tiersR_ok (rs := digs c h) (by rw [digs_len]; omega)
    refine ⟨false, tiersR (digs c h), h, (by simp only [nf_node, nf_cons, nf_nil, nf_leaf, nf_pin, frzL_frzL, frz_frz, intsT_frz]), (fun m hm => (ok.2 m hm).1), ok.1, h12, ?_⟩
    (repeat (first | (refine Nx.mk ?_; ((try (dsimp only [nr_none, nr_some, nr_nil, nf_leaf, nf_pin, nf_node, nf_nil, nf_cons, ni_f, ni_t, nw_nil, nw_cons, ns_0, ns_s])); (try simp only [intsT_frz, frzL_frzL, frz_lines, frz_keys]))) | (refine And.intro ?_ ?_; focus (first | exact rfl | exact frz_frz _ | exact frz_nf _ _ | exact (show frz _ = _ by assumption) | (show frz _ = _; simp only [nf_node, nf_cons, nf_nil, nf_leaf, frzL_frzL, intsT_frz, frz_lines, frz_keys]; done) | exact frz_ints _ _ | exact Nat.le_of_ble_eq_true rfl | exact (show (0 : Int) < _ by decide) | exact (show (0 : Int) ≤ _ by decide) | exact ⟨show (0 : Int) < _ by decide, show Nat.log2 _ < _ by decide⟩ | exact Or.inl (Or.inr ⟨show (_ : Int) < _ by decide, show (_ : Int) < _ by decide⟩) | exact Or.inl (Or.inl ⟨show (_ : Int) < _ by decide, show (_ : Int) < _ by decide⟩) | exact ⟨show (0 : Int) ≤ _ by decide, show (_ : Int) ≤ _ by decide, show Int.natAbs _ < _ by decide⟩)) | refine Exists.intro _ (Exists.intro _ (And.intro rfl (And.intro rfl ?_))) | refine Exists.intro _ (And.intro (Le.rf _) ?_) | refine Exists.intro _ (And.intro rfl ?_)))
    have pl := plainR_ok (rs := digs c h) (by rw [digs_len]; omega) (fun x hx => (digs_mem c h x hx).1)
    rw [digs_len] at pl
    simp only [nf_node, frzL_frzL, intsT_frz]
    refine rtEq_l (good_ints (fun r hr => small62 (by have := pl.2 r hr; omega)) (by omega)) (good_digs h12) ?_
    refine ifB_of (fun c4 => absurd c4 (by rw [c3]; simp)) (fun _ => ?_)
    (repeat (first | (refine Nx.mk ?_; ((try (dsimp only [nr_none, nr_some, nr_nil, nf_leaf, nf_pin, nf_node, nf_nil, nf_cons, ni_f, ni_t, nw_nil, nw_cons, ns_0, ns_s])); (try simp only [intsT_frz, frzL_frzL, frz_lines, frz_keys]))) | (refine And.intro ?_ ?_; focus (first | exact rfl | exact frz_frz _ | exact frz_nf _ _ | exact (show frz _ = _ by assumption) | (show frz _ = _; simp only [nf_node, nf_cons, nf_nil, nf_leaf, frzL_frzL, intsT_frz, frz_lines, frz_keys]; done) | exact frz_ints _ _ | exact Nat.le_of_ble_eq_true rfl | exact (show (0 : Int) < _ by decide) | exact (show (0 : Int) ≤ _ by decide) | exact ⟨show (0 : Int) < _ by decide, show Nat.log2 _ < _ by decide⟩ | exact Or.inl (Or.inr ⟨show (_ : Int) < _ by decide, show (_ : Int) < _ by decide⟩) | exact Or.inl (Or.inl ⟨show (_ : Int) < _ by decide, show (_ : Int) < _ by decide⟩) | exact ⟨show (0 : Int) ≤ _ by decide, show (_ : Int) ≤ _ by decide, show Int.natAbs _ < _ by decide⟩)) | refine Exists.intro _ (Exists.intro _ (And.intro rfl (And.intro rfl ?_))) | refine Exists.intro _ (And.intro (Le.rf _) ?_) | refine Exists.intro _ (And.intro rfl ?_)))
    exact q
theorem code_line {h : Nat} {l : List Int × Int} (ok : LnH h l) : lineR (cdL h l) h = some l := by
  obtain ⟨⟨rs, hr, e⟩, h1, h2⟩ := ok
  obtain ⟨s, n⟩ := l
  simp only at e h1 h2
  subst e
  obtain ⟨hl, h12, hb⟩ := hr
  have h0 : ∀ x ∈ rs, 0 ≤ x := fun x hx => (hb x hx).1
  have pl := plainR_ok (rs := rs) (by omega) h0
  have tb := tiers_back (rs := rs) (by omega) h0
  rw [hl] at pl tb
  have ci := code_inv (plainR (tiersR rs) h) n pl.2
  rw [pl.1] at ci
  have cl := code_le (plainR (tiersR rs) h) n (by omega) pl.2
  show lineR (codeL n (plainR (tiersR rs) h)) h = _
  rw [lineR_if, ci.1, ci.2, tb, if_pos ⟨cl.1, h1, by omega, rfl⟩]
theorem law_pos {a : List (List Int × Int)} (ha : ∀ l ∈ a, 0 < l.2) : ∀ l ∈ lawK a, 0 < l.2 := fun l hl => gather_pos ha l (lawK_mem hl)
theorem flat_pos {gs : List (List (List Int × Int))} (h : ∀ g ∈ gs, ∀ l ∈ g, 0 < l.2) : ∀ l ∈ (gs.map lawK).flatten, 0 < l.2 := fun l hl => by
  obtain ⟨g, hg, hl⟩ := List.mem_flatten.mp hl
  obtain ⟨g0, hg0, rfl⟩ := List.mem_map.mp hg
  exact law_pos (h g0 hg0) l hl
theorem LnH.slp {h : Nat} {l : List Int × Int} (ok : LnH h l) : Slp l.1 := by
  obtain ⟨⟨rs, hr, e⟩, _⟩ := ok
  rw [e]
  exact tiers_slp (by have := hr.1; have := hr.2.1; omega)
theorem rd__law_lines {ts : List T} {Q : T → List T → Prop} {E : Value → List (Str × V) → List T → Prop} (h : sp__law_lines ts Q E) : t__law_lines (bodyEnds [true, false, false] Q E) (startE 5 (frzP [true, false, false] ts)) := by
  obtain ⟨bag, h, m, rfl, hb, h0, h12, m0, m1, q⟩ := h
  (try simp only [np_t, np_f, np_n, ne_c, ne_n, ne_0, nf_leaf, nf_pin, nf_node])
  (repeat (first | (refine Nx.mk ?_; ((try (dsimp only [nr_none, nr_some, nr_nil, nf_leaf, nf_pin, nf_node, nf_nil, nf_cons, ni_f, ni_t, nw_nil, nw_cons, ns_0, ns_s])); (try simp only [intsT_frz, frzL_frzL, frz_lines, frz_keys]))) | (refine And.intro ?_ ?_; focus (first | exact rfl | exact frz_frz _ | exact frz_nf _ _ | exact (show frz _ = _ by assumption) | (show frz _ = _; simp only [nf_node, nf_cons, nf_nil, nf_leaf, frzL_frzL, intsT_frz, frz_lines, frz_keys]; done) | exact frz_ints _ _ | exact Nat.le_of_ble_eq_true rfl | exact (show (0 : Int) < _ by decide) | exact (show (0 : Int) ≤ _ by decide) | exact ⟨show (0 : Int) < _ by decide, show Nat.log2 _ < _ by decide⟩ | exact Or.inl (Or.inr ⟨show (_ : Int) < _ by decide, show (_ : Int) < _ by decide⟩) | exact Or.inl (Or.inl ⟨show (_ : Int) < _ by decide, show (_ : Int) < _ by decide⟩) | exact ⟨show (0 : Int) ≤ _ by decide, show (_ : Int) ≤ _ by decide, show Int.natAbs _ < _ by decide⟩)) | refine Exists.intro _ (Exists.intro _ (And.intro rfl (And.intro rfl ?_))) | refine Exists.intro _ (And.intro (Le.rf _) ?_) | refine Exists.intro _ (And.intro rfl ?_)))
  refine ⟨bag, m, rfl, hb, m0, .inl (by omega), fun r bag2 r0 r1 hb2 => ?_⟩
  obtain ⟨n, en⟩ : ∃ n : Nat, r = n := ⟨r.toNat, by omega⟩
  subst en
  (repeat (first | (refine Nx.mk ?_; ((try (dsimp only [nr_none, nr_some, nr_nil, nf_leaf, nf_pin, nf_node, nf_nil, nf_cons, ni_f, ni_t, nw_nil, nw_cons, ns_0, ns_s])); (try simp only [intsT_frz, frzL_frzL, frz_lines, frz_keys]))) | (refine And.intro ?_ ?_; focus (first | exact rfl | exact frz_frz _ | exact frz_nf _ _ | exact (show frz _ = _ by assumption) | (show frz _ = _; simp only [nf_node, nf_cons, nf_nil, nf_leaf, frzL_frzL, intsT_frz, frz_lines, frz_keys]; done) | exact frz_ints _ _ | exact Nat.le_of_ble_eq_true rfl | exact (show (0 : Int) < _ by decide) | exact (show (0 : Int) ≤ _ by decide) | exact ⟨show (0 : Int) < _ by decide, show Nat.log2 _ < _ by decide⟩ | exact Or.inl (Or.inr ⟨show (_ : Int) < _ by decide, show (_ : Int) < _ by decide⟩) | exact Or.inl (Or.inl ⟨show (_ : Int) < _ by decide, show (_ : Int) < _ by decide⟩) | exact ⟨show (0 : Int) ≤ _ by decide, show (_ : Int) ≤ _ by decide, show Int.natAbs _ < _ by decide⟩)) | refine Exists.intro _ (Exists.intro _ (And.intro rfl (And.intro rfl ?_))) | refine Exists.intro _ (And.intro (Le.rf _) ?_) | refine Exists.intro _ (And.intro rfl ?_)))
  refine And.intro (by omega) (And.intro (by omega) ?_)
  refine Lc.fit (List.range (1 + n)) (fun k => .leaf (.int (0 + (k : Nat)))) (by rw [show (1 + (n : Int)).toNat = 1 + n by omega]; rfl) (fun bag : T => [some (some bag), some (some (.leaf (.int (h : Nat)))), some (some (.leaf (.int m))), none, none]) (fun i bag acc => IsBag bag ∧ ∃ xs : List (List Int), acc = xs.map (fun s => .node true .tup (intsT s)) ∧ xs.length = i ∧ ∀ s ∈ xs, ∃ rs, RkOk rs h ∧ s = tiersR rs) bag2 ⟨hb2, [], rfl, rfl, fun c hc => by cases hc⟩ (by repeat' (first | exact Fits.e | refine Fits.n ?_ | refine Fits.s rfl ?_)) (fun i x bag g acc hx hI hF R' hR' => ?_) fun bag g acc hI hF => ?_
  · (obtain ⟨ws_, rfl⟩ := Fits.fill (k := 0) hF; clear hF; dsimp only [fillQ, Nat.reduceAdd])
    obtain ⟨hb, xs, rfl, hl, ha⟩ := hI
    have hx1 := (List.getElem?_eq_some_iff.mp hx).1
    rw [List.length_range] at hx1
    refine ⟨rfl, bag, h, rfl, hb, by omega, by omega, fun rs bag' hr hr2 hb' => ?_⟩
    refine And.intro (by rw [List.length_map]; show _ < 16777216; omega) ?_
    refine hR' bag' _ _ ⟨hb', xs ++ [tiersR rs], by rw [List.map_append]; rfl, by simp [hl], fun y hy => ?_⟩ (by repeat' (first | exact Fits.e | refine Fits.n ?_ | refine Fits.s rfl ?_))
    rcases List.mem_append.mp hy with hy | hy
    · exact ha y hy
    · rw [List.mem_singleton.mp hy]
      exact ⟨rs, ⟨hr, by omega, hr2⟩, rfl⟩
  · (obtain ⟨ws_, rfl⟩ := Fits.fill (k := 0) hF; clear hF; dsimp only [fillQ, Nat.reduceAdd])
    obtain ⟨hb, xs, rfl, hl, ha⟩ := hI
    rw [List.length_range] at hl
    (repeat (first | (refine Nx.mk ?_; ((try (dsimp only [nr_none, nr_some, nr_nil, nf_leaf, nf_pin, nf_node, nf_nil, nf_cons, ni_f, ni_t, nw_nil, nw_cons, ns_0, ns_s])); (try simp only [intsT_frz, frzL_frzL, frz_lines, frz_keys]))) | (refine And.intro ?_ ?_; focus (first | exact rfl | exact frz_frz _ | exact frz_nf _ _ | exact (show frz _ = _ by assumption) | (show frz _ = _; simp only [nf_node, nf_cons, nf_nil, nf_leaf, frzL_frzL, intsT_frz, frz_lines, frz_keys]; done) | exact frz_ints _ _ | exact Nat.le_of_ble_eq_true rfl | exact (show (0 : Int) < _ by decide) | exact (show (0 : Int) ≤ _ by decide) | exact ⟨show (0 : Int) < _ by decide, show Nat.log2 _ < _ by decide⟩ | exact Or.inl (Or.inr ⟨show (_ : Int) < _ by decide, show (_ : Int) < _ by decide⟩) | exact Or.inl (Or.inl ⟨show (_ : Int) < _ by decide, show (_ : Int) < _ by decide⟩) | exact ⟨show (0 : Int) ≤ _ by decide, show (_ : Int) ≤ _ by decide, show Int.natAbs _ < _ by decide⟩)) | refine Exists.intro _ (Exists.intro _ (And.intro rfl (And.intro rfl ?_))) | refine Exists.intro _ (And.intro (Le.rf _) ?_) | refine Exists.intro _ (And.intro rfl ?_)))
    ((try (dsimp only [nr_none, nr_some, nr_nil, nf_leaf, nf_pin, nf_node, nf_nil, nf_cons, ni_f, ni_t, nw_nil, nw_cons, ns_0, ns_s])); (try simp only [intsT_frz, frzL_frzL, frz_lines, frz_keys]))
    (conv => whnf)
    refine ⟨bag, _, rfl, hb, by omega, .inl (by omega), fun k bag3 k0 k1 hb3 => ?_⟩
    obtain ⟨n2, en⟩ : ∃ n2 : Nat, k = n2 := ⟨k.toNat, by omega⟩
    subst en
    (conv => whnf)
    refine And.intro (by omega) (And.intro (by omega) ?_)
    refine Lc.fit (List.range n2) (fun k => .leaf (.int (0 + (k : Nat)))) rfl (fun bag : T => [some (some bag), none, none, some (some (.node false .lst (xs.map keyT))), none]) (fun i bag acc => IsBag bag ∧ ∃ ls : List (List Int × Int), acc = ls.map lineO ∧ ls.length = i ∧ ∀ l ∈ ls, LnH h l) bag3 ⟨hb3, [], rfl, rfl, fun c hc => by cases hc⟩ ?_ (fun i x bag g acc hx hI hF R' hR' => ?_) fun bag g acc hI hF => ?_
    · rw [frz_slips]
      (repeat' (first | exact Fits.e | refine Fits.n ?_ | refine Fits.s rfl ?_))
    · (obtain ⟨ws_, rfl⟩ := Fits.fill (k := 0) hF; clear hF; dsimp only [fillQ, Nat.reduceAdd])
      obtain ⟨hb, ls, rfl, hl2, ha2⟩ := hI
      have hx1 := (List.getElem?_eq_some_iff.mp hx).1
      rw [List.length_range] at hx1
      refine ⟨by rw [nf_node, frz_keys], bag, false, xs.map keyT, rfl, hb, fun z => ?_, by rw [List.length_map]; omega, fun t bag4 ht hb4 => ?_⟩
      · have := congrArg List.length z
        rw [List.length_map, hl] at this
        exact absurd this (by simp)
      obtain ⟨s, hs, rfl⟩ := List.mem_map.mp ht
      (repeat (first | (refine Nx.mk ?_; ((try (dsimp only [nr_none, nr_some, nr_nil, nf_leaf, nf_pin, nf_node, nf_nil, nf_cons, ni_f, ni_t, nw_nil, nw_cons, ns_0, ns_s])); (try simp only [intsT_frz, frzL_frzL, frz_lines, frz_keys]))) | (refine And.intro ?_ ?_; focus (first | exact rfl | exact frz_frz _ | exact frz_nf _ _ | exact (show frz _ = _ by assumption) | (show frz _ = _; simp only [nf_node, nf_cons, nf_nil, nf_leaf, frzL_frzL, intsT_frz, frz_lines, frz_keys]; done) | exact frz_ints _ _ | exact Nat.le_of_ble_eq_true rfl | exact (show (0 : Int) < _ by decide) | exact (show (0 : Int) ≤ _ by decide) | exact ⟨show (0 : Int) < _ by decide, show Nat.log2 _ < _ by decide⟩ | exact Or.inl (Or.inr ⟨show (_ : Int) < _ by decide, show (_ : Int) < _ by decide⟩) | exact Or.inl (Or.inl ⟨show (_ : Int) < _ by decide, show (_ : Int) < _ by decide⟩) | exact ⟨show (0 : Int) ≤ _ by decide, show (_ : Int) ≤ _ by decide, show Int.natAbs _ < _ by decide⟩)) | refine Exists.intro _ (Exists.intro _ (And.intro rfl (And.intro rfl ?_))) | refine Exists.intro _ (And.intro (Le.rf _) ?_) | refine Exists.intro _ (And.intro rfl ?_)))
      refine ⟨bag4, 10 ^ 9, rfl, hb4, by decide, by decide, fun r bag5 r1 r2 hb5 => ?_⟩
      (conv => whnf)
      rw [show frz (keyT s) = keyT s by simp only [nf_node, intsT_frz]]
      refine And.intro (show 2 ≤ sizeLine by decide) (And.intro (by rw [List.length_map]; show _ < 16777216; omega) ?_)
      refine hR' bag5 _ _ ⟨hb5, ls ++ [(s, r)], by rw [List.map_append]; rfl, by simp [hl2], fun y hy => ?_⟩ (by repeat' (first | exact Fits.e | refine Fits.n ?_ | refine Fits.s rfl ?_))
      rcases List.mem_append.mp hy with hy | hy
      · exact ha2 y hy
      · rw [List.mem_singleton.mp hy]
        exact ⟨ha s hs, r1, by have : (10 : Int) ^ 9 = 1000000000 := by decide
                               omega⟩
    · (obtain ⟨ws_, rfl⟩ := Fits.fill (k := 0) hF; clear hF; dsimp only [fillQ, Nat.reduceAdd])
      obtain ⟨hb, ls, rfl, hl2, ha2⟩ := hI
      rw [List.length_range] at hl2
      exact q ls bag (by omega) ha2 hb
end L06
set_option Elab.async false
set_option linter.all false
set_option maxRecDepth 100000
set_option maxHeartbeats 4000000
namespace L06
open PySem L2 DL
variable [Kls]
local macro_rules | `(tactic| walk_at "go") => `(tactic| ((try (conv => whnf)); (repeat (first | (refine Nx.mk ?_; ((try (dsimp only [nr_none, nr_some, nr_nil, nf_leaf, nf_pin, nf_node, nf_nil, nf_cons, ni_f, ni_t, nw_nil, nw_cons, ns_0, ns_s])); (try simp only [intsT_frz, frzL_frzL, frz_lines, frz_keys])); (try (conv => whnf))) | (refine And.intro ?_ ?_; (focus (first | exact rfl | exact frz_frz _ | exact frz_nf _ _ | exact (show frz _ = _ by assumption) | (show frz _ = _; simp only [nf_node, nf_cons, nf_nil, nf_leaf, frzL_frzL, intsT_frz, frz_lines, frz_keys]; done) | exact frz_ints _ _ | (with_reducible assumption) | (rw [nf_node, intsT_frz]; done) | (walk_at "cl") | (omega) | (exact ⟨by omega, by omega⟩) | (show _ ≤ sizeLine; refine Nat.le_trans (m := 10000) ?_ (by decide); simp only [frzL_ln, List.length_append, List.length_map, List.length_reverse, List.length_cons, List.length_nil, List.length_range, Int.toNat_natCast]; omega) | (exact ⟨by omega, by omega, by refine Nat.le_trans (m := 10000) ?_ (by decide); simp only [frzL_ln, List.length_append, List.length_map, List.length_reverse, List.length_cons, List.length_nil, List.length_range, Int.toNat_natCast]; omega⟩) | (show (_ : Nat) ≤ _; exact Nat.le_of_ble_eq_true rfl) | exact (show (0 : Int) < _ by decide) | exact (show (0 : Int) ≤ _ by decide) | exact ⟨show (0 : Int) < _ by decide, show Nat.log2 _ < _ by decide⟩ | exact Or.inl (Or.inr ⟨show (_ : Int) < _ by decide, show (_ : Int) < _ by decide⟩) | exact Or.inl (Or.inl ⟨show (_ : Int) < _ by decide, show (_ : Int) < _ by decide⟩) | exact ⟨show (0 : Int) ≤ _ by decide, show (_ : Int) ≤ _ by decide, show Int.natAbs _ < _ by decide⟩)); (try (conv => whnf))) | (refine Exists.intro _ (Exists.intro _ (And.intro rfl (And.intro rfl ?_))); (try (conv => whnf))) | (refine Exists.intro _ (And.intro (Le.rf _) ?_); (try (conv => whnf))) | (refine Exists.intro _ (And.intro rfl ?_); (try (conv => whnf)))))))
local macro_rules | `(tactic| walk_at "gn") => `(tactic| ((try (conv => whnf)); (repeat (first | (refine And.intro ?_ ?_; (focus (first | exact rfl | exact frz_frz _ | exact frz_nf _ _ | exact (show frz _ = _ by assumption) | (show frz _ = _; simp only [nf_node, nf_cons, nf_nil, nf_leaf, frzL_frzL, intsT_frz, frz_lines, frz_keys]; done) | exact frz_ints _ _ | (with_reducible assumption) | (rw [nf_node, intsT_frz]; done) | (walk_at "cl") | (omega) | (exact ⟨by omega, by omega⟩) | (show _ ≤ sizeLine; refine Nat.le_trans (m := 10000) ?_ (by decide); simp only [frzL_ln, List.length_append, List.length_map, List.length_reverse, List.length_cons, List.length_nil, List.length_range, Int.toNat_natCast]; omega) | (exact ⟨by omega, by omega, by refine Nat.le_trans (m := 10000) ?_ (by decide); simp only [frzL_ln, List.length_append, List.length_map, List.length_reverse, List.length_cons, List.length_nil, List.length_range, Int.toNat_natCast]; omega⟩) | (show (_ : Nat) ≤ _; exact Nat.le_of_ble_eq_true rfl) | exact (show (0 : Int) < _ by decide) | exact (show (0 : Int) ≤ _ by decide) | exact ⟨show (0 : Int) < _ by decide, show Nat.log2 _ < _ by decide⟩ | exact Or.inl (Or.inr ⟨show (_ : Int) < _ by decide, show (_ : Int) < _ by decide⟩) | exact Or.inl (Or.inl ⟨show (_ : Int) < _ by decide, show (_ : Int) < _ by decide⟩) | exact ⟨show (0 : Int) ≤ _ by decide, show (_ : Int) ≤ _ by decide, show Int.natAbs _ < _ by decide⟩)); (try (conv => whnf))) | (refine Exists.intro _ (Exists.intro _ (And.intro rfl (And.intro rfl ?_))); (try (conv => whnf))) | (refine Exists.intro _ (And.intro (Le.rf _) ?_); (try (conv => whnf))) | (refine Exists.intro _ (And.intro rfl ?_); (try (conv => whnf)))))))
local macro_rules | `(tactic| walk_at "cl") => `(tactic| (first | (fail) | (exact frz_frz _; done)))
theorem frz_lX (gs : List (List (List Int × Int))) : frzL (gs.map linesX) = gs.map linesX := by
  rw [frzL_map, List.map_map]
  exact List.map_congr_left fun g _ => by simp only [Function.comp, nf_node, frz_lines]
theorem frz_bx (o : Bool) (dx : Addr) (h : Nat) (gs : List (List (List Int × Int))) : frz (bxT o dx h gs) = bxT false dx h gs := by
  simp only [nf_node, nf_cons, nf_nil, nf_leaf, frz_lX]
theorem lines_t {h : Nat} {g : List (List Int × Int)} (hl : g.length ≤ 1000) (hok : ∀ l ∈ g, LnH h l) : LinesT (linesX g) g := ⟨⟨false, _, rfl, frz_lines _⟩, fun l hm => (hok l hm).slp.ne, by omega⟩
theorem cd_bd {h : Nat} {l : List Int × Int} (h12 : h ≤ 12) (ok : LnH h l) : 0 ≤ cdL h l ∧ (cdL h l).natAbs < 2 ^ 100 := by
  obtain ⟨⟨rs, hr, e⟩, h1, h2⟩ := ok
  obtain ⟨s, n⟩ := l
  simp only at e h1 h2
  subst e
  obtain ⟨hl, _, hb⟩ := hr
  have pl := plainR_ok (rs := rs) (by omega) fun x hx => (hb x hx).1
  rw [hl] at pl
  have cl := code_le (plainR (tiersR rs) h) n (by omega) pl.2
  rw [pl.1] at cl
  have h3 : (13 : Int) ^ h ≤ 13 ^ 12 := by
    have : (13 : Nat) ^ h ≤ 13 ^ 12 := Nat.pow_le_pow_right (by decide) h12
    exact_mod_cast this
  have h4 : (n + 1) * 13 ^ h ≤ (1000000000 + 1) * 13 ^ 12 := Int.mul_le_mul (by omega) h3 (by exact_mod_cast Nat.zero_le _) (by decide)
  have h5 : ((1000000000 : Int) + 1) * 13 ^ 12 < 2 ^ 100 := by decide
  refine ⟨cl.1, ?_⟩
  have h6 : cdL h (tiersR rs, n) < 2 ^ 100 := Int.lt_of_lt_of_le cl.2 (Int.le_of_lt (Int.lt_of_le_of_lt h4 h5))
  have h7 : 0 ≤ cdL h (tiersR rs, n) := cl.1
  generalize cdL h (tiersR rs, n) = z at *
  have : ((z.natAbs : Nat) : Int) < ((2 ^ 100 : Nat) : Int) := by
    rw [Int.natAbs_of_nonneg h7]
    exact_mod_cast h6
  exact_mod_cast this
theorem cds_ab {h : Nat} {g : List (List Int × Int)} (h12 : h ≤ 12) (hok : ∀ l ∈ g, LnH h l) : AB 100 (g.map (cdL h)) := fun c hc => by
  obtain ⟨l, hl, rfl⟩ := List.mem_map.mp hc
  exact (cd_bd h12 (hok l hl)).2
theorem odd_q : ∀ {ls : List (List Int × Int)}, (∀ l ∈ ls, 1 ≤ l.2 ∧ l.2 ≤ 1000000000) → linesQ (ls.map fun l : List Int × Int => (l.1, T.leaf (.int l.2))) = some ls
  | [], _ => rfl
  | l :: r, h => by
    have h1 := h l List.mem_cons_self
    have h2 := odd_q (ls := r) fun x hx => h x (List.mem_cons_of_mem _ hx)
    show (match numQ (T.leaf (.int l.2)) with | some n => (linesQ (r.map fun l : List Int × Int => (l.1, T.leaf (.int l.2)))).map ((l.1, n) :: ·) | none => none) = _
    rw [show numQ (T.leaf (.int l.2)) = some l.2 from if_pos h1, h2]
    rfl
theorem odd_t {τ : T} {ls : List (List Int × Int)} (ht : LinesT τ ls) : OddLines τ (ls.map fun l => (l.1, T.leaf (.int l.2))) := by
  obtain ⟨⟨o, xs, e, hx⟩, h1, h2⟩ := ht
  refine ⟨⟨o, xs, e, by rw [hx, List.map_map]; rfl⟩, fun l hl => ?_, by rw [List.length_map]; exact h2⟩
  obtain ⟨x, hx, rfl⟩ := List.mem_map.mp hl
  exact ⟨h1 x hx, rfl, true, rfl⟩
theorem ln_n {h : Nat} {g : List (List Int × Int)} (hok : ∀ l ∈ g, LnH h l) : ∀ l ∈ g, 1 ≤ l.2 ∧ l.2 ≤ 1000000000 := fun l hl => (hok l hl).2
theorem ln_pos {h : Nat} {g : List (List Int × Int)} (hok : ∀ l ∈ g, LnH h l) : ∀ l ∈ g, 0 < l.2 := fun l hl => by have := (hok l hl).2; omega
theorem bx_sheet {gs : List (List (List Int × Int))} (hb : ∀ g ∈ gs, ∀ l ∈ g, 0 < l.2) : sheetK (gs.map sheetK).flatten = lawK gs.flatten := by
  rw [show gs.map sheetK = gs.map lawK from List.map_congr_left fun g hg => sheet_law (hb g hg), sheet_law (flat_pos hb), law_joined]
theorem flat_len {α : Type} : ∀ {gs : List (List α)}, (∀ g ∈ gs, g.length ≤ 5) → gs.flatten.length ≤ 5 * gs.length
  | [], _ => Nat.le_refl _
  | g :: gs, h => by
    have h1 := h g List.mem_cons_self
    have h2 := flat_len (gs := gs) fun x hx => h x (List.mem_cons_of_mem _ hx)
    rw [List.flatten_cons, List.length_append, List.length_cons]
    omega
theorem alt_mend {cs row : List Int} {a : Int} (h : Alt cs row a) : mendR row cs.length (S0 cs) (S1 cs) (S2 cs) = some (cs, a) := by
  rcases h with ⟨rfl, rfl⟩ | ⟨i, c, d, hc, hd, _, rfl, rfl⟩
  · exact mend_same rfl ⟨rfl, rfl, rfl⟩
  · obtain ⟨e0, e1, e2⟩ := S_set d hc
    have hi := (List.getElem?_eq_some_iff.mp hc).1
    rw [mend_hit (i := i) (c := c + d) (by rw [List.length_set]) (fun z => hd (by have := z.1; omega)) (List.getElem?_set_self (by simpa using hi)) ⟨by rw [e0, e1]; grind, by rw [e0, e2]; grind⟩, e0, List.set_set]
    rw [show c + d + (S0 cs - (S0 cs + d)) = c by omega, set_at hc]
theorem alt_ok {cs row : List Int} {a : Int} (h : Alt cs row a) (hab : AB 100 cs) : row.length = cs.length ∧ AB 200 row ∧ a.natAbs ≤ cs.length := by
  rcases h with ⟨rfl, rfl⟩ | ⟨i, c, d, hc, hd, hd2, rfl, rfl⟩
  · exact ⟨rfl, fun c hc => Nat.lt_of_lt_of_le (hab c hc) (by decide), by simp⟩
  · have hi := (List.getElem?_eq_some_iff.mp hc).1
    refine ⟨List.length_set, fun x hx => ?_, by omega⟩
    rcases List.mem_or_eq_of_mem_set hx with hx | rfl
    · exact Nat.lt_of_lt_of_le (hab x hx) (by decide)
    · have h1 := hab c (List.mem_of_getElem? hc)
      have h2 : (2 : Nat) ^ 100 + 10 ^ 20 < 2 ^ 200 := by decide
      have h3 := Int.natAbs_add_le c d
      omega
theorem good_pair {l : List Int} {a : Int} (hl : l.length ≤ 400) (h : ∀ c ∈ l, c.natAbs < 2 ^ 1800) (ha : a.natAbs < 2 ^ 1800) : GoodD (.tuple [.list (l.map .int), .int a]) := by
  refine ⟨?_, ?_, ?_⟩
  · simp only [smallD, smallL]
    exact ⟨smallL_ints h, ha, trivial⟩
  · simp [PyData.depth, PyData.depthAll, depthAll_ints]
  · simp only [szD, szL, szL_ints]
    omega
theorem good_ls {h : Nat} {g : List (List Int × Int)} (hl : g.length ≤ 400) (hok : ∀ l ∈ g, LnH h l) : GoodD (.list (g.map lineD)) := good_lines2 (fun l hm => ⟨(hok l hm).slp, by have := (hok l hm).2; omega⟩) hl
theorem codes_back {h : Nat} {ls : List (List Int × Int)} (hok : ∀ l ∈ ls, LnH h l) : (ls.map (cdL h)).map (fun c => lineR c h) = ls.map some := by
  rw [List.map_map]
  exact List.map_congr_left fun l hl => code_line (hok l hl)
theorem eq2T (a b : Int) : (PyData.tuple [.int a, .int b]).eqv (.tuple [.int a, .int b]) = true := by
  have : PyData.eqv (.tuple [.int a, .int b]) (.tuple [.int a, .int b]) = _ := eqv_tupD (a := [a, b]) (b := [a, b])
  rw [this]
  simp
theorem eqv_ls (ls : List (List Int × Int)) : (PyData.list (ls.map lineD)).eqv (.list (ls.map lineD)) = true := by
  show PyData.eqvAll _ _ = true
  rw [eqv_linesD]
  exact decide_eq_true rfl
theorem eq4T (a b c d : Int) : (PyData.tuple [.int a, .int b, .int c, .int d]).eqv (.tuple [.int a, .int b, .int c, .int d]) = true := by
  have : PyData.eqv (.tuple [.int a, .int b, .int c, .int d]) (.tuple [.int a, .int b, .int c, .int d]) = _ := eqv_tupD (a := [a, b, c, d]) (b := [a, b, c, d])
  rw [this]
  simp
theorem ab_set {cs : List Int} {k i : Nat} {c d : Int} (h : AB k cs) (hk : 100 ≤ k) (hc : cs[i]? = some c) (hd : d.natAbs ≤ 10 ^ 20) : AB (k + 1) (cs.set i (c + d)) := fun x hx => by
  have h1 : (10 : Nat) ^ 20 < 2 ^ k := Nat.lt_of_lt_of_le (by decide) (Nat.pow_le_pow_right (by decide) hk : (2 : Nat) ^ 100 ≤ 2 ^ k)
  rw [Nat.pow_succ]
  rcases List.mem_or_eq_of_mem_set hx with hx | rfl
  · have := h x hx
    omega
  · have h2 := h c (List.mem_of_getElem? hc)
    have h3 := Int.natAbs_add_le c d
    omega
theorem torn_poly {a b k m : Int} (z1 : k * (b - a) = m * b - a) (z2 : k * k * (b - a) = m * m * b - a) (hm : 2 ≤ m) (hp : 0 < a * b) : False := by
  have e : (m * b - a) * (m * b - a) = (b - a) * (m * m * b - a) := by
    rw [← z1, ← z2]
    grind
  have h : a * b * ((m - 1) * (m - 1)) = 0 := by grind
  have hq : 0 < (m - 1) * (m - 1) := Int.mul_pos (by omega) (by omega)
  have := Int.mul_pos hp hq
  omega
theorem torn_none {cs : List Int} {c0 c1 a b : Int} {n : Nat} (hn : cs.length = n + 2) (h0 : cs[0]? = some c0) (h1 : cs[n + 1]? = some c1) (ha : 1 ≤ a) (hb : 1 ≤ b) :
    mendR ((cs.set 0 (c0 + a)).set (n + 1) (c1 + -b)) cs.length (S0 cs) (S1 cs) (S2 cs) = none := by
  obtain ⟨e0, e1, e2⟩ := S_set a h0
  have h1' : (cs.set 0 (c0 + a))[n + 1]? = some c1 := by rw [List.getElem?_set_ne (by omega)]; exact h1
  obtain ⟨f0, f1, f2⟩ := S_set (-b) h1'
  rw [e0] at f0
  rw [e1] at f1
  rw [e2] at f2
  refine mend_none (by rw [List.length_set, List.length_set]) (fun z => ?_) fun i _ z => ?_
  · obtain ⟨z0, z1, z2⟩ := z
    rw [f0] at z0
    rw [f1] at z1
    have hab : a = b := by omega
    subst hab
    have hm : ((n : Int) + 1 + 1) * -a = -a + -((n : Int) + 1) * a := by grind
    have : 0 < ((n : Int) + 1) * a := Int.mul_pos (by omega) (by omega)
    push_cast at z1
    grind
  · obtain ⟨z1, z2⟩ := z
    rw [f0, f1] at z1
    rw [f0, f2] at z2
    have hp : 0 < a * b := Int.mul_pos (by omega) (by omega)
    have hq : 0 < ((n : Int) + 1) * ((n : Int) + 1) := Int.mul_pos (by omega) (by omega)
    have hr : 0 < (a * b) * (((n : Int) + 1) * ((n : Int) + 1)) := Int.mul_pos hp hq
    refine torn_poly (a := a) (b := b) (k := (i : Int) + 1) (m := (n : Int) + 2) ?_ ?_ (by omega) hp
    · push_cast at z1
      grind
    · push_cast at z2
      grind
theorem AB.up {j k : Nat} {ns : List Int} (h : AB j ns) (hjk : j ≤ k) : AB k ns := fun c hc => Nat.lt_of_lt_of_le (h c hc) (Nat.pow_le_pow_right (by decide) hjk)
theorem rd_Box_init {ts : List T} {Q : T → List T → Prop} {E : Value → List (Str × V) → List T → Prop} (h : sp_Box_init ts Q E) : t_Box_init (bodyEnds [true, false] Q E) (startE 2 (frzP [true, false] ts)) := by
  obtain ⟨dx, h, rfl, h1, h12, q⟩ := h
  walk_at "go"
  refine ifB_dec (p := (1 : Int) ≤ h) (fun _ => ?_) (fun c => absurd (by omega) c)
  (conv => whnf)
  refine ifN_dec (p := (h : Int) ≤ 12) (fun _ => ?_) (fun c => absurd (by omega) c)
  walk_at "go"
  exact q
theorem rd_Box_many {ts : List T} {Q : T → List T → Prop} {E : Value → List (Str × V) → List T → Prop} (h : sp_Box_many ts Q E) : t_Box_many (bodyEnds [false] Q E) (startE 1 (frzP [false] ts)) := by
  obtain ⟨dx, h, gs, rfl, q⟩ := h
  walk_at "go"
  rw [frzL_length, List.length_map]
  exact q
theorem rd_Box_lying {ts : List T} {Q : T → List T → Prop} {E : Value → List (Str × V) → List T → Prop} (h : sp_Box_lying ts Q E) : t_Box_lying (bodyEnds [false, false] Q E) (startE 2 (frzP [false, false] ts)) := by
  obtain ⟨dx, h, gs, k, g, rfl, hg, q⟩ := h
  walk_at "go"
  have hk := (List.getElem?_eq_some_iff.mp hg).1
  rw [frzL_length, List.length_map]
  refine ifN_dec (p := (k : Int) < gs.length) (fun _ => ?_) (fun c => absurd (by omega) c)
  walk_at "go"
  refine ⟨linesX g, atI_nat (by rw [frz_lX, List.getElem?_map, hg]; rfl), ?_⟩
  walk_at "go"
  rw [nf_node, frz_lines]
  exact q
theorem rd_Box_take {ts : List T} {Q : T → List T → Prop} {E : Value → List (Str × V) → List T → Prop} (h : sp_Box_take ts Q E) : t_Box_take (bodyEnds [true, false, false] Q E) (startE 7 (frzP [true, false, false] ts)) := by
  obtain ⟨dx, h, gs, o, p, ns, g0, g1, g2, g3, rfl, h12, hgl, hnl, hab, hg1, q⟩ := h
  walk_at "go"
  refine ⟨ns, g0, g1, g2, g3, ⟨false, false, by simp only [nf_node, nf_cons, nf_nil, nf_leaf, intsT_frz], hnl, hab, hg1⟩, ?_⟩
  rcases q with ⟨l, a, ls, e1, hl2, e2, q⟩ | ⟨e1, q⟩
  · refine .inl ⟨l, a, e1, ?_⟩
    walk_at "go"
    have e0 : l.length = ls.length := by
      have := congrArg List.length e2
      rw [List.length_map, List.length_map] at this
      exact this
    rw [intsT_frz]
    refine Lc.fx (l.zip ls) (fun p => .leaf (.int p.1)) ?_ (fun p => some (lineO p.2)) (by rw [List.length_zip]; show _ ≤ 16777216; omega) (fun p hp acc R' hacc k1 k2 => ?_) ?_
    · rw [← ints_zip l ls e0]
    · walk_at "go"
      have hp2 : lineR p.1 h = some p.2 := zip_some e2 hp
      refine ⟨p.1, h, p.2, rfl, h12, hp2, ?_⟩
      walk_at "go"
      exact k1 _ rfl
    rw [fm_some, show (l.zip ls).map (fun p => lineO p.2) = ls.map lineO from zip_snd l ls e0]
    walk_at "go"
    refine ⟨_, gs.map linesX, by decide, rfl, rfl, by rw [List.length_map]; show _ < 16777216; omega, ?_⟩
    walk_at "go"
    have e : ((frzL (gs.map linesX ++ [T.node false .lst (frzL (ls.map lineO))])).length : Int) - 1 = gs.length := by
      rw [frzL_length, List.length_append, List.length_map]
      simp
    rw [frz_linesO] at e ⊢
    show Q (T.node true .tup [T.leaf (.int (_ - 1)), T.leaf (.int a)]) [T.node true _ [_, T.node true .lst (gs.map linesX ++ [linesX ls])]]
    rw [e, show gs.map linesX ++ [linesX ls] = (gs ++ [ls]).map linesX by rw [List.map_append]; rfl]
    exact q
  · refine .inr ⟨e1, ?_⟩
    walk_at "go"
    exact q
theorem rd_Box_lines_at {ts : List T} {Q : T → List T → Prop} {E : Value → List (Str × V) → List T → Prop} (h : sp_Box_lines_at ts Q E) : t_Box_lines_at (bodyEnds [false, false] Q E) (startE 2 (frzP [false, false] ts)) := by
  obtain ⟨dx, h, gs, k, g, rfl, hg, hl, q⟩ := h
  walk_at "go"
  refine ⟨dx, h, gs, k, g, by simp only [frz_bx, nf_leaf], hg, ?_⟩
  walk_at "go"
  rw [frz_lines]
  exact q
theorem rd_Box_sheet_at {ts : List T} {Q : T → List T → Prop} {E : Value → List (Str × V) → List T → Prop} (h : sp_Box_sheet_at ts Q E) : t_Box_sheet_at (bodyEnds [false, false] Q E) (startE 2 (frzP [false, false] ts)) := by
  obtain ⟨dx, h, gs, k, g, rfl, hg, hl, hok, q⟩ := h
  walk_at "go"
  refine ⟨dx, h, gs, k, g, by simp only [frz_bx, nf_leaf], hg, ?_⟩
  walk_at "go"
  refine ⟨_, _, rfl, odd_t (lines_t hl hok), .inl ⟨g, odd_q (ln_n hok), ?_⟩⟩
  walk_at "go"
  exact q
theorem rd_Box_seal_at {ts : List T} {Q : T → List T → Prop} {E : Value → List (Str × V) → List T → Prop} (h : sp_Box_seal_at ts Q E) : t_Box_seal_at (bodyEnds [false, false] Q E) (startE 3 (frzP [false, false] ts)) := by
  obtain ⟨dx, h, gs, k, g, rfl, hg, hl, h12, hok, q⟩ := h
  walk_at "go"
  refine ⟨dx, h, gs, k, g, by simp only [frz_bx, nf_leaf], hg, ?_⟩
  walk_at "go"
  rw [frz_lines]
  refine Lc.fx g lineT rfl (fun l => some (.leaf (.int (cdL h l)))) (by show _ ≤ 16777216; omega) (fun l hm acc R' hacc k1 k2 => ?_) ?_
  · walk_at "go"
    have hs := (hok l hm).slp
    refine ⟨false, false, l.1, l.2, h, by simp only [Bool.false_eq_true, if_false, nf_node, nf_cons, nf_nil, nf_leaf, intsT_frz], fun m hm => Int.le_of_lt (hs.2 m hm).1, hs.1, h12, ?_⟩
    walk_at "go"
    exact k1 _ rfl
  rw [fm_some]
  walk_at "go"
  refine ⟨true, g.map (cdL h), by rw [intsT_eq, List.map_map, List.map_map]; rfl, by rw [List.length_map]; omega, ?_⟩
  walk_at "go"
  exact q
theorem rd_Box_sheet {ts : List T} {Q : T → List T → Prop} {E : Value → List (Str × V) → List T → Prop} (h : sp_Box_sheet ts Q E) : t_Box_sheet (bodyEnds [false] Q E) (startE 2 (frzP [false] ts)) := by
  obtain ⟨dx, h, gs, rfl, hb, q⟩ := h
  walk_at "go"
  rw [frzL_frzL, frz_lX]
  refine Lc.fx gs linesX rfl (fun ls => some (.node true .lst ((sheetK ls).map lineT))) (by have := hb.len; show _ ≤ 16777216; omega) (fun ls hl acc R' hacc k1 k2 => ?_) ?_
  · walk_at "go"
    have hg := hb.g ls hl
    refine ⟨_, _, rfl, odd_t (by rw [if_neg (by decide), nf_node, frz_lines]; exact lines_t (by omega) hg.2), .inl ⟨ls, odd_q (ln_n hg.2), ?_⟩⟩
    walk_at "go"
    exact k1 _ rfl
  rw [fm_some]
  walk_at "go"
  have hp : ∀ g ∈ gs, ∀ l ∈ g, 0 < l.2 := fun g hg => ln_pos (hb.g g hg).2
  refine ⟨_, _, gs.map sheetK, rfl, ?_, fun ls hl l hm => ?_, ?_, ?_⟩
  · rw [frzL_map, List.map_map, List.map_map]
    exact List.map_congr_left fun g _ => by simp only [Function.comp, nf_node, frz_lines]
  · obtain ⟨g, hg, rfl⟩ := List.mem_map.mp hl
    exact (sheetK_slp (fun l h => ((hb.g g hg).2 l h).slp) l hm).ne
  · have hq := flat_len (gs := gs.map sheetK) fun x hx => by
      obtain ⟨g, hg, rfl⟩ := List.mem_map.mp hx
      exact Nat.le_trans (sheetK_len g) (hb.g g hg).1
    rw [List.length_map] at hq
    have := hb.len
    omega
  rw [bx_sheet hp]
  walk_at "go"
  exact q
theorem rd_Box_put_right {ts : List T} {Q : T → List T → Prop} {E : Value → List (Str × V) → List T → Prop} (h : sp_Box_put_right ts Q E) : t_Box_put_right (bodyEnds [true, false, false] Q E) (startE 7 (frzP [true, false, false] ts)) := by
  obtain ⟨dx, h, gs, k, g, ls, o, xs, rfl, hx, hg, hgl, hll, hgo, hlo, hsum, q⟩ := h
  walk_at "go"
  refine ⟨dx, h, gs, k, g, by simp only [frz_bx, nf_leaf], hg, by omega, hgo, ?_⟩
  walk_at "go"
  refine And.intro (pure_lines true _) ?_
  walk_at "go"
  refine ⟨_, _, rfl, odd_t (ls := ls) ⟨⟨false, frzL xs, by rw [nf_node], by rw [frzL_frzL, hx]⟩, fun l hm => (hlo l hm).slp.ne, by omega⟩, .inl ⟨ls, odd_q (ln_n hlo), ?_⟩⟩
  walk_at "go"
  have sK : ∀ g : List (List Int × Int), (∀ l ∈ g, LnH h l) → g.length ≤ 300 → LinesT (T.node false .lst ((sheetK g).map lineT)) (sheetK g) := fun g hg hl => ⟨⟨false, _, rfl, frz_lines _⟩, fun l hm => (sheetK_slp (fun l h => (hg l h).slp) l hm).ne, Nat.le_trans (sheetK_len g) (by omega)⟩
  have sm : ∀ g : List (List Int × Int), (∀ l ∈ g, LnH h l) → ∀ l ∈ sheetK g, SmS l.1 := fun g hg l hm => (sheetK_slp (fun l h => (hg l h).slp) l hm).sm
  refine ⟨_, sheetK g, rfl, sK g hgo (by omega), ?_⟩
  walk_at "go"
  refine ⟨_, sheetK ls, rfl, sK ls hlo (by omega), ?_⟩
  walk_at "go"
  rw [sum_sheetK, sum_sheetK]
  refine ifB_of (fun c => absurd c (by rw [hsum]; simp)) (fun _ => ?_)
  walk_at "go"
  have hk := (List.getElem?_eq_some_iff.mp hg).1
  refine ⟨gs.map linesX, k, k, rfl, rfl, by rw [List.length_map]; exact ixN_at (by omega) (by omega), ?_⟩
  walk_at "go"
  refine ⟨_, _, sheetK g, sheetK ls, rfl, sK g hgo (by omega), sK ls hlo (by omega), sm g hgo, sm ls hlo, ?_⟩
  walk_at "go"
  rw [sheet_law (ln_pos hgo), sheet_law (ln_pos hlo)]
  rw [hx, show T.node false Sh.lst (ls.map lineT) = linesX ls from rfl, ← List.map_set]
  exact q
theorem rd__law_altered {ts : List T} {Q : T → List T → Prop} {E : Value → List (Str × V) → List T → Prop} (h : sp__law_altered ts Q E) : t__law_altered (bodyEnds [true, false] Q E) (startE 4 (frzP [true, false] ts)) := by
  obtain ⟨bag, o, ns, rfl, hb, hl, hab, q⟩ := h
  walk_at "go"
  rw [frzL_length, len_ints]
  refine ⟨bag, _, rfl, hb, by omega, .inl (by omega), fun r bag2 hr1 hr2 hb2 => ?_⟩
  obtain ⟨j, rfl⟩ := Int.eq_ofNat_of_zero_le hr1
  walk_at "go"
  rw [frzL_length, len_ints]
  refine ifB_of (fun c => ?_) (fun c => ?_)
  · walk_at "go"
    exact q ns 0 bag2 (.inl ⟨rfl, rfl⟩) hb2
  have c : j ≠ ns.length := fun e => by subst e; simp at c
  walk_at "go"
  have hj : j < ns.length := by omega
  refine ⟨.leaf (.int ns[j]), ints_getM (List.getElem?_eq_getElem hj), ?_⟩
  walk_at "go"
  refine ⟨bag2, true, _, rfl, hb2, by simp, by decide, fun t bag3 ht hb3 => ?_⟩
  have ht : ∃ d : Int, t = .leaf (.int d) ∧ d ≠ 0 ∧ d.natAbs ≤ 10 ^ 20 := by
    simp only [List.mem_cons, List.not_mem_nil, or_false] at ht
    rcases ht with rfl | rfl | rfl | rfl | rfl | rfl <;> exact ⟨_, rfl, by decide, by decide⟩
  obtain ⟨d, rfl, hd0, hd1⟩ := ht
  walk_at "go"
  refine And.intro (by rw [len_ints]; omega) ?_
  walk_at "go"
  rw [ints_set]
  exact q (ns.set j (ns[j] + d)) _ bag3 (.inr ⟨j, ns[j], d, List.getElem?_eq_getElem hj, hd0, hd1, rfl, rfl⟩) hb3
theorem rd__law_is_torn {ts : List T} {Q : T → List T → Prop} {E : Value → List (Str × V) → List T → Prop} (h : sp__law_is_torn ts Q E) : t__law_is_torn (bodyEnds [true, false, false] Q E) (startE 4 (frzP [true, false, false] ts)) := by
  obtain ⟨dx, h, gs, o, p, ns, g0, g1, g2, g3, rfl, h12, hgl, hnl, hab, hg1, hn, q⟩ := h
  walk_at "go"
  refine ⟨dx, h, gs, false, false, ns, g0, g1, g2, g3, by simp only [nf_node, nf_cons, nf_nil, nf_leaf, intsT_frz], h12, hgl, hnl, hab, hg1, .inr ⟨hn, ?_⟩⟩
  walk_at "go"
  intro a
  walk_at "go"
  exact q
theorem taken_one {dx : Addr} {h : Nat} {gs : List (List (List Int × Int))} {ls : List (List Int × Int)} {bag B : T} {B1 : Option T} {D : DEnds} {g : Ev} (hb : IsBag bag) (h12 : h ≤ 12) (hll : ls.length ≤ 5) (hok : ∀ l ∈ ls, LnH h l) (hgl : gs.length ≤ 10)
    (hF : Fits [some (some bag), some (B1), some (some B), some (some (.leaf (.int h))), some (some (bxT true dx h gs)), some (some (linesX ls)), none, none, none, none, none, none] g)
    (hD : ∀ bag' g', IsBag bag' → Fits [some (some bag'), some (B1), some (some B), some (some (.leaf (.int h))), some (some (bxT true dx h (gs ++ [ls]))), none, none, none, none, none, none, none] g' → D.nx g') : t__law_taken_right_15 D g := by
  (obtain ⟨ws_, rfl⟩ := Fits.fill (k := 0) hF; clear hF; dsimp only [fillQ, Nat.reduceAdd])
  have hab := cds_ab h12 hok
  have hcl : (ls.map (cdL h)).length = ls.length := List.length_map ..
  walk_at "go"
  rw [frz_lines]
  refine Lc.fx ls lineT rfl (fun l => some (.leaf (.int (cdL h l)))) (by show _ ≤ 16777216; omega) (fun l hm acc R' hacc k1 k2 => ?_) ?_
  · walk_at "go"
    have hs := (hok l hm).slp
    refine ⟨false, false, l.1, l.2, h, by simp only [Bool.false_eq_true, if_false, nf_node, nf_cons, nf_nil, nf_leaf, intsT_frz], fun m hm => Int.le_of_lt (hs.2 m hm).1, hs.1, h12, ?_⟩
    walk_at "go"
    exact k1 _ rfl
  rw [fm_some, show (ls.map fun l => T.leaf (.int (cdL h l))) = intsT (ls.map (cdL h)) by rw [intsT_eq, List.map_map, List.map_map]; rfl]
  have hbk := codes_back hok
  generalize hcs : ls.map (cdL h) = cs at hab hcl hbk ⊢
  walk_at "go"
  refine ⟨false, cs, rfl, by omega, ?_⟩
  walk_at "go"
  refine ⟨bag, false, cs, rfl, hb, by omega, hab.up (by decide), fun row a bag2 hal hb2 => ?_⟩
  obtain ⟨hrl, hra, ha⟩ := alt_ok hal hab
  have hs0 : (S0 cs).natAbs < 2 ^ 1000 := S0_small (by omega) (hab.up (by decide))
  walk_at "go"
  refine ⟨row, _, _, _, _, ⟨false, false, by simp only [nf_node, nf_cons, nf_nil, nf_leaf, intsT_frz], by omega, hra.up (by decide), hs0⟩, .inl ⟨cs, a, alt_mend hal, ?_⟩⟩
  walk_at "go"
  refine ⟨_, _, .tuple [.list (cs.map .int), .int a], rfl, by (simp only [toP_frz, toPL_frz, toP, toPL, toPL_ints]; try rfl), by (simp only [toP_frz, toPL_frz, toP, toPL, toPL_ints]; try rfl), good_pair (by omega) (fun c hc => Nat.lt_of_lt_of_le (hab c hc) (Nat.pow_le_pow_right (by decide) (by decide))) (small62 (by omega)), ?_⟩
  walk_at "go"
  refine ⟨dx, h, gs, false, false, row, _, _, _, _, by simp only [nf_node, nf_cons, nf_nil, nf_leaf, intsT_frz], h12, by omega, by omega, hra.up (by decide), hs0, .inl ⟨cs, a, ls, alt_mend hal, by omega, hbk, ?_⟩⟩
  walk_at "go"
  refine ⟨dx, h, gs ++ [ls], by rw [frz_bx], ?_⟩
  have e1 : (((gs ++ [ls]).length : Nat) : Int) - 1 = gs.length := by rw [List.length_append]; simp
  walk_at "go"
  rw [e1]
  refine ifB_of (fun c => absurd c (by rw [if_pos rfl]; show ¬ (!(PyData.tuple [.int _, .int _]).eqv (.tuple [.int _, .int _])) = true; rw [eq2T]; decide)) (fun _ => ?_)
  walk_at "go"
  refine ⟨dx, h, gs ++ [ls], by rw [frz_bx], ?_⟩
  walk_at "go"
  refine ⟨dx, h, gs ++ [ls], gs.length, ls, by rw [frz_bx]; show [_, T.leaf (.int (_ - 1))] = _; rw [e1], by simp, by omega, ?_⟩
  walk_at "go"
  refine ⟨_, _, toP_linesF _ _, by rw [frz_linesF]; exact toP_linesF _ _, (good_ls (by omega) hok).shaped, (good_ls (by omega) hok).shaped, ?_⟩
  walk_at "go"
  refine ifB_of (fun c => absurd c (by rw [if_pos rfl, eqv_ls]; decide)) (fun _ => ?_)
  walk_at "go"
  (try rw [intsT_frz])
  refine Lc.fx (cs.zip ls) (fun p => .leaf (.int p.1)) (by first | exact ints_zip cs ls hcl | (rw [intsT_frz]; exact ints_zip cs ls hcl)) (fun p => some (lineO p.2)) (by rw [List.length_zip]; show _ ≤ 16777216; omega) (fun p hp acc R' hacc k1 k2 => ?_) ?_
  · walk_at "go"
    have hp2 : lineR p.1 h = some p.2 := zip_some hbk hp
    refine ⟨p.1, h, p.2, rfl, h12, hp2, ?_⟩
    walk_at "go"
    exact k1 _ rfl
  rw [fm_some, show (cs.zip ls).map (fun p => lineO p.2) = ls.map lineO from zip_snd cs ls hcl]
  walk_at "go"
  refine ⟨_, _, toP_linesO _ _, by rw [frz_linesF]; exact toP_linesF _ _, (good_ls (by omega) hok).shaped, (good_ls (by omega) hok).shaped, ?_⟩
  walk_at "go"
  refine ifB_of (fun c => absurd c (by rw [if_pos rfl, eqv_ls]; decide)) (fun _ => ?_)
  walk_at "go"
  refine ⟨dx, h, gs ++ [ls], by rw [frz_bx], ?_⟩
  walk_at "go"
  refine ⟨dx, h, gs ++ [ls], gs.length, ls, by rw [frz_bx]; show [_, T.leaf (.int (_ - 1))] = _; rw [e1], by simp, by omega, h12, hok, ?_⟩
  rw [hcs]
  walk_at "go"
  refine ifB_of (fun c => absurd c (by rw [if_pos rfl]; show ¬ (!(PyData.tuple [.int _, .int _, .int _, .int _]).eqv (.tuple [.int _, .int _, .int _, .int _])) = true; rw [eq4T]; decide)) (fun _ => ?_)
  walk_at "go"
  rw [len_ints]
  refine ifB_dec (p := (1 : Int) < cs.length) (fun c2 => ?_) (fun _ => ?_)
  · obtain ⟨n, hn⟩ : ∃ n, cs.length = n + 2 := ⟨cs.length - 2, by omega⟩
    have h0 : cs[0]? = some cs[0] := List.getElem?_eq_getElem (by omega)
    have h1 : cs[n + 1]? = some cs[n + 1] := List.getElem?_eq_getElem (by omega)
    generalize cs[0] = c0 at h0
    generalize cs[n + 1] = c1 at h1
    walk_at "gn"
    refine Nx.mk ?_
    ((try (dsimp only [nr_none, nr_some, nr_nil, nf_leaf, nf_pin, nf_node, nf_nil, nf_cons, ni_f, ni_t, nw_nil, nw_cons, ns_0, ns_s])); (try simp only [intsT_frz, frzL_frzL, frz_lines, frz_keys]))
    unfold t__law_taken_right_4
    (conv => whnf)
    refine And.intro (by decide) ?_
    (conv => whnf)
    refine ⟨.leaf (.int c0), ints_getM h0, ?_⟩
    walk_at "go"
    refine ⟨_, _, rfl, hb2, by decide, .inl (by decide), fun r bag3 hr1 hr2 hb3 => ?_⟩
    walk_at "go"
    refine And.intro (by rw [len_ints]; show 0 < _; omega) ?_
    (conv => whnf)
    refine Nx.mk ?_
    ((try (dsimp only [nr_none, nr_some, nr_nil, nf_leaf, nf_pin, nf_node, nf_nil, nf_cons, ni_f, ni_t, nw_nil, nw_cons, ns_0, ns_s])); (try simp only [intsT_frz, frzL_frzL, frz_lines, frz_keys]))
    rw [show (intsT cs).set (Int.toNat 0) (T.leaf (.int (c0 + (1 + r)))) = intsT (cs.set 0 (c0 + (1 + r))) from ints_set cs 0 _]
    have hlr : (cs.set 0 (c0 + (1 + r))).length = n + 2 := by rw [List.length_set, hn]
    have h1r : (cs.set 0 (c0 + (1 + r)))[n + 1]? = some c1 := by rw [List.getElem?_set_ne (by omega)]; exact h1
    unfold t__law_taken_right_3
    (conv => whnf)
    refine And.intro (by decide) ?_
    (conv => whnf)
    refine ⟨.leaf (.int c1), by rw [len_ints, hlr]; omega, by rw [len_ints, hlr, show (-1 + ((n + 2 : Nat) : Int)).toNat = n + 1 by omega]; exact ints_getM h1r, ?_⟩
    walk_at "go"
    refine ⟨_, _, rfl, hb3, by decide, .inl (by decide), fun r2 bag4 hr3 hr4 hb4 => ?_⟩
    walk_at "go"
    refine ⟨dx, h, gs ++ [ls], false, false, (cs.set 0 (c0 + (1 + r))).set (n + 1) (c1 + -(1 + r2)), _, _, _, _, ?_, h12, by rw [List.length_append]; show gs.length + 1 ≤ _; omega, by rw [List.length_set, hlr]; omega, (ab_set (ab_set hab (by decide) h0 (by omega)) (by decide) h1r (by omega)).up (by decide), hs0, torn_none hn h0 h1 (by omega) (by omega), ?_⟩
    · rw [len_ints, hlr, show (-1 + ((n + 2 : Nat) : Int)).toNat = n + 1 by omega, show c1 - (1 + r2) = c1 + -(1 + r2) by omega, ints_set, nf_node, intsT_frz]
    walk_at "go"
    exact hD bag4 _ hb4 (by repeat' (first | exact Fits.e | refine Fits.n ?_ | refine Fits.s rfl ?_))
  · walk_at "go"
    exact hD bag2 _ hb2 (by repeat' (first | exact Fits.e | refine Fits.n ?_ | refine Fits.s rfl ?_))
theorem perm_map_ex {α β : Type} (f : α → β) {l m : List β} (h : l.Perm m) : ∀ {xs : List α}, m = xs.map f → ∃ ys : List α, l = ys.map f ∧ ys.Perm xs := by
  induction h with
  | nil => intro xs e; exact ⟨[], rfl, by cases xs with | nil => exact .nil | cons => cases e⟩
  | cons a _ ih =>
    intro xs e
    cases xs with
    | nil => cases e
    | cons x xs =>
      rw [List.map_cons] at e
      cases e
      obtain ⟨ys, h1, h2⟩ := ih rfl
      exact ⟨x :: ys, by rw [List.map_cons, h1], h2.cons x⟩
  | swap a b l =>
    intro xs e
    cases xs with
    | nil => cases e
    | cons x xs =>
      cases xs with
      | nil => cases e
      | cons y xs =>
        rw [List.map_cons, List.map_cons] at e
        cases e
        exact ⟨y :: x :: xs, rfl, .swap _ _ _⟩
  | trans _ _ ih1 ih2 =>
    intro xs e
    obtain ⟨ys, h1, h2⟩ := ih2 e
    obtain ⟨zs, h3, h4⟩ := ih1 h1
    exact ⟨zs, h3, h4.trans h2⟩
theorem Bds.perm {h : Nat} {gs gs' : List (List (List Int × Int))} (hb : Bds h gs) (p : gs'.Perm gs) : Bds h gs' := ⟨by rw [p.length_eq]; exact hb.len, fun g hg => hb.g g (p.mem_iff.mp hg)⟩
theorem sum_len {B : Int} : ∀ {ls : List (List Int × Int)}, (∀ l ∈ ls, l.2 ≤ B) → (ls.map (·.2)).sum ≤ ls.length * B
  | [], _ => by simp
  | l :: r, h => by
    have h1 := h l List.mem_cons_self
    have h2 := sum_len (ls := r) fun x hx => h x (List.mem_cons_of_mem _ hx)
    rw [List.map_cons, List.sum_cons, List.length_cons]
    push_cast
    rw [Int.add_mul]
    omega
theorem ln_flat {h : Nat} {gs : List (List (List Int × Int))} (hb : Bds h gs) : gs.flatten.length ≤ 20 ∧ ∀ l ∈ gs.flatten, LnH h l := by
  refine ⟨?_, fun l hl => ?_⟩
  · have := flat_len (gs := gs) fun g hg => (hb.g g hg).1
    have := hb.len
    omega
  · obtain ⟨g, hg, hl⟩ := List.mem_flatten.mp hl
    exact (hb.g g hg).2 l hl
theorem sht_ln {h : Nat} {ls : List (List Int × Int)} (hl : ls.length ≤ 300) (hok : ∀ l ∈ ls, LnH h l) : Sht (lawK ls) := by
  refine sht_law (by omega) (fun l hm => ⟨(hok l hm).slp, by have := (hok l hm).2; omega⟩) ?_
  have := sum_len (B := 1000000000) fun l hm => (hok l hm).2.2
  omega
theorem taken_box {dz : Addr} {h : Nat} {gs : List (List (List Int × Int))} {bag : T} {xs : List T} {D : DEnds} {g : Ev} {B1 : Option T} (hb : IsBag bag) (h12 : h ≤ 12) (hbd : Bds h gs) (hx : frzL xs = gs.map linesX)
    (hF : Fits [some (some bag), some (B1), some (some (.node false .lst (frzL xs))), some (some (.leaf (.int h))), some (some (bxT true dz h [])), none, none, none, none, none, none, none] g)
    (hD : ∀ bag' gs' g', IsBag bag' → gs'.Perm gs → Fits [some (some bag'), some (B1), some (some (.node false .lst (frzL xs))), some (some (.leaf (.int h))), some (some (bxT true dz h gs')), none, none, none, none, none, none, none] g' → D.nx g') : t__law_taken_right_17 D g := by
  (obtain ⟨ws_, rfl⟩ := Fits.fill (k := 0) hF; clear hF; dsimp only [fillQ, Nat.reduceAdd])
  have hxl : xs.length ≤ 4 := by
    have := congrArg List.length hx
    rw [frzL_length, List.length_map] at this
    have := hbd.len
    omega
  walk_at "go"
  refine ⟨bag, false, frzL xs, by simp only [nf_node, frzL_frzL], hb, by rw [frzL_length]; omega, fun its bag2 hp hb2 => ?_⟩
  rw [frzL_frzL, hx] at hp
  obtain ⟨gs', rfl, hg'⟩ := perm_map_ex linesX hp rfl
  walk_at "go"
  rw [frz_lX]
  have hgl : gs'.length ≤ 4 := by rw [hg'.length_eq]; exact hbd.len
  refine Loop.fit gs' linesX rfl (fun z : T × Nat => [some (some z.1), some (B1), some (some (.node false .lst (frzL xs))), some (some (.leaf (.int h))), some (some (bxT true dz h (gs'.take z.2))), none, none, none, none, none, none, none]) (fun i z => IsBag z.1 ∧ z.2 = i) (bag2, 0) ⟨hb2, rfl⟩ (by repeat' (first | exact Fits.e | refine Fits.n ?_ | refine Fits.s rfl ?_)) (fun i l z g hi hI hF R hR => ?_) fun z g hI hF => ?_
  · obtain ⟨hI, e⟩ := hI
    subst e
    have hm := hg'.mem_iff.mp (List.mem_of_getElem? hi)
    (obtain ⟨ws_, rfl⟩ := Fits.fill (k := 0) hF; clear hF; dsimp only [fillQ, Nat.reduceAdd])
    show t__law_taken_right_15 (lpE R _) _
    refine taken_one (gs := gs'.take z.2) (ls := l) (dx := dz) (B1 := B1) (B := .node false .lst (frzL xs)) hI h12 (hbd.g l hm).1 (hbd.g l hm).2 (by rw [List.length_take]; omega) ?_ fun bag' g' hb' hG => ?_
    · simp only [Bool.false_eq_true, if_false, frz_linesF]
      (repeat' (first | exact Fits.e | refine Fits.n ?_ | refine Fits.s rfl ?_))
    refine hR (bag', z.2 + 1) g' ⟨hb', rfl⟩ ?_
    rw [show gs'.take (z.2 + 1) = gs'.take z.2 ++ [l] by rw [List.take_add_one, hi]; rfl]
    exact hG
  · obtain ⟨hI, e⟩ := hI
    rw [e, List.take_length] at hF
    exact hD z.1 gs' g hI hg' hF
theorem rd__law_taken_right {ts : List T} {Q : T → List T → Prop} {E : Value → List (Str × V) → List T → Prop} (h : sp__law_taken_right ts Q E) : t__law_taken_right (bodyEnds [true, true, false, false] Q E) (startE 12 (frzP [true, true, false, false] ts)) := by
  obtain ⟨bag, dx, dy, h, o, xs, gs, rfl, hb, hx, hbd, h1, h12, q⟩ := h
  walk_at "go"
  refine LoopO.ind (fun i us g => ∃ bag gs1 gs2, IsBag bag ∧ us = [bxT true dx h gs1, bxT true dy h gs2] ∧ (if i = 0 then gs1 = [] else gs1.Perm gs) ∧ (if i ≤ 1 then gs2 = [] else gs2.Perm gs) ∧ Fits [some (some bag), some (none), some (some (.node false .lst (frzL xs))), some (some (.leaf (.int h))), none, none, none, none, none, none, none, none] g) ⟨bag, [], [], hb, rfl, rfl, rfl, by (repeat' (first | exact Fits.e | refine Fits.n ?_ | refine Fits.s rfl ?_))⟩ (fun i us g hul hi hI R hR => ?_) fun us g hul hI => ?_
  · obtain ⟨bag, gs1, gs2, hb, rfl, i1, i2, hF⟩ := hI
    (obtain ⟨ws_, rfl⟩ := Fits.fill (k := 0) hF; clear hF; dsimp only [fillQ, Nat.reduceAdd])
    match i, hi with
    | 0, _ =>
      simp only [if_true] at i1
      rw [if_pos (by decide)] at i2
      subst i1 i2
      refine ⟨_, rfl, taken_box hb h12 hbd hx (by repeat' (first | exact Fits.e | refine Fits.n ?_ | refine Fits.s rfl ?_)) fun bag' gs' g' hb' hg' hG => ?_⟩
      (obtain ⟨ws_, rfl⟩ := Fits.fill (k := 0) hG; clear hG; dsimp only [fillQ, Nat.reduceAdd])
      exact hR _ _ rfl ⟨bag', gs', [], hb', rfl, by rw [if_neg (by decide)]; exact hg', by rw [if_pos (by decide)], by (repeat' (first | exact Fits.e | refine Fits.n ?_ | refine Fits.s rfl ?_))⟩
    | 1, _ =>
      rw [if_neg (by decide)] at i1
      rw [if_pos (by decide)] at i2
      subst i2
      refine ⟨_, rfl, taken_box hb h12 hbd hx (by repeat' (first | exact Fits.e | refine Fits.n ?_ | refine Fits.s rfl ?_)) fun bag' gs' g' hb' hg' hG => ?_⟩
      (obtain ⟨ws_, rfl⟩ := Fits.fill (k := 0) hG; clear hG; dsimp only [fillQ, Nat.reduceAdd])
      exact hR _ _ rfl ⟨bag', gs1, gs', hb', rfl, by rw [if_neg (by decide)]; exact i1, by rw [if_neg (by decide)]; exact hg', by (repeat' (first | exact Fits.e | refine Fits.n ?_ | refine Fits.s rfl ?_))⟩
  · obtain ⟨bag, gs1, gs2, hb, rfl, i1, i2, hF⟩ := hI
    (obtain ⟨ws_, rfl⟩ := Fits.fill (k := 0) hF; clear hF; dsimp only [fillQ, Nat.reduceAdd])
    walk_at "go"
    have i1 : gs1.Perm gs := i1
    have i2 : gs2.Perm gs := i2
    have b1 := hbd.perm i1
    have b2 := hbd.perm i2
    have e2 : lawK gs2.flatten = lawK gs1.flatten := lawK_perm ((i2.trans i1.symm).flatten)
    have sg := (sht_ln (Nat.le_trans (ln_flat b1).1 (by decide)) (ln_flat b1).2).good
    refine ⟨dx, h, gs1, by rw [frz_bx, frz_bx], b1, ?_⟩
    walk_at "go"
    refine ⟨dy, h, gs2, by rw [frz_bx, frz_bx], b2, ?_⟩
    rw [e2]
    walk_at "go"
    refine ⟨_, _, toP_linesF _ _, toP_linesF _ _, sg.shaped, sg.shaped, ?_⟩
    rw [if_neg (by decide), eqv_ls]
    walk_at "go"
    exact q bag gs1 gs2 hb i1 i2
theorem SameB.flat : ∀ {gs gs' : List (List (List Int × Int))}, SameB gs gs' → gs'.flatten.Perm gs.flatten
  | [], [], _ => .nil
  | [], _ :: _, h => by cases h.1
  | _ :: _, [], h => by cases h.1
  | g :: gs, g' :: gs', h => by
    rw [List.flatten_cons, List.flatten_cons]
    refine (h.2 0 g g' rfl rfl).append (SameB.flat ⟨by have := h.1; simpa using this, fun k a b h1 h2 => h.2 (k + 1) a b (by simpa using h1) (by simpa using h2)⟩)
theorem SameB.bds {h : Nat} {gs gs' : List (List (List Int × Int))} (hb : Bds h gs) (s : SameB gs gs') : Bds h gs' := by
  refine ⟨by rw [s.1]; exact hb.len, fun g hg => ?_⟩
  obtain ⟨k, hk, e⟩ := List.mem_iff_getElem.mp hg
  have hk2 : k < gs.length := by rw [← s.1]; exact hk
  have p := s.2 k gs[k] g (List.getElem?_eq_getElem hk2) (by rw [List.getElem?_eq_getElem hk, e])
  have hg2 := hb.g gs[k] (List.getElem_mem hk2)
  exact ⟨by rw [p.length_eq]; exact hg2.1, fun l hl => hg2.2 l (p.mem_iff.mp hl)⟩
theorem SameB.set {gs gs' : List (List (List Int × Int))} (s : SameB gs gs') {i : Nat} {g e : List (List Int × Int)} (hg : gs'[i]? = some g) (p : e.Perm g) : SameB gs (gs'.set i e) := by
  refine ⟨by rw [List.length_set]; exact s.1, fun k a b h1 h2 => ?_⟩
  by_cases hk : i = k
  · subst hk
    rw [List.getElem?_set_self (List.getElem?_eq_some_iff.mp hg).1] at h2
    cases h2
    exact p.trans (s.2 i a g h1 hg)
  · rw [List.getElem?_set_ne hk] at h2
    exact s.2 k a b h1 h2
theorem totK_app2 (a b : List (List Int × Int)) (s : List Int) : totK (a ++ b) s = totK a s + totK b s := by
  unfold totK
  rw [List.map_append, List.sum_append]
theorem law_gD {ls : List (List Int × Int)} (h : ∀ l ∈ ls, 0 < l.2) (s : List Int) : gD (lawK ls) s = totK ls s := by
  rw [← sheet_law h, sheetK_get]
theorem law_key2 {ls : List (List Int × Int)} (h : ∀ l ∈ ls, 0 < l.2) {l : List Int × Int} (hl : l ∈ lawK ls) : l.1 ∈ ls.map (·.1) := by
  rw [← sheet_law h] at hl
  exact sheetK_key hl
theorem law_sum2 {ls : List (List Int × Int)} (h : ∀ l ∈ ls, 0 < l.2) : ((lawK ls).map (·.2)).sum = (ls.map (·.2)).sum := by
  rw [← sheet_law h, sum_sheetK]
theorem lawT {h : Nat} {g : List (List Int × Int)} (o : Bool) (hl : g.length ≤ 300) (hok : ∀ l ∈ g, LnH h l) : LinesT (.node o .lst ((lawK g).map lineT)) (lawK g) := by
  have s := sht_ln hl hok
  exact ⟨⟨o, _, rfl, frz_lines _⟩, fun l hm => (s.ok l hm).1.ne, by have := s.len; omega⟩
theorem lawS {h : Nat} {g : List (List Int × Int)} (hl : g.length ≤ 300) (hok : ∀ l ∈ g, LnH h l) : ∀ l ∈ lawK g, SmS l.1 := (sht_ln hl hok).sm
def lineP (p : List Int × Int) : T := .node true .tup [.node true .tup (intsT p.1), .leaf (.int p.2)]
theorem frz_lP (xs : List (List Int × Int)) : frzL (xs.map lineP) = xs.map lineT := by
  rw [frzL_map, List.map_map]
  exact List.map_congr_left fun g _ => by simp only [Function.comp, lineP, nf_node, nf_cons, nf_nil, nf_leaf, intsT_frz]
theorem apart_common {g ls R : List (List Int × Int)} (hg : ∀ l ∈ g, 0 < l.2) (hl : ∀ l ∈ ls, 0 < l.2) (hR : ∀ l ∈ R, 0 < l.2) : apartK (lawK (g ++ R)) (lawK (ls ++ R)) = apartK (lawK g) (lawK ls) := by
  have hgR : ∀ l ∈ g ++ R, 0 < l.2 := fun l hm => (List.mem_append.mp hm).elim (hg l) (hR l)
  have hlR : ∀ l ∈ ls ++ R, 0 < l.2 := fun l hm => (List.mem_append.mp hm).elim (hl l) (hR l)
  have hL := allK_nd ((g ++ R).map (·.1))
  have m1 : ∀ l ∈ lawK (g ++ R), l.1 ∈ allK ((g ++ R).map (·.1)) := fun l hm => allK_mem.mpr (law_key2 hgR hm)
  have m2 : ∀ l ∈ lawK g, l.1 ∈ allK ((g ++ R).map (·.1)) := fun l hm => allK_mem.mpr (by rw [List.map_append]; exact List.mem_append_left _ (law_key2 hg hm))
  rw [apart_over (lawK_nodup _) (law_pos hlR) hL m1, apart_over (lawK_nodup _) (law_pos hl) hL m2]
  refine sum_congr' fun s _ => ?_
  rw [law_gD hgR, law_gD hlR, law_gD hg, law_gD hl, totK_app2, totK_app2]
  congr 1
  omega
theorem put_in {h i : Nat} {gs G : List (List (List Int × Int))} {g0 xs : List (List Int × Int)} (hbd : Bds h gs) (hs : SameB gs G) (e : G[i]? = some g0) (hx5 : xs.length ≤ 5) (hxo : ∀ l ∈ xs, LnH h l) (hsum : (xs.map (·.2)).sum = (g0.map (·.2)).sum) :
    Bds h (G.set i xs) ∧ ((lawK (G.set i xs).flatten).map (·.2)).sum = ((lawK gs.flatten).map (·.2)).sum ∧ apartK (lawK gs.flatten) (lawK (G.set i xs).flatten) = apartK (lawK g0) (lawK xs) := by
  have hG := hs.bds hbd
  have hS : Bds h (G.set i xs) := ⟨by rw [List.length_set]; exact hG.len, fun g hg => (List.mem_or_eq_of_mem_set hg).elim (hG.g g) fun z => by rw [z]; exact ⟨hx5, hxo⟩⟩
  obtain ⟨r, p1, p2⟩ := set_perm xs e
  have q1 : gs.flatten.Perm (g0 ++ r.flatten) := hs.flat.symm.trans (by have := p1.flatten; rwa [List.flatten_cons] at this)
  have q2 : (G.set i xs).flatten.Perm (xs ++ r.flatten) := by have := p2.flatten; rwa [List.flatten_cons] at this
  have n1 := ln_pos (hG.g g0 (List.mem_of_getElem? e)).2
  have n2 := ln_pos hxo
  have nf := ln_pos (ln_flat hbd).2
  have nR : ∀ l ∈ r.flatten, 0 < l.2 := fun l hl => nf l (q1.mem_iff.mpr (List.mem_append_right _ hl))
  have n3 : ∀ l ∈ g0 ++ r.flatten, 0 < l.2 := fun l hm => (List.mem_append.mp hm).elim (n1 l) (nR l)
  have n4 : ∀ l ∈ xs ++ r.flatten, 0 < l.2 := fun l hm => (List.mem_append.mp hm).elim (n2 l) (nR l)
  rw [lawK_perm q1, lawK_perm q2]
  refine ⟨hS, ?_, apart_common n1 n2 nR⟩
  rw [law_sum2 n3, law_sum2 n4, List.map_append, List.map_append, List.sum_append, List.sum_append, hsum]
theorem rd__law_recounts_right {ts : List T} {Q : T → List T → Prop} {E : Value → List (Str × V) → List T → Prop} (h : sp__law_recounts_right ts Q E) : t__law_recounts_right (bodyEnds [true, true, false] Q E) (startE 12 (frzP [true, true, false] ts)) := by
  obtain ⟨bag, dx, h, gs, rfl, hb, hbd, h1, h12, q⟩ := h
  walk_at "go"
  refine ⟨dx, h, gs, by rw [frz_bx], hbd, ?_⟩
  walk_at "go"
  have hbl := hbd.len
  refine And.intro (pure_lines true _) ?_
  walk_at "go"
  refine ⟨dx, h, gs, by rw [frz_bx], ?_⟩
  walk_at "go"
  rw [Int.toNat_natCast]
  refine Loop.rg (fun z : T × List (List (List Int × Int)) => [some (some z.1), some (some (bxT true dx h z.2)), some (some (.leaf (.int h))), some (some (linesX (lawK gs.flatten))), none, none, none, none, none, none, none, none]) (fun _ z => IsBag z.1 ∧ SameB gs z.2) (bag, gs) ⟨hb, rfl, fun k g g' e1 e2 => by rw [e1] at e2; cases e2; exact .refl _⟩ (by repeat' (first | exact Fits.e | refine Fits.n ?_ | refine Fits.s rfl ?_)) (fun i z g hlt hI hF R hR => ?_) fun z g hI hF => ?_
  · obtain ⟨hb1, hs⟩ := hI
    obtain ⟨bag1, G⟩ := z
    simp only at hb1 hs
    have hG := hs.bds hbd
    have hi : i < G.length := by rw [hs.1]; exact hlt
    have e := List.getElem?_eq_getElem hi
    generalize G[i] = g0 at e
    have hg0 := hG.g g0 (List.mem_of_getElem? e)
    (obtain ⟨ws_, rfl⟩ := Fits.fill (k := 0) hF; clear hF; dsimp only [fillQ, Nat.reduceAdd])
    simp only [Int.zero_add]
    walk_at "go"
    refine ⟨dx, h, G, i, g0, by simp only [frz_bx, Bool.false_eq_true, if_false, nf_leaf], e, by omega, ?_⟩
    refine And.intro (pure_lines true _) ?_
    walk_at "go"
    refine ⟨dx, h, G, i, g0, by simp only [frz_bx, Bool.false_eq_true, if_false, nf_leaf], e, by omega, hg0.2, ?_⟩
    refine And.intro (pure_lines true _) ?_
    walk_at "go"
    refine Lc.fit g0 lineT (by rw [frz_lines]) (fun bag : T => [some (some bag), some (some (bxT true dx h G)), some (some (.leaf (.int h))), some (some (linesX (lawK gs.flatten))), some (some (.leaf (.int i))), some (some (linesX g0)), some (some (linesX (sheetK g0))), none, none, none, none, none]) (fun j bag acc => IsBag bag ∧ ∃ xs : List (List Int × Int), acc = xs.map lineP ∧ xs.length = j ∧ (∀ l ∈ xs, LnH h l) ∧ xs.map (·.2) = (g0.take j).map (·.2)) bag1 ⟨hb1, [], rfl, rfl, nofun, rfl⟩ (by repeat' (first | exact Fits.e | refine Fits.n ?_ | refine Fits.s rfl ?_)) (fun j x bag g acc hx hI hF R' hR' => ?_) fun bag g acc hI hF => ?_
    · obtain ⟨hb2, xs, rfl, hxl, hxo, hxs⟩ := hI
      have hx1 := (List.getElem?_eq_some_iff.mp hx).1
      have hxn := hg0.2 x (List.mem_of_getElem? hx)
      (obtain ⟨ws_, rfl⟩ := Fits.fill (k := 0) hF; clear hF; dsimp only [fillQ, Nat.reduceAdd])
      walk_at "go"
      refine ⟨bag, h, rfl, hb2, h1, h12, fun rs bag2 hrl hr hb3 => ?_⟩
      walk_at "go"
      refine hR' bag2 _ _ ⟨hb3, xs ++ [(tiersR rs, x.2)], by rw [List.map_append]; rfl, by simp [hxl], fun l hl => ?_, ?_⟩ (by repeat' (first | exact Fits.e | refine Fits.n ?_ | refine Fits.s rfl ?_))
      · rcases List.mem_append.mp hl with hl | hl
        · exact hxo l hl
        · rw [List.mem_singleton.mp hl]
          exact ⟨⟨rs, ⟨hrl, h12, hr⟩, rfl⟩, hxn.2⟩
      · rw [List.map_append, hxs, List.take_add_one, hx, List.map_append]
        rfl
    · obtain ⟨hb2, xs, rfl, hxl, hxo, hxs⟩ := hI
      rw [List.take_length] at hxs
      (obtain ⟨ws_, rfl⟩ := Fits.fill (k := 0) hF; clear hF; dsimp only [fillQ, Nat.reduceAdd])
      walk_at "go"
      rw [frz_lP]
      have hx5 : xs.length ≤ 5 := by omega
      refine ⟨_, _, rfl, odd_t (lines_t (by omega) hxo), .inl ⟨xs, odd_q (ln_n hxo), ?_⟩⟩
      walk_at "go"
      have hsum : (xs.map (·.2)).sum = (g0.map (·.2)).sum := by rw [hxs]
      have hg5 := hg0.1
      rw [sheet_law (ln_pos hg0.2), sheet_law (ln_pos hxo)]
      refine ⟨_, _, lawK g0, lawK xs, rfl, lawT _ (by omega) hg0.2, lawT _ (by omega) hxo, lawS (by omega) hg0.2, lawS (by omega) hxo, ?_⟩
      walk_at "go"
      refine ⟨dx, h, G, i, g0, xs, false, xs.map lineT, by simp only [nf_node, nf_leaf, frz_lines], frz_lines _, e, by omega, by omega, hg0.2, hxo, hsum, ?_⟩
      walk_at "go"
      refine ifB_of (fun c => absurd c (by simp)) (fun _ => ?_)
      have e2 : (G.set i xs)[i]? = some xs := List.getElem?_set_self hi
      have sx := (sht_ln (by omega) hxo).good
      walk_at "go"
      refine ⟨dx, h, G.set i xs, i, xs, by simp only [frz_bx, nf_leaf], e2, by omega, hxo, ?_⟩
      walk_at "go"
      refine ⟨_, _, rfl, odd_t (ls := xs) (by rw [frz_linesF]; exact lines_t (by omega) hxo), .inl ⟨xs, odd_q (ln_n hxo), ?_⟩⟩
      rw [sheet_law (ln_pos hxo)]
      walk_at "go"
      refine ⟨_, _, toP_linesF _ _, toP_linesF _ _, sx.shaped, sx.shaped, ?_⟩
      walk_at "go"
      refine ifB_of (fun c => absurd c (by rw [if_pos rfl, eqv_ls]; decide)) (fun _ => ?_)
      walk_at "go"
      refine ⟨dx, h, G.set i xs, i, xs, by simp only [frz_bx, nf_leaf], e2, by omega, h12, hxo, ?_⟩
      walk_at "go"
      obtain ⟨hS, hsm, hap⟩ := put_in hbd hs e hx5 hxo hsum
      obtain ⟨fl1, fo1⟩ := ln_flat hbd
      obtain ⟨fl2, fo2⟩ := ln_flat hS
      refine Lc.fx xs lineT (by rw [frz_lines, frz_lines]) (fun l => some (.leaf (.int (cdL h l)))) (by show _ ≤ 16777216; omega) (fun l hm acc R' hacc k1 k2 => ?_) ?_
      · walk_at "go"
        have hs := (hxo l hm).slp
        refine ⟨false, false, l.1, l.2, h, by simp only [Bool.false_eq_true, if_false, nf_node, nf_cons, nf_nil, nf_leaf, intsT_frz], fun m hm => Int.le_of_lt (hs.2 m hm).1, hs.1, h12, ?_⟩
        walk_at "go"
        exact k1 _ rfl
      rw [fm_some, show (xs.map fun l => T.leaf (.int (cdL h l))) = intsT (xs.map (cdL h)) by rw [intsT_eq, List.map_map, List.map_map]; rfl]
      walk_at "go"
      refine ⟨true, xs.map (cdL h), rfl, by rw [List.length_map]; omega, ?_⟩
      walk_at "go"
      refine ifB_of (fun c => absurd c (by rw [if_pos rfl]; show ¬ (!(PyData.tuple [.int _, .int _, .int _, .int _]).eqv (.tuple [.int _, .int _, .int _, .int _])) = true; rw [eq4T]; decide)) (fun _ => ?_)
      walk_at "go"
      refine ⟨dx, h, G.set i xs, by rw [frz_bx], hS, ?_⟩
      walk_at "go"
      refine ⟨_, _, rfl, lawT true (by omega) fo2, ?_⟩
      walk_at "go"
      refine ⟨_, lawK gs.flatten, rfl, by simp only [nf_node, frz_lines]; exact lawT false (by omega) fo1, ?_⟩
      walk_at "go"
      refine ifB_of (fun c => absurd c (by rw [hsm]; simp)) (fun _ => ?_)
      walk_at "go"
      refine ⟨dx, h, G.set i xs, by rw [frz_bx], hS, ?_⟩
      walk_at "go"
      refine ⟨_, _, lawK gs.flatten, lawK (G.set i xs).flatten, rfl, by simp only [nf_node, frz_lines]; exact lawT false (by omega) fo1, lawT true (by omega) fo2, lawS (by omega) fo1, lawS (by omega) fo2, ?_⟩
      rw [hap]
      walk_at "go"
      refine ifB_of (fun c => absurd c (by simp)) (fun _ => ?_)
      walk_at "go"
      refine ⟨bag, false, g0.map lineT, rfl, hb2, by rw [List.length_map]; omega, fun its bag3 hp hb3 => ?_⟩
      rw [frz_lines] at hp
      obtain ⟨el, rfl, hel⟩ := perm_map_ex lineT hp rfl
      have helo : ∀ l ∈ el, LnH h l := fun l hl => hg0.2 l (hel.mem_iff.mp hl)
      have hell : el.length ≤ 5 := by rw [hel.length_eq]; exact hg5
      have hs2 := hs.set e hel
      have hS2 := hs2.bds hbd
      have hsy : apartK (lawK xs) (lawK el) = apartK (lawK g0) (lawK xs) := by
        rw [lawK_perm hel]
        refine apart_symm (lawK_nodup _) (lawK_nodup _) (law_pos (ln_pos hxo)) (law_pos (ln_pos hg0.2)) ?_
        rw [law_sum2 (ln_pos hxo), law_sum2 (ln_pos hg0.2), hsum]
      have hfl : lawK (G.set i el).flatten = lawK gs.flatten := lawK_perm hs2.flat
      have sf := (sht_ln (by omega) fo1).good
      walk_at "go"
      refine ⟨dx, h, G.set i xs, i, xs, el, true, el.map lineT, by simp only [nf_node, nf_leaf, frz_lines], frz_lines _, e2, by omega, by omega, hxo, helo, by rw [sum_perm (hel.map (·.2)), hsum], ?_⟩
      rw [hsy, List.set_set]
      walk_at "go"
      refine ifB_of (fun c => absurd c (by simp)) (fun _ => ?_)
      walk_at "go"
      refine ⟨dx, h, G.set i el, by rw [frz_bx], hS2, ?_⟩
      rw [hfl]
      walk_at "go"
      refine ⟨_, _, toP_linesF _ _, by rw [frz_linesF]; exact toP_linesF _ _, sf.shaped, sf.shaped, ?_⟩
      walk_at "go"
      refine ifB_of (fun c => absurd c (by rw [if_pos rfl, eqv_ls]; decide)) (fun _ => ?_)
      walk_at "go"
      exact hR (bag3, G.set i el) _ ⟨hb3, hs2⟩ (by repeat' (first | exact Fits.e | refine Fits.n ?_ | refine Fits.s rfl ?_))
  · obtain ⟨hb1, hs⟩ := hI
    (obtain ⟨ws_, rfl⟩ := Fits.fill (k := 0) hF; clear hF; dsimp only [fillQ, Nat.reduceAdd])
    walk_at "go"
    exact q z.1 z.2 hb1 hs
theorem frz_gO (gs : List (List (List Int × Int))) : frzL (gs.map fun g => T.node true .lst (g.map lineO)) = gs.map linesX := by
  rw [frzL_map, List.map_map]
  exact List.map_congr_left fun g _ => by simp only [Function.comp, nf_node, frz_linesO]
theorem rd_law {ts : List T} {Q : T → List T → Prop} {E : Value → List (Str × V) → List T → Prop} (h : sp_law ts Q E) : t_law (bodyEnds [false] Q E) (startE 8 (frzP [false] ts)) := by
  obtain ⟨ns, rfl, hl, q⟩ := h
  walk_at "go"
  intro bag hb
  walk_at "go"
  refine Loop.rg (fun z : T => [none, some (some z), none, none, none, none, none, none]) (fun _ z => IsBag z) bag hb (by repeat' (first | exact Fits.e | refine Fits.n ?_ | refine Fits.s rfl ?_)) (fun i z g hlt hI hF R hR => ?_) fun z g hI hF => ?_
  · (obtain ⟨ws_, rfl⟩ := Fits.fill (k := 0) hF; clear hF; dsimp only [fillQ, Nat.reduceAdd])
    walk_at "go"
    refine ⟨_, _, _, rfl, hI, by simp, by decide, fun t bag2 ht hb2 => ?_⟩
    have ht : ∃ m : Nat, t = .leaf (.int m) ∧ 2 ≤ m ∧ m ≤ 6 := by
      simp only [List.mem_cons, List.not_mem_nil, or_false] at ht
      rcases ht with rfl | rfl | rfl
      · exact ⟨2, rfl, by decide, by decide⟩
      · exact ⟨3, rfl, by decide, by decide⟩
      · exact ⟨6, rfl, by decide, by decide⟩
    obtain ⟨m, rfl, hm1, hm2⟩ := ht
    walk_at "go"
    refine ⟨_, _, rfl, hb2, by omega, .inl (by omega), fun r bag3 hr1 hr2 hb3 => ?_⟩
    obtain ⟨r, rfl⟩ := Int.eq_ofNat_of_zero_le hr1
    walk_at "go"
    refine ⟨_, _, rfl, hb3, by omega, .inl (by omega), fun r2 bag4 hr3 hr4 hb4 => ?_⟩
    obtain ⟨r2, rfl⟩ := Int.eq_ofNat_of_zero_le hr3
    walk_at "go"
    obtain ⟨hh, ehh⟩ : ∃ hh : Nat, (1 : Int) + r = hh := ⟨1 + r, by omega⟩
    rw [ehh]
    have hh1 : 1 ≤ hh := by omega
    have hh2 : hh ≤ 12 := by omega
    refine Lc.fit (List.range (1 + r2)) (fun k => .leaf (.int (0 + (k : Nat)))) (by rw [show (1 + (r2 : Int)).toNat = 1 + r2 by omega]; rfl) (fun bag : T => [none, some (some bag), none, some (some (.leaf (.int hh))), none, none, none, none]) (fun j bag acc => IsBag bag ∧ ∃ gs : List (List (List Int × Int)), acc = gs.map (fun g => .node true .lst (g.map lineO)) ∧ gs.length = j ∧ ∀ g ∈ gs, g.length ≤ 4 ∧ ∀ l ∈ g, LnH hh l) bag4 ⟨hb4, [], rfl, rfl, nofun⟩ (by repeat' (first | exact Fits.e | refine Fits.n ?_ | refine Fits.s rfl ?_)) (fun j x bag g acc hx hI hF R' hR' => ?_) fun bag g acc hI hF => ?_
    · obtain ⟨hb5, gs, rfl, hgl, hgo⟩ := hI
      have hx1 := (List.getElem?_eq_some_iff.mp hx).1
      rw [List.length_range] at hx1
      (obtain ⟨ws_, rfl⟩ := Fits.fill (k := 0) hF; clear hF; dsimp only [fillQ, Nat.reduceAdd])
      walk_at "go"
      refine ⟨bag, hh, 4, rfl, hb5, by omega, hh2, by decide, by decide, fun ls bag2 hll hlo hb6 => ?_⟩
      refine And.intro (by rw [List.length_map]; show _ < 16777216; omega) ?_
      refine hR' bag2 _ _ ⟨hb6, gs ++ [ls], by rw [List.map_append]; rfl, by simp [hgl], fun l hl => ?_⟩ (by repeat' (first | exact Fits.e | refine Fits.n ?_ | refine Fits.s rfl ?_))
      rcases List.mem_append.mp hl with hl | hl
      · exact hgo l hl
      · rw [List.mem_singleton.mp hl]
        exact ⟨hll, hlo⟩
    · obtain ⟨hb5, gs, rfl, hgl, hgo⟩ := hI
      rw [List.length_range] at hgl
      (obtain ⟨ws_, rfl⟩ := Fits.fill (k := 0) hF; clear hF; dsimp only [fillQ, Nat.reduceAdd])
      walk_at "go"
      intro dx
      refine ⟨dx, hh, rfl, hh1, hh2, ?_⟩
      walk_at "go"
      intro dy
      refine ⟨dy, hh, rfl, hh1, hh2, ?_⟩
      walk_at "go"
      rw [frz_gO]
      have hbd : Bds hh gs := ⟨by omega, fun g hg => ⟨by have := (hgo g hg).1; omega, (hgo g hg).2⟩⟩
      refine ⟨bag, dx, dy, hh, false, gs.map linesX, gs, rfl, hb5, frz_lX gs, hbd, hh1, hh2, fun bag2 gs1 gs2 hb6 p1 p2 => ?_⟩
      have b1 := hbd.perm p1
      have b2 := hbd.perm p2
      obtain ⟨fl, fo⟩ := ln_flat hbd
      have sg := (sht_ln (by omega) fo).good
      have e1 : lawK gs1.flatten = lawK gs.flatten := lawK_perm p1.flatten
      have e2 : lawK gs2.flatten = lawK gs.flatten := lawK_perm p2.flatten
      walk_at "go"
      refine ⟨dx, hh, gs1, by rw [frz_bx, frz_bx], b1, ?_⟩
      rw [e1]
      walk_at "go"
      rw [frz_lX]
      have hp : ∀ g ∈ gs, ∀ l ∈ g, 0 < l.2 := fun g hg => ln_pos (hgo g hg).2
      refine Lc.fx gs linesX (by rw [frz_lX]) (fun ls => some (.node true .lst ((sheetK ls).map lineT))) (by show _ ≤ 16777216; omega) (fun ls hl acc R' hacc k1 k2 => ?_) ?_
      · walk_at "go"
        have hg := hgo ls hl
        refine ⟨_, _, rfl, odd_t (by rw [if_neg (by decide), nf_node, frz_lines]; exact lines_t (by omega) hg.2), .inl ⟨ls, odd_q (ln_n hg.2), ?_⟩⟩
        walk_at "go"
        exact k1 _ rfl
      rw [fm_some]
      walk_at "go"
      refine ⟨_, _, gs.map sheetK, rfl, ?_, fun ls hl l hm => ?_, ?_, ?_⟩
      · rw [frzL_map, List.map_map, List.map_map]
        exact List.map_congr_left fun g _ => by simp only [Function.comp, nf_node, frz_lines]
      · obtain ⟨g, hg, rfl⟩ := List.mem_map.mp hl
        exact (sheetK_slp (fun l h => ((hgo g hg).2 l h).slp) l hm).ne
      · have hq := flat_len (gs := gs.map sheetK) fun x hx => by
          obtain ⟨g, hg, rfl⟩ := List.mem_map.mp hx
          exact Nat.le_trans (sheetK_len g) (by have := (hgo g hg).1; omega)
        rw [List.length_map] at hq
        omega
      rw [bx_sheet hp]
      walk_at "go"
      refine ⟨_, _, toP_linesF _ _, toP_linesF _ _, sg.shaped, sg.shaped, ?_⟩
      walk_at "go"
      refine ifB_of (fun c => absurd c (by rw [if_pos rfl, eqv_ls]; decide)) (fun _ => ?_)
      walk_at "go"
      refine ⟨[0], bxT true dx hh gs1, hh, rfl, rfl, rfl, bag2, dx, hh, gs1, rfl, hb6, b1, hh1, hh2, fun bag3 gs3 hb7 hs3 => ⟨_, _, rfl, ?_⟩⟩
      have b3 := hs3.bds b1
      have e3 : lawK gs3.flatten = lawK gs.flatten := (lawK_perm hs3.flat).trans e1
      show (truT _ _ : Prop)
      rw [show setP (T.node true .lst [bxT true dx hh gs1, bxT true dy hh gs2]) [0] (bxT true dx hh gs3) = .node true .lst [bxT true dx hh gs3, bxT true dy hh gs2] from rfl]
      walk_at "go"
      refine ⟨dx, hh, gs3, by rw [frz_bx, frz_bx], b3, ?_⟩
      rw [e3]
      walk_at "go"
      refine ⟨dy, hh, gs2, by rw [frz_bx, frz_bx], b2, ?_⟩
      rw [e2]
      walk_at "go"
      refine ⟨_, _, toP_linesF _ _, toP_linesF _ _, sg.shaped, sg.shaped, ?_⟩
      walk_at "go"
      refine ifB_of (fun c => absurd c (by rw [if_pos rfl, eqv_ls]; decide)) (fun _ => ?_)
      walk_at "go"
      exact hR bag3 _ hb7 (by repeat' (first | exact Fits.e | refine Fits.n ?_ | refine Fits.s rfl ?_))
  · (obtain ⟨ws_, rfl⟩ := Fits.fill (k := 0) hF; clear hF; dsimp only [fillQ, Nat.reduceAdd])
    walk_at "go"
    exact q
end L06
set_option Elab.async false
set_option linter.all false
set_option maxRecDepth 100000
set_option maxHeartbeats 4000000
namespace L06
open PySem L2 DL
section
variable [Kls]
theorem ok_holds {P : Program} {w : World} {K : PySem.W.Frag} {mg : Str → Option Value} {base : Heap} (T : Txt K mg) : FnG P w K mg base 1 T.a_holds T.d_holds ["mask", "hand"] (spD K mg [false, false] sp_holds) := by
  refine fnD_of2 (N := N_holds) (k := 0) T.F_holds sc_holds rfl fun cdv A outer s H E hr hgd => ⟨t_holds, ?_, fun ts Q E hl h => rd_holds h⟩
  exact (dss_one (ds_ret (d_eq hr.units (d_bitand (d_shr (d_var 0 (pv 0)) (d_var 1 (pv 1))) d_int) d_int)))
theorem ok_with_one {P : Program} {w : World} {K : PySem.W.Frag} {mg : Str → Option Value} {base : Heap} (T : Txt K mg) : FnG P w K mg base 1 T.a_with_one T.d_with_one ["mask", "hand"] (spD K mg [false, false] sp_with_one) := by
  refine fnD_of2 (N := N_with_one) (k := 0) T.F_with_one sc_with_one rfl fun cdv A outer s H E hr hgd => ⟨t_with_one, ?_, fun ts Q E hl h => rd_with_one h⟩
  exact (dss_one (ds_ret (d_bitor (d_var 0 (pv 0)) (d_shl d_int (d_var 1 (pv 1))))))
theorem ok_is_whole {P : Program} {w : World} {K : PySem.W.Frag} {mg : Str → Option Value} {base : Heap} (T : Txt K mg) : FnG P w K mg base 1 T.a_is_whole T.d_is_whole ["thing"] (spD K mg [false] sp_is_whole) := by
  refine fnD_of2 (N := N_is_whole) (k := 0) T.F_is_whole sc_is_whole rfl fun cdv A outer s H E hr hgd => ⟨t_is_whole, ?_, fun ts Q E hl h => rd_is_whole h⟩
  exact (dss_one (ds_ret (d_and (d_callB (n_isi .int) (by rfl) T.n_isinstance bo_isinstance (da_cons (d_var 0 (pv 0)) (da_cons (d_ty (by rfl) T.n_int bo_int) da_nil))) (d_one (d_not (d_callB (n_isi .bl) (by rfl) T.n_isinstance bo_isinstance (da_cons (d_var 0 (pv 0)) (da_cons (d_ty (by rfl) T.n_bool bo_bool) da_nil))))))))
theorem ok_seal_of {P : Program} {w : World} {K : PySem.W.Frag} {mg : Str → Option Value} {base : Heap} (T : Txt K mg) : FnG P w K mg base 1 T.a_seal_of T.d_seal_of ["codes"] (spD K mg [false] sp_seal_of) := by
  refine fnD_of2 (N := N_seal_of) (k := 0) T.F_seal_of sc_seal_of rfl fun cdv A outer s H E hr hgd => ⟨t_seal_of, ?_, fun ts Q E hl h => rd_seal_of h⟩
  exact (dss_cons (ds_set (i := 1) false (sc_seal_of).nd rfl (by first | exact Or.inl rfl | exact Or.inr rfl) d_int rfl)
(dss_cons (ds_set (i := 2) false (sc_seal_of).nd rfl (by first | exact Or.inl rfl | exact Or.inr rfl) d_int rfl)
(dss_cons (ds_set (i := 3) false (sc_seal_of).nd rfl (by first | exact Or.inl rfl | exact Or.inr rfl) d_int rfl)
(dss_cons (ds_for (passes_of rfl) rfl (di_enum (by rfl) T.n_enumerate (da_cons (d_var 0 (pv 0)) da_nil)) (dg_seq rfl (dgs_cons (dg_name false (i := 4) (sc_seal_of).nd rfl (by first | exact Or.inl rfl | exact Or.inr rfl) rfl) (dgs_cons (dg_name false (i := 5) (sc_seal_of).nd rfl (by first | exact Or.inl rfl | exact Or.inr rfl) rfl) dgs_nil)))
 (dss_cons (ds_set (i := 6) false (sc_seal_of).nd rfl (by first | exact Or.inl rfl | exact Or.inr rfl) (d_add4 (d_var 4 (pv 4)) d_int) rfl)
(dss_cons (ds_aug (i := 1) (sc_seal_of).nd rfl (by first | exact Or.inl rfl | exact Or.inr rfl) (d_var 5 (pv 5)) iop_add op2_I0 rfl)
(dss_cons (ds_aug (i := 2) (sc_seal_of).nd rfl (by first | exact Or.inl rfl | exact Or.inr rfl) (d_mul3 (d_var 6 (pv 6)) (d_var 5 (pv 5))) iop_add op2_I0 rfl)
(dss_one (ds_aug (i := 3) (sc_seal_of).nd rfl (by first | exact Or.inl rfl | exact Or.inr rfl) (d_mul3 (d_mul3 (d_var 6 (pv 6)) (d_var 6 (pv 6))) (d_var 5 (pv 5))) iop_add op2_I0 rfl))))))
(dss_one (ds_ret (d_tup (da_cons (d_callB n_len (by rfl) T.n_len bo_len (da_cons (d_var 0 (pv 0)) da_nil)) (da_cons (d_var 1 (pv 1)) (da_cons (d_var 2 (pv 2)) (da_cons (d_var 3 (pv 3)) da_nil)))))))))))
theorem ok_put_together {P : Program} {w : World} {K : PySem.W.Frag} {mg : Str → Option Value} {base : Heap} (T : Txt K mg) : FnG P w K mg base 1 T.a_put_together T.d_put_together ["lines"] (spD K mg [false] sp_put_together) := by
  refine fnD_of2 (N := N_put_together) (k := 0) T.F_put_together sc_put_together rfl fun cdv A outer s H E hr hgd => ⟨t_put_together, ?_, fun ts Q E hl h => rd_put_together h⟩
  exact (dss_cons (ds_set (i := 1) true (sc_put_together).nd rfl (by first | exact Or.inl rfl | exact Or.inr rfl) d_dictT0 rfl)
(dss_cons (ds_for (passes_of rfl) rfl (di_seq (d_var 0 (pv 0))) (dg_seq rfl (dgs_cons (dg_name false (i := 2) (sc_put_together).nd rfl (by first | exact Or.inl rfl | exact Or.inr rfl) rfl) (dgs_cons (dg_name false (i := 3) (sc_put_together).nd rfl (by first | exact Or.inl rfl | exact Or.inr rfl) rfl) dgs_nil)))
 (dss_one (ds_dput 1 (du1 hr.units) (pv 1) (d_var 2 (pv 2)) (d_add4 (d_dget2O 1 (du1 hr.units) (pv 1) (d_var 2 (pv 2)) d_int ⟨rfl, rfl, rfl, rfl⟩) (d_var 3 (pv 3))))))
(dss_one (ds_ret (d_lc (own := [("line", 4)]) rfl (sc_put_together).nd (di_seq (d_sortIt rfl hr.units (by rfl) T.n_sorted (d_frz 1 (pv 1)))) (blkOk_by (N := N_put_together) (sc := defScope s_put_together) (by decide +kernel)) (fun _ _ _ _ _ => (dg_name false (i := 4) (sc_put_together).nd rfl (by first | exact Or.inl rfl | exact Or.inr rfl) rfl)) (fun _ _ _ _ _ => (dts_one (dt_ne hr.units (d_ix (d_var 4 (pv 4)) d_int) d_int))) (fun _ _ _ _ _ => (d_var 4 (pv 4))))))))
theorem ok_ballots_in {P : Program} {w : World} {K : PySem.W.Frag} {mg : Str → Option Value} {base : Heap} (T : Txt K mg) : FnG P w K mg base 1 T.a_ballots_in T.d_ballots_in ["sheet"] (spD K mg [false] sp_ballots_in) := by
  refine fnD_of2 (N := N_ballots_in) (k := 0) T.F_ballots_in sc_ballots_in rfl fun cdv A outer s H E hr hgd => ⟨t_ballots_in, ?_, fun ts Q E hl h => rd_ballots_in h⟩
  exact (dss_one (ds_ret (d_callB (n_sum rfl) (by rfl) T.n_sum bo_sum (da_cons (d_lc (own := [("slip", 1), ("number", 2)]) rfl (sc_ballots_in).nd (di_seq (d_var 0 (pv 0))) (blkOk_by (N := N_ballots_in) (sc := defScope s_ballots_in) (by decide +kernel)) (fun _ _ _ _ _ => (dg_seq rfl (dgs_cons (dg_name false (i := 1) (sc_ballots_in).nd rfl (by first | exact Or.inl rfl | exact Or.inr rfl) rfl) (dgs_cons (dg_name false (i := 2) (sc_ballots_in).nd rfl (by first | exact Or.inl rfl | exact Or.inr rfl) rfl) dgs_nil)))) (fun _ _ _ _ _ => dts_nil) (fun _ _ _ _ _ => (d_var 2 (pv 2)))) da_nil))))
theorem ok_number_of {P : Program} {w : World} {K : PySem.W.Frag} {mg : Str → Option Value} {base : Heap} (T : Txt K mg) : FnG P w K mg base 1 T.a_number_of T.d_number_of ["sheet", "slip"] (spD K mg [false, false] sp_number_of) := by
  refine fnD_of2 (N := N_number_of) (k := 0) T.F_number_of sc_number_of rfl fun cdv A outer s H E hr hgd => ⟨t_number_of, ?_, fun ts Q E hl h => rd_number_of h⟩
  exact (dss_cons (ds_for (passes_of rfl) rfl (di_seq (d_var 0 (pv 0))) (dg_seq rfl (dgs_cons (dg_name false (i := 2) (sc_number_of).nd rfl (by first | exact Or.inl rfl | exact Or.inr rfl) rfl) (dgs_cons (dg_name false (i := 3) (sc_number_of).nd rfl (by first | exact Or.inl rfl | exact Or.inr rfl) rfl) dgs_nil)))
 (dss_one (ds_if (dt_eq hr.units (d_var 2 (pv 2)) (d_var 1 (pv 1)))
 (dss_one (ds_ret (d_var 3 (pv 3))))
 dss_nil)))
(dss_one (ds_ret d_int)))
theorem ok_Box_many {P : Program} {w : World} {K : PySem.W.Frag} {mg : Str → Option Value} {base : Heap} (T : Txt K mg) : FnG P w K mg base 1 T.a_Box_many T.d_Box_many ["self"] (spD K mg [false] sp_Box_many) := by
  refine fnD_of2 (N := N_Box_many) (k := 0) T.F_Box_many sc_Box_many rfl fun cdv A outer s H E hr hgd => ⟨t_Box_many, ?_, fun ts Q E hl h => rd_Box_many h⟩
  exact (dss_one (ds_ret (d_callB n_len (by rfl) T.n_len bo_len (da_cons (d_fld (C0 := C_Box) (ns0 := ns_Box) (j := 1) (d_var 0 (pv 0)) T.cl_Box T.na_Box_bundles (by decide +kernel)) da_nil))))
theorem ok__law_bag {P : Program} {w : World} {K : PySem.W.Frag} {mg : Str → Option Value} {base : Heap} (T : Txt K mg) : FnG P w K mg base 1 T.a__law_bag T.d__law_bag ["_law_script"] (spD K mg [false] sp__law_bag) := by
  refine fnD_of2 (N := N__law_bag) (k := 0) T.F__law_bag sc__law_bag rfl fun cdv A outer s H E hr hgd => ⟨t__law_bag, ?_, fun ts Q E hl h => rd__law_bag h⟩
  exact (dss_one (ds_ret (d_lst (da_cons d_int (da_cons d_int (da_cons d_int (da_cons (d_lc (own := [("_law_cell", 1)]) rfl (sc__law_bag).nd (di_seq (d_sliceA (d_var 0 (pv 0)) do_none (do_some d_int))) (blkOk_by (N := N__law_bag) (sc := defScope s__law_bag) (by decide +kernel)) (fun _ _ _ _ _ => (dg_name false (i := 1) (sc__law_bag).nd rfl (by first | exact Or.inl rfl | exact Or.inr rfl) rfl)) (fun _ _ _ _ _ => dts_nil) (fun _ _ _ _ _ => (d_callB n_abs (by rfl) T.n_abs bo_abs (da_cons (d_var 1 (pv 1)) da_nil)))) da_nil)))))))
theorem ok__law_take {P : Program} {w : World} {K : PySem.W.Frag} {mg : Str → Option Value} {base : Heap} (T : Txt K mg) : FnG P w K mg base 1 T.a__law_take T.d__law_take ["_law_bag_here", "_law_many"] (spD K mg [true, false] sp__law_take) := by
  refine fnD_of2 (N := N__law_take) (k := 0) T.F__law_take sc__law_take rfl fun cdv A outer s H E hr hgd => ⟨t__law_take, ?_, fun ts Q E hl h => rd__law_take h⟩
  exact (dss_cons (ds_if (dt_eq hr.units (d_ixO 0 (pv 0) d_int) d_int)
 (dss_cons (ds_set (i := 4) false (sc__law_take).nd rfl (by first | exact Or.inl rfl | exact Or.inr rfl) (d_ix (d_add4 (d_sliceA (d_ixO 0 (pv 0) d_int) (do_some (d_ixO 0 (pv 0) d_int)) do_none) (d_lst (da_cons d_int da_nil))) d_int) rfl)
(dss_cons (ds_augI 0 (pv 0) d_int d_int iop_add op2_I0)
(dss_cons (ds_asg (d_mul3 (d_var 4 (pv 4)) (d_callTy n_int2 (by rfl) T.n_int bo_int (da_cons (d_ge (d_var 4 (pv 4)) (d_pow d_int d_int)) da_nil))) (dg_setI 0 (pv 0) d_int))
(dss_cons (ds_set (i := 5) false (sc__law_take).nd rfl (by first | exact Or.inl rfl | exact Or.inr rfl) (d_add4 (d_add4 (d_mul3 (d_ixO 0 (pv 0) d_int) d_int) (d_mod (d_callTy n_int2 (by rfl) T.n_int bo_int (da_cons (d_var 4 (pv 4)) da_nil)) d_int)) (d_mul3 d_int (d_ixO 0 (pv 0) d_int))) rfl)
(dss_one (ds_asg (d_mod (d_callTy n_int2 (by rfl) T.n_int bo_int (da_cons (d_var 5 (pv 5)) da_nil)) d_int) (dg_setI 0 (pv 0) d_int)))))))
 dss_nil)
(dss_cons (ds_if (dt_gt (d_ixO 0 (pv 0) d_int) d_int)
 (dss_cons (ds_asg (d_tup (da_cons (d_mod (d_callTy n_int2 (by rfl) T.n_int bo_int (da_cons (d_ixO 0 (pv 0) d_int) da_nil)) (d_var 1 (pv 1))) (da_cons (d_div (d_callTy n_int2 (by rfl) T.n_int bo_int (da_cons (d_ixO 0 (pv 0) d_int) da_nil)) (d_var 1 (pv 1))) da_nil))) (dg_seq rfl (dgs_cons (dg_name false (i := 6) (sc__law_take).nd rfl (by first | exact Or.inl rfl | exact Or.inr rfl) rfl) (dgs_cons (dg_setI 0 (pv 0) d_int) dgs_nil))))
(dss_one (ds_ret (d_var 6 (pv 6)))))
 dss_nil)
(dss_cons (ds_set (i := 2) false (sc__law_take).nd rfl (by first | exact Or.inl rfl | exact Or.inr rfl) (d_mod (d_callTy n_int2 (by rfl) T.n_int bo_int (da_cons (d_mul3 (d_add4 (d_ixO 0 (pv 0) d_int) d_int) d_int) da_nil)) d_int) rfl)
(dss_cons (ds_set (i := 3) false (sc__law_take).nd rfl (by first | exact Or.inl rfl | exact Or.inr rfl) (d_mod (d_callTy n_int2 (by rfl) T.n_int bo_int (da_cons (d_mul3 (d_mod (d_callTy n_int2 (by rfl) T.n_int bo_int (da_cons (d_mul3 (d_var 2 (pv 2)) (d_var 2 (pv 2))) da_nil)) d_int) d_int) da_nil)) d_int) rfl)
(dss_one (ds_ret (d_mod (d_callTy n_int2 (by rfl) T.n_int bo_int (da_cons (d_div (d_var 3 (pv 3)) d_int) da_nil)) (d_var 1 (pv 1)))))))))
theorem ok__law_alike {P : Program} {w : World} {K : PySem.W.Frag} {mg : Str → Option Value} {base : Heap} (T : Txt K mg) : FnG P w K mg base 1 T.a__law_alike T.d__law_alike ["_law_found", "_law_due"] (spD K mg [false, false] sp__law_alike) := by
  refine fnD_of2 (N := N__law_alike) (k := 0) T.F__law_alike sc__law_alike rfl fun cdv A outer s H E hr hgd => ⟨t__law_alike, ?_, fun ts Q E hl h => rd__law_alike h⟩
  exact (dss_one (ds_ret (d_and (d_eq hr.units (d_var 0 (pv 0)) (d_var 1 (pv 1))) (d_one (d_eq hr.units (d_callB (n_repr2 hgd hr.units) (by rfl) T.n_repr bo_repr (da_cons (d_var 0 (pv 0)) da_nil)) (d_callB (n_repr2 hgd hr.units) (by rfl) T.n_repr bo_repr (da_cons (d_var 1 (pv 1)) da_nil)))))))
theorem ok__law_bit {P : Program} {w : World} {K : PySem.W.Frag} {mg : Str → Option Value} {base : Heap} (T : Txt K mg) : FnG P w K mg base 1 T.a__law_bit T.d__law_bit ["_law_hand"] (spD K mg [false] sp__law_bit) := by
  refine fnD_of2 (N := N__law_bit) (k := 0) T.F__law_bit sc__law_bit rfl fun cdv A outer s H E hr hgd => ⟨t__law_bit, ?_, fun ts Q E hl h => rd__law_bit h⟩
  exact (dss_one (ds_ret (d_ix (d_lst (da_cons d_int (da_cons d_int (da_cons d_int (da_cons d_int (da_cons d_int (da_cons d_int (da_cons d_int (da_cons d_int (da_cons d_int (da_cons d_int (da_cons d_int (da_cons d_int da_nil))))))))))))) (d_var 0 (pv 0)))))
theorem ok_slip_of {P : Program} {w : World} {K : PySem.W.Frag} {mg : Str → Option Value} {base : Heap} (T : Txt K mg) : FnG P w K mg base 2 T.a_slip_of T.d_slip_of ["ranks", "hands"] (spD K mg [false, false] sp_slip_of) := by
  refine fnD_of2 (N := N_slip_of) (k := 1) T.F_slip_of sc_slip_of rfl fun cdv A outer s H E hr hgd => ⟨t_slip_of, ?_, fun ts Q E hl h => rd_slip_of h⟩
  exact (dss_cons (ds_if ((dw_or (dt_not (dt_truth (d_callB (n_isi .lst) (by rfl) T.n_isinstance bo_isinstance (da_cons (d_var 0 (pv 0)) (da_cons (d_ty (by rfl) T.n_list bo_list) da_nil))))) (dw_or1 (dt_ne hr.units (d_callB n_len (by rfl) T.n_len bo_len (da_cons (d_var 0 (pv 0)) da_nil)) (d_var 1 (pv 1)))))).dt
 (dss_one (ds_raise (n := 2) rfl (takesN (takes_of rfl rfl rfl rfl)) PySem.F.excBase_ValueError T.q_NoBallot T.g_NoBallot rfl T.k_NoBallot (raises_own T.b_NoBallot T.t_NoBallot) (by rfl)))
 dss_nil)
(dss_cons (ds_for (passes_of rfl) rfl (di_seq (d_var 0 (pv 0))) (dg_name false (i := 2) (sc_slip_of).nd rfl (by first | exact Or.inl rfl | exact Or.inr rfl) rfl)
 (dss_one (ds_if ((dw_or (dt_not (dt_truth (d_call (ok_is_whole T) mono_is_whole hr hgd (by rfl) T.g_is_whole T.F_is_whole.kp T.b_is_whole (takesN (takes_of rfl rfl rfl rfl)) (da_cons (d_var 2 (pv 2)) da_nil)))) (dw_or (dt_lt (d_var 2 (pv 2)) d_int) (dw_or1 (dt_gt (d_var 2 (pv 2)) (d_glob (by rfl) T.G_MOST_ballots)))))).dt
 (dss_one (ds_raise (n := 2) rfl (takesN (takes_of rfl rfl rfl rfl)) PySem.F.excBase_ValueError T.q_NoBallot T.g_NoBallot rfl T.k_NoBallot (raises_own T.b_NoBallot T.t_NoBallot) (by rfl)))
 dss_nil)))
(dss_cons (ds_set (i := 3) true (sc_slip_of).nd rfl (by first | exact Or.inl rfl | exact Or.inr rfl) (d_lst da_nil) rfl)
(dss_cons (ds_for (passes_of rfl) rfl (di_seq (d_sortSet (by rfl) T.n_sorted (by rfl) T.n_set (d_var 0 (pv 0)))) (dg_name false (i := 2) (sc_slip_of).nd rfl (by first | exact Or.inl rfl | exact Or.inr rfl) rfl)
 (dss_cons (ds_if (dt_eq hr.units (d_var 2 (pv 2)) d_int)
 (dss_one ds_continue)
 dss_nil)
(dss_cons (ds_set (i := 4) false (sc_slip_of).nd rfl (by first | exact Or.inl rfl | exact Or.inr rfl) d_int rfl)
(dss_cons (ds_for (passes_of rfl) rfl (di_range1 (by rfl) T.n_range (da_cons (d_var 1 (pv 1)) da_nil)) (dg_name false (i := 5) (sc_slip_of).nd rfl (by first | exact Or.inl rfl | exact Or.inr rfl) rfl)
 (dss_one (ds_if (dt_eq hr.units (d_ix (d_var 0 (pv 0)) (d_var 5 (pv 5))) (d_var 2 (pv 2)))
 (dss_one (ds_set (i := 4) false (sc_slip_of).nd rfl (by first | exact Or.inl rfl | exact Or.inr rfl) (d_call (ok_with_one T) mono_with_one hr hgd (by rfl) T.g_with_one T.F_with_one.kp T.b_with_one (takesN (takes_of rfl rfl rfl rfl)) (da_cons (d_var 4 (pv 4)) (da_cons (d_var 5 (pv 5)) da_nil))) rfl))
 dss_nil)))
(dss_one (ds_expr (d_app 3 (pv 3) (d_var 4 (pv 4)))))))))
(dss_one (ds_ret (d_bor (d_callTy n_tuple (by rfl) T.n_tuple bo_tuple (da_cons (d_var 3 (pv 3)) da_nil)))))))))
theorem ok_ranks_of {P : Program} {w : World} {K : PySem.W.Frag} {mg : Str → Option Value} {base : Heap} (T : Txt K mg) : FnG P w K mg base 2 T.a_ranks_of T.d_ranks_of ["slip", "hands"] (spD K mg [false, false] sp_ranks_of) := by
  refine fnD_of2 (N := N_ranks_of) (k := 1) T.F_ranks_of sc_ranks_of rfl fun cdv A outer s H E hr hgd => ⟨t_ranks_of, ?_, fun ts Q E hl h => rd_ranks_of h⟩
  exact (dss_cons (ds_set (i := 2) true (sc_ranks_of).nd rfl (by first | exact Or.inl rfl | exact Or.inr rfl) (d_mul3 (d_lst (da_cons d_int da_nil)) (d_var 1 (pv 1))) rfl)
(dss_cons (ds_for (passes_of rfl) rfl (di_enum (by rfl) T.n_enumerate (da_cons (d_var 0 (pv 0)) da_nil)) (dg_seq rfl (dgs_cons (dg_name false (i := 3) (sc_ranks_of).nd rfl (by first | exact Or.inl rfl | exact Or.inr rfl) rfl) (dgs_cons (dg_name false (i := 4) (sc_ranks_of).nd rfl (by first | exact Or.inl rfl | exact Or.inr rfl) rfl) dgs_nil)))
 (dss_one (ds_for (passes_of rfl) rfl (di_range1 (by rfl) T.n_range (da_cons (d_var 1 (pv 1)) da_nil)) (dg_name false (i := 5) (sc_ranks_of).nd rfl (by first | exact Or.inl rfl | exact Or.inr rfl) rfl)
 (dss_one (ds_if (dt_truth (d_call (ok_holds T) mono_holds hr hgd (by rfl) T.g_holds T.F_holds.kp T.b_holds (takesN (takes_of rfl rfl rfl rfl)) (da_cons (d_var 4 (pv 4)) (da_cons (d_var 5 (pv 5)) da_nil))))
 (dss_one (ds_asg (d_add4 (d_var 3 (pv 3)) d_int) (dg_setI 2 (pv 2) (d_var 5 (pv 5)))))
 dss_nil)))))
(dss_one (ds_ret (d_mov 2 (pv 2))))))
theorem ok_mended {P : Program} {w : World} {K : PySem.W.Frag} {mg : Str → Option Value} {base : Heap} (T : Txt K mg) : FnG P w K mg base 2 T.a_mended T.d_mended ["codes", "seal"] (spD K mg [false, false] sp_mended) := by
  refine fnD_of2 (N := N_mended) (k := 1) T.F_mended sc_mended rfl fun cdv A outer s H E hr hgd => ⟨t_mended, ?_, fun ts Q E hl h => rd_mended h⟩
  exact (dss_cons (ds_asg (d_call (ok_seal_of T) mono_seal_of hr hgd (by rfl) T.g_seal_of T.F_seal_of.kp T.b_seal_of (takesN (takes_of rfl rfl rfl rfl)) (da_cons (d_var 0 (pv 0)) da_nil)) (dg_seq rfl (dgs_cons (dg_name false (i := 2) (sc_mended).nd rfl (by first | exact Or.inl rfl | exact Or.inr rfl) rfl) (dgs_cons (dg_name false (i := 3) (sc_mended).nd rfl (by first | exact Or.inl rfl | exact Or.inr rfl) rfl) (dgs_cons (dg_name false (i := 4) (sc_mended).nd rfl (by first | exact Or.inl rfl | exact Or.inr rfl) rfl) (dgs_cons (dg_name false (i := 5) (sc_mended).nd rfl (by first | exact Or.inl rfl | exact Or.inr rfl) rfl) dgs_nil))))))
(dss_cons (ds_if (dt_ne hr.units (d_ix (d_var 1 (pv 1)) d_int) (d_var 2 (pv 2)))
 (dss_one (ds_raise (n := 5) rfl (takesN (takes_of rfl rfl rfl rfl)) PySem.F.excBase_ValueError T.q_Torn T.g_Torn rfl T.k_Torn (raises_own T.b_Torn T.t_Torn) (by rfl)))
 dss_nil)
(dss_cons (ds_set (i := 6) false (sc_mended).nd rfl (by first | exact Or.inl rfl | exact Or.inr rfl) (d_tup (da_cons (d_sub (d_ix (d_var 1 (pv 1)) d_int) (d_var 3 (pv 3))) (da_cons (d_sub (d_ix (d_var 1 (pv 1)) d_int) (d_var 4 (pv 4))) (da_cons (d_sub (d_ix (d_var 1 (pv 1)) d_int) (d_var 5 (pv 5))) da_nil)))) rfl)
(dss_cons (ds_if (dt_eq hr.units (d_var 6 (pv 6)) (d_tup (da_cons d_int (da_cons d_int (da_cons d_int da_nil)))))
 (dss_one (ds_ret (d_tup (da_cons (d_callTy n_list (by rfl) T.n_list bo_list (da_cons (d_var 0 (pv 0)) da_nil)) (da_cons d_int da_nil)))))
 dss_nil)
(dss_cons (ds_if (dt_eq hr.units (d_ix (d_var 6 (pv 6)) d_int) d_int)
 (dss_one (ds_raise (n := 5) rfl (takesN (takes_of rfl rfl rfl rfl)) PySem.F.excBase_ValueError T.q_Torn T.g_Torn rfl T.k_Torn (raises_own T.b_Torn T.t_Torn) (by rfl)))
 dss_nil)
(dss_cons (ds_asg (d_callB n_divmodS (by rfl) T.n_divmod bo_divmod (da_cons (d_ix (d_var 6 (pv 6)) d_int) (da_cons (d_ix (d_var 6 (pv 6)) d_int) da_nil))) (dg_seq rfl (dgs_cons (dg_name false (i := 7) (sc_mended).nd rfl (by first | exact Or.inl rfl | exact Or.inr rfl) rfl) (dgs_cons (dg_name false (i := 8) (sc_mended).nd rfl (by first | exact Or.inl rfl | exact Or.inr rfl) rfl) dgs_nil))))
(dss_cons (ds_if ((dw_or (dt_ne hr.units (d_var 8 (pv 8)) d_int) (dw_or (dt_lt (d_var 7 (pv 7)) d_int) (dw_or (dt_gt (d_var 7 (pv 7)) (d_var 2 (pv 2))) (dw_or1 (dt_ne hr.units (d_ix (d_var 6 (pv 6)) d_int) (d_mul3 (d_var 7 (pv 7)) (d_ix (d_var 6 (pv 6)) d_int)))))))).dt
 (dss_one (ds_raise (n := 5) rfl (takesN (takes_of rfl rfl rfl rfl)) PySem.F.excBase_ValueError T.q_Torn T.g_Torn rfl T.k_Torn (raises_own T.b_Torn T.t_Torn) (by rfl)))
 dss_nil)
(dss_cons (ds_set (i := 9) true (sc_mended).nd rfl (by first | exact Or.inl rfl | exact Or.inr rfl) (d_callTy n_list (by rfl) T.n_list bo_list (da_cons (d_var 0 (pv 0)) da_nil)) rfl)
(dss_cons (ds_asg (d_add4 (d_ixO 9 (pv 9) (d_sub (d_var 7 (pv 7)) d_int)) (d_ix (d_var 6 (pv 6)) d_int)) (dg_setI 9 (pv 9) (d_sub (d_var 7 (pv 7)) d_int)))
(dss_one (ds_ret (d_tup (da_cons (d_mov 9 (pv 9)) (da_cons (d_var 7 (pv 7)) da_nil))))))))))))))
theorem ok_sheet_of {P : Program} {w : World} {K : PySem.W.Frag} {mg : Str → Option Value} {base : Heap} (T : Txt K mg) : FnG P w K mg base 2 T.a_sheet_of T.d_sheet_of ["lines"] (spD K mg [false] sp_sheet_of) := by
  refine fnD_of2 (N := N_sheet_of) (k := 1) T.F_sheet_of sc_sheet_of rfl fun cdv A outer s H E hr hgd => ⟨t_sheet_of, ?_, fun ts Q E hl h => rd_sheet_of h⟩
  exact (dss_cons (ds_for (passes_of rfl) rfl (di_seq (d_var 0 (pv 0))) (dg_seq rfl (dgs_cons (dg_name false (i := 1) (sc_sheet_of).nd rfl (by first | exact Or.inl rfl | exact Or.inr rfl) rfl) (dgs_cons (dg_name false (i := 2) (sc_sheet_of).nd rfl (by first | exact Or.inl rfl | exact Or.inr rfl) rfl) dgs_nil)))
 (dss_one (ds_if ((dw_or (dt_not (dt_truth (d_call (ok_is_whole T) mono_is_whole hr hgd (by rfl) T.g_is_whole T.F_is_whole.kp T.b_is_whole (takesN (takes_of rfl rfl rfl rfl)) (da_cons (d_var 2 (pv 2)) da_nil)))) (dw_or (dt_lt (d_var 2 (pv 2)) d_int) (dw_or1 (dt_gt (d_var 2 (pv 2)) (d_glob (by rfl) T.G_MOST_sheets)))))).dt
 (dss_one (ds_raise (n := 3) rfl (takesN (takes_of rfl rfl rfl rfl)) PySem.F.excBase_ValueError T.q_NoSheet T.g_NoSheet rfl T.k_NoSheet (raises_own T.b_NoSheet T.t_NoSheet) (by rfl)))
 dss_nil)))
(dss_one (ds_ret (d_call (ok_put_together T) mono_put_together hr hgd (by rfl) T.g_put_together T.F_put_together.kp T.b_put_together (takesN (takes_of rfl rfl rfl rfl)) (da_cons (d_var 0 (pv 0)) da_nil)))))
theorem ok_joined {P : Program} {w : World} {K : PySem.W.Frag} {mg : Str → Option Value} {base : Heap} (T : Txt K mg) : FnG P w K mg base 2 T.a_joined T.d_joined ["sheets"] (spD K mg [false] sp_joined) := by
  refine fnD_of2 (N := N_joined) (k := 1) T.F_joined sc_joined rfl fun cdv A outer s H E hr hgd => ⟨t_joined, ?_, fun ts Q E hl h => rd_joined h⟩
  exact (dss_cons (ds_set (i := 1) true (sc_joined).nd rfl (by first | exact Or.inl rfl | exact Or.inr rfl) (d_lst da_nil) rfl)
(dss_cons (ds_for (passes_of rfl) rfl (di_seq (d_var 0 (pv 0))) (dg_name false (i := 2) (sc_joined).nd rfl (by first | exact Or.inl rfl | exact Or.inr rfl) rfl)
 (dss_one (ds_expr (d_ext 1 (pv 1) (d_var 2 (pv 2))))))
(dss_one (ds_ret (d_bor (d_call (ok_put_together T) mono_put_together hr hgd (by rfl) T.g_put_together T.F_put_together.kp T.b_put_together (takesN (takes_of rfl rfl rfl rfl)) (da_cons (d_var 1 (pv 1)) da_nil)))))))
theorem ok_apart {P : Program} {w : World} {K : PySem.W.Frag} {mg : Str → Option Value} {base : Heap} (T : Txt K mg) : FnG P w K mg base 2 T.a_apart T.d_apart ["one", "other"] (spD K mg [false, false] sp_apart) := by
  refine fnD_of2 (N := N_apart) (k := 1) T.F_apart sc_apart rfl fun cdv A outer s H E hr hgd => ⟨t_apart, ?_, fun ts Q E hl h => rd_apart h⟩
  exact (dss_cons (ds_set (i := 2) false (sc_apart).nd rfl (by first | exact Or.inl rfl | exact Or.inr rfl) d_int rfl)
(dss_cons (ds_for (passes_of rfl) rfl (di_seq (d_var 0 (pv 0))) (dg_seq rfl (dgs_cons (dg_name false (i := 3) (sc_apart).nd rfl (by first | exact Or.inl rfl | exact Or.inr rfl) rfl) (dgs_cons (dg_name false (i := 4) (sc_apart).nd rfl (by first | exact Or.inl rfl | exact Or.inr rfl) rfl) dgs_nil)))
 (dss_one (ds_aug (i := 2) (sc_apart).nd rfl (by first | exact Or.inl rfl | exact Or.inr rfl) (d_callB (n_max2 rfl) (by rfl) T.n_max bo_max (da_cons d_int (da_cons (d_sub (d_var 4 (pv 4)) (d_call (ok_number_of T) mono_number_of hr hgd (by rfl) T.g_number_of T.F_number_of.kp T.b_number_of (takesN (takes_of rfl rfl rfl rfl)) (da_cons (d_var 1 (pv 1)) (da_cons (d_var 3 (pv 3)) da_nil)))) da_nil))) iop_add op2_I0 rfl)))
(dss_one (ds_ret (d_var 2 (pv 2))))))
theorem ok_Box_init {P : Program} {w : World} {K : PySem.W.Frag} {mg : Str → Option Value} {base : Heap} (T : Txt K mg) : FnG P w K mg base 2 T.a_Box_init T.d_Box_init ["self", "hands"] (spD K mg [true, false] sp_Box_init) := by
  refine fnD_of2 (N := N_Box_init) (k := 1) T.F_Box_init sc_Box_init rfl fun cdv A outer s H E hr hgd => ⟨t_Box_init, ?_, fun ts Q E hl h => rd_Box_init h⟩
  exact (dss_cons (ds_if ((dw_or (dt_not (dt_truth (d_call (ok_is_whole T) mono_is_whole hr hgd (by rfl) T.g_is_whole T.F_is_whole.kp T.b_is_whole (takesN (takes_of rfl rfl rfl rfl)) (da_cons (d_var 1 (pv 1)) da_nil)))) (dw_or1 (dt_not (dt_chain op_le op2_I0 op_le op2_I0 d_int (d_var 1 (pv 1)) (d_glob (by rfl) T.G_MOST_HANDS)))))).dt
 (dss_one (ds_raise (n := 8) rfl (takesN (takes_of rfl rfl rfl rfl)) PySem.F.excBase_ValueError T.q_NoWay T.g_NoWay rfl T.k_NoWay (raises_own T.b_NoWay T.t_NoWay) (by rfl)))
 dss_nil)
(dss_cons (ds_fldN (C0 := C_Box) (ns0 := []) 0 (pv 0) (d_var 1 (pv 1)) T.cl_Box T.na_Box_hands (by decide +kernel) (by decide))
(dss_one (ds_fldN (C0 := C_Box) (ns0 := ["hands"]) 0 (pv 0) (d_lst da_nil) T.cl_Box T.na_Box_bundles (by decide +kernel) (by decide)))))
theorem ok_Box_lying {P : Program} {w : World} {K : PySem.W.Frag} {mg : Str → Option Value} {base : Heap} (T : Txt K mg) : FnG P w K mg base 2 T.a_Box_lying T.d_Box_lying ["self", "k"] (spD K mg [false, false] sp_Box_lying) := by
  refine fnD_of2 (N := N_Box_lying) (k := 1) T.F_Box_lying sc_Box_lying rfl fun cdv A outer s H E hr hgd => ⟨t_Box_lying, ?_, fun ts Q E hl h => rd_Box_lying h⟩
  exact (dss_cons (ds_if ((dw_or (dt_not (dt_truth (d_call (ok_is_whole T) mono_is_whole hr hgd (by rfl) T.g_is_whole T.F_is_whole.kp T.b_is_whole (takesN (takes_of rfl rfl rfl rfl)) (da_cons (d_var 1 (pv 1)) da_nil)))) (dw_or1 (dt_not (dt_chain op_le op2_I0 op_lt op2_I0 d_int (d_var 1 (pv 1)) (d_callB n_len (by rfl) T.n_len bo_len (da_cons (d_fld (C0 := C_Box) (ns0 := ns_Box) (j := 1) (d_var 0 (pv 0)) T.cl_Box T.na_Box_bundles (by decide +kernel)) da_nil))))))).dt
 (dss_one (ds_raise (n := 6) rfl (takesN (takes_of rfl rfl rfl rfl)) PySem.F.excBase_ValueError T.q_NoBundle T.g_NoBundle rfl T.k_NoBundle (raises_own T.b_NoBundle T.t_NoBundle) (by rfl)))
 dss_nil)
(dss_one (ds_ret (d_ix (d_fld (C0 := C_Box) (ns0 := ns_Box) (j := 1) (d_var 0 (pv 0)) T.cl_Box T.na_Box_bundles (by decide +kernel)) (d_var 1 (pv 1))))))
theorem ok__law_one {P : Program} {w : World} {K : PySem.W.Frag} {mg : Str → Option Value} {base : Heap} (T : Txt K mg) : FnG P w K mg base 2 T.a__law_one T.d__law_one ["_law_bag_here", "_law_some"] (spD K mg [true, false] sp__law_one) := by
  refine fnD_of2 (N := N__law_one) (k := 1) T.F__law_one sc__law_one rfl fun cdv A outer s H E hr hgd => ⟨t__law_one, ?_, fun ts Q E hl h => rd__law_one h⟩
  exact (dss_one (ds_ret (d_ix (d_var 1 (pv 1)) (d_call (ok__law_take T) mono__law_take hr hgd (by rfl) T.g__law_take T.F__law_take.kp T.b__law_take (takesN (takes_of rfl rfl rfl rfl)) (da_late 0 (pv 0) (da_cons (d_callB n_len (by rfl) T.n_len bo_len (da_cons (d_var 1 (pv 1)) da_nil)) da_nil))))))
theorem ok__law_mixed {P : Program} {w : World} {K : PySem.W.Frag} {mg : Str → Option Value} {base : Heap} (T : Txt K mg) : FnG P w K mg base 2 T.a__law_mixed T.d__law_mixed ["_law_bag_here", "_law_things"] (spD K mg [true, false] sp__law_mixed) := by
  refine fnD_of2 (N := N__law_mixed) (k := 1) T.F__law_mixed sc__law_mixed rfl fun cdv A outer s H E hr hgd => ⟨t__law_mixed, ?_, fun ts Q E hl h => rd__law_mixed h⟩
  exact (dss_cons (ds_set (i := 2) true (sc__law_mixed).nd rfl (by first | exact Or.inl rfl | exact Or.inr rfl) (d_lst da_nil) rfl)
(dss_cons (ds_for (passes_of rfl) rfl (di_seq (d_var 1 (pv 1))) (dg_name false (i := 3) (sc__law_mixed).nd rfl (by first | exact Or.inl rfl | exact Or.inr rfl) rfl)
 (dss_one (ds_expr (d_ins 2 (pv 2) (d_call (ok__law_take T) mono__law_take hr hgd (by rfl) T.g__law_take T.F__law_take.kp T.b__law_take (takesN (takes_of rfl rfl rfl rfl)) (da_late 0 (pv 0) (da_cons (d_bor (d_add4 (d_callB n_len (by rfl) T.n_len bo_len (da_cons (d_var 2 (pv 2)) da_nil)) d_int)) da_nil))) (d_var 3 (pv 3))))))
(dss_one (ds_ret (d_mov 2 (pv 2))))))
theorem ok__law_tiers {P : Program} {w : World} {K : PySem.W.Frag} {mg : Str → Option Value} {base : Heap} (T : Txt K mg) : FnG P w K mg base 2 T.a__law_tiers T.d__law_tiers ["_law_ranks_here"] (spD K mg [false] sp__law_tiers) := by
  refine fnD_of2 (N := N__law_tiers) (k := 1) T.F__law_tiers sc__law_tiers rfl fun cdv A outer s H E hr hgd => ⟨t__law_tiers, ?_, fun ts Q E hl h => rd__law_tiers h⟩
  exact (dss_cons (ds_set (i := 1) true (sc__law_tiers).nd rfl (by first | exact Or.inl rfl | exact Or.inr rfl) (d_lst da_nil) rfl)
(dss_cons (ds_for (passes_of rfl) rfl (di_seq (d_sortSet (by rfl) T.n_sorted (by rfl) T.n_set (d_var 0 (pv 0)))) (dg_name false (i := 2) (sc__law_tiers).nd rfl (by first | exact Or.inl rfl | exact Or.inr rfl) rfl)
 (dss_one (ds_if (dt_gt (d_var 2 (pv 2)) d_int)
 (dss_one (ds_expr (d_app 1 (pv 1) (d_callB (n_sum rfl) (by rfl) T.n_sum bo_sum (da_cons (d_lc (own := [("_law_hand", 3), ("_law_one_here", 4)]) rfl (sc__law_tiers).nd (di_enum (by rfl) T.n_enumerate (da_cons (d_var 0 (pv 0)) da_nil)) (blkOk_by (N := N__law_tiers) (sc := defScope s__law_tiers) (by decide +kernel)) (fun _ _ _ _ _ => (dg_seq rfl (dgs_cons (dg_name false (i := 3) (sc__law_tiers).nd rfl (by first | exact Or.inl rfl | exact Or.inr rfl) rfl) (dgs_cons (dg_name false (i := 4) (sc__law_tiers).nd rfl (by first | exact Or.inl rfl | exact Or.inr rfl) rfl) dgs_nil)))) (fun _ _ _ _ _ => (dts_one (dt_eq hr.units (d_var 4 (pv 4)) (d_var 2 (pv 2))))) (fun _ _ _ _ _ => (d_call (ok__law_bit T) mono__law_bit hr hgd (by rfl) T.g__law_bit T.F__law_bit.kp T.b__law_bit DL.takes0 (da_cons (d_var 3 (pv 3)) da_nil)))) da_nil)))))
 dss_nil)))
(dss_one (ds_ret (d_bor (d_callTy n_tuple (by rfl) T.n_tuple bo_tuple (da_cons (d_var 1 (pv 1)) da_nil)))))))
theorem ok_code_of {P : Program} {w : World} {K : PySem.W.Frag} {mg : Str → Option Value} {base : Heap} (T : Txt K mg) : FnG P w K mg base 3 T.a_code_of T.d_code_of ["line", "hands"] (spD K mg [false, false] sp_code_of) := by
  refine fnD_of2 (N := N_code_of) (k := 2) T.F_code_of sc_code_of rfl fun cdv A outer s H E hr hgd => ⟨t_code_of, ?_, fun ts Q E hl h => rd_code_of h⟩
  exact (dss_cons (ds_asg (d_var 0 (pv 0)) (dg_seq rfl (dgs_cons (dg_name false (i := 2) (sc_code_of).nd rfl (by first | exact Or.inl rfl | exact Or.inr rfl) rfl) (dgs_cons (dg_name false (i := 3) (sc_code_of).nd rfl (by first | exact Or.inl rfl | exact Or.inr rfl) rfl) dgs_nil))))
(dss_cons (ds_set (i := 4) false (sc_code_of).nd rfl (by first | exact Or.inl rfl | exact Or.inr rfl) (d_var 3 (pv 3)) rfl)
(dss_cons (ds_for (passes_of rfl) rfl (di_seq (d_call (ok_ranks_of T) mono_ranks_of hr hgd (by rfl) T.g_ranks_of T.F_ranks_of.kp T.b_ranks_of (takesN (takes_of rfl rfl rfl rfl)) (da_cons (d_var 2 (pv 2)) (da_cons (d_var 1 (pv 1)) da_nil)))) (dg_name false (i := 5) (sc_code_of).nd rfl (by first | exact Or.inl rfl | exact Or.inr rfl) rfl)
 (dss_one (ds_set (i := 4) false (sc_code_of).nd rfl (by first | exact Or.inl rfl | exact Or.inr rfl) (d_add4 (d_mul3 (d_var 4 (pv 4)) (d_glob (by rfl) T.G_BASE)) (d_var 5 (pv 5))) rfl)))
(dss_one (ds_ret (d_var 4 (pv 4)))))))
theorem ok_line_of {P : Program} {w : World} {K : PySem.W.Frag} {mg : Str → Option Value} {base : Heap} (T : Txt K mg) : FnG P w K mg base 3 T.a_line_of T.d_line_of ["code", "hands"] (spD K mg [false, false] sp_line_of) := by
  refine fnD_of2 (N := N_line_of) (k := 2) T.F_line_of sc_line_of rfl fun cdv A outer s H E hr hgd => ⟨t_line_of, ?_, fun ts Q E hl h => rd_line_of h⟩
  exact (dss_cons (ds_if ((dw_or (dt_not (dt_truth (d_call ((ok_is_whole T).mono (by decide)) mono_is_whole hr hgd (by rfl) T.g_is_whole T.F_is_whole.kp T.b_is_whole (takesN (takes_of rfl rfl rfl rfl)) (da_cons (d_var 0 (pv 0)) da_nil)))) (dw_or1 (dt_lt (d_var 0 (pv 0)) d_int)))).dt
 (dss_one (ds_raise (n := 2) rfl (takesN (takes_of rfl rfl rfl rfl)) PySem.F.excBase_ValueError T.q_NoBallot T.g_NoBallot rfl T.k_NoBallot (raises_own T.b_NoBallot T.t_NoBallot) (by rfl)))
 dss_nil)
(dss_cons (ds_set (i := 2) true (sc_line_of).nd rfl (by first | exact Or.inl rfl | exact Or.inr rfl) (d_lst da_nil) rfl)
(dss_cons (ds_for (passes_of rfl) rfl (di_range1 (by rfl) T.n_range (da_cons (d_var 1 (pv 1)) da_nil)) (dg_name false (i := 3) (sc_line_of).nd rfl (by first | exact Or.inl rfl | exact Or.inr rfl) rfl)
 (dss_cons (ds_asg (d_callB n_divmodS (by rfl) T.n_divmod bo_divmod (da_cons (d_var 0 (pv 0)) (da_cons (d_glob (by rfl) T.G_BASE) da_nil))) (dg_seq rfl (dgs_cons (dg_name false (i := 0) (sc_line_of).nd rfl (by first | exact Or.inl rfl | exact Or.inr rfl) rfl) (dgs_cons (dg_name false (i := 5) (sc_line_of).nd rfl (by first | exact Or.inl rfl | exact Or.inr rfl) rfl) dgs_nil))))
(dss_one (ds_expr (d_ins 2 (pv 2) d_int (d_var 5 (pv 5)))))))
(dss_cons (ds_if ((dw_or (dt_lt (d_var 0 (pv 0)) d_int) (dw_or1 (dt_gt (d_var 0 (pv 0)) (d_glob (by rfl) T.G_MOST_codes))))).dt
 (dss_one (ds_raise (n := 2) rfl (takesN (takes_of rfl rfl rfl rfl)) PySem.F.excBase_ValueError T.q_NoBallot T.g_NoBallot rfl T.k_NoBallot (raises_own T.b_NoBallot T.t_NoBallot) (by rfl)))
 dss_nil)
(dss_cons (ds_set (i := 4) false (sc_line_of).nd rfl (by first | exact Or.inl rfl | exact Or.inr rfl) (d_bor (d_call (ok_slip_of T) mono_slip_of hr hgd (by rfl) T.g_slip_of T.F_slip_of.kp T.b_slip_of (takesN (takes_of rfl rfl rfl rfl)) (da_cons (d_var 2 (pv 2)) (da_cons (d_var 1 (pv 1)) da_nil)))) rfl)
(dss_cons (ds_if (dt_bor (dt_ne hr.units (d_call (ok_ranks_of T) mono_ranks_of hr hgd (by rfl) T.g_ranks_of T.F_ranks_of.kp T.b_ranks_of (takesN (takes_of rfl rfl rfl rfl)) (da_cons (d_var 4 (pv 4)) (da_cons (d_var 1 (pv 1)) da_nil))) (d_var 2 (pv 2))))
 (dss_one (ds_raise (n := 2) rfl (takesN (takes_of rfl rfl rfl rfl)) PySem.F.excBase_ValueError T.q_NoBallot T.g_NoBallot rfl T.k_NoBallot (raises_own T.b_NoBallot T.t_NoBallot) (by rfl)))
 dss_nil)
(dss_one (ds_ret (d_tup (da_cons (d_var 4 (pv 4)) (da_cons (d_var 0 (pv 0)) da_nil)))))))))))
theorem ok_Box_lines_at {P : Program} {w : World} {K : PySem.W.Frag} {mg : Str → Option Value} {base : Heap} (T : Txt K mg) : FnG P w K mg base 3 T.a_Box_lines_at T.d_Box_lines_at ["self", "k"] (spD K mg [false, false] sp_Box_lines_at) := by
  refine fnD_of2 (N := N_Box_lines_at) (k := 2) T.F_Box_lines_at sc_Box_lines_at rfl fun cdv A outer s H E hr hgd => ⟨t_Box_lines_at, ?_, fun ts Q E hl h => rd_Box_lines_at h⟩
  exact (dss_one (ds_ret (d_callTy n_list (by rfl) T.n_list bo_list (da_cons (d_methV (ns0 := ns_Box) (d_var 0 (pv 0)) ⟨⟨_, _, _, (ok_Box_lying T), T.m_Box_Box_lying, T.b_Box_lying⟩, T.cl_Box, mono_Box_lying, hr, hgd, (takesN (takes_of rfl rfl rfl rfl))⟩ (by decide +kernel) (da_cons (d_var 1 (pv 1)) da_nil)) da_nil))))
theorem ok_Box_sheet_at {P : Program} {w : World} {K : PySem.W.Frag} {mg : Str → Option Value} {base : Heap} (T : Txt K mg) : FnG P w K mg base 3 T.a_Box_sheet_at T.d_Box_sheet_at ["self", "k"] (spD K mg [false, false] sp_Box_sheet_at) := by
  refine fnD_of2 (N := N_Box_sheet_at) (k := 2) T.F_Box_sheet_at sc_Box_sheet_at rfl fun cdv A outer s H E hr hgd => ⟨t_Box_sheet_at, ?_, fun ts Q E hl h => rd_Box_sheet_at h⟩
  exact (dss_one (ds_ret (d_call (ok_sheet_of T) mono_sheet_of hr hgd (by rfl) T.g_sheet_of T.F_sheet_of.kp T.b_sheet_of (takesN (takes_of rfl rfl rfl rfl)) (da_cons (d_methV (ns0 := ns_Box) (d_var 0 (pv 0)) ⟨⟨_, _, _, (ok_Box_lying T), T.m_Box_Box_lying, T.b_Box_lying⟩, T.cl_Box, mono_Box_lying, hr, hgd, (takesN (takes_of rfl rfl rfl rfl))⟩ (by decide +kernel) (da_cons (d_var 1 (pv 1)) da_nil)) da_nil))))
theorem ok_Box_sheet {P : Program} {w : World} {K : PySem.W.Frag} {mg : Str → Option Value} {base : Heap} (T : Txt K mg) : FnG P w K mg base 3 T.a_Box_sheet T.d_Box_sheet ["self"] (spD K mg [false] sp_Box_sheet) := by
  refine fnD_of2 (N := N_Box_sheet) (k := 2) T.F_Box_sheet sc_Box_sheet rfl fun cdv A outer s H E hr hgd => ⟨t_Box_sheet, ?_, fun ts Q E hl h => rd_Box_sheet h⟩
  exact (dss_one (ds_ret (d_call (ok_joined T) mono_joined hr hgd (by rfl) T.g_joined T.F_joined.kp T.b_joined (takesN (takes_of rfl rfl rfl rfl)) (da_cons (d_lc (own := [("lines", 1)]) rfl (sc_Box_sheet).nd (di_seq (d_fld (C0 := C_Box) (ns0 := ns_Box) (j := 1) (d_var 0 (pv 0)) T.cl_Box T.na_Box_bundles (by decide +kernel))) (blkOk_by (N := N_Box_sheet) (sc := defScope s_Box_sheet) (by decide +kernel)) (fun _ _ _ _ _ => (dg_name false (i := 1) (sc_Box_sheet).nd rfl (by first | exact Or.inl rfl | exact Or.inr rfl) rfl)) (fun _ _ _ _ _ => dts_nil) (fun _ _ _ _ _ => (d_call (ok_sheet_of T) mono_sheet_of hr hgd (by rfl) T.g_sheet_of T.F_sheet_of.kp T.b_sheet_of DL.takes0 (da_cons (d_var 1 (pv 1)) da_nil)))) da_nil))))
theorem ok__law_ranks {P : Program} {w : World} {K : PySem.W.Frag} {mg : Str → Option Value} {base : Heap} (T : Txt K mg) : FnG P w K mg base 3 T.a__law_ranks T.d__law_ranks ["_law_bag_here", "_law_hands"] (spD K mg [true, false] sp__law_ranks) := by
  refine fnD_of2 (N := N__law_ranks) (k := 2) T.F__law_ranks sc__law_ranks rfl fun cdv A outer s H E hr hgd => ⟨t__law_ranks, ?_, fun ts Q E hl h => rd__law_ranks h⟩
  exact (dss_cons (ds_set (i := 2) false (sc__law_ranks).nd rfl (by first | exact Or.inl rfl | exact Or.inr rfl) (d_call (ok__law_one T) mono__law_one hr hgd (by rfl) T.g__law_one T.F__law_one.kp T.b__law_one (takesN (takes_of rfl rfl rfl rfl)) (da_late 0 (pv 0) (da_cons (d_lst (da_cons d_int (da_cons d_int (da_cons (d_add4 (d_var 1 (pv 1)) d_int) (da_cons (d_add4 (d_pow d_int d_int) d_int) da_nil))))) da_nil))) rfl)
(dss_one (ds_ret (d_lc (own := [("_law_hand", 3)]) rfl (sc__law_ranks).nd (di_range1 (by rfl) T.n_range (da_cons (d_var 1 (pv 1)) da_nil)) (blkOk_by (N := N__law_ranks) (sc := defScope s__law_ranks) (by decide +kernel)) (fun _ _ _ _ _ => (dg_name false (i := 3) (sc__law_ranks).nd rfl (by first | exact Or.inl rfl | exact Or.inr rfl) rfl)) (fun _ _ _ _ _ => dts_nil) (fun _ _ _ _ _ => (d_call ((ok__law_take T).mono (by decide)) mono__law_take hr hgd (by rfl) T.g__law_take T.F__law_take.kp T.b__law_take DL.takes0 (da_late 0 (pv 0) (da_cons (d_var 2 (pv 2)) da_nil))))))))
theorem ok__law_ballots {P : Program} {w : World} {K : PySem.W.Frag} {mg : Str → Option Value} {base : Heap} (T : Txt K mg) : FnG P w K mg base 3 T.a__law_ballots T.d__law_ballots ["_law_bag_here", "_law_most"] (spD K mg [true, false] sp__law_ballots) := by
  refine fnD_of2 (N := N__law_ballots) (k := 2) T.F__law_ballots sc__law_ballots rfl fun cdv A outer s H E hr hgd => ⟨t__law_ballots, ?_, fun ts Q E hl h => rd__law_ballots h⟩
  exact (dss_one (ds_ret (d_add4 d_int (d_call ((ok__law_take T).mono (by decide)) mono__law_take hr hgd (by rfl) T.g__law_take T.F__law_take.kp T.b__law_take (takesN (takes_of rfl rfl rfl rfl)) (da_late 0 (pv 0) (da_cons (d_call (ok__law_one T) mono__law_one hr hgd (by rfl) T.g__law_one T.F__law_one.kp T.b__law_one (takesN (takes_of rfl rfl rfl rfl)) (da_late 0 (pv 0) (da_cons (d_lst (da_cons d_int (da_cons d_int (da_cons d_int (da_cons (d_var 1 (pv 1)) da_nil))))) da_nil))) da_nil))))))
theorem ok__law_altered {P : Program} {w : World} {K : PySem.W.Frag} {mg : Str → Option Value} {base : Heap} (T : Txt K mg) : FnG P w K mg base 3 T.a__law_altered T.d__law_altered ["_law_bag_here", "_law_codes"] (spD K mg [true, false] sp__law_altered) := by
  refine fnD_of2 (N := N__law_altered) (k := 2) T.F__law_altered sc__law_altered rfl fun cdv A outer s H E hr hgd => ⟨t__law_altered, ?_, fun ts Q E hl h => rd__law_altered h⟩
  exact (dss_cons (ds_parO true false (i := 2) (j := 3) rfl (sc__law_altered).nd rfl rfl (by decide) rfl rfl rfl rfl (da_cons (d_callTy n_list (by rfl) T.n_list bo_list (da_cons (d_var 1 (pv 1)) da_nil)) (da_cons (d_call ((ok__law_take T).mono (by decide)) mono__law_take hr hgd (by rfl) T.g__law_take T.F__law_take.kp T.b__law_take (takesN (takes_of rfl rfl rfl rfl)) (da_late 0 (pv 0) (da_cons (d_add4 (d_callB n_len (by rfl) T.n_len bo_len (da_cons (d_var 1 (pv 1)) da_nil)) d_int) da_nil))) da_nil)) (by rfl))
(dss_cons (ds_if (dt_eq hr.units (d_var 3 (pv 3)) (d_callB n_len (by rfl) T.n_len bo_len (da_cons (d_var 1 (pv 1)) da_nil)))
 (dss_one (ds_ret (d_tup (da_cons (d_mov 2 (pv 2)) (da_cons d_int da_nil)))))
 dss_nil)
(dss_cons (ds_augI 2 (pv 2) (d_var 3 (pv 3)) (d_call (ok__law_one T) mono__law_one hr hgd (by rfl) T.g__law_one T.F__law_one.kp T.b__law_one (takesN (takes_of rfl rfl rfl rfl)) (da_late 0 (pv 0) (da_cons (d_lst (da_cons d_int (da_cons (d_neg d_int) (da_cons d_int (da_cons (d_neg d_int) (da_cons (d_pow d_int d_int) (da_cons (d_neg (d_pow d_int d_int)) da_nil))))))) da_nil))) iop_add op2_I0)
(dss_one (ds_ret (d_tup (da_cons (d_mov 2 (pv 2)) (da_cons (d_add4 (d_var 3 (pv 3)) d_int) da_nil))))))))
theorem ok_Box_take {P : Program} {w : World} {K : PySem.W.Frag} {mg : Str → Option Value} {base : Heap} (T : Txt K mg) : FnG P w K mg base 4 T.a_Box_take T.d_Box_take ["self", "codes", "seal"] (spD K mg [true, false, false] sp_Box_take) := by
  refine fnD_of2 (N := N_Box_take) (k := 3) T.F_Box_take sc_Box_take rfl fun cdv A outer s H E hr hgd => ⟨t_Box_take, ?_, fun ts Q E hl h => rd_Box_take h⟩
  exact (dss_cons (ds_asg (d_call ((ok_mended T).mono (by decide)) mono_mended hr hgd (by rfl) T.g_mended T.F_mended.kp T.b_mended (takesN (takes_of rfl rfl rfl rfl)) (da_cons (d_var 1 (pv 1)) (da_cons (d_var 2 (pv 2)) da_nil))) (dg_seq rfl (dgs_cons (dg_name false (i := 3) (sc_Box_take).nd rfl (by first | exact Or.inl rfl | exact Or.inr rfl) rfl) (dgs_cons (dg_name false (i := 4) (sc_Box_take).nd rfl (by first | exact Or.inl rfl | exact Or.inr rfl) rfl) dgs_nil))))
(dss_cons (ds_setLc (i := 5) (own := [("code", 6)]) false rfl (sc_Box_take).nd rfl rfl rfl (sw_true rfl rfl rfl (by decide +kernel)) (di_seq (d_var 3 (pv 3))) (blkOk_by (N := N_Box_take) (sc := defScope s_Box_take) (by decide +kernel)) (fun _ _ _ _ _ => (dg_name false (i := 6) (sc_Box_take).nd rfl (by first | exact Or.inl rfl | exact Or.inr rfl) rfl)) (fun _ _ _ _ _ => dts_nil) (fun _ _ _ _ _ => (d_call (ok_line_of T) mono_line_of hr hgd (by rfl) T.g_line_of T.F_line_of.kp T.b_line_of DL.takes0 (da_cons (d_var 6 (pv 6)) (da_cons (d_fldO (C0 := C_Box) (ns0 := ns_Box) (j := 0) 0 (pv 0) T.cl_Box T.na_Box_hands (by decide +kernel)) da_nil)))))
(dss_cons (ds_expr (d_appF (C0 := C_Box) (ns0 := ns_Box) (j := 1) 0 5 (pv 0) (pv 5) T.cl_Box T.na_Box_bundles (by decide +kernel)))
(dss_one (ds_ret (d_tup (da_cons (d_bor (d_sub (d_callB n_len (by rfl) T.n_len bo_len (da_cons (d_fld (C0 := C_Box) (ns0 := ns_Box) (j := 1) (d_var 0 (pv 0)) T.cl_Box T.na_Box_bundles (by decide +kernel)) da_nil)) d_int)) (da_cons (d_var 4 (pv 4)) da_nil))))))))
theorem ok_Box_seal_at {P : Program} {w : World} {K : PySem.W.Frag} {mg : Str → Option Value} {base : Heap} (T : Txt K mg) : FnG P w K mg base 4 T.a_Box_seal_at T.d_Box_seal_at ["self", "k"] (spD K mg [false, false] sp_Box_seal_at) := by
  refine fnD_of2 (N := N_Box_seal_at) (k := 3) T.F_Box_seal_at sc_Box_seal_at rfl fun cdv A outer s H E hr hgd => ⟨t_Box_seal_at, ?_, fun ts Q E hl h => rd_Box_seal_at h⟩
  exact (dss_one (ds_ret (d_call ((ok_seal_of T).mono (by decide)) mono_seal_of hr hgd (by rfl) T.g_seal_of T.F_seal_of.kp T.b_seal_of (takesN (takes_of rfl rfl rfl rfl)) (da_cons (d_lc (own := [("line", 2)]) rfl (sc_Box_seal_at).nd (di_seq (d_methV (ns0 := ns_Box) (d_var 0 (pv 0)) ⟨⟨_, _, _, ((ok_Box_lying T).mono (by decide)), T.m_Box_Box_lying, T.b_Box_lying⟩, T.cl_Box, mono_Box_lying, hr, hgd, (takesN (takes_of rfl rfl rfl rfl))⟩ (by decide +kernel) (da_cons (d_var 1 (pv 1)) da_nil))) (blkOk_by (N := N_Box_seal_at) (sc := defScope s_Box_seal_at) (by decide +kernel)) (fun _ _ _ _ _ => (dg_name false (i := 2) (sc_Box_seal_at).nd rfl (by first | exact Or.inl rfl | exact Or.inr rfl) rfl)) (fun _ _ _ _ _ => dts_nil) (fun _ _ _ _ _ => (d_call (ok_code_of T) mono_code_of hr hgd (by rfl) T.g_code_of T.F_code_of.kp T.b_code_of DL.takes0 (da_cons (d_var 2 (pv 2)) (da_cons (d_fld (C0 := C_Box) (ns0 := ns_Box) (j := 0) (d_var 0 (pv 0)) T.cl_Box T.na_Box_hands (by decide +kernel)) da_nil))))) da_nil))))
theorem ok_Box_put_right {P : Program} {w : World} {K : PySem.W.Frag} {mg : Str → Option Value} {base : Heap} (T : Txt K mg) : FnG P w K mg base 4 T.a_Box_put_right T.d_Box_put_right ["self", "k", "lines"] (spD K mg [true, false, false] sp_Box_put_right) := by
  refine fnD_of2 (N := N_Box_put_right) (k := 3) T.F_Box_put_right sc_Box_put_right rfl fun cdv A outer s H E hr hgd => ⟨t_Box_put_right, ?_, fun ts Q E hl h => rd_Box_put_right h⟩
  exact (dss_cons (ds_set (i := 3) false (sc_Box_put_right).nd rfl (by first | exact Or.inl rfl | exact Or.inr rfl) (d_bor (d_methV (ns0 := ns_Box) (d_var 0 (pv 0)) ⟨⟨_, _, _, (ok_Box_sheet_at T), T.m_Box_Box_sheet_at, T.b_Box_sheet_at⟩, T.cl_Box, mono_Box_sheet_at, hr, hgd, (takesN (takes_of rfl rfl rfl rfl))⟩ (by decide +kernel) (da_cons (d_var 1 (pv 1)) da_nil))) rfl)
(dss_cons (ds_set (i := 4) false (sc_Box_put_right).nd rfl (by first | exact Or.inl rfl | exact Or.inr rfl) (d_call ((ok_sheet_of T).mono (by decide)) mono_sheet_of hr hgd (by rfl) T.g_sheet_of T.F_sheet_of.kp T.b_sheet_of (takesN (takes_of rfl rfl rfl rfl)) (da_cons (d_var 2 (pv 2)) da_nil)) rfl)
(dss_cons (ds_set (i := 5) false (sc_Box_put_right).nd rfl (by first | exact Or.inl rfl | exact Or.inr rfl) (d_call ((ok_ballots_in T).mono (by decide)) mono_ballots_in hr hgd (by rfl) T.g_ballots_in T.F_ballots_in.kp T.b_ballots_in (takesN (takes_of rfl rfl rfl rfl)) (da_cons (d_var 3 (pv 3)) da_nil)) rfl)
(dss_cons (ds_set (i := 6) false (sc_Box_put_right).nd rfl (by first | exact Or.inl rfl | exact Or.inr rfl) (d_call ((ok_ballots_in T).mono (by decide)) mono_ballots_in hr hgd (by rfl) T.g_ballots_in T.F_ballots_in.kp T.b_ballots_in (takesN (takes_of rfl rfl rfl rfl)) (da_cons (d_var 4 (pv 4)) da_nil)) rfl)
(dss_cons (ds_if (dt_ne hr.units (d_var 5 (pv 5)) (d_var 6 (pv 6)))
 (dss_one ds_never)
 dss_nil)
(dss_cons (ds_setF (C0 := C_Box) (ns0 := ns_Box) (j := 1) 0 (pv 0) (pv 1) (d_callTy n_list (by rfl) T.n_list bo_list (da_cons (d_var 2 (pv 2)) da_nil)) T.cl_Box T.na_Box_bundles (by decide +kernel))
(dss_one (ds_ret (d_call ((ok_apart T).mono (by decide)) mono_apart hr hgd (by rfl) T.g_apart T.F_apart.kp T.b_apart (takesN (takes_of rfl rfl rfl rfl)) (da_cons (d_var 3 (pv 3)) (da_cons (d_var 4 (pv 4)) da_nil)))))))))))
theorem ok__law_slip {P : Program} {w : World} {K : PySem.W.Frag} {mg : Str → Option Value} {base : Heap} (T : Txt K mg) : FnG P w K mg base 4 T.a__law_slip T.d__law_slip ["_law_bag_here", "_law_hands"] (spD K mg [true, false] sp__law_slip) := by
  refine fnD_of2 (N := N__law_slip) (k := 3) T.F__law_slip sc__law_slip rfl fun cdv A outer s H E hr hgd => ⟨t__law_slip, ?_, fun ts Q E hl h => rd__law_slip h⟩
  exact (dss_one (ds_ret (d_call ((ok__law_tiers T).mono (by decide)) mono__law_tiers hr hgd (by rfl) T.g__law_tiers T.F__law_tiers.kp T.b__law_tiers (takesN (takes_of rfl rfl rfl rfl)) (da_cons (d_call (ok__law_ranks T) mono__law_ranks hr hgd (by rfl) T.g__law_ranks T.F__law_ranks.kp T.b__law_ranks (takesN (takes_of rfl rfl rfl rfl)) (da_late 0 (pv 0) (da_cons (d_var 1 (pv 1)) da_nil))) da_nil))))
theorem ok__law_lines {P : Program} {w : World} {K : PySem.W.Frag} {mg : Str → Option Value} {base : Heap} (T : Txt K mg) : FnG P w K mg base 5 T.a__law_lines T.d__law_lines ["_law_bag_here", "_law_hands", "_law_many"] (spD K mg [true, false, false] sp__law_lines) := by
  refine fnD_of2 (N := N__law_lines) (k := 4) T.F__law_lines sc__law_lines rfl fun cdv A outer s H E hr hgd => ⟨t__law_lines, ?_, fun ts Q E hl h => rd__law_lines h⟩
  exact (dss_cons (ds_set (i := 3) false (sc__law_lines).nd rfl (by first | exact Or.inl rfl | exact Or.inr rfl) (d_lc (own := [("_law_k", 4)]) rfl (sc__law_lines).nd (di_range1 (by rfl) T.n_range (da_cons (d_add4 d_int (d_call ((ok__law_take T).mono (by decide)) mono__law_take hr hgd (by rfl) T.g__law_take T.F__law_take.kp T.b__law_take (takesN (takes_of rfl rfl rfl rfl)) (da_late 0 (pv 0) (da_cons (d_var 2 (pv 2)) da_nil)))) da_nil)) (blkOk_by (N := N__law_lines) (sc := defScope s__law_lines) (by decide +kernel)) (fun _ _ _ _ _ => (dg_name false (i := 4) (sc__law_lines).nd rfl (by first | exact Or.inl rfl | exact Or.inr rfl) rfl)) (fun _ _ _ _ _ => dts_nil) (fun _ _ _ _ _ => (d_call (ok__law_slip T) mono__law_slip hr hgd (by rfl) T.g__law_slip T.F__law_slip.kp T.b__law_slip DL.takes0 (da_late 0 (pv 0) (da_cons (d_var 1 (pv 1)) da_nil))))) rfl)
(dss_one (ds_ret (d_lc (own := [("_law_k", 4)]) rfl (sc__law_lines).nd (di_range1 (by rfl) T.n_range (da_cons (d_call ((ok__law_take T).mono (by decide)) mono__law_take hr hgd (by rfl) T.g__law_take T.F__law_take.kp T.b__law_take (takesN (takes_of rfl rfl rfl rfl)) (da_late 0 (pv 0) (da_cons (d_add4 (d_var 2 (pv 2)) d_int) da_nil))) da_nil)) (blkOk_by (N := N__law_lines) (sc := defScope s__law_lines) (by decide +kernel)) (fun _ _ _ _ _ => (dg_name false (i := 4) (sc__law_lines).nd rfl (by first | exact Or.inl rfl | exact Or.inr rfl) rfl)) (fun _ _ _ _ _ => dts_nil) (fun _ _ _ _ _ => (d_tup (da_cons (d_call ((ok__law_one T).mono (by decide)) mono__law_one hr hgd (by rfl) T.g__law_one T.F__law_one.kp T.b__law_one DL.takes0 (da_late 0 (pv 0) (da_cons (d_var 3 (pv 3)) da_nil))) (da_cons (d_call ((ok__law_ballots T).mono (by decide)) mono__law_ballots hr hgd (by rfl) T.g__law_ballots T.F__law_ballots.kp T.b__law_ballots DL.takes0 (da_late 0 (pv 0) (da_cons (d_pow d_int d_int) da_nil))) da_nil))))))))
theorem ok__law_is_torn {P : Program} {w : World} {K : PySem.W.Frag} {mg : Str → Option Value} {base : Heap} (T : Txt K mg) : FnG P w K mg base 5 T.a__law_is_torn T.d__law_is_torn ["_law_box", "_law_codes", "_law_seal"] (spD K mg [true, false, false] sp__law_is_torn) := by
  refine fnD_of2 (N := N__law_is_torn) (k := 4) T.F__law_is_torn sc__law_is_torn rfl fun cdv A outer s H E hr hgd => ⟨t__law_is_torn, ?_, fun ts Q E hl h => rd__law_is_torn h⟩
  exact (dss_cons (ds_tryAs (i := 3) (k := 0) rfl rfl (sc__law_is_torn).nd rfl rfl ⟨rfl, by decide, .inl T.g_PollError⟩ (takesN (takes_of rfl rfl rfl rfl)) rfl T.em_PollError (fun W1 pn xe tk po => (dss_one (ds_expr (d_methL (ns0 := ns_Box) 0 (pv 0) ⟨⟨_, _, _, (ok_Box_take T), T.m_Box_Box_take, T.b_Box_take⟩, T.cl_Box, mono_Box_take, hr, hgd, tk⟩ (by decide +kernel) (da_cons (d_var 1 (pv 1)) (da_cons (d_var 2 (pv 2)) da_nil))))))
 (fun n a oe cls pn hcl hz hd => (dss_one (ds_ret (d_isE (k' := n) (k := 5) (pv 3) hz hd (T.ec n cls hcl) (T.ki_Torn n cls hcl) (by rfl) T.n_isinstance bo_isinstance (by rfl) T.g_Torn)))))
(dss_one (ds_ret d_bl)))
theorem ok__law_recounts_right {P : Program} {w : World} {K : PySem.W.Frag} {mg : Str → Option Value} {base : Heap} (T : Txt K mg) : FnG P w K mg base 5 T.a__law_recounts_right T.d__law_recounts_right ["_law_bag_here", "_law_box", "_law_hands"] (spD K mg [true, true, false] sp__law_recounts_right) := by
  refine fnD_of2 (N := N__law_recounts_right) (k := 4) T.F__law_recounts_right sc__law_recounts_right rfl fun cdv A outer s H E hr hgd => ⟨t__law_recounts_right, ?_, fun ts Q E hl h => rd__law_recounts_right h⟩
  exact (dss_cons (ds_set (i := 3) false (sc__law_recounts_right).nd rfl (by first | exact Or.inl rfl | exact Or.inr rfl) (d_bor (d_methV0 (ns0 := ns_Box) (d_var 1 (pv 1)) ⟨⟨_, _, _, ((ok_Box_sheet T).mono (by decide)), T.m_Box_Box_sheet, T.b_Box_sheet⟩, T.cl_Box, mono_Box_sheet, hr, hgd, (takesN (takes_of rfl rfl rfl rfl))⟩ (by decide +kernel))) rfl)
(dss_cons (ds_for (passes_of rfl) rfl (di_range1 (by rfl) T.n_range (da_cons (d_bor (d_methV0 (ns0 := ns_Box) (d_var 1 (pv 1)) ⟨⟨_, _, _, ((ok_Box_many T).mono (by decide)), T.m_Box_Box_many, T.b_Box_many⟩, T.cl_Box, mono_Box_many, hr, hgd, (takesN (takes_of rfl rfl rfl rfl))⟩ (by decide +kernel))) da_nil)) (dg_name false (i := 4) (sc__law_recounts_right).nd rfl (by first | exact Or.inl rfl | exact Or.inr rfl) rfl)
 (dss_cons (ds_par (i := 5) (j := 6) rfl (sc__law_recounts_right).nd rfl rfl (by decide) rfl rfl rfl rfl (da_cons (d_bor (d_methV (ns0 := ns_Box) (d_var 1 (pv 1)) ⟨⟨_, _, _, ((ok_Box_lines_at T).mono (by decide)), T.m_Box_Box_lines_at, T.b_Box_lines_at⟩, T.cl_Box, mono_Box_lines_at, hr, hgd, (takesN (takes_of rfl rfl rfl rfl))⟩ (by decide +kernel) (da_cons (d_var 4 (pv 4)) da_nil))) (da_cons (d_bor (d_methV (ns0 := ns_Box) (d_var 1 (pv 1)) ⟨⟨_, _, _, ((ok_Box_sheet_at T).mono (by decide)), T.m_Box_Box_sheet_at, T.b_Box_sheet_at⟩, T.cl_Box, mono_Box_sheet_at, hr, hgd, (takesN (takes_of rfl rfl rfl rfl))⟩ (by decide +kernel) (da_cons (d_var 4 (pv 4)) da_nil))) da_nil)) (by rfl))
(dss_cons (ds_setLc (i := 7) (own := [("_law_slip_here", 9), ("_law_number", 10)]) false rfl (sc__law_recounts_right).nd rfl rfl rfl (sw_true rfl rfl rfl (by decide +kernel)) (di_seq (d_var 5 (pv 5))) (blkOk_by (N := N__law_recounts_right) (sc := defScope s__law_recounts_right) (by decide +kernel)) (fun _ _ _ _ _ => (dg_seq rfl (dgs_cons (dg_name false (i := 9) (sc__law_recounts_right).nd rfl (by first | exact Or.inl rfl | exact Or.inr rfl) rfl) (dgs_cons (dg_name false (i := 10) (sc__law_recounts_right).nd rfl (by first | exact Or.inl rfl | exact Or.inr rfl) rfl) dgs_nil)))) (fun _ _ _ _ _ => dts_nil) (fun _ _ _ _ _ => (d_tup (da_cons (d_call (ok__law_slip T) mono__law_slip hr hgd (by rfl) T.g__law_slip T.F__law_slip.kp T.b__law_slip DL.takes0 (da_late 0 (pv 0) (da_cons (d_var 2 (pv 2)) da_nil))) (da_cons (d_var 10 (pv 10)) da_nil)))))
(dss_cons (ds_set (i := 8) false (sc__law_recounts_right).nd rfl (by first | exact Or.inl rfl | exact Or.inr rfl) (d_call ((ok_apart T).mono (by decide)) mono_apart hr hgd (by rfl) T.g_apart T.F_apart.kp T.b_apart (takesN (takes_of rfl rfl rfl rfl)) (da_cons (d_var 6 (pv 6)) (da_cons (d_call ((ok_sheet_of T).mono (by decide)) mono_sheet_of hr hgd (by rfl) T.g_sheet_of T.F_sheet_of.kp T.b_sheet_of (takesN (takes_of rfl rfl rfl rfl)) (da_cons (d_var 7 (pv 7)) da_nil)) da_nil))) rfl)
(dss_cons (ds_if ((dw_or (dt_ne hr.units (d_methL (ns0 := ns_Box) 1 (pv 1) ⟨⟨_, _, _, (ok_Box_put_right T), T.m_Box_Box_put_right, T.b_Box_put_right⟩, T.cl_Box, mono_Box_put_right, hr, hgd, (takesN (takes_of rfl rfl rfl rfl))⟩ (by decide +kernel) (da_cons (d_var 4 (pv 4)) (da_cons (d_var 7 (pv 7)) da_nil))) (d_var 8 (pv 8))) (dw_or1 (dt_bor (dt_ne hr.units (d_methV (ns0 := ns_Box) (d_var 1 (pv 1)) ⟨⟨_, _, _, ((ok_Box_sheet_at T).mono (by decide)), T.m_Box_Box_sheet_at, T.b_Box_sheet_at⟩, T.cl_Box, mono_Box_sheet_at, hr, hgd, (takesN (takes_of rfl rfl rfl rfl))⟩ (by decide +kernel) (da_cons (d_var 4 (pv 4)) da_nil)) (d_call ((ok_sheet_of T).mono (by decide)) mono_sheet_of hr hgd (by rfl) T.g_sheet_of T.F_sheet_of.kp T.b_sheet_of (takesN (takes_of rfl rfl rfl rfl)) (da_cons (d_var 7 (pv 7)) da_nil))))))).dt
 (dss_one (ds_ret d_bl))
 dss_nil)
(dss_cons (ds_if (dt_bor (dt_ne hr.units (d_methV (ns0 := ns_Box) (d_var 1 (pv 1)) ⟨⟨_, _, _, (ok_Box_seal_at T), T.m_Box_Box_seal_at, T.b_Box_seal_at⟩, T.cl_Box, mono_Box_seal_at, hr, hgd, (takesN (takes_of rfl rfl rfl rfl))⟩ (by decide +kernel) (da_cons (d_var 4 (pv 4)) da_nil)) (d_call ((ok_seal_of T).mono (by decide)) mono_seal_of hr hgd (by rfl) T.g_seal_of T.F_seal_of.kp T.b_seal_of (takesN (takes_of rfl rfl rfl rfl)) (da_cons (d_lc (own := [("_law_line", 11)]) rfl (sc__law_recounts_right).nd (di_seq (d_var 7 (pv 7))) (blkOk_by (N := N__law_recounts_right) (sc := defScope s__law_recounts_right) (by decide +kernel)) (fun _ _ _ _ _ => (dg_name false (i := 11) (sc__law_recounts_right).nd rfl (by first | exact Or.inl rfl | exact Or.inr rfl) rfl)) (fun _ _ _ _ _ => dts_nil) (fun _ _ _ _ _ => (d_call ((ok_code_of T).mono (by decide)) mono_code_of hr hgd (by rfl) T.g_code_of T.F_code_of.kp T.b_code_of DL.takes0 (da_cons (d_var 11 (pv 11)) (da_cons (d_var 2 (pv 2)) da_nil))))) da_nil))))
 (dss_one (ds_ret d_bl))
 dss_nil)
(dss_cons (ds_if (dt_bor ((dw_or (dt_ne hr.units (d_call ((ok_ballots_in T).mono (by decide)) mono_ballots_in hr hgd (by rfl) T.g_ballots_in T.F_ballots_in.kp T.b_ballots_in (takesN (takes_of rfl rfl rfl rfl)) (da_cons (d_methV0 (ns0 := ns_Box) (d_var 1 (pv 1)) ⟨⟨_, _, _, ((ok_Box_sheet T).mono (by decide)), T.m_Box_Box_sheet, T.b_Box_sheet⟩, T.cl_Box, mono_Box_sheet, hr, hgd, (takesN (takes_of rfl rfl rfl rfl))⟩ (by decide +kernel)) da_nil)) (d_call ((ok_ballots_in T).mono (by decide)) mono_ballots_in hr hgd (by rfl) T.g_ballots_in T.F_ballots_in.kp T.b_ballots_in (takesN (takes_of rfl rfl rfl rfl)) (da_cons (d_var 3 (pv 3)) da_nil))) (dw_or1 (dt_ne hr.units (d_call ((ok_apart T).mono (by decide)) mono_apart hr hgd (by rfl) T.g_apart T.F_apart.kp T.b_apart (takesN (takes_of rfl rfl rfl rfl)) (da_cons (d_var 3 (pv 3)) (da_cons (d_methV0 (ns0 := ns_Box) (d_var 1 (pv 1)) ⟨⟨_, _, _, ((ok_Box_sheet T).mono (by decide)), T.m_Box_Box_sheet, T.b_Box_sheet⟩, T.cl_Box, mono_Box_sheet, hr, hgd, (takesN (takes_of rfl rfl rfl rfl))⟩ (by decide +kernel)) da_nil))) (d_var 8 (pv 8)))))).dt)
 (dss_one (ds_ret d_bl))
 dss_nil)
(dss_one (ds_if ((dw_or (dt_ne hr.units (d_methL (ns0 := ns_Box) 1 (pv 1) ⟨⟨_, _, _, (ok_Box_put_right T), T.m_Box_Box_put_right, T.b_Box_put_right⟩, T.cl_Box, mono_Box_put_right, hr, hgd, (takesN (takes_of rfl rfl rfl rfl))⟩ (by decide +kernel) (da_cons (d_var 4 (pv 4)) (da_cons (d_call ((ok__law_mixed T).mono (by decide)) mono__law_mixed hr hgd (by rfl) T.g__law_mixed T.F__law_mixed.kp T.b__law_mixed (takesN (takes_of rfl rfl rfl rfl)) (da_late 0 (pv 0) (da_cons (d_var 5 (pv 5)) da_nil))) da_nil))) (d_var 8 (pv 8))) (dw_or1 (dt_bor (dt_ne hr.units (d_methV0 (ns0 := ns_Box) (d_var 1 (pv 1)) ⟨⟨_, _, _, ((ok_Box_sheet T).mono (by decide)), T.m_Box_Box_sheet, T.b_Box_sheet⟩, T.cl_Box, mono_Box_sheet, hr, hgd, (takesN (takes_of rfl rfl rfl rfl))⟩ (by decide +kernel)) (d_var 3 (pv 3))))))).dt
 (dss_one (ds_ret d_bl))
 dss_nil)))))))))
(dss_one (ds_ret d_bl))))
theorem ok__law_taken_right {P : Program} {w : World} {K : PySem.W.Frag} {mg : Str → Option Value} {base : Heap} (T : Txt K mg) : FnG P w K mg base 6 T.a__law_taken_right T.d__law_taken_right ["_law_bag_here", "_law_boxes", "_law_bundles", "_law_hands"] (spD K mg [true, true, false, false] sp__law_taken_right) := by
  refine fnD_of2 (N := N__law_taken_right) (k := 5) T.F__law_taken_right sc__law_taken_right rfl fun cdv A outer s H E hr hgd => ⟨t__law_taken_right, ?_, fun ts Q E hl h => rd__law_taken_right h⟩
  exact (dss_cons (ds_forO 1 4 (by decide) (passes_of rfl) rfl (pv 1) (sc__law_taken_right).nd rfl (by first | exact Or.inl rfl | exact Or.inr rfl) rfl
 (dss_one (ds_for (passes_of rfl) rfl (di_seq (d_call ((ok__law_mixed T).mono (by decide)) mono__law_mixed hr hgd (by rfl) T.g__law_mixed T.F__law_mixed.kp T.b__law_mixed (takesN (takes_of rfl rfl rfl rfl)) (da_late 0 (pv 0) (da_cons (d_var 2 (pv 2)) da_nil)))) (dg_name false (i := 5) (sc__law_taken_right).nd rfl (by first | exact Or.inl rfl | exact Or.inr rfl) rfl)
 (dss_cons (ds_setLc (i := 6) (own := [("_law_line", 10)]) false rfl (sc__law_taken_right).nd rfl rfl rfl (sw_true rfl rfl rfl (by decide +kernel)) (di_seq (d_var 5 (pv 5))) (blkOk_by (N := N__law_taken_right) (sc := defScope s__law_taken_right) (by decide +kernel)) (fun _ _ _ _ _ => (dg_name false (i := 10) (sc__law_taken_right).nd rfl (by first | exact Or.inl rfl | exact Or.inr rfl) rfl)) (fun _ _ _ _ _ => dts_nil) (fun _ _ _ _ _ => (d_call ((ok_code_of T).mono (by decide)) mono_code_of hr hgd (by rfl) T.g_code_of T.F_code_of.kp T.b_code_of DL.takes0 (da_cons (d_var 10 (pv 10)) (da_cons (d_var 3 (pv 3)) da_nil)))))
(dss_cons (ds_set (i := 7) false (sc__law_taken_right).nd rfl (by first | exact Or.inl rfl | exact Or.inr rfl) (d_call ((ok_seal_of T).mono (by decide)) mono_seal_of hr hgd (by rfl) T.g_seal_of T.F_seal_of.kp T.b_seal_of (takesN (takes_of rfl rfl rfl rfl)) (da_cons (d_var 6 (pv 6)) da_nil)) rfl)
(dss_cons (ds_asg (d_call ((ok__law_altered T).mono (by decide)) mono__law_altered hr hgd (by rfl) T.g__law_altered T.F__law_altered.kp T.b__law_altered (takesN (takes_of rfl rfl rfl rfl)) (da_late 0 (pv 0) (da_cons (d_var 6 (pv 6)) da_nil))) (dg_seq rfl (dgs_cons (dg_name true (i := 8) (sc__law_taken_right).nd rfl (by first | exact Or.inl rfl | exact Or.inr rfl) rfl) (dgs_cons (dg_name false (i := 9) (sc__law_taken_right).nd rfl (by first | exact Or.inl rfl | exact Or.inr rfl) rfl) dgs_nil))))
(dss_cons (ds_if (dt_bor (dt_not (dt_truth (d_call ((ok__law_alike T).mono (by decide)) mono__law_alike hr hgd (by rfl) T.g__law_alike T.F__law_alike.kp T.b__law_alike (takesN (takes_of rfl rfl rfl rfl)) (da_cons (d_call ((ok_mended T).mono (by decide)) mono_mended hr hgd (by rfl) T.g_mended T.F_mended.kp T.b_mended (takesN (takes_of rfl rfl rfl rfl)) (da_cons (d_var 8 (pv 8)) (da_cons (d_var 7 (pv 7)) da_nil))) (da_cons (d_tup (da_cons (d_var 6 (pv 6)) (da_cons (d_var 9 (pv 9)) da_nil))) da_nil))))))
 (dss_one (ds_ret d_bl))
 dss_nil)
(dss_cons (ds_if ((dw_or (dt_ne hr.units (d_methL (ns0 := ns_Box) 4 (pv 4) ⟨⟨_, _, _, ((ok_Box_take T).mono (by decide)), T.m_Box_Box_take, T.b_Box_take⟩, T.cl_Box, mono_Box_take, hr, hgd, (takesN (takes_of rfl rfl rfl rfl))⟩ (by decide +kernel) (da_cons (d_frz 8 (pv 8)) (da_cons (d_var 7 (pv 7)) da_nil))) (d_tup (da_cons (d_bor (d_sub (d_methV0 (ns0 := ns_Box) (d_var 4 (pv 4)) ⟨⟨_, _, _, ((ok_Box_many T).mono (by decide)), T.m_Box_Box_many, T.b_Box_many⟩, T.cl_Box, mono_Box_many, hr, hgd, (takesN (takes_of rfl rfl rfl rfl))⟩ (by decide +kernel)) d_int)) (da_cons (d_var 9 (pv 9)) da_nil)))) (dw_or1 (dt_bor (dt_ne hr.units (d_methV (ns0 := ns_Box) (d_var 4 (pv 4)) ⟨⟨_, _, _, ((ok_Box_lines_at T).mono (by decide)), T.m_Box_Box_lines_at, T.b_Box_lines_at⟩, T.cl_Box, mono_Box_lines_at, hr, hgd, (takesN (takes_of rfl rfl rfl rfl))⟩ (by decide +kernel) (da_cons (d_sub (d_methV0 (ns0 := ns_Box) (d_var 4 (pv 4)) ⟨⟨_, _, _, ((ok_Box_many T).mono (by decide)), T.m_Box_Box_many, T.b_Box_many⟩, T.cl_Box, mono_Box_many, hr, hgd, (takesN (takes_of rfl rfl rfl rfl))⟩ (by decide +kernel)) d_int) da_nil)) (d_var 5 (pv 5))))))).dt
 (dss_one (ds_ret d_bl))
 dss_nil)
(dss_cons (ds_if (dt_bor ((dw_or (dt_ne hr.units (d_lc (own := [("_law_code", 11)]) rfl (sc__law_taken_right).nd (di_seq (d_var 6 (pv 6))) (blkOk_by (N := N__law_taken_right) (sc := defScope s__law_taken_right) (by decide +kernel)) (fun _ _ _ _ _ => (dg_name false (i := 11) (sc__law_taken_right).nd rfl (by first | exact Or.inl rfl | exact Or.inr rfl) rfl)) (fun _ _ _ _ _ => dts_nil) (fun _ _ _ _ _ => (d_call ((ok_line_of T).mono (by decide)) mono_line_of hr hgd (by rfl) T.g_line_of T.F_line_of.kp T.b_line_of DL.takes0 (da_cons (d_var 11 (pv 11)) (da_cons (d_var 3 (pv 3)) da_nil))))) (d_var 5 (pv 5))) (dw_or1 (dt_ne hr.units (d_methV (ns0 := ns_Box) (d_var 4 (pv 4)) ⟨⟨_, _, _, ((ok_Box_seal_at T).mono (by decide)), T.m_Box_Box_seal_at, T.b_Box_seal_at⟩, T.cl_Box, mono_Box_seal_at, hr, hgd, (takesN (takes_of rfl rfl rfl rfl))⟩ (by decide +kernel) (da_cons (d_sub (d_methV0 (ns0 := ns_Box) (d_var 4 (pv 4)) ⟨⟨_, _, _, ((ok_Box_many T).mono (by decide)), T.m_Box_Box_many, T.b_Box_many⟩, T.cl_Box, mono_Box_many, hr, hgd, (takesN (takes_of rfl rfl rfl rfl))⟩ (by decide +kernel)) d_int) da_nil)) (d_var 7 (pv 7)))))).dt)
 (dss_one (ds_ret d_bl))
 dss_nil)
(dss_one (ds_if (dt_gt (d_callB n_len (by rfl) T.n_len bo_len (da_cons (d_var 6 (pv 6)) da_nil)) d_int)
 (dss_cons (ds_set (i := 8) true (sc__law_taken_right).nd rfl (by first | exact Or.inl rfl | exact Or.inr rfl) (d_callTy n_list (by rfl) T.n_list bo_list (da_cons (d_var 6 (pv 6)) da_nil)) rfl)
(dss_cons (ds_augI 8 (pv 8) d_int (d_add4 d_int (d_call ((ok__law_take T).mono (by decide)) mono__law_take hr hgd (by rfl) T.g__law_take T.F__law_take.kp T.b__law_take (takesN (takes_of rfl rfl rfl rfl)) (da_late 0 (pv 0) (da_cons d_int da_nil)))) iop_add op2_I0)
(dss_cons (ds_augM 8 (pv 8) (d_neg d_int) (d_add4 d_int (d_call ((ok__law_take T).mono (by decide)) mono__law_take hr hgd (by rfl) T.g__law_take T.F__law_take.kp T.b__law_take (takesN (takes_of rfl rfl rfl rfl)) (da_late 0 (pv 0) (da_cons d_int da_nil)))) iop_sub op2_I0)
(dss_one (ds_if (dt_not (dt_truth (d_call (ok__law_is_torn T) mono__law_is_torn hr hgd (by rfl) T.g__law_is_torn T.F__law_is_torn.kp T.b__law_is_torn (takesN (takes_of rfl rfl rfl rfl)) (da_late 4 (pv 4) (da_cons (d_frz 8 (pv 8)) (da_cons (d_var 7 (pv 7)) da_nil))))))
 (dss_one (ds_ret d_bl))
 dss_nil)))))
 dss_nil)))))))))))
(dss_one (ds_ret (d_bor (d_eq hr.units (d_methV0 (ns0 := ns_Box) (d_ix (d_var 1 (pv 1)) d_int) ⟨⟨_, _, _, ((ok_Box_sheet T).mono (by decide)), T.m_Box_Box_sheet, T.b_Box_sheet⟩, T.cl_Box, mono_Box_sheet, hr, hgd, (takesN (takes_of rfl rfl rfl rfl))⟩ (by decide +kernel)) (d_methV0 (ns0 := ns_Box) (d_ix (d_var 1 (pv 1)) d_int) ⟨⟨_, _, _, ((ok_Box_sheet T).mono (by decide)), T.m_Box_Box_sheet, T.b_Box_sheet⟩, T.cl_Box, mono_Box_sheet, hr, hgd, (takesN (takes_of rfl rfl rfl rfl))⟩ (by decide +kernel)))))))
theorem ok_law {P : Program} {w : World} {K : PySem.W.Frag} {mg : Str → Option Value} {base : Heap} (T : Txt K mg) : FnG P w K mg base 7 T.a_law T.d_law ["_law_script"] (spD K mg [false] sp_law) := by
  refine fnD_of2 (N := N_law) (k := 6) T.F_law sc_law rfl fun cdv A outer s H E hr hgd => ⟨t_law, ?_, fun ts Q E hl h => rd_law h⟩
  exact (dss_cons (ds_set (i := 1) true (sc_law).nd rfl (by first | exact Or.inl rfl | exact Or.inr rfl) (d_call ((ok__law_bag T).mono (by decide)) mono__law_bag hr hgd (by rfl) T.g__law_bag T.F__law_bag.kp T.b__law_bag (takesN (takes_of rfl rfl rfl rfl)) (da_cons (d_var 0 (pv 0)) da_nil)) rfl)
(dss_cons (ds_for (passes_of rfl) rfl (di_range1 (by rfl) T.n_range (da_cons d_int da_nil)) (dg_name false (i := 2) (sc_law).nd rfl (by first | exact Or.inl rfl | exact Or.inr rfl) rfl)
 (dss_cons (ds_set (i := 3) false (sc_law).nd rfl (by first | exact Or.inl rfl | exact Or.inr rfl) (d_add4 d_int (d_call ((ok__law_take T).mono (by decide)) mono__law_take hr hgd (by rfl) T.g__law_take T.F__law_take.kp T.b__law_take (takesN (takes_of rfl rfl rfl rfl)) (da_late 1 (pv 1) (da_cons (d_call ((ok__law_one T).mono (by decide)) mono__law_one hr hgd (by rfl) T.g__law_one T.F__law_one.kp T.b__law_one (takesN (takes_of rfl rfl rfl rfl)) (da_late 1 (pv 1) (da_cons (d_lst (da_cons d_int (da_cons d_int (da_cons d_int da_nil)))) da_nil))) da_nil)))) rfl)
(dss_cons (ds_setLc (i := 4) (own := [("_law_k", 6)]) false rfl (sc_law).nd rfl rfl rfl (sw_true rfl rfl rfl (by decide +kernel)) (di_range1 (by rfl) T.n_range (da_cons (d_add4 d_int (d_call ((ok__law_take T).mono (by decide)) mono__law_take hr hgd (by rfl) T.g__law_take T.F__law_take.kp T.b__law_take (takesN (takes_of rfl rfl rfl rfl)) (da_late 1 (pv 1) (da_cons d_int da_nil)))) da_nil)) (blkOk_by (N := N_law) (sc := defScope s_law) (by decide +kernel)) (fun _ _ _ _ _ => (dg_name false (i := 6) (sc_law).nd rfl (by first | exact Or.inl rfl | exact Or.inr rfl) rfl)) (fun _ _ _ _ _ => dts_nil) (fun _ _ _ _ _ => (d_call ((ok__law_lines T).mono (by decide)) mono__law_lines hr hgd (by rfl) T.g__law_lines T.F__law_lines.kp T.b__law_lines DL.takes0 (da_late 1 (pv 1) (da_cons (d_var 3 (pv 3)) (da_cons d_int da_nil))))))
(dss_cons (ds_set (i := 5) true (sc_law).nd rfl (by first | exact Or.inl rfl | exact Or.inr rfl) (d_lst (da_cons (d_make ⟨⟨_, _, _, ((ok_Box_init T).mono (by decide)), T.mk_Box, T.b_Box_init⟩, mono_Box_init, hr, hgd, (by rfl), T.gC_Box, (takesN (takes_of rfl rfl rfl rfl))⟩ (da_cons (d_var 3 (pv 3)) da_nil)) (da_cons (d_make ⟨⟨_, _, _, ((ok_Box_init T).mono (by decide)), T.mk_Box, T.b_Box_init⟩, mono_Box_init, hr, hgd, (by rfl), T.gC_Box, (takesN (takes_of rfl rfl rfl rfl))⟩ (da_cons (d_var 3 (pv 3)) da_nil)) da_nil))) rfl)
(dss_cons (ds_if (dt_not (dt_truth (d_call (ok__law_taken_right T) mono__law_taken_right hr hgd (by rfl) T.g__law_taken_right T.F__law_taken_right.kp T.b__law_taken_right (takesN (takes_of rfl rfl rfl rfl)) (da_late 1 (pv 1) (da_late 5 (pv 5) (da_cons (d_var 4 (pv 4)) (da_cons (d_var 3 (pv 3)) da_nil)))))))
 (dss_one (ds_ret d_bl))
 dss_nil)
(dss_cons (ds_if (dt_bor (dt_ne hr.units (d_methV0 (ns0 := ns_Box) (d_ix (d_var 5 (pv 5)) d_int) ⟨⟨_, _, _, ((ok_Box_sheet T).mono (by decide)), T.m_Box_Box_sheet, T.b_Box_sheet⟩, T.cl_Box, mono_Box_sheet, hr, hgd, (takesN (takes_of rfl rfl rfl rfl))⟩ (by decide +kernel)) (d_call ((ok_joined T).mono (by decide)) mono_joined hr hgd (by rfl) T.g_joined T.F_joined.kp T.b_joined (takesN (takes_of rfl rfl rfl rfl)) (da_cons (d_lc (own := [("_law_lines_here", 7)]) rfl (sc_law).nd (di_seq (d_var 4 (pv 4))) (blkOk_by (N := N_law) (sc := defScope s_law) (by decide +kernel)) (fun _ _ _ _ _ => (dg_name false (i := 7) (sc_law).nd rfl (by first | exact Or.inl rfl | exact Or.inr rfl) rfl)) (fun _ _ _ _ _ => dts_nil) (fun _ _ _ _ _ => (d_call ((ok_sheet_of T).mono (by decide)) mono_sheet_of hr hgd (by rfl) T.g_sheet_of T.F_sheet_of.kp T.b_sheet_of DL.takes0 (da_cons (d_var 7 (pv 7)) da_nil)))) da_nil))))
 (dss_one (ds_ret d_bl))
 dss_nil)
(dss_one (ds_if ((dw_or (dt_not (dt_truth (d_callP 1 5 3 (by decide) ((ok__law_recounts_right T).mono (by decide)) mono__law_recounts_right hr hgd (by rfl) T.g__law_recounts_right T.F__law_recounts_right.kp T.b__law_recounts_right (takesN (takes_of rfl rfl rfl rfl)) (pv 1) (pp_ix (pp_var (pv 5)) pe_int) (pv 3)))) (dw_or1 (dt_bor (dt_ne hr.units (d_methV0 (ns0 := ns_Box) (d_ix (d_var 5 (pv 5)) d_int) ⟨⟨_, _, _, ((ok_Box_sheet T).mono (by decide)), T.m_Box_Box_sheet, T.b_Box_sheet⟩, T.cl_Box, mono_Box_sheet, hr, hgd, (takesN (takes_of rfl rfl rfl rfl))⟩ (by decide +kernel)) (d_methV0 (ns0 := ns_Box) (d_ix (d_var 5 (pv 5)) d_int) ⟨⟨_, _, _, ((ok_Box_sheet T).mono (by decide)), T.m_Box_Box_sheet, T.b_Box_sheet⟩, T.cl_Box, mono_Box_sheet, hr, hgd, (takesN (takes_of rfl rfl rfl rfl))⟩ (by decide +kernel))))))).dt
 (dss_one (ds_ret d_bl))
 dss_nil))))))))
(dss_one (ds_ret d_bl))))
end
theorem all_mk {l : PySem.W.OpenLaw} {w : World} {K : PySem.W.Frag} {h : Heap} {mg : Str → Option Value} {fa f0 f1 f2 f3 f4 f5 f6 f7 f8 f9 f10 f11 f12 f13 f14 f15 f16 f17 f18 f19 f20 f21 f22 f23 f24 f25 f26 f27 f28 f29 f30 f31 f32 f33 f34 f35 f36 f37 f38 f39 : Addr} (X : K.In h) (G : h.Ns mainGlobals mg) (hfa : mg "law" = some (.ref fa))
    {od0 an0 od1 an1 od2 an2 od3 an3 od4 an4 od5 an5 od6 an6 od7 an7 od8 an8 od9 an9 od10 an10 od11 an11 od12 an12 od13 an13 od14 an14 od15 an15 od16 an16 od17 an17 od18 an18 od19 an19 od20 an20 od21 an21 od22 an22 od23 an23 od24 an24 od25 an25 od26 an26 od27 an27 od28 an28 od29 an29 od30 an30 od31 an31 od32 an32 od33 an33 od34 an34 od35 an35 od36 an36 od37 an37 od38 an38 od39 an39 : Option Addr} {sl0 sl1 sl2 sl3 sl4 sl5 sl6 sl7 sl8 sl9 sl10 sl11 sl12 sl13 sl14 sl15 sl16 sl17 sl18 sl19 sl20 sl21 sl22 sl23 sl24 sl25 sl26 sl27 sl28 sl29 sl30 sl31 sl32 sl33 sl34 sl35 sl36 sl37 sl38 sl39 : Array (Option Value)} {oc0 kV0 dc0 pm0 cd0 ct0 oc1 kV1 dc1 pm1 cd1 ct1 oc2 kV2 dc2 pm2 cd2 ct2 oc3 kV3 dc3 pm3 cd3 ct3 oc4 kV4 dc4 pm4 cd4 ct4 oc5 kV5 dc5 pm5 cd5 ct5 oc6 kV6 dc6 pm6 cd6 ct6 oc7 kV7 dc7 pm7 cd7 ct7 oc8 kV8 dc8 pm8 cd8 ct8 oc9 kV9 dc9 pm9 cd9 ct9 oc10 kV10 dc10 pm10 cd10 ct10 oc11 kV11 dc11 pm11 cd11 ct11 oc12 kV12 dc12 pm12 cd12 ct12 oc13 kV13 dc13 pm13 cd13 ct13 oc14 kV14 dc14 pm14 cd14 ct14 oc15 kV15 dc15 pm15 cd15 ct15 oc16 kV16 dc16 pm16 cd16 ct16 oc17 kV17 dc17 pm17 cd17 ct17 oc18 kV18 dc18 pm18 cd18 ct18 oc19 kV19 dc19 pm19 cd19 ct19 oc20 kV20 dc20 pm20 cd20 ct20 oc21 kV21 dc21 pm21 cd21 ct21 oc22 kV22 dc22 pm22 cd22 ct22 oc23 kV23 dc23 pm23 cd23 ct23 oc24 kV24 dc24 pm24 cd24 ct24 oc25 kV25 dc25 pm25 cd25 ct25 oc26 kV26 dc26 pm26 cd26 ct26 oc27 kV27 dc27 pm27 cd27 ct27 oc28 kV28 dc28 pm28 cd28 ct28 oc29 kV29 dc29 pm29 cd29 ct29 oc30 kV30 dc30 pm30 cd30 ct30 oc31 kV31 dc31 pm31 cd31 ct31 oc32 kV32 dc32 pm32 cd32 ct32 oc33 kV33 dc33 pm33 cd33 ct33 oc34 kV34 dc34 pm34 cd34 ct34 oc35 kV35 dc35 pm35 cd35 ct35 oc36 kV36 dc36 pm36 cd36 ct36 oc37 kV37 dc37 pm37 cd37 ct37 oc38 kV38 dc38 pm38 cd38 ct38 oc39 kV39 dc39 pm39 cd39 ct39 : Value}
    {kc0 : Addr}
    {u_MOST_ballots : Tok} {u_BASE : Tok} {u_MOST_codes : Tok} {u_MOST_sheets : Tok} {u_MOST_HANDS : Tok}
    {c0_ c2_ c3_ c5_ c6_ c8_ c7_ : Addr}
    (aC0 : PySem.W.nsIn K mainGlobals "Box" = some (some (.ref kc0)))
    (pg0 : PySem.W.plainGet K kc0 Str.empty = true)
    (hd0 : PySem.W.hasDictIn K kc0 = true)
    (po0 : PySem.W.plainOver K kc0 = true)
    (sa0 : PySem.W.findIn K (.ref kc0) "__setattr__" = some (some (.builtin "object.__setattr__")))
    (mk0 : PySem.W.makesIn K kc0 = true)
    (kk0 : PySem.W.keepIn K (.ref kc0) = true)
    (nA0_0 : PySem.W.findIn K (.ref kc0) "hands" = some none)
    (nA0_1 : PySem.W.findIn K (.ref kc0) "bundles" = some none)
    (a0 : PySem.W.nsIn K mainGlobals "holds" = some (some (.ref f0))) (l0 : K.lookup f0 = some ⟨oc0, od0, .func (PySem.W.fnOf "holds" "holds" (defArgs s_holds) (defBody s_holds) (defScope s_holds) .none kV0 dc0 pm0 an0 cd0 ct0), sl0⟩) (c0 : PySem.W.codeIn K cd0 "holds" = true) (k0 : PySem.W.keepIn K (.ref f0) = true)
    (a1 : PySem.W.nsIn K mainGlobals "with_one" = some (some (.ref f1))) (l1 : K.lookup f1 = some ⟨oc1, od1, .func (PySem.W.fnOf "with_one" "with_one" (defArgs s_with_one) (defBody s_with_one) (defScope s_with_one) .none kV1 dc1 pm1 an1 cd1 ct1), sl1⟩) (c1 : PySem.W.codeIn K cd1 "with_one" = true) (k1 : PySem.W.keepIn K (.ref f1) = true)
    (a2 : PySem.W.nsIn K mainGlobals "is_whole" = some (some (.ref f2))) (l2 : K.lookup f2 = some ⟨oc2, od2, .func (PySem.W.fnOf "is_whole" "is_whole" (defArgs s_is_whole) (defBody s_is_whole) (defScope s_is_whole) .none kV2 dc2 pm2 an2 cd2 ct2), sl2⟩) (c2 : PySem.W.codeIn K cd2 "is_whole" = true) (k2 : PySem.W.keepIn K (.ref f2) = true)
    (a3 : PySem.W.nsIn K mainGlobals "slip_of" = some (some (.ref f3))) (l3 : K.lookup f3 = some ⟨oc3, od3, .func (PySem.W.fnOf "slip_of" "slip_of" (defArgs s_slip_of) (defBody s_slip_of) (defScope s_slip_of) .none kV3 dc3 pm3 an3 cd3 ct3), sl3⟩) (c3 : PySem.W.codeIn K cd3 "slip_of" = true) (k3 : PySem.W.keepIn K (.ref f3) = true)
    (a4 : PySem.W.nsIn K mainGlobals "ranks_of" = some (some (.ref f4))) (l4 : K.lookup f4 = some ⟨oc4, od4, .func (PySem.W.fnOf "ranks_of" "ranks_of" (defArgs s_ranks_of) (defBody s_ranks_of) (defScope s_ranks_of) .none kV4 dc4 pm4 an4 cd4 ct4), sl4⟩) (c4 : PySem.W.codeIn K cd4 "ranks_of" = true) (k4 : PySem.W.keepIn K (.ref f4) = true)
    (a5 : PySem.W.nsIn K mainGlobals "code_of" = some (some (.ref f5))) (l5 : K.lookup f5 = some ⟨oc5, od5, .func (PySem.W.fnOf "code_of" "code_of" (defArgs s_code_of) (defBody s_code_of) (defScope s_code_of) .none kV5 dc5 pm5 an5 cd5 ct5), sl5⟩) (c5 : PySem.W.codeIn K cd5 "code_of" = true) (k5 : PySem.W.keepIn K (.ref f5) = true)
    (a6 : PySem.W.nsIn K mainGlobals "line_of" = some (some (.ref f6))) (l6 : K.lookup f6 = some ⟨oc6, od6, .func (PySem.W.fnOf "line_of" "line_of" (defArgs s_line_of) (defBody s_line_of) (defScope s_line_of) .none kV6 dc6 pm6 an6 cd6 ct6), sl6⟩) (c6 : PySem.W.codeIn K cd6 "line_of" = true) (k6 : PySem.W.keepIn K (.ref f6) = true)
    (a7 : PySem.W.nsIn K mainGlobals "seal_of" = some (some (.ref f7))) (l7 : K.lookup f7 = some ⟨oc7, od7, .func (PySem.W.fnOf "seal_of" "seal_of" (defArgs s_seal_of) (defBody s_seal_of) (defScope s_seal_of) .none kV7 dc7 pm7 an7 cd7 ct7), sl7⟩) (c7 : PySem.W.codeIn K cd7 "seal_of" = true) (k7 : PySem.W.keepIn K (.ref f7) = true)
    (a8 : PySem.W.nsIn K mainGlobals "mended" = some (some (.ref f8))) (l8 : K.lookup f8 = some ⟨oc8, od8, .func (PySem.W.fnOf "mended" "mended" (defArgs s_mended) (defBody s_mended) (defScope s_mended) .none kV8 dc8 pm8 an8 cd8 ct8), sl8⟩) (c8 : PySem.W.codeIn K cd8 "mended" = true) (k8 : PySem.W.keepIn K (.ref f8) = true)
    (a9 : PySem.W.nsIn K mainGlobals "put_together" = some (some (.ref f9))) (l9 : K.lookup f9 = some ⟨oc9, od9, .func (PySem.W.fnOf "put_together" "put_together" (defArgs s_put_together) (defBody s_put_together) (defScope s_put_together) .none kV9 dc9 pm9 an9 cd9 ct9), sl9⟩) (c9 : PySem.W.codeIn K cd9 "put_together" = true) (k9 : PySem.W.keepIn K (.ref f9) = true)
    (a10 : PySem.W.nsIn K mainGlobals "sheet_of" = some (some (.ref f10))) (l10 : K.lookup f10 = some ⟨oc10, od10, .func (PySem.W.fnOf "sheet_of" "sheet_of" (defArgs s_sheet_of) (defBody s_sheet_of) (defScope s_sheet_of) .none kV10 dc10 pm10 an10 cd10 ct10), sl10⟩) (c10 : PySem.W.codeIn K cd10 "sheet_of" = true) (k10 : PySem.W.keepIn K (.ref f10) = true)
    (a11 : PySem.W.nsIn K mainGlobals "joined" = some (some (.ref f11))) (l11 : K.lookup f11 = some ⟨oc11, od11, .func (PySem.W.fnOf "joined" "joined" (defArgs s_joined) (defBody s_joined) (defScope s_joined) .none kV11 dc11 pm11 an11 cd11 ct11), sl11⟩) (c11 : PySem.W.codeIn K cd11 "joined" = true) (k11 : PySem.W.keepIn K (.ref f11) = true)
    (a12 : PySem.W.nsIn K mainGlobals "ballots_in" = some (some (.ref f12))) (l12 : K.lookup f12 = some ⟨oc12, od12, .func (PySem.W.fnOf "ballots_in" "ballots_in" (defArgs s_ballots_in) (defBody s_ballots_in) (defScope s_ballots_in) .none kV12 dc12 pm12 an12 cd12 ct12), sl12⟩) (c12 : PySem.W.codeIn K cd12 "ballots_in" = true) (k12 : PySem.W.keepIn K (.ref f12) = true)
    (a13 : PySem.W.nsIn K mainGlobals "number_of" = some (some (.ref f13))) (l13 : K.lookup f13 = some ⟨oc13, od13, .func (PySem.W.fnOf "number_of" "number_of" (defArgs s_number_of) (defBody s_number_of) (defScope s_number_of) .none kV13 dc13 pm13 an13 cd13 ct13), sl13⟩) (c13 : PySem.W.codeIn K cd13 "number_of" = true) (k13 : PySem.W.keepIn K (.ref f13) = true)
    (a14 : PySem.W.nsIn K mainGlobals "apart" = some (some (.ref f14))) (l14 : K.lookup f14 = some ⟨oc14, od14, .func (PySem.W.fnOf "apart" "apart" (defArgs s_apart) (defBody s_apart) (defScope s_apart) .none kV14 dc14 pm14 an14 cd14 ct14), sl14⟩) (c14 : PySem.W.codeIn K cd14 "apart" = true) (k14 : PySem.W.keepIn K (.ref f14) = true)
    (a15_0 : PySem.W.findIn K (.ref kc0) "__init__" = some (some (.ref f15)))
    (i15 : PySem.W.isFn K (.ref f15) = true) (l15 : K.lookup f15 = some ⟨oc15, od15, .func (PySem.W.fnOf "__init__" "Box.__init__" (defArgs s_Box_init) (defBody s_Box_init) (defScope s_Box_init) .none kV15 dc15 pm15 an15 cd15 ct15), sl15⟩) (c15 : PySem.W.codeIn K cd15 "Box.__init__" = true) (k15 : PySem.W.keepIn K (.ref f15) = true)
    (a16_0 : PySem.W.findIn K (.ref kc0) "many" = some (some (.ref f16)))
    (i16 : PySem.W.isFn K (.ref f16) = true) (l16 : K.lookup f16 = some ⟨oc16, od16, .func (PySem.W.fnOf "many" "Box.many" (defArgs s_Box_many) (defBody s_Box_many) (defScope s_Box_many) .none kV16 dc16 pm16 an16 cd16 ct16), sl16⟩) (c16 : PySem.W.codeIn K cd16 "Box.many" = true) (k16 : PySem.W.keepIn K (.ref f16) = true)
    (a17_0 : PySem.W.findIn K (.ref kc0) "lying" = some (some (.ref f17)))
    (i17 : PySem.W.isFn K (.ref f17) = true) (l17 : K.lookup f17 = some ⟨oc17, od17, .func (PySem.W.fnOf "lying" "Box.lying" (defArgs s_Box_lying) (defBody s_Box_lying) (defScope s_Box_lying) .none kV17 dc17 pm17 an17 cd17 ct17), sl17⟩) (c17 : PySem.W.codeIn K cd17 "Box.lying" = true) (k17 : PySem.W.keepIn K (.ref f17) = true)
    (a18_0 : PySem.W.findIn K (.ref kc0) "take" = some (some (.ref f18)))
    (i18 : PySem.W.isFn K (.ref f18) = true) (l18 : K.lookup f18 = some ⟨oc18, od18, .func (PySem.W.fnOf "take" "Box.take" (defArgs s_Box_take) (defBody s_Box_take) (defScope s_Box_take) .none kV18 dc18 pm18 an18 cd18 ct18), sl18⟩) (c18 : PySem.W.codeIn K cd18 "Box.take" = true) (k18 : PySem.W.keepIn K (.ref f18) = true)
    (a19_0 : PySem.W.findIn K (.ref kc0) "lines_at" = some (some (.ref f19)))
    (i19 : PySem.W.isFn K (.ref f19) = true) (l19 : K.lookup f19 = some ⟨oc19, od19, .func (PySem.W.fnOf "lines_at" "Box.lines_at" (defArgs s_Box_lines_at) (defBody s_Box_lines_at) (defScope s_Box_lines_at) .none kV19 dc19 pm19 an19 cd19 ct19), sl19⟩) (c19 : PySem.W.codeIn K cd19 "Box.lines_at" = true) (k19 : PySem.W.keepIn K (.ref f19) = true)
    (a20_0 : PySem.W.findIn K (.ref kc0) "sheet_at" = some (some (.ref f20)))
    (i20 : PySem.W.isFn K (.ref f20) = true) (l20 : K.lookup f20 = some ⟨oc20, od20, .func (PySem.W.fnOf "sheet_at" "Box.sheet_at" (defArgs s_Box_sheet_at) (defBody s_Box_sheet_at) (defScope s_Box_sheet_at) .none kV20 dc20 pm20 an20 cd20 ct20), sl20⟩) (c20 : PySem.W.codeIn K cd20 "Box.sheet_at" = true) (k20 : PySem.W.keepIn K (.ref f20) = true)
    (a21_0 : PySem.W.findIn K (.ref kc0) "seal_at" = some (some (.ref f21)))
    (i21 : PySem.W.isFn K (.ref f21) = true) (l21 : K.lookup f21 = some ⟨oc21, od21, .func (PySem.W.fnOf "seal_at" "Box.seal_at" (defArgs s_Box_seal_at) (defBody s_Box_seal_at) (defScope s_Box_seal_at) .none kV21 dc21 pm21 an21 cd21 ct21), sl21⟩) (c21 : PySem.W.codeIn K cd21 "Box.seal_at" = true) (k21 : PySem.W.keepIn K (.ref f21) = true)
    (a22_0 : PySem.W.findIn K (.ref kc0) "sheet" = some (some (.ref f22)))
    (i22 : PySem.W.isFn K (.ref f22) = true) (l22 : K.lookup f22 = some ⟨oc22, od22, .func (PySem.W.fnOf "sheet" "Box.sheet" (defArgs s_Box_sheet) (defBody s_Box_sheet) (defScope s_Box_sheet) .none kV22 dc22 pm22 an22 cd22 ct22), sl22⟩) (c22 : PySem.W.codeIn K cd22 "Box.sheet" = true) (k22 : PySem.W.keepIn K (.ref f22) = true)
    (a23_0 : PySem.W.findIn K (.ref kc0) "put_right" = some (some (.ref f23)))
    (i23 : PySem.W.isFn K (.ref f23) = true) (l23 : K.lookup f23 = some ⟨oc23, od23, .func (PySem.W.fnOf "put_right" "Box.put_right" (defArgs s_Box_put_right) (defBody s_Box_put_right) (defScope s_Box_put_right) .none kV23 dc23 pm23 an23 cd23 ct23), sl23⟩) (c23 : PySem.W.codeIn K cd23 "Box.put_right" = true) (k23 : PySem.W.keepIn K (.ref f23) = true)
    (a24 : PySem.W.nsIn K mainGlobals "_law_bag" = some (some (.ref f24))) (l24 : K.lookup f24 = some ⟨oc24, od24, .func (PySem.W.fnOf "_law_bag" "_law_bag" (defArgs s__law_bag) (defBody s__law_bag) (defScope s__law_bag) .none kV24 dc24 pm24 an24 cd24 ct24), sl24⟩) (c24 : PySem.W.codeIn K cd24 "_law_bag" = true) (k24 : PySem.W.keepIn K (.ref f24) = true)
    (a25 : PySem.W.nsIn K mainGlobals "_law_take" = some (some (.ref f25))) (l25 : K.lookup f25 = some ⟨oc25, od25, .func (PySem.W.fnOf "_law_take" "_law_take" (defArgs s__law_take) (defBody s__law_take) (defScope s__law_take) .none kV25 dc25 pm25 an25 cd25 ct25), sl25⟩) (c25 : PySem.W.codeIn K cd25 "_law_take" = true) (k25 : PySem.W.keepIn K (.ref f25) = true)
    (a26 : PySem.W.nsIn K mainGlobals "_law_alike" = some (some (.ref f26))) (l26 : K.lookup f26 = some ⟨oc26, od26, .func (PySem.W.fnOf "_law_alike" "_law_alike" (defArgs s__law_alike) (defBody s__law_alike) (defScope s__law_alike) .none kV26 dc26 pm26 an26 cd26 ct26), sl26⟩) (c26 : PySem.W.codeIn K cd26 "_law_alike" = true) (k26 : PySem.W.keepIn K (.ref f26) = true)
    (a27 : PySem.W.nsIn K mainGlobals "_law_one" = some (some (.ref f27))) (l27 : K.lookup f27 = some ⟨oc27, od27, .func (PySem.W.fnOf "_law_one" "_law_one" (defArgs s__law_one) (defBody s__law_one) (defScope s__law_one) .none kV27 dc27 pm27 an27 cd27 ct27), sl27⟩) (c27 : PySem.W.codeIn K cd27 "_law_one" = true) (k27 : PySem.W.keepIn K (.ref f27) = true)
    (a28 : PySem.W.nsIn K mainGlobals "_law_mixed" = some (some (.ref f28))) (l28 : K.lookup f28 = some ⟨oc28, od28, .func (PySem.W.fnOf "_law_mixed" "_law_mixed" (defArgs s__law_mixed) (defBody s__law_mixed) (defScope s__law_mixed) .none kV28 dc28 pm28 an28 cd28 ct28), sl28⟩) (c28 : PySem.W.codeIn K cd28 "_law_mixed" = true) (k28 : PySem.W.keepIn K (.ref f28) = true)
    (a29 : PySem.W.nsIn K mainGlobals "_law_ranks" = some (some (.ref f29))) (l29 : K.lookup f29 = some ⟨oc29, od29, .func (PySem.W.fnOf "_law_ranks" "_law_ranks" (defArgs s__law_ranks) (defBody s__law_ranks) (defScope s__law_ranks) .none kV29 dc29 pm29 an29 cd29 ct29), sl29⟩) (c29 : PySem.W.codeIn K cd29 "_law_ranks" = true) (k29 : PySem.W.keepIn K (.ref f29) = true)
    (a30 : PySem.W.nsIn K mainGlobals "_law_tiers" = some (some (.ref f30))) (l30 : K.lookup f30 = some ⟨oc30, od30, .func (PySem.W.fnOf "_law_tiers" "_law_tiers" (defArgs s__law_tiers) (defBody s__law_tiers) (defScope s__law_tiers) .none kV30 dc30 pm30 an30 cd30 ct30), sl30⟩) (c30 : PySem.W.codeIn K cd30 "_law_tiers" = true) (k30 : PySem.W.keepIn K (.ref f30) = true)
    (a31 : PySem.W.nsIn K mainGlobals "_law_bit" = some (some (.ref f31))) (l31 : K.lookup f31 = some ⟨oc31, od31, .func (PySem.W.fnOf "_law_bit" "_law_bit" (defArgs s__law_bit) (defBody s__law_bit) (defScope s__law_bit) .none kV31 dc31 pm31 an31 cd31 ct31), sl31⟩) (c31 : PySem.W.codeIn K cd31 "_law_bit" = true) (k31 : PySem.W.keepIn K (.ref f31) = true)
    (a32 : PySem.W.nsIn K mainGlobals "_law_slip" = some (some (.ref f32))) (l32 : K.lookup f32 = some ⟨oc32, od32, .func (PySem.W.fnOf "_law_slip" "_law_slip" (defArgs s__law_slip) (defBody s__law_slip) (defScope s__law_slip) .none kV32 dc32 pm32 an32 cd32 ct32), sl32⟩) (c32 : PySem.W.codeIn K cd32 "_law_slip" = true) (k32 : PySem.W.keepIn K (.ref f32) = true)
    (a33 : PySem.W.nsIn K mainGlobals "_law_ballots" = some (some (.ref f33))) (l33 : K.lookup f33 = some ⟨oc33, od33, .func (PySem.W.fnOf "_law_ballots" "_law_ballots" (defArgs s__law_ballots) (defBody s__law_ballots) (defScope s__law_ballots) .none kV33 dc33 pm33 an33 cd33 ct33), sl33⟩) (c33 : PySem.W.codeIn K cd33 "_law_ballots" = true) (k33 : PySem.W.keepIn K (.ref f33) = true)
    (a34 : PySem.W.nsIn K mainGlobals "_law_lines" = some (some (.ref f34))) (l34 : K.lookup f34 = some ⟨oc34, od34, .func (PySem.W.fnOf "_law_lines" "_law_lines" (defArgs s__law_lines) (defBody s__law_lines) (defScope s__law_lines) .none kV34 dc34 pm34 an34 cd34 ct34), sl34⟩) (c34 : PySem.W.codeIn K cd34 "_law_lines" = true) (k34 : PySem.W.keepIn K (.ref f34) = true)
    (a35 : PySem.W.nsIn K mainGlobals "_law_altered" = some (some (.ref f35))) (l35 : K.lookup f35 = some ⟨oc35, od35, .func (PySem.W.fnOf "_law_altered" "_law_altered" (defArgs s__law_altered) (defBody s__law_altered) (defScope s__law_altered) .none kV35 dc35 pm35 an35 cd35 ct35), sl35⟩) (c35 : PySem.W.codeIn K cd35 "_law_altered" = true) (k35 : PySem.W.keepIn K (.ref f35) = true)
    (a36 : PySem.W.nsIn K mainGlobals "_law_is_torn" = some (some (.ref f36))) (l36 : K.lookup f36 = some ⟨oc36, od36, .func (PySem.W.fnOf "_law_is_torn" "_law_is_torn" (defArgs s__law_is_torn) (defBody s__law_is_torn) (defScope s__law_is_torn) .none kV36 dc36 pm36 an36 cd36 ct36), sl36⟩) (c36 : PySem.W.codeIn K cd36 "_law_is_torn" = true) (k36 : PySem.W.keepIn K (.ref f36) = true)
    (a37 : PySem.W.nsIn K mainGlobals "_law_taken_right" = some (some (.ref f37))) (l37 : K.lookup f37 = some ⟨oc37, od37, .func (PySem.W.fnOf "_law_taken_right" "_law_taken_right" (defArgs s__law_taken_right) (defBody s__law_taken_right) (defScope s__law_taken_right) .none kV37 dc37 pm37 an37 cd37 ct37), sl37⟩) (c37 : PySem.W.codeIn K cd37 "_law_taken_right" = true) (k37 : PySem.W.keepIn K (.ref f37) = true)
    (a38 : PySem.W.nsIn K mainGlobals "_law_recounts_right" = some (some (.ref f38))) (l38 : K.lookup f38 = some ⟨oc38, od38, .func (PySem.W.fnOf "_law_recounts_right" "_law_recounts_right" (defArgs s__law_recounts_right) (defBody s__law_recounts_right) (defScope s__law_recounts_right) .none kV38 dc38 pm38 an38 cd38 ct38), sl38⟩) (c38 : PySem.W.codeIn K cd38 "_law_recounts_right" = true) (k38 : PySem.W.keepIn K (.ref f38) = true)
    (a39 : PySem.W.nsIn K mainGlobals "law" = some (some (.ref f39))) (l39 : K.lookup f39 = some ⟨oc39, od39, .func (PySem.W.fnOf "law" "law" (defArgs s_law) (defBody s_law) (defScope s_law) .none kV39 dc39 pm39 an39 cd39 ct39), sl39⟩) (c39 : PySem.W.codeIn K cd39 "law" = true) (k39 : PySem.W.keepIn K (.ref f39) = true)
    (z_abs : PySem.W.nsIn K mainGlobals "abs" = some none)
    (z_bool : PySem.W.nsIn K mainGlobals "bool" = some none)
    (z_divmod : PySem.W.nsIn K mainGlobals "divmod" = some none)
    (z_enumerate : PySem.W.nsIn K mainGlobals "enumerate" = some none)
    (z_int : PySem.W.nsIn K mainGlobals "int" = some none)
    (z_isinstance : PySem.W.nsIn K mainGlobals "isinstance" = some none)
    (z_len : PySem.W.nsIn K mainGlobals "len" = some none)
    (z_list : PySem.W.nsIn K mainGlobals "list" = some none)
    (z_max : PySem.W.nsIn K mainGlobals "max" = some none)
    (z_range : PySem.W.nsIn K mainGlobals "range" = some none)
    (z_repr : PySem.W.nsIn K mainGlobals "repr" = some none)
    (z_set : PySem.W.nsIn K mainGlobals "set" = some none)
    (z_sorted : PySem.W.nsIn K mainGlobals "sorted" = some none)
    (z_sum : PySem.W.nsIn K mainGlobals "sum" = some none)
    (z_tuple : PySem.W.nsIn K mainGlobals "tuple" = some none)
    (y_MOST_ballots : PySem.W.nsIn K mainGlobals "MOST_ballots" = some (some (Value.int 1000000000 u_MOST_ballots)))
    (y_BASE : PySem.W.nsIn K mainGlobals "BASE" = some (some (Value.int 13 u_BASE)))
    (y_MOST_codes : PySem.W.nsIn K mainGlobals "MOST_codes" = some (some (Value.int 1000000000 u_MOST_codes)))
    (y_MOST_sheets : PySem.W.nsIn K mainGlobals "MOST_sheets" = some (some (Value.int 1000000000 u_MOST_sheets)))
    (y_MOST_HANDS : PySem.W.nsIn K mainGlobals "MOST_HANDS" = some (some (Value.int 12 u_MOST_HANDS)))
    (sn0 : PySem.W.specialIn K (.builtin "object.__class__") "__get__" = some (some (.builtin "getset_descriptor.__get__")))
    (tk0 : PySem.W.takesIn K (.builtin "object.__class__") = some true)
    (zc1 : PySem.W.nsIn K mainGlobals "NoNumber" = some none)
    (zc4 : PySem.W.nsIn K mainGlobals "NoChange" = some none)
    (zc9 : PySem.W.nsIn K mainGlobals "NoRoll" = some none)
    (zc10 : PySem.W.nsIn K mainGlobals "NoTelling" = some none)
    (zc11 : PySem.W.nsIn K mainGlobals "NoEnvelope" = some none)
    (zc12 : PySem.W.nsIn K mainGlobals "NoLand" = some none)
    (zc13 : PySem.W.nsIn K mainGlobals "TooMany" = some none)
    (zc14 : PySem.W.nsIn K mainGlobals "NoPoll" = some none)
    (zc15 : PySem.W.nsIn K mainGlobals "NoDeed" = some none)
    (zc16 : PySem.W.nsIn K mainGlobals "Ended" = some none)
    (zc17 : PySem.W.nsIn K mainGlobals "Nothing" = some none)
    (zc18 : PySem.W.nsIn K mainGlobals "NoText" = some none)
    (zc19 : PySem.W.nsIn K mainGlobals "NoRow" = some none)
    (cac0_ : PySem.W.nsIn K mainGlobals "PollError" = some (some (.ref c0_)))
    (cqc0_ : PySem.W.excIn K c0_ [.type "ValueError", .type "Exception", .type "BaseException", .type "object"] "ValueError.__new__" = true)
    (ckc0_ : PySem.W.keepIn K (.ref c0_) = true)
    (cec0_ : PySem.W.subIn K (.ref c0_) (.type "BaseException") = some true)
    (ctc0_ : PySem.W.typeIn K (.ref c0_) = some (.type "type"))
    (chc0_ : PySem.W.hasDictIn K c0_ = true)
    (cgc0_ : PySem.W.findIn K (.ref c0_) "__getattribute__" = some (some (.builtin "BaseException.__getattribute__")))
    (crc0_ : PySem.W.findIn K (.ref c0_) "__getattr__" = some none)
    (ccc0_ : PySem.W.findIn K (.ref c0_) "__class__" = some (some (.builtin "object.__class__")))
    (cmc0_ : PySem.W.mroIn K c0_ (.type "object") = some true)
    (csc0_int : PySem.W.subIn K (.ref c0_) (.type "int") = some false)
    (csc0_bool : PySem.W.subIn K (.ref c0_) (.type "bool") = some false)
    (csc0_str : PySem.W.subIn K (.ref c0_) (.type "str") = some false)
    (csc0_list : PySem.W.subIn K (.ref c0_) (.type "list") = some false)
    (csc0_tuple : PySem.W.subIn K (.ref c0_) (.type "tuple") = some false)
    (csc0_dict : PySem.W.subIn K (.ref c0_) (.type "dict") = some false)
    (cxc0_c0_ : PySem.W.subIn K (.ref c0_) (.ref c0_) = some true)
    (cxc0_c5_ : PySem.W.subIn K (.ref c0_) (.ref c5_) = some false)
    (cac2_ : PySem.W.nsIn K mainGlobals "NoBallot" = some (some (.ref c2_)))
    (cqc2_ : PySem.W.excIn K c2_ [.type "ValueError", .type "Exception", .type "BaseException", .type "object"] "ValueError.__new__" = true)
    (ckc2_ : PySem.W.keepIn K (.ref c2_) = true)
    (cec2_ : PySem.W.subIn K (.ref c2_) (.type "BaseException") = some true)
    (ctc2_ : PySem.W.typeIn K (.ref c2_) = some (.type "type"))
    (chc2_ : PySem.W.hasDictIn K c2_ = true)
    (cgc2_ : PySem.W.findIn K (.ref c2_) "__getattribute__" = some (some (.builtin "BaseException.__getattribute__")))
    (crc2_ : PySem.W.findIn K (.ref c2_) "__getattr__" = some none)
    (ccc2_ : PySem.W.findIn K (.ref c2_) "__class__" = some (some (.builtin "object.__class__")))
    (cmc2_ : PySem.W.mroIn K c2_ (.type "object") = some true)
    (csc2_int : PySem.W.subIn K (.ref c2_) (.type "int") = some false)
    (csc2_bool : PySem.W.subIn K (.ref c2_) (.type "bool") = some false)
    (csc2_str : PySem.W.subIn K (.ref c2_) (.type "str") = some false)
    (csc2_list : PySem.W.subIn K (.ref c2_) (.type "list") = some false)
    (csc2_tuple : PySem.W.subIn K (.ref c2_) (.type "tuple") = some false)
    (csc2_dict : PySem.W.subIn K (.ref c2_) (.type "dict") = some false)
    (cxc2_c0_ : PySem.W.subIn K (.ref c2_) (.ref c0_) = some true)
    (cxc2_c5_ : PySem.W.subIn K (.ref c2_) (.ref c5_) = some false)
    (cac3_ : PySem.W.nsIn K mainGlobals "NoSheet" = some (some (.ref c3_)))
    (cqc3_ : PySem.W.excIn K c3_ [.type "ValueError", .type "Exception", .type "BaseException", .type "object"] "ValueError.__new__" = true)
    (ckc3_ : PySem.W.keepIn K (.ref c3_) = true)
    (cec3_ : PySem.W.subIn K (.ref c3_) (.type "BaseException") = some true)
    (ctc3_ : PySem.W.typeIn K (.ref c3_) = some (.type "type"))
    (chc3_ : PySem.W.hasDictIn K c3_ = true)
    (cgc3_ : PySem.W.findIn K (.ref c3_) "__getattribute__" = some (some (.builtin "BaseException.__getattribute__")))
    (crc3_ : PySem.W.findIn K (.ref c3_) "__getattr__" = some none)
    (ccc3_ : PySem.W.findIn K (.ref c3_) "__class__" = some (some (.builtin "object.__class__")))
    (cmc3_ : PySem.W.mroIn K c3_ (.type "object") = some true)
    (csc3_int : PySem.W.subIn K (.ref c3_) (.type "int") = some false)
    (csc3_bool : PySem.W.subIn K (.ref c3_) (.type "bool") = some false)
    (csc3_str : PySem.W.subIn K (.ref c3_) (.type "str") = some false)
    (csc3_list : PySem.W.subIn K (.ref c3_) (.type "list") = some false)
    (csc3_tuple : PySem.W.subIn K (.ref c3_) (.type "tuple") = some false)
    (csc3_dict : PySem.W.subIn K (.ref c3_) (.type "dict") = some false)
    (cxc3_c0_ : PySem.W.subIn K (.ref c3_) (.ref c0_) = some true)
    (cxc3_c5_ : PySem.W.subIn K (.ref c3_) (.ref c5_) = some false)
    (cac5_ : PySem.W.nsIn K mainGlobals "Torn" = some (some (.ref c5_)))
    (cqc5_ : PySem.W.excIn K c5_ [.type "ValueError", .type "Exception", .type "BaseException", .type "object"] "ValueError.__new__" = true)
    (ckc5_ : PySem.W.keepIn K (.ref c5_) = true)
    (cec5_ : PySem.W.subIn K (.ref c5_) (.type "BaseException") = some true)
    (ctc5_ : PySem.W.typeIn K (.ref c5_) = some (.type "type"))
    (chc5_ : PySem.W.hasDictIn K c5_ = true)
    (cgc5_ : PySem.W.findIn K (.ref c5_) "__getattribute__" = some (some (.builtin "BaseException.__getattribute__")))
    (crc5_ : PySem.W.findIn K (.ref c5_) "__getattr__" = some none)
    (ccc5_ : PySem.W.findIn K (.ref c5_) "__class__" = some (some (.builtin "object.__class__")))
    (cmc5_ : PySem.W.mroIn K c5_ (.type "object") = some true)
    (csc5_int : PySem.W.subIn K (.ref c5_) (.type "int") = some false)
    (csc5_bool : PySem.W.subIn K (.ref c5_) (.type "bool") = some false)
    (csc5_str : PySem.W.subIn K (.ref c5_) (.type "str") = some false)
    (csc5_list : PySem.W.subIn K (.ref c5_) (.type "list") = some false)
    (csc5_tuple : PySem.W.subIn K (.ref c5_) (.type "tuple") = some false)
    (csc5_dict : PySem.W.subIn K (.ref c5_) (.type "dict") = some false)
    (cxc5_c0_ : PySem.W.subIn K (.ref c5_) (.ref c0_) = some true)
    (cxc5_c5_ : PySem.W.subIn K (.ref c5_) (.ref c5_) = some true)
    (cac6_ : PySem.W.nsIn K mainGlobals "NoBundle" = some (some (.ref c6_)))
    (cqc6_ : PySem.W.excIn K c6_ [.type "ValueError", .type "Exception", .type "BaseException", .type "object"] "ValueError.__new__" = true)
    (ckc6_ : PySem.W.keepIn K (.ref c6_) = true)
    (cec6_ : PySem.W.subIn K (.ref c6_) (.type "BaseException") = some true)
    (ctc6_ : PySem.W.typeIn K (.ref c6_) = some (.type "type"))
    (chc6_ : PySem.W.hasDictIn K c6_ = true)
    (cgc6_ : PySem.W.findIn K (.ref c6_) "__getattribute__" = some (some (.builtin "BaseException.__getattribute__")))
    (crc6_ : PySem.W.findIn K (.ref c6_) "__getattr__" = some none)
    (ccc6_ : PySem.W.findIn K (.ref c6_) "__class__" = some (some (.builtin "object.__class__")))
    (cmc6_ : PySem.W.mroIn K c6_ (.type "object") = some true)
    (csc6_int : PySem.W.subIn K (.ref c6_) (.type "int") = some false)
    (csc6_bool : PySem.W.subIn K (.ref c6_) (.type "bool") = some false)
    (csc6_str : PySem.W.subIn K (.ref c6_) (.type "str") = some false)
    (csc6_list : PySem.W.subIn K (.ref c6_) (.type "list") = some false)
    (csc6_tuple : PySem.W.subIn K (.ref c6_) (.type "tuple") = some false)
    (csc6_dict : PySem.W.subIn K (.ref c6_) (.type "dict") = some false)
    (cxc6_c0_ : PySem.W.subIn K (.ref c6_) (.ref c0_) = some true)
    (cxc6_c5_ : PySem.W.subIn K (.ref c6_) (.ref c5_) = some false)
    (cac8_ : PySem.W.nsIn K mainGlobals "NoWay" = some (some (.ref c8_)))
    (cqc8_ : PySem.W.excIn K c8_ [.type "ValueError", .type "Exception", .type "BaseException", .type "object"] "ValueError.__new__" = true)
    (ckc8_ : PySem.W.keepIn K (.ref c8_) = true)
    (cec8_ : PySem.W.subIn K (.ref c8_) (.type "BaseException") = some true)
    (ctc8_ : PySem.W.typeIn K (.ref c8_) = some (.type "type"))
    (chc8_ : PySem.W.hasDictIn K c8_ = true)
    (cgc8_ : PySem.W.findIn K (.ref c8_) "__getattribute__" = some (some (.builtin "BaseException.__getattribute__")))
    (crc8_ : PySem.W.findIn K (.ref c8_) "__getattr__" = some none)
    (ccc8_ : PySem.W.findIn K (.ref c8_) "__class__" = some (some (.builtin "object.__class__")))
    (cmc8_ : PySem.W.mroIn K c8_ (.type "object") = some true)
    (csc8_int : PySem.W.subIn K (.ref c8_) (.type "int") = some false)
    (csc8_bool : PySem.W.subIn K (.ref c8_) (.type "bool") = some false)
    (csc8_str : PySem.W.subIn K (.ref c8_) (.type "str") = some false)
    (csc8_list : PySem.W.subIn K (.ref c8_) (.type "list") = some false)
    (csc8_tuple : PySem.W.subIn K (.ref c8_) (.type "tuple") = some false)
    (csc8_dict : PySem.W.subIn K (.ref c8_) (.type "dict") = some false)
    (cxc8_c0_ : PySem.W.subIn K (.ref c8_) (.ref c0_) = some true)
    (cxc8_c5_ : PySem.W.subIn K (.ref c8_) (.ref c5_) = some false)
    (cac7_ : PySem.W.nsIn K mainGlobals "WrongNumber" = some (some (.ref c7_)))
    (ckc7_ : PySem.W.keepIn K (.ref c7_) = true)
    (cec7_ : PySem.W.subIn K (.ref c7_) (.type "BaseException") = some true)
    (ctc7_ : PySem.W.typeIn K (.ref c7_) = some (.type "type"))
    (chc7_ : PySem.W.hasDictIn K c7_ = true)
    (cgc7_ : PySem.W.findIn K (.ref c7_) "__getattribute__" = some (some (.builtin "BaseException.__getattribute__")))
    (crc7_ : PySem.W.findIn K (.ref c7_) "__getattr__" = some none)
    (ccc7_ : PySem.W.findIn K (.ref c7_) "__class__" = some (some (.builtin "object.__class__")))
    (cmc7_ : PySem.W.mroIn K c7_ (.type "object") = some true)
    (csc7_int : PySem.W.subIn K (.ref c7_) (.type "int") = some false)
    (csc7_bool : PySem.W.subIn K (.ref c7_) (.type "bool") = some false)
    (csc7_str : PySem.W.subIn K (.ref c7_) (.type "str") = some false)
    (csc7_list : PySem.W.subIn K (.ref c7_) (.type "list") = some false)
    (csc7_tuple : PySem.W.subIn K (.ref c7_) (.type "tuple") = some false)
    (csc7_dict : PySem.W.subIn K (.ref c7_) (.type "dict") = some false)
    (cxc7_c0_ : PySem.W.subIn K (.ref c7_) (.ref c0_) = some true)
    (cxc7_c5_ : PySem.W.subIn K (.ref c7_) (.ref c5_) = some false)
    : ∃ fd : FuncData, (∀ (s : Shared) (v : Value), BindsTo s fd ⟨[v], []⟩ [("_law_script", v)]) ∧ ∀ base : Heap, K.In base → base.Ns mainGlobals mg → FnG l.prog w K mg base 7 fa fd ["_law_script"] (spD K mg [false] sp_law) := by
  letI : Kls := ⟨fun n => match n with | 0 => kc0 | _ => kc0⟩
  have e := hfa.symm.trans (PySem.W.mg_of X G a39)
  cases e
  have ggc0_ := PySem.W.mg_of X G cac0_
  have xcc0_ : ExcC K c0_ := excC_of cgc0_ crc0_ cec0_ chc0_ ccc0_ cmc0_ sn0 tk0
  have xvc0_ : ExcV K c0_ := excV_of xcc0_ csc0_int csc0_bool csc0_str csc0_list csc0_tuple csc0_dict
  have ggc2_ := PySem.W.mg_of X G cac2_
  have xcc2_ : ExcC K c2_ := excC_of cgc2_ crc2_ cec2_ chc2_ ccc2_ cmc2_ sn0 tk0
  have xvc2_ : ExcV K c2_ := excV_of xcc2_ csc2_int csc2_bool csc2_str csc2_list csc2_tuple csc2_dict
  have ggc3_ := PySem.W.mg_of X G cac3_
  have xcc3_ : ExcC K c3_ := excC_of cgc3_ crc3_ cec3_ chc3_ ccc3_ cmc3_ sn0 tk0
  have xvc3_ : ExcV K c3_ := excV_of xcc3_ csc3_int csc3_bool csc3_str csc3_list csc3_tuple csc3_dict
  have ggc5_ := PySem.W.mg_of X G cac5_
  have xcc5_ : ExcC K c5_ := excC_of cgc5_ crc5_ cec5_ chc5_ ccc5_ cmc5_ sn0 tk0
  have xvc5_ : ExcV K c5_ := excV_of xcc5_ csc5_int csc5_bool csc5_str csc5_list csc5_tuple csc5_dict
  have ggc6_ := PySem.W.mg_of X G cac6_
  have xcc6_ : ExcC K c6_ := excC_of cgc6_ crc6_ cec6_ chc6_ ccc6_ cmc6_ sn0 tk0
  have xvc6_ : ExcV K c6_ := excV_of xcc6_ csc6_int csc6_bool csc6_str csc6_list csc6_tuple csc6_dict
  have ggc8_ := PySem.W.mg_of X G cac8_
  have xcc8_ : ExcC K c8_ := excC_of cgc8_ crc8_ cec8_ chc8_ ccc8_ cmc8_ sn0 tk0
  have xvc8_ : ExcV K c8_ := excV_of xcc8_ csc8_int csc8_bool csc8_str csc8_list csc8_tuple csc8_dict
  have ggc7_ := PySem.W.mg_of X G cac7_
  have xcc7_ : ExcC K c7_ := excC_of cgc7_ crc7_ cec7_ chc7_ ccc7_ cmc7_ sn0 tk0
  have xvc7_ : ExcV K c7_ := excV_of xcc7_ csc7_int csc7_bool csc7_str csc7_list csc7_tuple csc7_dict
  have ckA : ∀ (P : Nat → Value → Prop), P 0 (.ref c0_) → P 2 (.ref c2_) → P 3 (.ref c3_) → P 5 (.ref c5_) → P 6 (.ref c6_) → P 8 (.ref c8_) → P 7 (.ref c7_) → (∀ n, 20 ≤ n → P n (.ref c0_)) → ∀ n cv, mg (ckN n) = some cv → P n cv := by
    intro P p0 p2 p3 p5 p6 p8 p7 pb n cv e
    match n, e with
    | 0, e => have e' : mg "PollError" = some cv := e; rw [ggc0_] at e'; cases e'; exact p0
    | 1, e => have e' : mg "NoNumber" = some cv := e; rw [PySem.W.mg_none_of X G zc1] at e'; cases e'
    | 2, e => have e' : mg "NoBallot" = some cv := e; rw [ggc2_] at e'; cases e'; exact p2
    | 3, e => have e' : mg "NoSheet" = some cv := e; rw [ggc3_] at e'; cases e'; exact p3
    | 4, e => have e' : mg "NoChange" = some cv := e; rw [PySem.W.mg_none_of X G zc4] at e'; cases e'
    | 5, e => have e' : mg "Torn" = some cv := e; rw [ggc5_] at e'; cases e'; exact p5
    | 6, e => have e' : mg "NoBundle" = some cv := e; rw [ggc6_] at e'; cases e'; exact p6
    | 7, e => have e' : mg "WrongNumber" = some cv := e; rw [ggc7_] at e'; cases e'; exact p7
    | 8, e => have e' : mg "NoWay" = some cv := e; rw [ggc8_] at e'; cases e'; exact p8
    | 9, e => have e' : mg "NoRoll" = some cv := e; rw [PySem.W.mg_none_of X G zc9] at e'; cases e'
    | 10, e => have e' : mg "NoTelling" = some cv := e; rw [PySem.W.mg_none_of X G zc10] at e'; cases e'
    | 11, e => have e' : mg "NoEnvelope" = some cv := e; rw [PySem.W.mg_none_of X G zc11] at e'; cases e'
    | 12, e => have e' : mg "NoLand" = some cv := e; rw [PySem.W.mg_none_of X G zc12] at e'; cases e'
    | 13, e => have e' : mg "TooMany" = some cv := e; rw [PySem.W.mg_none_of X G zc13] at e'; cases e'
    | 14, e => have e' : mg "NoPoll" = some cv := e; rw [PySem.W.mg_none_of X G zc14] at e'; cases e'
    | 15, e => have e' : mg "NoDeed" = some cv := e; rw [PySem.W.mg_none_of X G zc15] at e'; cases e'
    | 16, e => have e' : mg "Ended" = some cv := e; rw [PySem.W.mg_none_of X G zc16] at e'; cases e'
    | 17, e => have e' : mg "Nothing" = some cv := e; rw [PySem.W.mg_none_of X G zc17] at e'; cases e'
    | 18, e => have e' : mg "NoText" = some cv := e; rw [PySem.W.mg_none_of X G zc18] at e'; cases e'
    | 19, e => have e' : mg "NoRow" = some cv := e; rw [PySem.W.mg_none_of X G zc19] at e'; cases e'
    | n + 20, e => have e' : mg "PollError" = some cv := e; rw [ggc0_] at e'; cases e'; exact pb _ (by omega)
  exact ⟨_, fun s v => .of_eq rfl, fun base _ _ => ok_law (T := { a_holds := _, d_holds := _, F_holds := (fun_mk (st := s_holds) l0 c0 k0), b_holds := ((fun_mk (st := s_holds) l0 c0 k0).binds (ps := ["mask", "hand"]) fun _ _ _ _ _ _ us hl => match us, hl with | [_, _], _ => rfl), g_holds := PySem.W.mg_of X G a0, a_with_one := _, d_with_one := _, F_with_one := (fun_mk (st := s_with_one) l1 c1 k1), b_with_one := ((fun_mk (st := s_with_one) l1 c1 k1).binds (ps := ["mask", "hand"]) fun _ _ _ _ _ _ us hl => match us, hl with | [_, _], _ => rfl), g_with_one := PySem.W.mg_of X G a1, a_is_whole := _, d_is_whole := _, F_is_whole := (fun_mk (st := s_is_whole) l2 c2 k2), b_is_whole := ((fun_mk (st := s_is_whole) l2 c2 k2).binds (ps := ["thing"]) fun _ _ _ _ _ _ us hl => match us, hl with | [_], _ => rfl), g_is_whole := PySem.W.mg_of X G a2, a_slip_of := _, d_slip_of := _, F_slip_of := (fun_mk (st := s_slip_of) l3 c3 k3), b_slip_of := ((fun_mk (st := s_slip_of) l3 c3 k3).binds (ps := ["ranks", "hands"]) fun _ _ _ _ _ _ us hl => match us, hl with | [_, _], _ => rfl), g_slip_of := PySem.W.mg_of X G a3, a_ranks_of := _, d_ranks_of := _, F_ranks_of := (fun_mk (st := s_ranks_of) l4 c4 k4), b_ranks_of := ((fun_mk (st := s_ranks_of) l4 c4 k4).binds (ps := ["slip", "hands"]) fun _ _ _ _ _ _ us hl => match us, hl with | [_, _], _ => rfl), g_ranks_of := PySem.W.mg_of X G a4, a_code_of := _, d_code_of := _, F_code_of := (fun_mk (st := s_code_of) l5 c5 k5), b_code_of := ((fun_mk (st := s_code_of) l5 c5 k5).binds (ps := ["line", "hands"]) fun _ _ _ _ _ _ us hl => match us, hl with | [_, _], _ => rfl), g_code_of := PySem.W.mg_of X G a5, a_line_of := _, d_line_of := _, F_line_of := (fun_mk (st := s_line_of) l6 c6 k6), b_line_of := ((fun_mk (st := s_line_of) l6 c6 k6).binds (ps := ["code", "hands"]) fun _ _ _ _ _ _ us hl => match us, hl with | [_, _], _ => rfl), g_line_of := PySem.W.mg_of X G a6, a_seal_of := _, d_seal_of := _, F_seal_of := (fun_mk (st := s_seal_of) l7 c7 k7), b_seal_of := ((fun_mk (st := s_seal_of) l7 c7 k7).binds (ps := ["codes"]) fun _ _ _ _ _ _ us hl => match us, hl with | [_], _ => rfl), g_seal_of := PySem.W.mg_of X G a7, a_mended := _, d_mended := _, F_mended := (fun_mk (st := s_mended) l8 c8 k8), b_mended := ((fun_mk (st := s_mended) l8 c8 k8).binds (ps := ["codes", "seal"]) fun _ _ _ _ _ _ us hl => match us, hl with | [_, _], _ => rfl), g_mended := PySem.W.mg_of X G a8, a_put_together := _, d_put_together := _, F_put_together := (fun_mk (st := s_put_together) l9 c9 k9), b_put_together := ((fun_mk (st := s_put_together) l9 c9 k9).binds (ps := ["lines"]) fun _ _ _ _ _ _ us hl => match us, hl with | [_], _ => rfl), g_put_together := PySem.W.mg_of X G a9, a_sheet_of := _, d_sheet_of := _, F_sheet_of := (fun_mk (st := s_sheet_of) l10 c10 k10), b_sheet_of := ((fun_mk (st := s_sheet_of) l10 c10 k10).binds (ps := ["lines"]) fun _ _ _ _ _ _ us hl => match us, hl with | [_], _ => rfl), g_sheet_of := PySem.W.mg_of X G a10, a_joined := _, d_joined := _, F_joined := (fun_mk (st := s_joined) l11 c11 k11), b_joined := ((fun_mk (st := s_joined) l11 c11 k11).binds (ps := ["sheets"]) fun _ _ _ _ _ _ us hl => match us, hl with | [_], _ => rfl), g_joined := PySem.W.mg_of X G a11, a_ballots_in := _, d_ballots_in := _, F_ballots_in := (fun_mk (st := s_ballots_in) l12 c12 k12), b_ballots_in := ((fun_mk (st := s_ballots_in) l12 c12 k12).binds (ps := ["sheet"]) fun _ _ _ _ _ _ us hl => match us, hl with | [_], _ => rfl), g_ballots_in := PySem.W.mg_of X G a12, a_number_of := _, d_number_of := _, F_number_of := (fun_mk (st := s_number_of) l13 c13 k13), b_number_of := ((fun_mk (st := s_number_of) l13 c13 k13).binds (ps := ["sheet", "slip"]) fun _ _ _ _ _ _ us hl => match us, hl with | [_, _], _ => rfl), g_number_of := PySem.W.mg_of X G a13, a_apart := _, d_apart := _, F_apart := (fun_mk (st := s_apart) l14 c14 k14), b_apart := ((fun_mk (st := s_apart) l14 c14 k14).binds (ps := ["one", "other"]) fun _ _ _ _ _ _ us hl => match us, hl with | [_, _], _ => rfl), g_apart := PySem.W.mg_of X G a14, a_Box_init := _, d_Box_init := _, F_Box_init := (fun_mk (st := s_Box_init) l15 c15 k15), b_Box_init := ((fun_mk (st := s_Box_init) l15 c15 k15).binds (ps := ["self", "hands"]) fun _ _ _ _ _ _ us hl => match us, hl with | [_, _], _ => rfl), mk_Box := ⟨mk0, a15_0, i15, kk0⟩, a_Box_many := _, d_Box_many := _, F_Box_many := (fun_mk (st := s_Box_many) l16 c16 k16), b_Box_many := ((fun_mk (st := s_Box_many) l16 c16 k16).binds (ps := ["self"]) fun _ _ _ _ _ _ us hl => match us, hl with | [_], _ => rfl), m_Box_Box_many := ⟨a16_0, i16, k16⟩, a_Box_lying := _, d_Box_lying := _, F_Box_lying := (fun_mk (st := s_Box_lying) l17 c17 k17), b_Box_lying := ((fun_mk (st := s_Box_lying) l17 c17 k17).binds (ps := ["self", "k"]) fun _ _ _ _ _ _ us hl => match us, hl with | [_, _], _ => rfl), m_Box_Box_lying := ⟨a17_0, i17, k17⟩, a_Box_take := _, d_Box_take := _, F_Box_take := (fun_mk (st := s_Box_take) l18 c18 k18), b_Box_take := ((fun_mk (st := s_Box_take) l18 c18 k18).binds (ps := ["self", "codes", "seal"]) fun _ _ _ _ _ _ us hl => match us, hl with | [_, _, _], _ => rfl), m_Box_Box_take := ⟨a18_0, i18, k18⟩, a_Box_lines_at := _, d_Box_lines_at := _, F_Box_lines_at := (fun_mk (st := s_Box_lines_at) l19 c19 k19), b_Box_lines_at := ((fun_mk (st := s_Box_lines_at) l19 c19 k19).binds (ps := ["self", "k"]) fun _ _ _ _ _ _ us hl => match us, hl with | [_, _], _ => rfl), m_Box_Box_lines_at := ⟨a19_0, i19, k19⟩, a_Box_sheet_at := _, d_Box_sheet_at := _, F_Box_sheet_at := (fun_mk (st := s_Box_sheet_at) l20 c20 k20), b_Box_sheet_at := ((fun_mk (st := s_Box_sheet_at) l20 c20 k20).binds (ps := ["self", "k"]) fun _ _ _ _ _ _ us hl => match us, hl with | [_, _], _ => rfl), m_Box_Box_sheet_at := ⟨a20_0, i20, k20⟩, a_Box_seal_at := _, d_Box_seal_at := _, F_Box_seal_at := (fun_mk (st := s_Box_seal_at) l21 c21 k21), b_Box_seal_at := ((fun_mk (st := s_Box_seal_at) l21 c21 k21).binds (ps := ["self", "k"]) fun _ _ _ _ _ _ us hl => match us, hl with | [_, _], _ => rfl), m_Box_Box_seal_at := ⟨a21_0, i21, k21⟩, a_Box_sheet := _, d_Box_sheet := _, F_Box_sheet := (fun_mk (st := s_Box_sheet) l22 c22 k22), b_Box_sheet := ((fun_mk (st := s_Box_sheet) l22 c22 k22).binds (ps := ["self"]) fun _ _ _ _ _ _ us hl => match us, hl with | [_], _ => rfl), m_Box_Box_sheet := ⟨a22_0, i22, k22⟩, a_Box_put_right := _, d_Box_put_right := _, F_Box_put_right := (fun_mk (st := s_Box_put_right) l23 c23 k23), b_Box_put_right := ((fun_mk (st := s_Box_put_right) l23 c23 k23).binds (ps := ["self", "k", "lines"]) fun _ _ _ _ _ _ us hl => match us, hl with | [_, _, _], _ => rfl), m_Box_Box_put_right := ⟨a23_0, i23, k23⟩, a__law_bag := _, d__law_bag := _, F__law_bag := (fun_mk (st := s__law_bag) l24 c24 k24), b__law_bag := ((fun_mk (st := s__law_bag) l24 c24 k24).binds (ps := ["_law_script"]) fun _ _ _ _ _ _ us hl => match us, hl with | [_], _ => rfl), g__law_bag := PySem.W.mg_of X G a24, a__law_take := _, d__law_take := _, F__law_take := (fun_mk (st := s__law_take) l25 c25 k25), b__law_take := ((fun_mk (st := s__law_take) l25 c25 k25).binds (ps := ["_law_bag_here", "_law_many"]) fun _ _ _ _ _ _ us hl => match us, hl with | [_, _], _ => rfl), g__law_take := PySem.W.mg_of X G a25, a__law_alike := _, d__law_alike := _, F__law_alike := (fun_mk (st := s__law_alike) l26 c26 k26), b__law_alike := ((fun_mk (st := s__law_alike) l26 c26 k26).binds (ps := ["_law_found", "_law_due"]) fun _ _ _ _ _ _ us hl => match us, hl with | [_, _], _ => rfl), g__law_alike := PySem.W.mg_of X G a26, a__law_one := _, d__law_one := _, F__law_one := (fun_mk (st := s__law_one) l27 c27 k27), b__law_one := ((fun_mk (st := s__law_one) l27 c27 k27).binds (ps := ["_law_bag_here", "_law_some"]) fun _ _ _ _ _ _ us hl => match us, hl with | [_, _], _ => rfl), g__law_one := PySem.W.mg_of X G a27, a__law_mixed := _, d__law_mixed := _, F__law_mixed := (fun_mk (st := s__law_mixed) l28 c28 k28), b__law_mixed := ((fun_mk (st := s__law_mixed) l28 c28 k28).binds (ps := ["_law_bag_here", "_law_things"]) fun _ _ _ _ _ _ us hl => match us, hl with | [_, _], _ => rfl), g__law_mixed := PySem.W.mg_of X G a28, a__law_ranks := _, d__law_ranks := _, F__law_ranks := (fun_mk (st := s__law_ranks) l29 c29 k29), b__law_ranks := ((fun_mk (st := s__law_ranks) l29 c29 k29).binds (ps := ["_law_bag_here", "_law_hands"]) fun _ _ _ _ _ _ us hl => match us, hl with | [_, _], _ => rfl), g__law_ranks := PySem.W.mg_of X G a29, a__law_tiers := _, d__law_tiers := _, F__law_tiers := (fun_mk (st := s__law_tiers) l30 c30 k30), b__law_tiers := ((fun_mk (st := s__law_tiers) l30 c30 k30).binds (ps := ["_law_ranks_here"]) fun _ _ _ _ _ _ us hl => match us, hl with | [_], _ => rfl), g__law_tiers := PySem.W.mg_of X G a30, a__law_bit := _, d__law_bit := _, F__law_bit := (fun_mk (st := s__law_bit) l31 c31 k31), b__law_bit := ((fun_mk (st := s__law_bit) l31 c31 k31).binds (ps := ["_law_hand"]) fun _ _ _ _ _ _ us hl => match us, hl with | [_], _ => rfl), g__law_bit := PySem.W.mg_of X G a31, a__law_slip := _, d__law_slip := _, F__law_slip := (fun_mk (st := s__law_slip) l32 c32 k32), b__law_slip := ((fun_mk (st := s__law_slip) l32 c32 k32).binds (ps := ["_law_bag_here", "_law_hands"]) fun _ _ _ _ _ _ us hl => match us, hl with | [_, _], _ => rfl), g__law_slip := PySem.W.mg_of X G a32, a__law_ballots := _, d__law_ballots := _, F__law_ballots := (fun_mk (st := s__law_ballots) l33 c33 k33), b__law_ballots := ((fun_mk (st := s__law_ballots) l33 c33 k33).binds (ps := ["_law_bag_here", "_law_most"]) fun _ _ _ _ _ _ us hl => match us, hl with | [_, _], _ => rfl), g__law_ballots := PySem.W.mg_of X G a33, a__law_lines := _, d__law_lines := _, F__law_lines := (fun_mk (st := s__law_lines) l34 c34 k34), b__law_lines := ((fun_mk (st := s__law_lines) l34 c34 k34).binds (ps := ["_law_bag_here", "_law_hands", "_law_many"]) fun _ _ _ _ _ _ us hl => match us, hl with | [_, _, _], _ => rfl), g__law_lines := PySem.W.mg_of X G a34, a__law_altered := _, d__law_altered := _, F__law_altered := (fun_mk (st := s__law_altered) l35 c35 k35), b__law_altered := ((fun_mk (st := s__law_altered) l35 c35 k35).binds (ps := ["_law_bag_here", "_law_codes"]) fun _ _ _ _ _ _ us hl => match us, hl with | [_, _], _ => rfl), g__law_altered := PySem.W.mg_of X G a35, a__law_is_torn := _, d__law_is_torn := _, F__law_is_torn := (fun_mk (st := s__law_is_torn) l36 c36 k36), b__law_is_torn := ((fun_mk (st := s__law_is_torn) l36 c36 k36).binds (ps := ["_law_box", "_law_codes", "_law_seal"]) fun _ _ _ _ _ _ us hl => match us, hl with | [_, _, _], _ => rfl), g__law_is_torn := PySem.W.mg_of X G a36, a__law_taken_right := _, d__law_taken_right := _, F__law_taken_right := (fun_mk (st := s__law_taken_right) l37 c37 k37), b__law_taken_right := ((fun_mk (st := s__law_taken_right) l37 c37 k37).binds (ps := ["_law_bag_here", "_law_boxes", "_law_bundles", "_law_hands"]) fun _ _ _ _ _ _ us hl => match us, hl with | [_, _, _, _], _ => rfl), g__law_taken_right := PySem.W.mg_of X G a37, a__law_recounts_right := _, d__law_recounts_right := _, F__law_recounts_right := (fun_mk (st := s__law_recounts_right) l38 c38 k38), b__law_recounts_right := ((fun_mk (st := s__law_recounts_right) l38 c38 k38).binds (ps := ["_law_bag_here", "_law_box", "_law_hands"]) fun _ _ _ _ _ _ us hl => match us, hl with | [_, _, _], _ => rfl), g__law_recounts_right := PySem.W.mg_of X G a38, a_law := _, d_law := _, F_law := (fun_mk (st := s_law) l39 c39 k39), b_law := ((fun_mk (st := s_law) l39 c39 k39).binds (ps := ["_law_script"]) fun _ _ _ _ _ _ us hl => match us, hl with | [_], _ => rfl), g_law := PySem.W.mg_of X G a39, cl_Box := ⟨pg0, hd0, po0, sa0⟩, gC_Box := PySem.W.mg_of X G aC0, na_Box_hands := nA0_0, na_Box_bundles := nA0_1, n_abs := PySem.W.mg_none_of X G z_abs, n_bool := PySem.W.mg_none_of X G z_bool, n_divmod := PySem.W.mg_none_of X G z_divmod, n_enumerate := PySem.W.mg_none_of X G z_enumerate, n_int := PySem.W.mg_none_of X G z_int, n_isinstance := PySem.W.mg_none_of X G z_isinstance, n_len := PySem.W.mg_none_of X G z_len, n_list := PySem.W.mg_none_of X G z_list, n_max := PySem.W.mg_none_of X G z_max, n_range := PySem.W.mg_none_of X G z_range, n_repr := PySem.W.mg_none_of X G z_repr, n_set := PySem.W.mg_none_of X G z_set, n_sorted := PySem.W.mg_none_of X G z_sorted, n_sum := PySem.W.mg_none_of X G z_sum, n_tuple := PySem.W.mg_none_of X G z_tuple, G_MOST_ballots := GK.leaf (.int 1000000000) (PySem.W.mg_of X G y_MOST_ballots) ⟨_, rfl⟩, G_BASE := GK.leaf (.int 13) (PySem.W.mg_of X G y_BASE) ⟨_, rfl⟩, G_MOST_codes := GK.leaf (.int 1000000000) (PySem.W.mg_of X G y_MOST_codes) ⟨_, rfl⟩, G_MOST_sheets := GK.leaf (.int 1000000000) (PySem.W.mg_of X G y_MOST_sheets) ⟨_, rfl⟩, G_MOST_HANDS := GK.leaf (.int 12) (PySem.W.mg_of X G y_MOST_HANDS) ⟨_, rfl⟩, c_PollError := _, g_PollError := ggc0_, k_PollError := ckc0_, q_PollError := cqc0_, b_PollError := cec0_, t_PollError := ctc0_, v_PollError := xvc0_, c_NoBallot := _, g_NoBallot := ggc2_, k_NoBallot := ckc2_, q_NoBallot := cqc2_, b_NoBallot := cec2_, t_NoBallot := ctc2_, v_NoBallot := xvc2_, c_NoSheet := _, g_NoSheet := ggc3_, k_NoSheet := ckc3_, q_NoSheet := cqc3_, b_NoSheet := cec3_, t_NoSheet := ctc3_, v_NoSheet := xvc3_, c_Torn := _, g_Torn := ggc5_, k_Torn := ckc5_, q_Torn := cqc5_, b_Torn := cec5_, t_Torn := ctc5_, v_Torn := xvc5_, c_NoBundle := _, g_NoBundle := ggc6_, k_NoBundle := ckc6_, q_NoBundle := cqc6_, b_NoBundle := cec6_, t_NoBundle := ctc6_, v_NoBundle := xvc6_, c_NoWay := _, g_NoWay := ggc8_, k_NoWay := ckc8_, q_NoWay := cqc8_, b_NoWay := cec8_, t_NoWay := ctc8_, v_NoWay := xvc8_, em_PollError := ckA (fun n cv => PySem.W.exmOne K cv (.ref c0_) = some (subN n 0)) (PySem.W.exm_ref cec0_ chc0_ ctc0_ cxc0_c0_) (PySem.W.exm_ref cec0_ chc0_ ctc0_ cxc2_c0_) (PySem.W.exm_ref cec0_ chc0_ ctc0_ cxc3_c0_) (PySem.W.exm_ref cec0_ chc0_ ctc0_ cxc5_c0_) (PySem.W.exm_ref cec0_ chc0_ ctc0_ cxc6_c0_) (PySem.W.exm_ref cec0_ chc0_ ctc0_ cxc8_c0_) (PySem.W.exm_ref cec0_ chc0_ ctc0_ cxc7_c0_) (fun n hn => (PySem.W.exm_ref cec0_ chc0_ ctc0_ cxc0_c0_).trans (by rw [subN_big hn (m := 0) (by decide)]; rfl)), ki_PollError := ckA (fun n cv => PySem.W.kitOne K cv (.ref c0_) = some (subN n 0)) (kit_cls chc0_ ctc0_ cxc0_c0_ cxc0_c0_) (kit_cls chc0_ ctc0_ cxc2_c0_ cxc0_c0_) (kit_cls chc0_ ctc0_ cxc3_c0_ cxc0_c0_) (kit_cls chc0_ ctc0_ cxc5_c0_ cxc0_c0_) (kit_cls chc0_ ctc0_ cxc6_c0_ cxc0_c0_) (kit_cls chc0_ ctc0_ cxc8_c0_ cxc0_c0_) (kit_cls chc0_ ctc0_ cxc7_c0_ cxc0_c0_) (fun n hn => (kit_cls chc0_ ctc0_ cxc0_c0_ cxc0_c0_).trans (by rw [subN_big hn (m := 0) (by decide)]; rfl)), em_Torn := ckA (fun n cv => PySem.W.exmOne K cv (.ref c5_) = some (subN n 5)) (PySem.W.exm_ref cec5_ chc5_ ctc5_ cxc0_c5_) (PySem.W.exm_ref cec5_ chc5_ ctc5_ cxc2_c5_) (PySem.W.exm_ref cec5_ chc5_ ctc5_ cxc3_c5_) (PySem.W.exm_ref cec5_ chc5_ ctc5_ cxc5_c5_) (PySem.W.exm_ref cec5_ chc5_ ctc5_ cxc6_c5_) (PySem.W.exm_ref cec5_ chc5_ ctc5_ cxc8_c5_) (PySem.W.exm_ref cec5_ chc5_ ctc5_ cxc7_c5_) (fun n hn => (PySem.W.exm_ref cec5_ chc5_ ctc5_ cxc0_c5_).trans (by rw [subN_big hn (m := 5) (by decide)]; rfl)), ki_Torn := ckA (fun n cv => PySem.W.kitOne K cv (.ref c5_) = some (subN n 5)) (kit_cls chc5_ ctc5_ cxc0_c5_ cxc5_c5_) (kit_cls chc5_ ctc5_ cxc2_c5_ cxc5_c5_) (kit_cls chc5_ ctc5_ cxc3_c5_ cxc5_c5_) (kit_cls chc5_ ctc5_ cxc5_c5_ cxc5_c5_) (kit_cls chc5_ ctc5_ cxc6_c5_ cxc5_c5_) (kit_cls chc5_ ctc5_ cxc8_c5_ cxc5_c5_) (kit_cls chc5_ ctc5_ cxc7_c5_ cxc5_c5_) (fun n hn => (kit_cls chc5_ ctc5_ cxc0_c5_ cxc5_c5_).trans (by rw [subN_big hn (m := 5) (by decide)]; rfl)), ec := ckA (fun n cv => ∃ D, cv = .ref D ∧ ExcC K D) ⟨_, rfl, xcc0_⟩ ⟨_, rfl, xcc2_⟩ ⟨_, rfl, xcc3_⟩ ⟨_, rfl, xcc5_⟩ ⟨_, rfl, xcc6_⟩ ⟨_, rfl, xcc8_⟩ ⟨_, rfl, xcc7_⟩ (fun n _ => ⟨_, rfl, xcc0_⟩) })⟩
end L06
open PySem PySem.W PyProof.Rows
set_option maxHeartbeats 0 in
theorem PySem.Challenge.cw_wholepoll_k06_whole_seals_and_recounts_holds : PySem.Challenge.rw_wholepoll_k06_whole_seals_and_recounts.Holds := by
  w_on; o_law; k_head; (case hw => w_witness2)
  k_fill
  refine DL.walk_ofG (l := PySem.Challenge.rw_wholepoll_k06_whole_seals_and_recounts) (n := 63) (k := 7) (x := "_law_script") (sp := L06.sp_law) rfl (by decide) rfl ⟨rfl, by decide, by decide⟩ (fun w h Y => PySem.W.kIn_of Y) (@L06.mono_law ⟨fun _ => 0⟩) ?F (fun ns hl => @L06.law_sp ⟨fun _ => 0⟩ ns hl)
  case F =>
    intro w mg fa h KX G hmg
    refine' L06.all_mk KX G hmg ?aC0 ?pg0 ?hd0 ?po0 ?sa0 ?mk0 ?kk0 ?nA0_0 ?nA0_1 ?a0 ?l0 ?c0 ?k0 ?a1 ?l1 ?c1 ?k1 ?a2 ?l2 ?c2 ?k2 ?a3 ?l3 ?c3 ?k3 ?a4 ?l4 ?c4 ?k4 ?a5 ?l5 ?c5 ?k5 ?a6 ?l6 ?c6 ?k6 ?a7 ?l7 ?c7 ?k7 ?a8 ?l8 ?c8 ?k8 ?a9 ?l9 ?c9 ?k9 ?a10 ?l10 ?c10 ?k10 ?a11 ?l11 ?c11 ?k11 ?a12 ?l12 ?c12 ?k12 ?a13 ?l13 ?c13 ?k13 ?a14 ?l14 ?c14 ?k14 ?a15_0 ?i15 ?l15 ?c15 ?k15 ?a16_0 ?i16 ?l16 ?c16 ?k16 ?a17_0 ?i17 ?l17 ?c17 ?k17 ?a18_0 ?i18 ?l18 ?c18 ?k18 ?a19_0 ?i19 ?l19 ?c19 ?k19 ?a20_0 ?i20 ?l20 ?c20 ?k20 ?a21_0 ?i21 ?l21 ?c21 ?k21 ?a22_0 ?i22 ?l22 ?c22 ?k22 ?a23_0 ?i23 ?l23 ?c23 ?k23 ?a24 ?l24 ?c24 ?k24 ?a25 ?l25 ?c25 ?k25 ?a26 ?l26 ?c26 ?k26 ?a27 ?l27 ?c27 ?k27 ?a28 ?l28 ?c28 ?k28 ?a29 ?l29 ?c29 ?k29 ?a30 ?l30 ?c30 ?k30 ?a31 ?l31 ?c31 ?k31 ?a32 ?l32 ?c32 ?k32 ?a33 ?l33 ?c33 ?k33 ?a34 ?l34 ?c34 ?k34 ?a35 ?l35 ?c35 ?k35 ?a36 ?l36 ?c36 ?k36 ?a37 ?l37 ?c37 ?k37 ?a38 ?l38 ?c38 ?k38 ?a39 ?l39 ?c39 ?k39 ?z_abs ?z_bool ?z_divmod ?z_enumerate ?z_int ?z_isinstance ?z_len ?z_list ?z_max ?z_range ?z_repr ?z_set ?z_sorted ?z_sum ?z_tuple ?y_MOST_ballots ?y_BASE ?y_MOST_codes ?y_MOST_sheets ?y_MOST_HANDS ?sn0 ?tk0 ?zc1 ?zc4 ?zc9 ?zc10 ?zc11 ?zc12 ?zc13 ?zc14 ?zc15 ?zc16 ?zc17 ?zc18 ?zc19 ?cac0_ ?cqc0_ ?ckc0_ ?cec0_ ?ctc0_ ?chc0_ ?cgc0_ ?crc0_ ?ccc0_ ?cmc0_ ?csc0_int ?csc0_bool ?csc0_str ?csc0_list ?csc0_tuple ?csc0_dict ?cxc0_c0_ ?cxc0_c5_ ?cac2_ ?cqc2_ ?ckc2_ ?cec2_ ?ctc2_ ?chc2_ ?cgc2_ ?crc2_ ?ccc2_ ?cmc2_ ?csc2_int ?csc2_bool ?csc2_str ?csc2_list ?csc2_tuple ?csc2_dict ?cxc2_c0_ ?cxc2_c5_ ?cac3_ ?cqc3_ ?ckc3_ ?cec3_ ?ctc3_ ?chc3_ ?cgc3_ ?crc3_ ?ccc3_ ?cmc3_ ?csc3_int ?csc3_bool ?csc3_str ?csc3_list ?csc3_tuple ?csc3_dict ?cxc3_c0_ ?cxc3_c5_ ?cac5_ ?cqc5_ ?ckc5_ ?cec5_ ?ctc5_ ?chc5_ ?cgc5_ ?crc5_ ?ccc5_ ?cmc5_ ?csc5_int ?csc5_bool ?csc5_str ?csc5_list ?csc5_tuple ?csc5_dict ?cxc5_c0_ ?cxc5_c5_ ?cac6_ ?cqc6_ ?ckc6_ ?cec6_ ?ctc6_ ?chc6_ ?cgc6_ ?crc6_ ?ccc6_ ?cmc6_ ?csc6_int ?csc6_bool ?csc6_str ?csc6_list ?csc6_tuple ?csc6_dict ?cxc6_c0_ ?cxc6_c5_ ?cac8_ ?cqc8_ ?ckc8_ ?cec8_ ?ctc8_ ?chc8_ ?cgc8_ ?crc8_ ?ccc8_ ?cmc8_ ?csc8_int ?csc8_bool ?csc8_str ?csc8_list ?csc8_tuple ?csc8_dict ?cxc8_c0_ ?cxc8_c5_ ?cac7_ ?ckc7_ ?cec7_ ?ctc7_ ?chc7_ ?cgc7_ ?crc7_ ?ccc7_ ?cmc7_ ?csc7_int ?csc7_bool ?csc7_str ?csc7_list ?csc7_tuple ?csc7_dict ?cxc7_c0_ ?cxc7_c5_
    (case aC0 => k_is); (case a15_0 => k_is); (case a16_0 => k_is); (case a17_0 => k_is); (case a18_0 => k_is); (case a19_0 => k_is); (case a20_0 => k_is); (case a21_0 => k_is); (case a22_0 => k_is); (case a23_0 => k_is); (case cac0_ => k_is); (case cac2_ => k_is); (case cac3_ => k_is); (case cac5_ => k_is); (case cac6_ => k_is); (case cac8_ => k_is); (case cac7_ => k_is); (case pg0 => k_is); (case hd0 => k_is); (case po0 => k_is); (case sa0 => k_is); (case mk0 => k_is); (case kk0 => k_is); (case nA0_0 => k_is); (case nA0_1 => k_is); (case a0 => k_is); (case l0 => k_is); (case c0 => k_is); (case k0 => k_is); (case a1 => k_is); (case l1 => k_is); (case c1 => k_is); (case k1 => k_is); (case a2 => k_is); (case l2 => k_is); (case c2 => k_is); (case k2 => k_is); (case a3 => k_is); (case l3 => k_is); (case c3 => k_is); (case k3 => k_is); (case a4 => k_is); (case l4 => k_is); (case c4 => k_is); (case k4 => k_is); (case a5 => k_is); (case l5 => k_is); (case c5 => k_is); (case k5 => k_is); (case a6 => k_is); (case l6 => k_is); (case c6 => k_is); (case k6 => k_is); (case a7 => k_is); (case l7 => k_is); (case c7 => k_is); (case k7 => k_is); (case a8 => k_is); (case l8 => k_is); (case c8 => k_is); (case k8 => k_is); (case a9 => k_is); (case l9 => k_is); (case c9 => k_is); (case k9 => k_is); (case a10 => k_is); (case l10 => k_is); (case c10 => k_is); (case k10 => k_is); (case a11 => k_is); (case l11 => k_is); (case c11 => k_is); (case k11 => k_is); (case a12 => k_is); (case l12 => k_is); (case c12 => k_is); (case k12 => k_is); (case a13 => k_is); (case l13 => k_is); (case c13 => k_is); (case k13 => k_is); (case a14 => k_is); (case l14 => k_is); (case c14 => k_is); (case k14 => k_is); (case i15 => k_is); (case l15 => k_is); (case c15 => k_is); (case k15 => k_is); (case i16 => k_is); (case l16 => k_is); (case c16 => k_is); (case k16 => k_is); (case i17 => k_is); (case l17 => k_is); (case c17 => k_is); (case k17 => k_is); (case i18 => k_is); (case l18 => k_is); (case c18 => k_is); (case k18 => k_is); (case i19 => k_is); (case l19 => k_is); (case c19 => k_is); (case k19 => k_is); (case i20 => k_is); (case l20 => k_is); (case c20 => k_is); (case k20 => k_is); (case i21 => k_is); (case l21 => k_is); (case c21 => k_is); (case k21 => k_is); (case i22 => k_is); (case l22 => k_is); (case c22 => k_is); (case k22 => k_is); (case i23 => k_is); (case l23 => k_is); (case c23 => k_is); (case k23 => k_is); (case a24 => k_is); (case l24 => k_is); (case c24 => k_is); (case k24 => k_is); (case a25 => k_is); (case l25 => k_is); (case c25 => k_is); (case k25 => k_is); (case a26 => k_is); (case l26 => k_is); (case c26 => k_is); (case k26 => k_is); (case a27 => k_is); (case l27 => k_is); (case c27 => k_is); (case k27 => k_is); (case a28 => k_is); (case l28 => k_is); (case c28 => k_is); (case k28 => k_is); (case a29 => k_is); (case l29 => k_is); (case c29 => k_is); (case k29 => k_is); (case a30 => k_is); (case l30 => k_is); (case c30 => k_is); (case k30 => k_is); (case a31 => k_is); (case l31 => k_is); (case c31 => k_is); (case k31 => k_is); (case a32 => k_is); (case l32 => k_is); (case c32 => k_is); (case k32 => k_is); (case a33 => k_is); (case l33 => k_is); (case c33 => k_is); (case k33 => k_is); (case a34 => k_is); (case l34 => k_is); (case c34 => k_is); (case k34 => k_is); (case a35 => k_is); (case l35 => k_is); (case c35 => k_is); (case k35 => k_is); (case a36 => k_is); (case l36 => k_is); (case c36 => k_is); (case k36 => k_is); (case a37 => k_is); (case l37 => k_is); (case c37 => k_is); (case k37 => k_is); (case a38 => k_is); (case l38 => k_is); (case c38 => k_is); (case k38 => k_is); (case a39 => k_is); (case l39 => k_is); (case c39 => k_is); (case k39 => k_is); (case z_abs => k_is); (case z_bool => k_is); (case z_divmod => k_is); (case z_enumerate => k_is); (case z_int => k_is); (case z_isinstance => k_is); (case z_len => k_is); (case z_list => k_is); (case z_max => k_is); (case z_range => k_is); (case z_repr => k_is); (case z_set => k_is); (case z_sorted => k_is); (case z_sum => k_is); (case z_tuple => k_is); (case y_MOST_ballots => k_is); (case y_BASE => k_is); (case y_MOST_codes => k_is); (case y_MOST_sheets => k_is); (case y_MOST_HANDS => k_is); (case sn0 => k_is); (case tk0 => k_is); (case zc1 => k_is); (case zc4 => k_is); (case zc9 => k_is); (case zc10 => k_is); (case zc11 => k_is); (case zc12 => k_is); (case zc13 => k_is); (case zc14 => k_is); (case zc15 => k_is); (case zc16 => k_is); (case zc17 => k_is); (case zc18 => k_is); (case zc19 => k_is); (case cqc0_ => k_exc); (case ckc0_ => k_is); (case cec0_ => k_is); (case ctc0_ => k_is); (case chc0_ => k_is); (case cgc0_ => k_is); (case crc0_ => k_is); (case ccc0_ => k_is); (case cmc0_ => k_is); (case csc0_int => k_is); (case csc0_bool => k_is); (case csc0_str => k_is); (case csc0_list => k_is); (case csc0_tuple => k_is); (case csc0_dict => k_is); (case cxc0_c0_ => k_is); (case cxc0_c5_ => k_is); (case cqc2_ => k_exc); (case ckc2_ => k_is); (case cec2_ => k_is); (case ctc2_ => k_is); (case chc2_ => k_is); (case cgc2_ => k_is); (case crc2_ => k_is); (case ccc2_ => k_is); (case cmc2_ => k_is); (case csc2_int => k_is); (case csc2_bool => k_is); (case csc2_str => k_is); (case csc2_list => k_is); (case csc2_tuple => k_is); (case csc2_dict => k_is); (case cxc2_c0_ => k_is); (case cxc2_c5_ => k_is); (case cqc3_ => k_exc); (case ckc3_ => k_is); (case cec3_ => k_is); (case ctc3_ => k_is); (case chc3_ => k_is); (case cgc3_ => k_is); (case crc3_ => k_is); (case ccc3_ => k_is); (case cmc3_ => k_is); (case csc3_int => k_is); (case csc3_bool => k_is); (case csc3_str => k_is); (case csc3_list => k_is); (case csc3_tuple => k_is); (case csc3_dict => k_is); (case cxc3_c0_ => k_is); (case cxc3_c5_ => k_is); (case cqc5_ => k_exc); (case ckc5_ => k_is); (case cec5_ => k_is); (case ctc5_ => k_is); (case chc5_ => k_is); (case cgc5_ => k_is); (case crc5_ => k_is); (case ccc5_ => k_is); (case cmc5_ => k_is); (case csc5_int => k_is); (case csc5_bool => k_is); (case csc5_str => k_is); (case csc5_list => k_is); (case csc5_tuple => k_is); (case csc5_dict => k_is); (case cxc5_c0_ => k_is); (case cxc5_c5_ => k_is); (case cqc6_ => k_exc); (case ckc6_ => k_is); (case cec6_ => k_is); (case ctc6_ => k_is); (case chc6_ => k_is); (case cgc6_ => k_is); (case crc6_ => k_is); (case ccc6_ => k_is); (case cmc6_ => k_is); (case csc6_int => k_is); (case csc6_bool => k_is); (case csc6_str => k_is); (case csc6_list => k_is); (case csc6_tuple => k_is); (case csc6_dict => k_is); (case cxc6_c0_ => k_is); (case cxc6_c5_ => k_is); (case cqc8_ => k_exc); (case ckc8_ => k_is); (case cec8_ => k_is); (case ctc8_ => k_is); (case chc8_ => k_is); (case cgc8_ => k_is); (case crc8_ => k_is); (case ccc8_ => k_is); (case cmc8_ => k_is); (case csc8_int => k_is); (case csc8_bool => k_is); (case csc8_str => k_is); (case csc8_list => k_is); (case csc8_tuple => k_is); (case csc8_dict => k_is); (case cxc8_c0_ => k_is); (case cxc8_c5_ => k_is); (case ckc7_ => k_is); (case cec7_ => k_is); (case ctc7_ => k_is); (case chc7_ => k_is); (case cgc7_ => k_is); (case crc7_ => k_is); (case ccc7_ => k_is); (case cmc7_ => k_is); (case csc7_int => k_is); (case csc7_bool => k_is); (case csc7_str => k_is); (case csc7_list => k_is); (case csc7_tuple => k_is); (case csc7_dict => k_is); (case cxc7_c0_ => k_is); (case cxc7_c5_ => k_is)
